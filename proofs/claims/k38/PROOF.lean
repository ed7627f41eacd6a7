import PyProof.Rows.All
import Wide.All
import OpenK.AllK
import Wide.FinOn
import KE.KStateDown
import Lean
import HandS.ForMost
import HandS.Exc
import HandS.More
import HandS.Defaults
import HandS.Property
import HandS.Codes
import HandS.Zip
import HandS.Conv
import HandS.Deep
import HandS.IsInst
import HandS.Wide
import HandS.Strs
import HandS.Evl
import HandS.SortInts
import HandS.RaiseMore
import HandS.Head0
import HandS.Head1
import HandS.Head2
import HandS.HeadEnd
import HandS.HeadHook1
import HandS.HeadHook2
import PySem.Challenge.RW_drawnorders_k38_whole_chain_covers
set_option Elab.async false
set_option linter.all false
set_option maxRecDepth 100000
set_option maxHeartbeats 4000000
namespace Dr
open PySem PySem.Spec PyProof.Rows L2
/-! ### the text by places -/
def top (i : Nat) : Stmt := PySem.Challenge.pw_drawnorders_k38_whole_chain_covers.main.body.getD i (.Pass ⟨0, 0, 0, 0⟩)
abbrev s_f_init : Stmt := inClass (top 2) 0
abbrev s_f_add_arc : Stmt := inClass (top 2) 1
abbrev s_f_flows : Stmt := inClass (top 2) 2
abbrev s_f_head : Stmt := inClass (top 2) 3
abbrev s_f_arcs_from : Stmt := inClass (top 2) 4
abbrev s_f_gains_from : Stmt := inClass (top 2) 5
abbrev s_f_push : Stmt := inClass (top 2) 6
abbrev s_elements_of : Stmt := top 10
abbrev s_mask_of : Stmt := top 11
abbrev s_found_ring : Stmt := top 12
abbrev s_closed_masks : Stmt := top 13
abbrev s_o_init : Stmt := inClass (top 14) 0
abbrev s_o_size : Stmt := inClass (top 14) 1
abbrev s_o_below : Stmt := inClass (top 14) 4
abbrev s_o_apart : Stmt := inClass (top 14) 5
abbrev s_o_pairs : Stmt := inClass (top 14) 11
abbrev s_is_chain : Stmt := top 16
abbrev s_is_antichain : Stmt := top 17
abbrev s_parts_all : Stmt := top 18
abbrev s_c_init : Stmt := inClass (top 20) 0
abbrev s_c_next_gain : Stmt := inClass (top 20) 1
abbrev s_c_add_unit : Stmt := inClass (top 20) 2
abbrev s_c_chains : Stmt := inClass (top 20) 3
abbrev s_c_prices : Stmt := inClass (top 20) 4
abbrev s_c_sets : Stmt := inClass (top 20) 5
abbrev s_chain_cover : Stmt := top 21
abbrev s_bound_of : Stmt := top 22
abbrev s_shows_chain_cover : Stmt := top 23
abbrev s_w_cell : Stmt := top 25
abbrev s_w_stream : Stmt := top 26
abbrev s_w_draw : Stmt := top 27
abbrev s_w_mixed : Stmt := top 28
abbrev s_w_closed : Stmt := top 29
abbrev s_w_pairs : Stmt := top 30
abbrev s_w_apart : Stmt := top 31
abbrev s_w_covers : Stmt := top 32
abbrev s_w_is_integer : Stmt := top 33
abbrev s_w_said : Stmt := top 34
abbrev s_w_are_integers : Stmt := top 35
abbrev s_w_same_table : Stmt := top 36
abbrev s_w_any_pairs : Stmt := top 37
abbrev s_w_any_spans : Stmt := top 38
abbrev s_w_by_spans : Stmt := top 39
abbrev s_w_by_rows : Stmt := top 40
abbrev s_w_any_tree : Stmt := top 41
abbrev s_w_tree_members : Stmt := top 42
abbrev s_w_by_tree : Stmt := top 43
abbrev s_w_any_arcs : Stmt := top 44
abbrev s_w_by_arcs : Stmt := top 45
abbrev s_w_any_parents : Stmt := top 46
abbrev s_w_by_parents : Stmt := top 47
abbrev s_w_by_ranks : Stmt := top 48
abbrev s_w_crown : Stmt := top 49
abbrev s_w_family : Stmt := top 50
abbrev s_w_any_order : Stmt := top 51
abbrev s_w_told : Stmt := top 52
abbrev s_w_is_antichain : Stmt := top 53
abbrev s_w_is_chain : Stmt := top 54
abbrev s_w_parts_all : Stmt := top 55
abbrev s_w_are_lists : Stmt := top 56
abbrev s_w_bound : Stmt := top 57
abbrev s_law : Stmt := top 58
/-! ### the facts that the head hands on -/
def fa0 : List He.Fa := [.glo "Flow", .glo "elements_of", .glo "mask_of", .glo "found_ring", .glo "closed_masks", .glo "Order", .glo "is_chain", .glo "is_antichain", .glo "parts_all", .glo "ChainFlow", .glo "chain_cover", .glo "bound_of", .glo "shows_chain_cover", .glo "_law_cell", .glo "_law_stream", .glo "_law_draw", .glo "_law_mixed", .glo "_law_closed", .glo "_law_pairs", .glo "_law_apart", .glo "_law_covers", .glo "_law_is_integer", .glo "_law_said", .glo "_law_are_integers", .glo "_law_same_table", .glo "_law_any_pairs", .glo "_law_any_spans", .glo "_law_by_spans", .glo "_law_by_rows", .glo "_law_any_tree"]
def fa1 : List He.Fa := [.glo "_law_tree_members", .glo "_law_by_tree", .glo "_law_any_arcs", .glo "_law_by_arcs", .glo "_law_any_parents", .glo "_law_by_parents", .glo "_law_by_ranks", .glo "_law_crown", .glo "_law_family", .glo "_law_any_order", .glo "_law_told", .glo "_law_is_antichain", .glo "_law_is_chain", .glo "_law_parts_all", .glo "_law_are_lists", .glo "_law_bound", .glo "law", .free "len", .free "range", .free "list", .free "int", .free "sum", .free "max", .free "min", .free "set", .free "sorted", .free "tuple", .free "all", .free "any", .free "enumerate"]
def fa2 : List He.Fa := [.free "zip", .free "isinstance", .free "repr", .free "bool", .int "MOST" 40, .cls "Flow", .mkr "Flow", .noat "Flow" "_nodes", .noat "Flow" "_tails", .noat "Flow" "_heads", .noat "Flow" "_rooms", .noat "Flow" "_gains", .cls "Order", .mkr "Order", .noat "Order" "_size", .noat "Order" "_up", .noat "Order" "_down", .noat "Order" "_pairs", .cls "ChainFlow", .mkr "ChainFlow", .noat "ChainFlow" "_order", .noat "ChainFlow" "_flow", .noat "ChainFlow" "_gaining", .noat "ChainFlow" "units", .meth "Flow" "add_arc", .meth "Flow" "flows", .meth "Flow" "head", .meth "Flow" "arcs_from", .meth "Flow" "gains_from", .meth "Flow" "push"]
def fa3 : List He.Fa := [.meth "Order" "below", .meth "Order" "apart", .meth "Order" "pairs", .meth "ChainFlow" "next_gain", .meth "ChainFlow" "add_unit", .meth "ChainFlow" "chains", .meth "ChainFlow" "prices", .meth "ChainFlow" "sets"]
def fas : List He.Fa := fa0 ++ fa1 ++ fa2 ++ fa3
def d_f_init : He.DefD := ⟨("Flow", some "__init__"), "__init__", "Flow.__init__", defArgs s_f_init, defBody s_f_init, defScope s_f_init, [], []⟩
def d_f_add_arc : He.DefD := ⟨("Flow", some "add_arc"), "add_arc", "Flow.add_arc", defArgs s_f_add_arc, defBody s_f_add_arc, defScope s_f_add_arc, [], []⟩
def d_f_flows : He.DefD := ⟨("Flow", some "flows"), "flows", "Flow.flows", defArgs s_f_flows, defBody s_f_flows, defScope s_f_flows, [], []⟩
def d_f_head : He.DefD := ⟨("Flow", some "head"), "head", "Flow.head", defArgs s_f_head, defBody s_f_head, defScope s_f_head, [], []⟩
def d_f_arcs_from : He.DefD := ⟨("Flow", some "arcs_from"), "arcs_from", "Flow.arcs_from", defArgs s_f_arcs_from, defBody s_f_arcs_from, defScope s_f_arcs_from, [], []⟩
def d_f_gains_from : He.DefD := ⟨("Flow", some "gains_from"), "gains_from", "Flow.gains_from", defArgs s_f_gains_from, defBody s_f_gains_from, defScope s_f_gains_from, [], []⟩
def d_f_push : He.DefD := ⟨("Flow", some "push"), "push", "Flow.push", defArgs s_f_push, defBody s_f_push, defScope s_f_push, [], []⟩
def d_elements_of : He.DefD := ⟨("elements_of", none), "elements_of", "elements_of", defArgs s_elements_of, defBody s_elements_of, defScope s_elements_of, [], []⟩
def d_mask_of : He.DefD := ⟨("mask_of", none), "mask_of", "mask_of", defArgs s_mask_of, defBody s_mask_of, defScope s_mask_of, [], []⟩
def d_found_ring : He.DefD := ⟨("found_ring", none), "found_ring", "found_ring", defArgs s_found_ring, defBody s_found_ring, defScope s_found_ring, [], []⟩
def d_closed_masks : He.DefD := ⟨("closed_masks", none), "closed_masks", "closed_masks", defArgs s_closed_masks, defBody s_closed_masks, defScope s_closed_masks, [], []⟩
def d_o_init : He.DefD := ⟨("Order", some "__init__"), "__init__", "Order.__init__", defArgs s_o_init, defBody s_o_init, defScope s_o_init, [], []⟩
def d_o_below : He.DefD := ⟨("Order", some "below"), "below", "Order.below", defArgs s_o_below, defBody s_o_below, defScope s_o_below, [], []⟩
def d_o_apart : He.DefD := ⟨("Order", some "apart"), "apart", "Order.apart", defArgs s_o_apart, defBody s_o_apart, defScope s_o_apart, [], []⟩
def d_o_pairs : He.DefD := ⟨("Order", some "pairs"), "pairs", "Order.pairs", defArgs s_o_pairs, defBody s_o_pairs, defScope s_o_pairs, [], []⟩
def d_is_chain : He.DefD := ⟨("is_chain", none), "is_chain", "is_chain", defArgs s_is_chain, defBody s_is_chain, defScope s_is_chain, [], []⟩
def d_is_antichain : He.DefD := ⟨("is_antichain", none), "is_antichain", "is_antichain", defArgs s_is_antichain, defBody s_is_antichain, defScope s_is_antichain, [], []⟩
def d_parts_all : He.DefD := ⟨("parts_all", none), "parts_all", "parts_all", defArgs s_parts_all, defBody s_parts_all, defScope s_parts_all, [], []⟩
def d_c_init : He.DefD := ⟨("ChainFlow", some "__init__"), "__init__", "ChainFlow.__init__", defArgs s_c_init, defBody s_c_init, defScope s_c_init, [], []⟩
def d_c_next_gain : He.DefD := ⟨("ChainFlow", some "next_gain"), "next_gain", "ChainFlow.next_gain", defArgs s_c_next_gain, defBody s_c_next_gain, defScope s_c_next_gain, [], []⟩
def d_c_add_unit : He.DefD := ⟨("ChainFlow", some "add_unit"), "add_unit", "ChainFlow.add_unit", defArgs s_c_add_unit, defBody s_c_add_unit, defScope s_c_add_unit, [], []⟩
def d_c_chains : He.DefD := ⟨("ChainFlow", some "chains"), "chains", "ChainFlow.chains", defArgs s_c_chains, defBody s_c_chains, defScope s_c_chains, [], []⟩
def d_c_prices : He.DefD := ⟨("ChainFlow", some "prices"), "prices", "ChainFlow.prices", defArgs s_c_prices, defBody s_c_prices, defScope s_c_prices, [], []⟩
def d_c_sets : He.DefD := ⟨("ChainFlow", some "sets"), "sets", "ChainFlow.sets", defArgs s_c_sets, defBody s_c_sets, defScope s_c_sets, [], []⟩
def d_chain_cover : He.DefD := ⟨("chain_cover", none), "chain_cover", "chain_cover", defArgs s_chain_cover, defBody s_chain_cover, defScope s_chain_cover, [], []⟩
def d_bound_of : He.DefD := ⟨("bound_of", none), "bound_of", "bound_of", defArgs s_bound_of, defBody s_bound_of, defScope s_bound_of, [], []⟩
def d_shows_chain_cover : He.DefD := ⟨("shows_chain_cover", none), "shows_chain_cover", "shows_chain_cover", defArgs s_shows_chain_cover, defBody s_shows_chain_cover, defScope s_shows_chain_cover, [], []⟩
def d_w_cell : He.DefD := ⟨("_law_cell", none), "_law_cell", "_law_cell", defArgs s_w_cell, defBody s_w_cell, defScope s_w_cell, [], []⟩
def d_w_stream : He.DefD := ⟨("_law_stream", none), "_law_stream", "_law_stream", defArgs s_w_stream, defBody s_w_stream, defScope s_w_stream, [], []⟩
def d_w_draw : He.DefD := ⟨("_law_draw", none), "_law_draw", "_law_draw", defArgs s_w_draw, defBody s_w_draw, defScope s_w_draw, [], []⟩
def d_w_mixed : He.DefD := ⟨("_law_mixed", none), "_law_mixed", "_law_mixed", defArgs s_w_mixed, defBody s_w_mixed, defScope s_w_mixed, [], []⟩
def d_w_closed : He.DefD := ⟨("_law_closed", none), "_law_closed", "_law_closed", defArgs s_w_closed, defBody s_w_closed, defScope s_w_closed, [], []⟩
def d_w_pairs : He.DefD := ⟨("_law_pairs", none), "_law_pairs", "_law_pairs", defArgs s_w_pairs, defBody s_w_pairs, defScope s_w_pairs, [], []⟩
def d_w_apart : He.DefD := ⟨("_law_apart", none), "_law_apart", "_law_apart", defArgs s_w_apart, defBody s_w_apart, defScope s_w_apart, [], []⟩
def d_w_covers : He.DefD := ⟨("_law_covers", none), "_law_covers", "_law_covers", defArgs s_w_covers, defBody s_w_covers, defScope s_w_covers, [], []⟩
def d_w_is_integer : He.DefD := ⟨("_law_is_integer", none), "_law_is_integer", "_law_is_integer", defArgs s_w_is_integer, defBody s_w_is_integer, defScope s_w_is_integer, [], []⟩
def d_w_said : He.DefD := ⟨("_law_said", none), "_law_said", "_law_said", defArgs s_w_said, defBody s_w_said, defScope s_w_said, [], []⟩
def d_w_are_integers : He.DefD := ⟨("_law_are_integers", none), "_law_are_integers", "_law_are_integers", defArgs s_w_are_integers, defBody s_w_are_integers, defScope s_w_are_integers, [], []⟩
def d_w_same_table : He.DefD := ⟨("_law_same_table", none), "_law_same_table", "_law_same_table", defArgs s_w_same_table, defBody s_w_same_table, defScope s_w_same_table, [], []⟩
def d_w_any_pairs : He.DefD := ⟨("_law_any_pairs", none), "_law_any_pairs", "_law_any_pairs", defArgs s_w_any_pairs, defBody s_w_any_pairs, defScope s_w_any_pairs, [], []⟩
def d_w_any_spans : He.DefD := ⟨("_law_any_spans", none), "_law_any_spans", "_law_any_spans", defArgs s_w_any_spans, defBody s_w_any_spans, defScope s_w_any_spans, [], []⟩
def d_w_by_spans : He.DefD := ⟨("_law_by_spans", none), "_law_by_spans", "_law_by_spans", defArgs s_w_by_spans, defBody s_w_by_spans, defScope s_w_by_spans, [], []⟩
def d_w_by_rows : He.DefD := ⟨("_law_by_rows", none), "_law_by_rows", "_law_by_rows", defArgs s_w_by_rows, defBody s_w_by_rows, defScope s_w_by_rows, [], []⟩
def d_w_any_tree : He.DefD := ⟨("_law_any_tree", none), "_law_any_tree", "_law_any_tree", defArgs s_w_any_tree, defBody s_w_any_tree, defScope s_w_any_tree, [], []⟩
def d_w_tree_members : He.DefD := ⟨("_law_tree_members", none), "_law_tree_members", "_law_tree_members", defArgs s_w_tree_members, defBody s_w_tree_members, defScope s_w_tree_members, [], []⟩
def d_w_by_tree : He.DefD := ⟨("_law_by_tree", none), "_law_by_tree", "_law_by_tree", defArgs s_w_by_tree, defBody s_w_by_tree, defScope s_w_by_tree, [], []⟩
def d_w_any_arcs : He.DefD := ⟨("_law_any_arcs", none), "_law_any_arcs", "_law_any_arcs", defArgs s_w_any_arcs, defBody s_w_any_arcs, defScope s_w_any_arcs, [], []⟩
def d_w_by_arcs : He.DefD := ⟨("_law_by_arcs", none), "_law_by_arcs", "_law_by_arcs", defArgs s_w_by_arcs, defBody s_w_by_arcs, defScope s_w_by_arcs, [], []⟩
def d_w_any_parents : He.DefD := ⟨("_law_any_parents", none), "_law_any_parents", "_law_any_parents", defArgs s_w_any_parents, defBody s_w_any_parents, defScope s_w_any_parents, [], []⟩
def d_w_by_parents : He.DefD := ⟨("_law_by_parents", none), "_law_by_parents", "_law_by_parents", defArgs s_w_by_parents, defBody s_w_by_parents, defScope s_w_by_parents, [], []⟩
def d_w_by_ranks : He.DefD := ⟨("_law_by_ranks", none), "_law_by_ranks", "_law_by_ranks", defArgs s_w_by_ranks, defBody s_w_by_ranks, defScope s_w_by_ranks, [], []⟩
def d_w_crown : He.DefD := ⟨("_law_crown", none), "_law_crown", "_law_crown", defArgs s_w_crown, defBody s_w_crown, defScope s_w_crown, [], []⟩
def d_w_family : He.DefD := ⟨("_law_family", none), "_law_family", "_law_family", defArgs s_w_family, defBody s_w_family, defScope s_w_family, [], []⟩
def d_w_any_order : He.DefD := ⟨("_law_any_order", none), "_law_any_order", "_law_any_order", defArgs s_w_any_order, defBody s_w_any_order, defScope s_w_any_order, [], []⟩
def d_w_told : He.DefD := ⟨("_law_told", none), "_law_told", "_law_told", defArgs s_w_told, defBody s_w_told, defScope s_w_told, [], []⟩
def d_w_is_antichain : He.DefD := ⟨("_law_is_antichain", none), "_law_is_antichain", "_law_is_antichain", defArgs s_w_is_antichain, defBody s_w_is_antichain, defScope s_w_is_antichain, [], []⟩
def d_w_is_chain : He.DefD := ⟨("_law_is_chain", none), "_law_is_chain", "_law_is_chain", defArgs s_w_is_chain, defBody s_w_is_chain, defScope s_w_is_chain, [], []⟩
def d_w_parts_all : He.DefD := ⟨("_law_parts_all", none), "_law_parts_all", "_law_parts_all", defArgs s_w_parts_all, defBody s_w_parts_all, defScope s_w_parts_all, [], []⟩
def d_w_are_lists : He.DefD := ⟨("_law_are_lists", none), "_law_are_lists", "_law_are_lists", defArgs s_w_are_lists, defBody s_w_are_lists, defScope s_w_are_lists, [], []⟩
def d_w_bound : He.DefD := ⟨("_law_bound", none), "_law_bound", "_law_bound", defArgs s_w_bound, defBody s_w_bound, defScope s_w_bound, [], []⟩
def d_law : He.DefD := ⟨("law", none), "law", "law", defArgs s_law, defBody s_law, defScope s_law, [], []⟩
def fn0 : List He.DefD := [d_f_init, d_f_add_arc, d_f_flows, d_f_head, d_f_arcs_from, d_f_gains_from, d_f_push, d_elements_of, d_mask_of, d_found_ring, d_closed_masks, d_o_init, d_o_below, d_o_apart, d_o_pairs, d_is_chain, d_is_antichain, d_parts_all, d_c_init, d_c_next_gain, d_c_add_unit, d_c_chains, d_c_prices, d_c_sets, d_chain_cover, d_bound_of, d_shows_chain_cover, d_w_cell, d_w_stream, d_w_draw]
def fn1 : List He.DefD := [d_w_mixed, d_w_closed, d_w_pairs, d_w_apart, d_w_covers, d_w_is_integer, d_w_said, d_w_are_integers, d_w_same_table, d_w_any_pairs, d_w_any_spans, d_w_by_spans, d_w_by_rows, d_w_any_tree, d_w_tree_members, d_w_by_tree, d_w_any_arcs, d_w_by_arcs, d_w_any_parents, d_w_by_parents, d_w_by_ranks, d_w_crown, d_w_family, d_w_any_order, d_w_told, d_w_is_antichain, d_w_is_chain, d_w_parts_all, d_w_are_lists, d_w_bound]
def fn2 : List He.DefD := [d_law]
def fns : List He.DefD := fn0 ++ fn1 ++ fn2
def loose0 : List PySem.Str := ["_wall", "Flow", "OrderError", "BadSize", "BadPair", "Ring", "MOST", "elements_of", "mask_of", "found_ring", "closed_masks", "Order", "is_chain", "is_antichain", "parts_all", "ChainFlow", "chain_cover", "bound_of", "shows_chain_cover", "_law_cell", "_law_stream", "_law_draw", "_law_mixed", "_law_closed", "_law_pairs", "_law_apart", "_law_covers", "_law_is_integer", "_law_said", "_law_are_integers"]
def loose1 : List PySem.Str := ["_law_same_table", "_law_any_pairs", "_law_any_spans", "_law_by_spans", "_law_by_rows", "_law_any_tree", "_law_tree_members", "_law_by_tree", "_law_any_arcs", "_law_by_arcs", "_law_any_parents", "_law_by_parents", "_law_by_ranks", "_law_crown", "_law_family", "_law_any_order", "_law_told", "_law_is_antichain", "_law_is_chain", "_law_parts_all", "_law_are_lists", "_law_bound"]
def looses : List PySem.Str := loose0 ++ loose1
/-! ### the getter of a property, the hook -/
abbrev Frg := PySem.W.Frag
/-- where the property's getter stands -/
def getAd (K : Frg) (C f : Str) : Addr := match PySem.W.recIn K (He.ma K (He.ga K C) f) "property" with
  | some (.ref g :: _) => g
  | _ => 0
def propB (K : Frg) (C f : Str) : Bool :=
  decide (PySem.W.findIn K (.ref (He.ga K C)) f = some (some (.ref (He.ma K (He.ga K C) f)))) &&
  (decide (PySem.W.specialIn K (.ref (He.ma K (He.ga K C) f)) "__get__" = some (some (.builtin "property.__get__"))) &&
  (decide (PySem.W.takesIn K (.ref (He.ma K (He.ga K C) f)) = some true) &&
  (match PySem.W.recIn K (He.ma K (He.ga K C) f) "property" with
    | some (.ref _ :: _) => true
    | _ => false)))
theorem propB_ok {K : Frg} {C f : Str} (h : propB K C f = true) : PropOf K (He.ga K C) f (He.ma K (He.ga K C) f) (getAd K C f) := by
  unfold propB at h
  obtain ⟨h1, h⟩ := Bool.and_eq_true_iff.mp h
  obtain ⟨h2, h⟩ := Bool.and_eq_true_iff.mp h
  obtain ⟨h3, h4⟩ := Bool.and_eq_true_iff.mp h
  refine ⟨of_decide_eq_true h1, of_decide_eq_true h2, of_decide_eq_true h3, ?_⟩
  unfold getAd
  generalize PySem.W.recIn K (He.ma K (He.ga K C) f) "property" = r at h4 ⊢
  cases r with
  | none => cases h4
  | some l =>
    cases l with
    | nil => cases h4
    | cons v rest =>
      cases v with
      | ref g => exact ⟨rest, rfl⟩
      | _ => cases h4
/-- the function object at an address, told -/
def fnAt (K : Frg) (a : Addr) : He.FnW := match K.lookup a with
  | some ⟨_, _, .func fd, _⟩ => some (fd.name, fd.qualname, fd.params, fd.body, fd.scope, fd.globals, fd.closure, fd.builtins)
  | _ => none
def fnAtB (K : Frg) (a : Addr) (q : Str) : Bool := PySem.W.keepIn K (.ref a) && (match K.lookup a with
  | some ⟨_, _, .func fd, _⟩ => PySem.W.codeIn K fd.code q && He.dflB K fd.defaults []
  | _ => false)
theorem fnAt_ok {K : Frg} {a : Addr} {st : Stmt} {nm q : Str} (e : fnAt K a = some (nm, q, defArgs st, .stmts (defBody st), defScope st, mainGlobals, [], builtinsNs)) (c : fnAtB K a q = true) :
    ∃ fd, FunD K nm q (defArgs st) (defBody st) (defScope st) [] [] a fd := by
  unfold fnAtB at c
  obtain ⟨kp, c2⟩ := Bool.and_eq_true_iff.mp c
  unfold fnAt at e
  cases q' : K.lookup a with
  | none =>
    rw [q'] at c2
    cases c2
  | some o =>
    obtain ⟨oc, od, dt, osl⟩ := o
    rw [q'] at c2 e
    cases dt with
    | func fd =>
      obtain ⟨n1, n2, n3, n4, n5, n6, n7, n8, n9, n10, n11, n12, n13, n14, n15⟩ := fd
      simp only [Option.some.injEq, Prod.mk.injEq] at e
      obtain ⟨h1, h2, h3, h4, h5, h6, h7, h8⟩ := e
      subst h1 h2 h3 h4 h5 h6 h7 h8
      obtain ⟨k1, k2⟩ := Bool.and_eq_true_iff.mp (show (PySem.W.codeIn K n13 n2 && He.dflB K n8 []) = true from c2)
      exact ⟨_, ⟨oc, od, n8, n9, n10, n11, n12, n13, n14, osl, rfl, q', k1, He.dflB_ok k2, .inl rfl⟩, kp⟩
    | _ => cases c2
abbrev AlM : Type := He.AlD × (Bool × He.FnW)
def obsM (K : Frg) : AlM := (He.obsD fas fns K, (propB K "Order" "size" && fnAtB K (getAd K "Order" "size") "Order.size", fnAt K (getAd K "Order" "size")))
def valM : AlM := (He.valD fns, (true, some ("size", "Order.size", defArgs s_o_size, .stmts (defBody s_o_size), defScope s_o_size, mainGlobals, [], builtinsNs)))
def SaysM (K : Frg) : Prop := obsM K = valM
def obsMG (g : Addr → Option Obj) : AlM := obsM (He.frG g (He.asD g 5))
def hk : PySem.W.Hook where
  α := AlM
  obs := fun s => obsMG s.heap.get?
  val := fun _ => valM
  says := fun _ h => ∃ K : Frg, K.In h ∧ SaysM K
  of := fun _ _ e => ⟨_, He.frG_in, e⟩
  keeps := fun _ _ _ ⟨K, hK, c⟩ k => ⟨K, PySem.W.Frag.In.keeps hK k, c⟩
theorem obsMG_eq {g : Addr → Option Obj} {s : Shared} (h : ∀ a, g a = s.heap.get? a) : obsMG g = hk.obs s := by
  have e : g = s.heap.get? := funext h
  rw [e] <;> rfl
theorem SaysM.d {K : Frg} (c : SaysM K) : He.SaysD fas fns K := congrArg (fun z : AlM => z.1) c
theorem SaysM.prop {K : Frg} (c : SaysM K) : PropOf K (He.ga K "Order") "size" (He.ma K (He.ga K "Order") "size") (getAd K "Order" "size") :=
  propB_ok (Bool.and_eq_true_iff.mp (show (propB K "Order" "size" && fnAtB K (getAd K "Order" "size") "Order.size") = true from congrArg (fun z : AlM => z.2.1) c)).1
theorem SaysM.getter {K : Frg} (c : SaysM K) : ∃ fd, FunD K "size" "Order.size" (defArgs s_o_size) (defBody s_o_size) (defScope s_o_size) [] [] (getAd K "Order" "size") fd :=
  fnAt_ok (congrArg (fun z : AlM => z.2.2) c) (Bool.and_eq_true_iff.mp (show (propB K "Order" "size" && fnAtB K (getAd K "Order" "size") "Order.size") = true from congrArg (fun z : AlM => z.2.1) c)).2
end Dr

namespace Dr
open PySem PySem.Spec PyProof.Rows L2
abbrev RR : PySem.W.OpenRow := PySem.W.OpenLaw.row PySem.Challenge.rw_drawnorders_k38_whole_chain_covers
def ob (t : PySem.W.SharedT) : AlM := obsMG (HandSHeadRun.getT t)
theorem ob_eq (t : PySem.W.SharedT) : ob t = hk.obs t.abs := obsMG_eq (HandSHeadRun.getT_eq t)
set_option maxHeartbeats 0 in
theorem run (w : World) : HandSHeadRun.RunEq RR (PySem.W.view RR.prog [58]) hk ob 6000 looses w := by
  intro os
  kernel_rfl
end Dr
/-! What the head hands on, by name. -/
namespace Dr
open PySem PySem.Spec PyProof.Rows L2
abbrev aF (K : Frg) : Addr := He.ga K "Flow"
abbrev aO (K : Frg) : Addr := He.ga K "Order"
abbrev aC (K : Frg) : Addr := He.ga K "ChainFlow"
structure Tx (K : Frg) (mg : Str → Option Value) : Prop where
  s : SaysM K
  hx : ∃ h : Heap, K.In h ∧ h.Ns mainGlobals mg
section
variable {K : Frg} {mg : Str → Option Value}
theorem Tx.g_Flow (T : Tx K mg) : mg "Flow" = some (.ref (He.ga K "Flow")) := by
  obtain ⟨h, X, G⟩ := T.hx
  exact He.glo_ok X G (T.s.d.fact 0 (f := .glo "Flow") rfl)
theorem Tx.g_elements_of (T : Tx K mg) : mg "elements_of" = some (.ref (He.ga K "elements_of")) := by
  obtain ⟨h, X, G⟩ := T.hx
  exact He.glo_ok X G (T.s.d.fact 1 (f := .glo "elements_of") rfl)
theorem Tx.g_mask_of (T : Tx K mg) : mg "mask_of" = some (.ref (He.ga K "mask_of")) := by
  obtain ⟨h, X, G⟩ := T.hx
  exact He.glo_ok X G (T.s.d.fact 2 (f := .glo "mask_of") rfl)
theorem Tx.g_found_ring (T : Tx K mg) : mg "found_ring" = some (.ref (He.ga K "found_ring")) := by
  obtain ⟨h, X, G⟩ := T.hx
  exact He.glo_ok X G (T.s.d.fact 3 (f := .glo "found_ring") rfl)
theorem Tx.g_closed_masks (T : Tx K mg) : mg "closed_masks" = some (.ref (He.ga K "closed_masks")) := by
  obtain ⟨h, X, G⟩ := T.hx
  exact He.glo_ok X G (T.s.d.fact 4 (f := .glo "closed_masks") rfl)
theorem Tx.g_Order (T : Tx K mg) : mg "Order" = some (.ref (He.ga K "Order")) := by
  obtain ⟨h, X, G⟩ := T.hx
  exact He.glo_ok X G (T.s.d.fact 5 (f := .glo "Order") rfl)
theorem Tx.g_is_chain (T : Tx K mg) : mg "is_chain" = some (.ref (He.ga K "is_chain")) := by
  obtain ⟨h, X, G⟩ := T.hx
  exact He.glo_ok X G (T.s.d.fact 6 (f := .glo "is_chain") rfl)
theorem Tx.g_is_antichain (T : Tx K mg) : mg "is_antichain" = some (.ref (He.ga K "is_antichain")) := by
  obtain ⟨h, X, G⟩ := T.hx
  exact He.glo_ok X G (T.s.d.fact 7 (f := .glo "is_antichain") rfl)
theorem Tx.g_parts_all (T : Tx K mg) : mg "parts_all" = some (.ref (He.ga K "parts_all")) := by
  obtain ⟨h, X, G⟩ := T.hx
  exact He.glo_ok X G (T.s.d.fact 8 (f := .glo "parts_all") rfl)
theorem Tx.g_ChainFlow (T : Tx K mg) : mg "ChainFlow" = some (.ref (He.ga K "ChainFlow")) := by
  obtain ⟨h, X, G⟩ := T.hx
  exact He.glo_ok X G (T.s.d.fact 9 (f := .glo "ChainFlow") rfl)
theorem Tx.g_chain_cover (T : Tx K mg) : mg "chain_cover" = some (.ref (He.ga K "chain_cover")) := by
  obtain ⟨h, X, G⟩ := T.hx
  exact He.glo_ok X G (T.s.d.fact 10 (f := .glo "chain_cover") rfl)
theorem Tx.g_bound_of (T : Tx K mg) : mg "bound_of" = some (.ref (He.ga K "bound_of")) := by
  obtain ⟨h, X, G⟩ := T.hx
  exact He.glo_ok X G (T.s.d.fact 11 (f := .glo "bound_of") rfl)
theorem Tx.g_shows_chain_cover (T : Tx K mg) : mg "shows_chain_cover" = some (.ref (He.ga K "shows_chain_cover")) := by
  obtain ⟨h, X, G⟩ := T.hx
  exact He.glo_ok X G (T.s.d.fact 12 (f := .glo "shows_chain_cover") rfl)
theorem Tx.g_w_cell (T : Tx K mg) : mg "_law_cell" = some (.ref (He.ga K "_law_cell")) := by
  obtain ⟨h, X, G⟩ := T.hx
  exact He.glo_ok X G (T.s.d.fact 13 (f := .glo "_law_cell") rfl)
theorem Tx.g_w_stream (T : Tx K mg) : mg "_law_stream" = some (.ref (He.ga K "_law_stream")) := by
  obtain ⟨h, X, G⟩ := T.hx
  exact He.glo_ok X G (T.s.d.fact 14 (f := .glo "_law_stream") rfl)
theorem Tx.g_w_draw (T : Tx K mg) : mg "_law_draw" = some (.ref (He.ga K "_law_draw")) := by
  obtain ⟨h, X, G⟩ := T.hx
  exact He.glo_ok X G (T.s.d.fact 15 (f := .glo "_law_draw") rfl)
theorem Tx.g_w_mixed (T : Tx K mg) : mg "_law_mixed" = some (.ref (He.ga K "_law_mixed")) := by
  obtain ⟨h, X, G⟩ := T.hx
  exact He.glo_ok X G (T.s.d.fact 16 (f := .glo "_law_mixed") rfl)
theorem Tx.g_w_closed (T : Tx K mg) : mg "_law_closed" = some (.ref (He.ga K "_law_closed")) := by
  obtain ⟨h, X, G⟩ := T.hx
  exact He.glo_ok X G (T.s.d.fact 17 (f := .glo "_law_closed") rfl)
theorem Tx.g_w_pairs (T : Tx K mg) : mg "_law_pairs" = some (.ref (He.ga K "_law_pairs")) := by
  obtain ⟨h, X, G⟩ := T.hx
  exact He.glo_ok X G (T.s.d.fact 18 (f := .glo "_law_pairs") rfl)
theorem Tx.g_w_apart (T : Tx K mg) : mg "_law_apart" = some (.ref (He.ga K "_law_apart")) := by
  obtain ⟨h, X, G⟩ := T.hx
  exact He.glo_ok X G (T.s.d.fact 19 (f := .glo "_law_apart") rfl)
theorem Tx.g_w_covers (T : Tx K mg) : mg "_law_covers" = some (.ref (He.ga K "_law_covers")) := by
  obtain ⟨h, X, G⟩ := T.hx
  exact He.glo_ok X G (T.s.d.fact 20 (f := .glo "_law_covers") rfl)
theorem Tx.g_w_is_integer (T : Tx K mg) : mg "_law_is_integer" = some (.ref (He.ga K "_law_is_integer")) := by
  obtain ⟨h, X, G⟩ := T.hx
  exact He.glo_ok X G (T.s.d.fact 21 (f := .glo "_law_is_integer") rfl)
theorem Tx.g_w_said (T : Tx K mg) : mg "_law_said" = some (.ref (He.ga K "_law_said")) := by
  obtain ⟨h, X, G⟩ := T.hx
  exact He.glo_ok X G (T.s.d.fact 22 (f := .glo "_law_said") rfl)
theorem Tx.g_w_are_integers (T : Tx K mg) : mg "_law_are_integers" = some (.ref (He.ga K "_law_are_integers")) := by
  obtain ⟨h, X, G⟩ := T.hx
  exact He.glo_ok X G (T.s.d.fact 23 (f := .glo "_law_are_integers") rfl)
theorem Tx.g_w_same_table (T : Tx K mg) : mg "_law_same_table" = some (.ref (He.ga K "_law_same_table")) := by
  obtain ⟨h, X, G⟩ := T.hx
  exact He.glo_ok X G (T.s.d.fact 24 (f := .glo "_law_same_table") rfl)
theorem Tx.g_w_any_pairs (T : Tx K mg) : mg "_law_any_pairs" = some (.ref (He.ga K "_law_any_pairs")) := by
  obtain ⟨h, X, G⟩ := T.hx
  exact He.glo_ok X G (T.s.d.fact 25 (f := .glo "_law_any_pairs") rfl)
theorem Tx.g_w_any_spans (T : Tx K mg) : mg "_law_any_spans" = some (.ref (He.ga K "_law_any_spans")) := by
  obtain ⟨h, X, G⟩ := T.hx
  exact He.glo_ok X G (T.s.d.fact 26 (f := .glo "_law_any_spans") rfl)
theorem Tx.g_w_by_spans (T : Tx K mg) : mg "_law_by_spans" = some (.ref (He.ga K "_law_by_spans")) := by
  obtain ⟨h, X, G⟩ := T.hx
  exact He.glo_ok X G (T.s.d.fact 27 (f := .glo "_law_by_spans") rfl)
theorem Tx.g_w_by_rows (T : Tx K mg) : mg "_law_by_rows" = some (.ref (He.ga K "_law_by_rows")) := by
  obtain ⟨h, X, G⟩ := T.hx
  exact He.glo_ok X G (T.s.d.fact 28 (f := .glo "_law_by_rows") rfl)
theorem Tx.g_w_any_tree (T : Tx K mg) : mg "_law_any_tree" = some (.ref (He.ga K "_law_any_tree")) := by
  obtain ⟨h, X, G⟩ := T.hx
  exact He.glo_ok X G (T.s.d.fact 29 (f := .glo "_law_any_tree") rfl)
theorem Tx.g_w_tree_members (T : Tx K mg) : mg "_law_tree_members" = some (.ref (He.ga K "_law_tree_members")) := by
  obtain ⟨h, X, G⟩ := T.hx
  exact He.glo_ok X G (T.s.d.fact 30 (f := .glo "_law_tree_members") rfl)
theorem Tx.g_w_by_tree (T : Tx K mg) : mg "_law_by_tree" = some (.ref (He.ga K "_law_by_tree")) := by
  obtain ⟨h, X, G⟩ := T.hx
  exact He.glo_ok X G (T.s.d.fact 31 (f := .glo "_law_by_tree") rfl)
theorem Tx.g_w_any_arcs (T : Tx K mg) : mg "_law_any_arcs" = some (.ref (He.ga K "_law_any_arcs")) := by
  obtain ⟨h, X, G⟩ := T.hx
  exact He.glo_ok X G (T.s.d.fact 32 (f := .glo "_law_any_arcs") rfl)
theorem Tx.g_w_by_arcs (T : Tx K mg) : mg "_law_by_arcs" = some (.ref (He.ga K "_law_by_arcs")) := by
  obtain ⟨h, X, G⟩ := T.hx
  exact He.glo_ok X G (T.s.d.fact 33 (f := .glo "_law_by_arcs") rfl)
theorem Tx.g_w_any_parents (T : Tx K mg) : mg "_law_any_parents" = some (.ref (He.ga K "_law_any_parents")) := by
  obtain ⟨h, X, G⟩ := T.hx
  exact He.glo_ok X G (T.s.d.fact 34 (f := .glo "_law_any_parents") rfl)
theorem Tx.g_w_by_parents (T : Tx K mg) : mg "_law_by_parents" = some (.ref (He.ga K "_law_by_parents")) := by
  obtain ⟨h, X, G⟩ := T.hx
  exact He.glo_ok X G (T.s.d.fact 35 (f := .glo "_law_by_parents") rfl)
theorem Tx.g_w_by_ranks (T : Tx K mg) : mg "_law_by_ranks" = some (.ref (He.ga K "_law_by_ranks")) := by
  obtain ⟨h, X, G⟩ := T.hx
  exact He.glo_ok X G (T.s.d.fact 36 (f := .glo "_law_by_ranks") rfl)
theorem Tx.g_w_crown (T : Tx K mg) : mg "_law_crown" = some (.ref (He.ga K "_law_crown")) := by
  obtain ⟨h, X, G⟩ := T.hx
  exact He.glo_ok X G (T.s.d.fact 37 (f := .glo "_law_crown") rfl)
theorem Tx.g_w_family (T : Tx K mg) : mg "_law_family" = some (.ref (He.ga K "_law_family")) := by
  obtain ⟨h, X, G⟩ := T.hx
  exact He.glo_ok X G (T.s.d.fact 38 (f := .glo "_law_family") rfl)
theorem Tx.g_w_any_order (T : Tx K mg) : mg "_law_any_order" = some (.ref (He.ga K "_law_any_order")) := by
  obtain ⟨h, X, G⟩ := T.hx
  exact He.glo_ok X G (T.s.d.fact 39 (f := .glo "_law_any_order") rfl)
theorem Tx.g_w_told (T : Tx K mg) : mg "_law_told" = some (.ref (He.ga K "_law_told")) := by
  obtain ⟨h, X, G⟩ := T.hx
  exact He.glo_ok X G (T.s.d.fact 40 (f := .glo "_law_told") rfl)
theorem Tx.g_w_is_antichain (T : Tx K mg) : mg "_law_is_antichain" = some (.ref (He.ga K "_law_is_antichain")) := by
  obtain ⟨h, X, G⟩ := T.hx
  exact He.glo_ok X G (T.s.d.fact 41 (f := .glo "_law_is_antichain") rfl)
theorem Tx.g_w_is_chain (T : Tx K mg) : mg "_law_is_chain" = some (.ref (He.ga K "_law_is_chain")) := by
  obtain ⟨h, X, G⟩ := T.hx
  exact He.glo_ok X G (T.s.d.fact 42 (f := .glo "_law_is_chain") rfl)
theorem Tx.g_w_parts_all (T : Tx K mg) : mg "_law_parts_all" = some (.ref (He.ga K "_law_parts_all")) := by
  obtain ⟨h, X, G⟩ := T.hx
  exact He.glo_ok X G (T.s.d.fact 43 (f := .glo "_law_parts_all") rfl)
theorem Tx.g_w_are_lists (T : Tx K mg) : mg "_law_are_lists" = some (.ref (He.ga K "_law_are_lists")) := by
  obtain ⟨h, X, G⟩ := T.hx
  exact He.glo_ok X G (T.s.d.fact 44 (f := .glo "_law_are_lists") rfl)
theorem Tx.g_w_bound (T : Tx K mg) : mg "_law_bound" = some (.ref (He.ga K "_law_bound")) := by
  obtain ⟨h, X, G⟩ := T.hx
  exact He.glo_ok X G (T.s.d.fact 45 (f := .glo "_law_bound") rfl)
theorem Tx.g_law (T : Tx K mg) : mg "law" = some (.ref (He.ga K "law")) := by
  obtain ⟨h, X, G⟩ := T.hx
  exact He.glo_ok X G (T.s.d.fact 46 (f := .glo "law") rfl)
theorem Tx.len_ (T : Tx K mg) : mg "len" = none := by
  obtain ⟨h, X, G⟩ := T.hx
  exact He.free_ok X G (T.s.d.fact 47 (f := .free "len") rfl)
theorem Tx.range_ (T : Tx K mg) : mg "range" = none := by
  obtain ⟨h, X, G⟩ := T.hx
  exact He.free_ok X G (T.s.d.fact 48 (f := .free "range") rfl)
theorem Tx.list_ (T : Tx K mg) : mg "list" = none := by
  obtain ⟨h, X, G⟩ := T.hx
  exact He.free_ok X G (T.s.d.fact 49 (f := .free "list") rfl)
theorem Tx.int_ (T : Tx K mg) : mg "int" = none := by
  obtain ⟨h, X, G⟩ := T.hx
  exact He.free_ok X G (T.s.d.fact 50 (f := .free "int") rfl)
theorem Tx.sum_ (T : Tx K mg) : mg "sum" = none := by
  obtain ⟨h, X, G⟩ := T.hx
  exact He.free_ok X G (T.s.d.fact 51 (f := .free "sum") rfl)
theorem Tx.max_ (T : Tx K mg) : mg "max" = none := by
  obtain ⟨h, X, G⟩ := T.hx
  exact He.free_ok X G (T.s.d.fact 52 (f := .free "max") rfl)
theorem Tx.min_ (T : Tx K mg) : mg "min" = none := by
  obtain ⟨h, X, G⟩ := T.hx
  exact He.free_ok X G (T.s.d.fact 53 (f := .free "min") rfl)
theorem Tx.set_ (T : Tx K mg) : mg "set" = none := by
  obtain ⟨h, X, G⟩ := T.hx
  exact He.free_ok X G (T.s.d.fact 54 (f := .free "set") rfl)
theorem Tx.sorted_ (T : Tx K mg) : mg "sorted" = none := by
  obtain ⟨h, X, G⟩ := T.hx
  exact He.free_ok X G (T.s.d.fact 55 (f := .free "sorted") rfl)
theorem Tx.tuple_ (T : Tx K mg) : mg "tuple" = none := by
  obtain ⟨h, X, G⟩ := T.hx
  exact He.free_ok X G (T.s.d.fact 56 (f := .free "tuple") rfl)
theorem Tx.all_ (T : Tx K mg) : mg "all" = none := by
  obtain ⟨h, X, G⟩ := T.hx
  exact He.free_ok X G (T.s.d.fact 57 (f := .free "all") rfl)
theorem Tx.any_ (T : Tx K mg) : mg "any" = none := by
  obtain ⟨h, X, G⟩ := T.hx
  exact He.free_ok X G (T.s.d.fact 58 (f := .free "any") rfl)
theorem Tx.enumerate_ (T : Tx K mg) : mg "enumerate" = none := by
  obtain ⟨h, X, G⟩ := T.hx
  exact He.free_ok X G (T.s.d.fact 59 (f := .free "enumerate") rfl)
theorem Tx.zip_ (T : Tx K mg) : mg "zip" = none := by
  obtain ⟨h, X, G⟩ := T.hx
  exact He.free_ok X G (T.s.d.fact 60 (f := .free "zip") rfl)
theorem Tx.isinstance_ (T : Tx K mg) : mg "isinstance" = none := by
  obtain ⟨h, X, G⟩ := T.hx
  exact He.free_ok X G (T.s.d.fact 61 (f := .free "isinstance") rfl)
theorem Tx.repr_ (T : Tx K mg) : mg "repr" = none := by
  obtain ⟨h, X, G⟩ := T.hx
  exact He.free_ok X G (T.s.d.fact 62 (f := .free "repr") rfl)
theorem Tx.bool_ (T : Tx K mg) : mg "bool" = none := by
  obtain ⟨h, X, G⟩ := T.hx
  exact He.free_ok X G (T.s.d.fact 63 (f := .free "bool") rfl)
theorem Tx.most (T : Tx K mg) : ∃ u, mg "MOST" = some u ∧ RelV (.int 40) u := by
  obtain ⟨h, X, G⟩ := T.hx
  obtain ⟨t, e⟩ := He.int_ok X G (T.s.d.fact 64 (f := .int "MOST" 40) rfl)
  exact ⟨_, e, t, rfl⟩
theorem Tx.clF (T : Tx K mg) : Cls K (aF K) := He.cls_ok (T.s.d.fact 65 (f := .cls "Flow") rfl)
theorem Tx.mkF (T : Tx K mg) : Mk K (aF K) (He.ma K (aF K) "__init__") := He.mkr_ok (T.s.d.fact 66 (f := .mkr "Flow") rfl)
theorem Tx.na_nodes (T : Tx K mg) : NoAttr K (aF K) "_nodes" := He.noat_ok (T.s.d.fact 67 (f := .noat "Flow" "_nodes") rfl)
theorem Tx.na_tails (T : Tx K mg) : NoAttr K (aF K) "_tails" := He.noat_ok (T.s.d.fact 68 (f := .noat "Flow" "_tails") rfl)
theorem Tx.na_heads (T : Tx K mg) : NoAttr K (aF K) "_heads" := He.noat_ok (T.s.d.fact 69 (f := .noat "Flow" "_heads") rfl)
theorem Tx.na_rooms (T : Tx K mg) : NoAttr K (aF K) "_rooms" := He.noat_ok (T.s.d.fact 70 (f := .noat "Flow" "_rooms") rfl)
theorem Tx.na_gains (T : Tx K mg) : NoAttr K (aF K) "_gains" := He.noat_ok (T.s.d.fact 71 (f := .noat "Flow" "_gains") rfl)
theorem Tx.clO (T : Tx K mg) : Cls K (aO K) := He.cls_ok (T.s.d.fact 72 (f := .cls "Order") rfl)
theorem Tx.mkO (T : Tx K mg) : Mk K (aO K) (He.ma K (aO K) "__init__") := He.mkr_ok (T.s.d.fact 73 (f := .mkr "Order") rfl)
theorem Tx.na_size (T : Tx K mg) : NoAttr K (aO K) "_size" := He.noat_ok (T.s.d.fact 74 (f := .noat "Order" "_size") rfl)
theorem Tx.na_up (T : Tx K mg) : NoAttr K (aO K) "_up" := He.noat_ok (T.s.d.fact 75 (f := .noat "Order" "_up") rfl)
theorem Tx.na_down (T : Tx K mg) : NoAttr K (aO K) "_down" := He.noat_ok (T.s.d.fact 76 (f := .noat "Order" "_down") rfl)
theorem Tx.na_pairs (T : Tx K mg) : NoAttr K (aO K) "_pairs" := He.noat_ok (T.s.d.fact 77 (f := .noat "Order" "_pairs") rfl)
theorem Tx.clC (T : Tx K mg) : Cls K (aC K) := He.cls_ok (T.s.d.fact 78 (f := .cls "ChainFlow") rfl)
theorem Tx.mkC (T : Tx K mg) : Mk K (aC K) (He.ma K (aC K) "__init__") := He.mkr_ok (T.s.d.fact 79 (f := .mkr "ChainFlow") rfl)
theorem Tx.na_order (T : Tx K mg) : NoAttr K (aC K) "_order" := He.noat_ok (T.s.d.fact 80 (f := .noat "ChainFlow" "_order") rfl)
theorem Tx.na_flow (T : Tx K mg) : NoAttr K (aC K) "_flow" := He.noat_ok (T.s.d.fact 81 (f := .noat "ChainFlow" "_flow") rfl)
theorem Tx.na_gaining (T : Tx K mg) : NoAttr K (aC K) "_gaining" := He.noat_ok (T.s.d.fact 82 (f := .noat "ChainFlow" "_gaining") rfl)
theorem Tx.na_units (T : Tx K mg) : NoAttr K (aC K) "units" := He.noat_ok (T.s.d.fact 83 (f := .noat "ChainFlow" "units") rfl)
theorem Tx.me_add_arc (T : Tx K mg) : Meth K (aF K) "add_arc" (He.ma K (aF K) "add_arc") := He.meth_ok (T.s.d.fact 84 (f := .meth "Flow" "add_arc") rfl)
theorem Tx.me_flows (T : Tx K mg) : Meth K (aF K) "flows" (He.ma K (aF K) "flows") := He.meth_ok (T.s.d.fact 85 (f := .meth "Flow" "flows") rfl)
theorem Tx.me_head (T : Tx K mg) : Meth K (aF K) "head" (He.ma K (aF K) "head") := He.meth_ok (T.s.d.fact 86 (f := .meth "Flow" "head") rfl)
theorem Tx.me_arcs_from (T : Tx K mg) : Meth K (aF K) "arcs_from" (He.ma K (aF K) "arcs_from") := He.meth_ok (T.s.d.fact 87 (f := .meth "Flow" "arcs_from") rfl)
theorem Tx.me_gains_from (T : Tx K mg) : Meth K (aF K) "gains_from" (He.ma K (aF K) "gains_from") := He.meth_ok (T.s.d.fact 88 (f := .meth "Flow" "gains_from") rfl)
theorem Tx.me_push (T : Tx K mg) : Meth K (aF K) "push" (He.ma K (aF K) "push") := He.meth_ok (T.s.d.fact 89 (f := .meth "Flow" "push") rfl)
theorem Tx.me_below (T : Tx K mg) : Meth K (aO K) "below" (He.ma K (aO K) "below") := He.meth_ok (T.s.d.fact 90 (f := .meth "Order" "below") rfl)
theorem Tx.me_apart (T : Tx K mg) : Meth K (aO K) "apart" (He.ma K (aO K) "apart") := He.meth_ok (T.s.d.fact 91 (f := .meth "Order" "apart") rfl)
theorem Tx.me_pairs (T : Tx K mg) : Meth K (aO K) "pairs" (He.ma K (aO K) "pairs") := He.meth_ok (T.s.d.fact 92 (f := .meth "Order" "pairs") rfl)
theorem Tx.me_next_gain (T : Tx K mg) : Meth K (aC K) "next_gain" (He.ma K (aC K) "next_gain") := He.meth_ok (T.s.d.fact 93 (f := .meth "ChainFlow" "next_gain") rfl)
theorem Tx.me_add_unit (T : Tx K mg) : Meth K (aC K) "add_unit" (He.ma K (aC K) "add_unit") := He.meth_ok (T.s.d.fact 94 (f := .meth "ChainFlow" "add_unit") rfl)
theorem Tx.me_chains (T : Tx K mg) : Meth K (aC K) "chains" (He.ma K (aC K) "chains") := He.meth_ok (T.s.d.fact 95 (f := .meth "ChainFlow" "chains") rfl)
theorem Tx.me_prices (T : Tx K mg) : Meth K (aC K) "prices" (He.ma K (aC K) "prices") := He.meth_ok (T.s.d.fact 96 (f := .meth "ChainFlow" "prices") rfl)
theorem Tx.me_sets (T : Tx K mg) : Meth K (aC K) "sets" (He.ma K (aC K) "sets") := He.meth_ok (T.s.d.fact 97 (f := .meth "ChainFlow" "sets") rfl)
theorem Tx.prop (T : Tx K mg) : PropOf K (aO K) "size" (He.ma K (aO K) "size") (getAd K "Order" "size") := T.s.prop
theorem Tx.d_f_init (T : Tx K mg) : ∃ fd, FunD K "__init__" "Flow.__init__" (defArgs s_f_init) (defBody s_f_init) (defScope s_f_init) [] [] (He.ma K (aF K) "__init__") fd := T.s.d.def_ 0 (d := Dr.d_f_init) rfl
theorem Tx.d_f_add_arc (T : Tx K mg) : ∃ fd, FunD K "add_arc" "Flow.add_arc" (defArgs s_f_add_arc) (defBody s_f_add_arc) (defScope s_f_add_arc) [] [] (He.ma K (aF K) "add_arc") fd := T.s.d.def_ 1 (d := Dr.d_f_add_arc) rfl
theorem Tx.d_f_flows (T : Tx K mg) : ∃ fd, FunD K "flows" "Flow.flows" (defArgs s_f_flows) (defBody s_f_flows) (defScope s_f_flows) [] [] (He.ma K (aF K) "flows") fd := T.s.d.def_ 2 (d := Dr.d_f_flows) rfl
theorem Tx.d_f_head (T : Tx K mg) : ∃ fd, FunD K "head" "Flow.head" (defArgs s_f_head) (defBody s_f_head) (defScope s_f_head) [] [] (He.ma K (aF K) "head") fd := T.s.d.def_ 3 (d := Dr.d_f_head) rfl
theorem Tx.d_f_arcs_from (T : Tx K mg) : ∃ fd, FunD K "arcs_from" "Flow.arcs_from" (defArgs s_f_arcs_from) (defBody s_f_arcs_from) (defScope s_f_arcs_from) [] [] (He.ma K (aF K) "arcs_from") fd := T.s.d.def_ 4 (d := Dr.d_f_arcs_from) rfl
theorem Tx.d_f_gains_from (T : Tx K mg) : ∃ fd, FunD K "gains_from" "Flow.gains_from" (defArgs s_f_gains_from) (defBody s_f_gains_from) (defScope s_f_gains_from) [] [] (He.ma K (aF K) "gains_from") fd := T.s.d.def_ 5 (d := Dr.d_f_gains_from) rfl
theorem Tx.d_f_push (T : Tx K mg) : ∃ fd, FunD K "push" "Flow.push" (defArgs s_f_push) (defBody s_f_push) (defScope s_f_push) [] [] (He.ma K (aF K) "push") fd := T.s.d.def_ 6 (d := Dr.d_f_push) rfl
theorem Tx.d_elements_of (T : Tx K mg) : ∃ fd, FunD K "elements_of" "elements_of" (defArgs s_elements_of) (defBody s_elements_of) (defScope s_elements_of) [] [] (He.ga K "elements_of") fd := T.s.d.def_ 7 (d := Dr.d_elements_of) rfl
theorem Tx.d_mask_of (T : Tx K mg) : ∃ fd, FunD K "mask_of" "mask_of" (defArgs s_mask_of) (defBody s_mask_of) (defScope s_mask_of) [] [] (He.ga K "mask_of") fd := T.s.d.def_ 8 (d := Dr.d_mask_of) rfl
theorem Tx.d_found_ring (T : Tx K mg) : ∃ fd, FunD K "found_ring" "found_ring" (defArgs s_found_ring) (defBody s_found_ring) (defScope s_found_ring) [] [] (He.ga K "found_ring") fd := T.s.d.def_ 9 (d := Dr.d_found_ring) rfl
theorem Tx.d_closed_masks (T : Tx K mg) : ∃ fd, FunD K "closed_masks" "closed_masks" (defArgs s_closed_masks) (defBody s_closed_masks) (defScope s_closed_masks) [] [] (He.ga K "closed_masks") fd := T.s.d.def_ 10 (d := Dr.d_closed_masks) rfl
theorem Tx.d_o_init (T : Tx K mg) : ∃ fd, FunD K "__init__" "Order.__init__" (defArgs s_o_init) (defBody s_o_init) (defScope s_o_init) [] [] (He.ma K (aO K) "__init__") fd := T.s.d.def_ 11 (d := Dr.d_o_init) rfl
theorem Tx.d_o_below (T : Tx K mg) : ∃ fd, FunD K "below" "Order.below" (defArgs s_o_below) (defBody s_o_below) (defScope s_o_below) [] [] (He.ma K (aO K) "below") fd := T.s.d.def_ 12 (d := Dr.d_o_below) rfl
theorem Tx.d_o_apart (T : Tx K mg) : ∃ fd, FunD K "apart" "Order.apart" (defArgs s_o_apart) (defBody s_o_apart) (defScope s_o_apart) [] [] (He.ma K (aO K) "apart") fd := T.s.d.def_ 13 (d := Dr.d_o_apart) rfl
theorem Tx.d_o_pairs (T : Tx K mg) : ∃ fd, FunD K "pairs" "Order.pairs" (defArgs s_o_pairs) (defBody s_o_pairs) (defScope s_o_pairs) [] [] (He.ma K (aO K) "pairs") fd := T.s.d.def_ 14 (d := Dr.d_o_pairs) rfl
theorem Tx.d_is_chain (T : Tx K mg) : ∃ fd, FunD K "is_chain" "is_chain" (defArgs s_is_chain) (defBody s_is_chain) (defScope s_is_chain) [] [] (He.ga K "is_chain") fd := T.s.d.def_ 15 (d := Dr.d_is_chain) rfl
theorem Tx.d_is_antichain (T : Tx K mg) : ∃ fd, FunD K "is_antichain" "is_antichain" (defArgs s_is_antichain) (defBody s_is_antichain) (defScope s_is_antichain) [] [] (He.ga K "is_antichain") fd := T.s.d.def_ 16 (d := Dr.d_is_antichain) rfl
theorem Tx.d_parts_all (T : Tx K mg) : ∃ fd, FunD K "parts_all" "parts_all" (defArgs s_parts_all) (defBody s_parts_all) (defScope s_parts_all) [] [] (He.ga K "parts_all") fd := T.s.d.def_ 17 (d := Dr.d_parts_all) rfl
theorem Tx.d_c_init (T : Tx K mg) : ∃ fd, FunD K "__init__" "ChainFlow.__init__" (defArgs s_c_init) (defBody s_c_init) (defScope s_c_init) [] [] (He.ma K (aC K) "__init__") fd := T.s.d.def_ 18 (d := Dr.d_c_init) rfl
theorem Tx.d_c_next_gain (T : Tx K mg) : ∃ fd, FunD K "next_gain" "ChainFlow.next_gain" (defArgs s_c_next_gain) (defBody s_c_next_gain) (defScope s_c_next_gain) [] [] (He.ma K (aC K) "next_gain") fd := T.s.d.def_ 19 (d := Dr.d_c_next_gain) rfl
theorem Tx.d_c_add_unit (T : Tx K mg) : ∃ fd, FunD K "add_unit" "ChainFlow.add_unit" (defArgs s_c_add_unit) (defBody s_c_add_unit) (defScope s_c_add_unit) [] [] (He.ma K (aC K) "add_unit") fd := T.s.d.def_ 20 (d := Dr.d_c_add_unit) rfl
theorem Tx.d_c_chains (T : Tx K mg) : ∃ fd, FunD K "chains" "ChainFlow.chains" (defArgs s_c_chains) (defBody s_c_chains) (defScope s_c_chains) [] [] (He.ma K (aC K) "chains") fd := T.s.d.def_ 21 (d := Dr.d_c_chains) rfl
theorem Tx.d_c_prices (T : Tx K mg) : ∃ fd, FunD K "prices" "ChainFlow.prices" (defArgs s_c_prices) (defBody s_c_prices) (defScope s_c_prices) [] [] (He.ma K (aC K) "prices") fd := T.s.d.def_ 22 (d := Dr.d_c_prices) rfl
theorem Tx.d_c_sets (T : Tx K mg) : ∃ fd, FunD K "sets" "ChainFlow.sets" (defArgs s_c_sets) (defBody s_c_sets) (defScope s_c_sets) [] [] (He.ma K (aC K) "sets") fd := T.s.d.def_ 23 (d := Dr.d_c_sets) rfl
theorem Tx.d_chain_cover (T : Tx K mg) : ∃ fd, FunD K "chain_cover" "chain_cover" (defArgs s_chain_cover) (defBody s_chain_cover) (defScope s_chain_cover) [] [] (He.ga K "chain_cover") fd := T.s.d.def_ 24 (d := Dr.d_chain_cover) rfl
theorem Tx.d_bound_of (T : Tx K mg) : ∃ fd, FunD K "bound_of" "bound_of" (defArgs s_bound_of) (defBody s_bound_of) (defScope s_bound_of) [] [] (He.ga K "bound_of") fd := T.s.d.def_ 25 (d := Dr.d_bound_of) rfl
theorem Tx.d_shows_chain_cover (T : Tx K mg) : ∃ fd, FunD K "shows_chain_cover" "shows_chain_cover" (defArgs s_shows_chain_cover) (defBody s_shows_chain_cover) (defScope s_shows_chain_cover) [] [] (He.ga K "shows_chain_cover") fd := T.s.d.def_ 26 (d := Dr.d_shows_chain_cover) rfl
theorem Tx.d_w_cell (T : Tx K mg) : ∃ fd, FunD K "_law_cell" "_law_cell" (defArgs s_w_cell) (defBody s_w_cell) (defScope s_w_cell) [] [] (He.ga K "_law_cell") fd := T.s.d.def_ 27 (d := Dr.d_w_cell) rfl
theorem Tx.d_w_stream (T : Tx K mg) : ∃ fd, FunD K "_law_stream" "_law_stream" (defArgs s_w_stream) (defBody s_w_stream) (defScope s_w_stream) [] [] (He.ga K "_law_stream") fd := T.s.d.def_ 28 (d := Dr.d_w_stream) rfl
theorem Tx.d_w_draw (T : Tx K mg) : ∃ fd, FunD K "_law_draw" "_law_draw" (defArgs s_w_draw) (defBody s_w_draw) (defScope s_w_draw) [] [] (He.ga K "_law_draw") fd := T.s.d.def_ 29 (d := Dr.d_w_draw) rfl
theorem Tx.d_w_mixed (T : Tx K mg) : ∃ fd, FunD K "_law_mixed" "_law_mixed" (defArgs s_w_mixed) (defBody s_w_mixed) (defScope s_w_mixed) [] [] (He.ga K "_law_mixed") fd := T.s.d.def_ 30 (d := Dr.d_w_mixed) rfl
theorem Tx.d_w_closed (T : Tx K mg) : ∃ fd, FunD K "_law_closed" "_law_closed" (defArgs s_w_closed) (defBody s_w_closed) (defScope s_w_closed) [] [] (He.ga K "_law_closed") fd := T.s.d.def_ 31 (d := Dr.d_w_closed) rfl
theorem Tx.d_w_pairs (T : Tx K mg) : ∃ fd, FunD K "_law_pairs" "_law_pairs" (defArgs s_w_pairs) (defBody s_w_pairs) (defScope s_w_pairs) [] [] (He.ga K "_law_pairs") fd := T.s.d.def_ 32 (d := Dr.d_w_pairs) rfl
theorem Tx.d_w_apart (T : Tx K mg) : ∃ fd, FunD K "_law_apart" "_law_apart" (defArgs s_w_apart) (defBody s_w_apart) (defScope s_w_apart) [] [] (He.ga K "_law_apart") fd := T.s.d.def_ 33 (d := Dr.d_w_apart) rfl
theorem Tx.d_w_covers (T : Tx K mg) : ∃ fd, FunD K "_law_covers" "_law_covers" (defArgs s_w_covers) (defBody s_w_covers) (defScope s_w_covers) [] [] (He.ga K "_law_covers") fd := T.s.d.def_ 34 (d := Dr.d_w_covers) rfl
theorem Tx.d_w_is_integer (T : Tx K mg) : ∃ fd, FunD K "_law_is_integer" "_law_is_integer" (defArgs s_w_is_integer) (defBody s_w_is_integer) (defScope s_w_is_integer) [] [] (He.ga K "_law_is_integer") fd := T.s.d.def_ 35 (d := Dr.d_w_is_integer) rfl
theorem Tx.d_w_said (T : Tx K mg) : ∃ fd, FunD K "_law_said" "_law_said" (defArgs s_w_said) (defBody s_w_said) (defScope s_w_said) [] [] (He.ga K "_law_said") fd := T.s.d.def_ 36 (d := Dr.d_w_said) rfl
theorem Tx.d_w_are_integers (T : Tx K mg) : ∃ fd, FunD K "_law_are_integers" "_law_are_integers" (defArgs s_w_are_integers) (defBody s_w_are_integers) (defScope s_w_are_integers) [] [] (He.ga K "_law_are_integers") fd := T.s.d.def_ 37 (d := Dr.d_w_are_integers) rfl
theorem Tx.d_w_same_table (T : Tx K mg) : ∃ fd, FunD K "_law_same_table" "_law_same_table" (defArgs s_w_same_table) (defBody s_w_same_table) (defScope s_w_same_table) [] [] (He.ga K "_law_same_table") fd := T.s.d.def_ 38 (d := Dr.d_w_same_table) rfl
theorem Tx.d_w_any_pairs (T : Tx K mg) : ∃ fd, FunD K "_law_any_pairs" "_law_any_pairs" (defArgs s_w_any_pairs) (defBody s_w_any_pairs) (defScope s_w_any_pairs) [] [] (He.ga K "_law_any_pairs") fd := T.s.d.def_ 39 (d := Dr.d_w_any_pairs) rfl
theorem Tx.d_w_any_spans (T : Tx K mg) : ∃ fd, FunD K "_law_any_spans" "_law_any_spans" (defArgs s_w_any_spans) (defBody s_w_any_spans) (defScope s_w_any_spans) [] [] (He.ga K "_law_any_spans") fd := T.s.d.def_ 40 (d := Dr.d_w_any_spans) rfl
theorem Tx.d_w_by_spans (T : Tx K mg) : ∃ fd, FunD K "_law_by_spans" "_law_by_spans" (defArgs s_w_by_spans) (defBody s_w_by_spans) (defScope s_w_by_spans) [] [] (He.ga K "_law_by_spans") fd := T.s.d.def_ 41 (d := Dr.d_w_by_spans) rfl
theorem Tx.d_w_by_rows (T : Tx K mg) : ∃ fd, FunD K "_law_by_rows" "_law_by_rows" (defArgs s_w_by_rows) (defBody s_w_by_rows) (defScope s_w_by_rows) [] [] (He.ga K "_law_by_rows") fd := T.s.d.def_ 42 (d := Dr.d_w_by_rows) rfl
theorem Tx.d_w_any_tree (T : Tx K mg) : ∃ fd, FunD K "_law_any_tree" "_law_any_tree" (defArgs s_w_any_tree) (defBody s_w_any_tree) (defScope s_w_any_tree) [] [] (He.ga K "_law_any_tree") fd := T.s.d.def_ 43 (d := Dr.d_w_any_tree) rfl
theorem Tx.d_w_tree_members (T : Tx K mg) : ∃ fd, FunD K "_law_tree_members" "_law_tree_members" (defArgs s_w_tree_members) (defBody s_w_tree_members) (defScope s_w_tree_members) [] [] (He.ga K "_law_tree_members") fd := T.s.d.def_ 44 (d := Dr.d_w_tree_members) rfl
theorem Tx.d_w_by_tree (T : Tx K mg) : ∃ fd, FunD K "_law_by_tree" "_law_by_tree" (defArgs s_w_by_tree) (defBody s_w_by_tree) (defScope s_w_by_tree) [] [] (He.ga K "_law_by_tree") fd := T.s.d.def_ 45 (d := Dr.d_w_by_tree) rfl
theorem Tx.d_w_any_arcs (T : Tx K mg) : ∃ fd, FunD K "_law_any_arcs" "_law_any_arcs" (defArgs s_w_any_arcs) (defBody s_w_any_arcs) (defScope s_w_any_arcs) [] [] (He.ga K "_law_any_arcs") fd := T.s.d.def_ 46 (d := Dr.d_w_any_arcs) rfl
theorem Tx.d_w_by_arcs (T : Tx K mg) : ∃ fd, FunD K "_law_by_arcs" "_law_by_arcs" (defArgs s_w_by_arcs) (defBody s_w_by_arcs) (defScope s_w_by_arcs) [] [] (He.ga K "_law_by_arcs") fd := T.s.d.def_ 47 (d := Dr.d_w_by_arcs) rfl
theorem Tx.d_w_any_parents (T : Tx K mg) : ∃ fd, FunD K "_law_any_parents" "_law_any_parents" (defArgs s_w_any_parents) (defBody s_w_any_parents) (defScope s_w_any_parents) [] [] (He.ga K "_law_any_parents") fd := T.s.d.def_ 48 (d := Dr.d_w_any_parents) rfl
theorem Tx.d_w_by_parents (T : Tx K mg) : ∃ fd, FunD K "_law_by_parents" "_law_by_parents" (defArgs s_w_by_parents) (defBody s_w_by_parents) (defScope s_w_by_parents) [] [] (He.ga K "_law_by_parents") fd := T.s.d.def_ 49 (d := Dr.d_w_by_parents) rfl
theorem Tx.d_w_by_ranks (T : Tx K mg) : ∃ fd, FunD K "_law_by_ranks" "_law_by_ranks" (defArgs s_w_by_ranks) (defBody s_w_by_ranks) (defScope s_w_by_ranks) [] [] (He.ga K "_law_by_ranks") fd := T.s.d.def_ 50 (d := Dr.d_w_by_ranks) rfl
theorem Tx.d_w_crown (T : Tx K mg) : ∃ fd, FunD K "_law_crown" "_law_crown" (defArgs s_w_crown) (defBody s_w_crown) (defScope s_w_crown) [] [] (He.ga K "_law_crown") fd := T.s.d.def_ 51 (d := Dr.d_w_crown) rfl
theorem Tx.d_w_family (T : Tx K mg) : ∃ fd, FunD K "_law_family" "_law_family" (defArgs s_w_family) (defBody s_w_family) (defScope s_w_family) [] [] (He.ga K "_law_family") fd := T.s.d.def_ 52 (d := Dr.d_w_family) rfl
theorem Tx.d_w_any_order (T : Tx K mg) : ∃ fd, FunD K "_law_any_order" "_law_any_order" (defArgs s_w_any_order) (defBody s_w_any_order) (defScope s_w_any_order) [] [] (He.ga K "_law_any_order") fd := T.s.d.def_ 53 (d := Dr.d_w_any_order) rfl
theorem Tx.d_w_told (T : Tx K mg) : ∃ fd, FunD K "_law_told" "_law_told" (defArgs s_w_told) (defBody s_w_told) (defScope s_w_told) [] [] (He.ga K "_law_told") fd := T.s.d.def_ 54 (d := Dr.d_w_told) rfl
theorem Tx.d_w_is_antichain (T : Tx K mg) : ∃ fd, FunD K "_law_is_antichain" "_law_is_antichain" (defArgs s_w_is_antichain) (defBody s_w_is_antichain) (defScope s_w_is_antichain) [] [] (He.ga K "_law_is_antichain") fd := T.s.d.def_ 55 (d := Dr.d_w_is_antichain) rfl
theorem Tx.d_w_is_chain (T : Tx K mg) : ∃ fd, FunD K "_law_is_chain" "_law_is_chain" (defArgs s_w_is_chain) (defBody s_w_is_chain) (defScope s_w_is_chain) [] [] (He.ga K "_law_is_chain") fd := T.s.d.def_ 56 (d := Dr.d_w_is_chain) rfl
theorem Tx.d_w_parts_all (T : Tx K mg) : ∃ fd, FunD K "_law_parts_all" "_law_parts_all" (defArgs s_w_parts_all) (defBody s_w_parts_all) (defScope s_w_parts_all) [] [] (He.ga K "_law_parts_all") fd := T.s.d.def_ 57 (d := Dr.d_w_parts_all) rfl
theorem Tx.d_w_are_lists (T : Tx K mg) : ∃ fd, FunD K "_law_are_lists" "_law_are_lists" (defArgs s_w_are_lists) (defBody s_w_are_lists) (defScope s_w_are_lists) [] [] (He.ga K "_law_are_lists") fd := T.s.d.def_ 58 (d := Dr.d_w_are_lists) rfl
theorem Tx.d_w_bound (T : Tx K mg) : ∃ fd, FunD K "_law_bound" "_law_bound" (defArgs s_w_bound) (defBody s_w_bound) (defScope s_w_bound) [] [] (He.ga K "_law_bound") fd := T.s.d.def_ 59 (d := Dr.d_w_bound) rfl
theorem Tx.d_law (T : Tx K mg) : ∃ fd, FunD K "law" "law" (defArgs s_law) (defBody s_law) (defScope s_law) [] [] (He.ga K "law") fd := T.s.d.def_ 60 (d := Dr.d_law) rfl
/-! a def, a method, a class's maker, by its body -/
section
variable {P : Program} {w : World} {base : Heap} {x qual m : Str} {st : Stmt} {f C : Addr} {fd : FuncData} {N ps : List Str} {k : Nat} {sp : Sp}
/-- what a body has to show -/
abbrev BodyOk (P : Program) (w : World) (K : Frg) (mg : Str → Option Value) (base : Heap) (N : List Str) (qual : Str) (st : Stmt) (f : Addr) (k : Nat) (sp : Sp) : Prop :=
  ∀ (cdv : Value) (A : Around) (outer : List Env) (s : Shared) (H : Hp) (vs : List V) (Q : VK) (E : XK), Room k (A.deeper (envOfC qual (defScope st) s.heap.objs.size f cdv)) → sp vs H Q E →
    ∃ t, PSs (cxOf CX0 P w K mg base N qual (defScope st) f cdv A outer s H E).nox (defBody st) t ∧ t { nx := fun _ H' => Q .non H', rt := Q } (start N vs) H
theorem fnOk_by (F : FunD K x qual (defArgs st) (defBody st) (defScope st) [] [] f fd) (S : FnScope N ps (defScope st)) (len : ∀ vs H Q E, sp vs H Q E → vs.length = ps.length) (hb : BodyOk P w K mg base N qual st f k sp) :
    FnOk P w K mg base CX0 (k + 1) f fd ps sp :=
  F.ok S len fun cdv A outer s H vs Q E hr h => by
    obtain ⟨t, h1, h2⟩ := hb cdv A outer s H vs Q E hr h
    exact ⟨t, h1.nox, h2⟩
theorem cal_by (F : FunD K x x (defArgs st) (defBody st) (defScope st) [] [] f fd) (hm : mg x = some (.ref f)) (b : Binds K fd ps []) (S : FnScope N ps (defScope st)) (len : ∀ vs H Q E, sp vs H Q E → vs.length = ps.length)
    (hb : BodyOk P w K mg base N x st f k sp) : C8.Cal P w K mg base (k + 1) x sp [] :=
  ⟨f, fd, ps, [], fnOk_by F S len hb, hm, F.kp, b, .nil⟩
theorem met_by (F : FunD K m qual (defArgs st) (defBody st) (defScope st) [] [] f fd) (c : Cls K C) (me : Meth K C m f) (b : Binds K fd ps []) (S : FnScope N ps (defScope st)) (len : ∀ vs H Q E, sp vs H Q E → vs.length = ps.length)
    (hb : BodyOk P w K mg base N qual st f k sp) : C8.Met P w K mg base (k + 1) C m sp [] :=
  ⟨f, fd, ps, [], c, me, fnOk_by F S len hb, b, .nil⟩
theorem mak_by (F : FunD K "__init__" qual (defArgs st) (defBody st) (defScope st) [] [] f fd) (M : Mk K C f) (hm : mg x = some (.ref C)) (b : Binds K fd ps []) (S : FnScope N ps (defScope st)) (len : ∀ vs H Q E, sp vs H Q E → vs.length = ps.length)
    (hb : BodyOk P w K mg base N qual st f k sp) : C8.Mak P w K mg base (k + 1) x C sp [] :=
  ⟨f, fd, ps, [], M, fnOk_by F S len hb, hm, b, .nil⟩
end
end
end Dr

/-! Readings stepped one by one: a lemma for each reading's head, and a stepping word. -/
namespace Dr
open PySem PySem.Spec PyProof.Rows L2
section
variable {K : Frg} {σ : L2.St} {H : Hp} {Q : VK} {D : Ends} {ta tb tc te : TE} {t u : TT} {ts us : TS} {x y v : V} {i j : Int} {a b p q C dx : Addr} {r : R2}
theorem z_var {n : Nat} (h : σ[n]? = some (some v)) (k : Q v H) : tVar n σ H Q := ⟨v, h, k⟩
theorem z_c (k : Q v H) : tC v σ H Q := k
theorem z_op (k : ta σ H fun x H1 => tb σ H1 fun y H2 => r x y H2 Q) : tOp r ta tb σ H Q := k
theorem z_un {r : V → Hp → VK → Prop} (k : ta σ H fun x H1 => r x H1 Q) : tUn r ta σ H Q := k
theorem z_I0 {g : Int → Int → V} (k : Q (g i j) H) : rI0 g (.int i) (.int j) H Q := ⟨i, j, rfl, rfl, k⟩
theorem z_I {c : Int → Int → Prop} {g : Int → Int → V} (hc : c i j) (k : Q (g i j) H) : rI c g (.int i) (.int j) H Q := ⟨i, j, rfl, rfl, hc, k⟩
theorem z_U {g : Int → V} (k : Q (g i) H) : rU g (.int i) H Q := ⟨i, rfl, k⟩
theorem z_eqI (k : Q (.bl (decide (i = j))) H) : rEq (.int i) (.int j) H Q := by
  refine ⟨rfl, ?_⟩
  have e : decide (V.int i = V.int j) = decide (i = j) := by
    by_cases h : i = j
    · subst h; simp
    · rw [decide_eq_false h, decide_eq_false (fun q => h (by cases q; rfl))]
  rw [e]; exact k
theorem z_neI (k : Q (.bl (!decide (i = j))) H) : rNe (.int i) (.int j) H Q := by
  refine ⟨rfl, ?_⟩
  have e : decide (V.int i = V.int j) = decide (i = j) := by
    by_cases h : i = j
    · subst h; simp
    · rw [decide_eq_false h, decide_eq_false (fun q => h (by cases q; rfl))]
  rw [e]; exact k
theorem z_eqS {m n : Str} (k : Q (.bl (decide (m = n))) H) : rEq (.str m) (.str n) H Q := by
  refine ⟨rfl, ?_⟩
  have e : decide (V.str m = V.str n) = decide (m = n) := by
    by_cases h : m = n
    · subst h; simp
    · rw [decide_eq_false h, decide_eq_false (fun q => h (by cases q; rfl))]
  rw [e]; exact k
theorem z_eqB {m n : Bool} (k : Q (.bl (decide (m = n))) H) : rEq (.bl m) (.bl n) H Q := by
  refine ⟨rfl, ?_⟩
  have e : decide (V.bl m = V.bl n) = decide (m = n) := by
    by_cases h : m = n
    · subst h; simp
    · rw [decide_eq_false h, decide_eq_false (fun q => h (by cases q; rfl))]
  rw [e]; exact k
theorem z_test {Qb : Bool → Hp → Prop} (k : te σ H fun x H' => ∃ k, x = .bl k ∧ Qb k H') : tTest te σ H Qb := k
theorem z_B {Qb : Bool → Hp → Prop} (k : te σ H fun x H' => ∃ k, x = .bl k ∧ Qb k H') : tB te σ H Qb := k
theorem z_bl {c : Bool} {Qb : Bool → Prop} (k : Qb c) : ∃ k, V.bl c = .bl k ∧ Qb k := ⟨c, rfl, k⟩
theorem z_and {Qb : Bool → Hp → Prop} (k : t σ H fun c H1 => if c = true then u σ H1 Qb else Qb false H1) : tAnd t u σ H Qb := k
theorem z_or {Qb : Bool → Hp → Prop} (k : t σ H fun c H1 => if c = true then Qb true H1 else u σ H1 Qb) : tOr t u σ H Qb := k
theorem z_not {Qb : Bool → Hp → Prop} (k : t σ H fun c H1 => Qb (!c) H1) : tNot t σ H Qb := k
theorem z_andV (k : ta σ H fun x H1 => ∃ c, x = .bl c ∧ if c = true then tb σ H1 Q else Q (.bl false) H1) : tAndV ta tb σ H Q := k
theorem z_orV (k : ta σ H fun x H1 => ∃ c, x = .bl c ∧ if c = true then Q (.bl true) H1 else tb σ H1 Q) : tOrV ta tb σ H Q := k
theorem z_notV (k : ta σ H fun x H1 => ∃ c, x = .bl c ∧ Q (.bl (!c)) H1) : tNotV ta σ H Q := k
theorem z_chain {r r' : R2} (k : ta σ H fun x H1 => tb σ H1 fun y H2 => r x y H2 fun z H3 => ∃ k, z = .bl k ∧ (if k = true then tc σ H3 fun w' H4 => r' y w' H4 Q else Q (.bl false) H3)) : tChain r r' ta tb tc σ H Q := k
/-- an if by what decides it -/
theorem z_if {c : Prop} [Decidable c] {A B : Prop} (h1 : c → A) (h2 : ¬ c → B) : if decide c = true then A else B := by
  by_cases h : c
  · rw [if_pos (decide_eq_true h)]; exact h1 h
  · rw [if_neg (fun q => h (of_decide_eq_true q))]; exact h2 h
theorem z_ifN {c : Prop} [Decidable c] {A B : Prop} (h1 : ¬ c → A) (h2 : c → B) : if (!decide c) = true then A else B := by
  by_cases h : c
  · rw [decide_eq_true h, if_neg (by simp)]; exact h2 h
  · rw [decide_eq_false h, if_pos (by simp)]; exact h1 h
theorem z_ifB {c : Bool} {A B : Prop} (h1 : c = true → A) (h2 : c = false → B) : if c = true then A else B := by
  cases c with
  | true => rw [if_pos rfl]; exact h1 rfl
  | false => rw [if_neg (by simp)]; exact h2 rfl
theorem z_ifNB {c : Bool} {A B : Prop} (h1 : c = false → A) (h2 : c = true → B) : if (!c) = true then A else B := by
  cases c with
  | true => rw [if_neg (by simp)]; exact h2 rfl
  | false => rw [if_pos (by simp)]; exact h1 rfl
/-! statements -/
theorem z_seq (k : ts { D with nx := us D } σ H) : tSeq ts us D σ H := k
theorem z_next (k : D.nx σ H) : tNext D σ H := k
theorem z_cont (k : D.ct σ H) : tCont D σ H := k
theorem z_asg {g : TG} (k : te σ H fun x H1 => g x σ H1 D.nx) : tAsg te g D σ H := k
theorem z_gname {n : Nat} {Qs : L2.St → Hp → Prop} (k : Qs (σ.set n (some v)) H) : gName n v σ H Qs := k
theorem z_ret (k : te σ H D.rt) : tRet te D σ H := k
theorem z_retN (k : D.rt .non H) : tRetN D σ H := k
theorem z_drop (k : te σ H fun _ H1 => D.nx σ H1) : tDrop te D σ H := k
theorem z_ifS {us' : TS} (k : t σ H fun b H1 => if b = true then us D σ H1 else us' D σ H1) : tIfS t us us' D σ H := k
theorem z_aug {n : Nat} {ti : TIp} (h : σ[n]? = some (some x)) (k : te σ H fun y H1 => ti x y H1 fun z H2 => D.nx (σ.set n (some z)) H2) : tAug n te ti D σ H := ⟨x, h, k⟩
theorem z_ipI {f : Int → Int → Int} (k : Q (.int (f i j)) H) : ipI f (.int i) (.int j) H Q := ⟨i, j, rfl, rfl, k⟩
theorem z_gsub {to ti : TE} {tt : TSet} {Qs : L2.St → Hp → Prop} (k : to σ H fun o H1 => ti σ H1 fun i H2 => tt o i v H2 fun H3 => Qs σ H3) : gSub to ti tt v σ H Qs := k
theorem z_setL {xs : List V} {n : Nat} {Qh : Hp → Prop} (h : H p = some (.lst xs)) (hi : ixN xs.length i = some n) (k : Qh (upd H p (.lst (xs.set n v)))) : rSetL (.ref p) (.int i) v H Qh := ⟨p, xs, i, n, rfl, rfl, h, hi, k⟩
/-! calls, lists -/
theorem z_nil {Qs : List V → Hp → Prop} (k : Qs [] H) : tNil σ H Qs := k
theorem z_cons {tr : TA} {Qs : List V → Hp → Prop} (k : te σ H fun x H1 => tr σ H1 fun xs H2 => Qs (x :: xs) H2) : tCons te tr σ H Qs := k
theorem z_call {sp : Sp} {dvs : List V} {E : XK} {tr : TA} (k : tr σ H fun vs H1 => sp (vs ++ dvs) H1 Q E) : tCall sp dvs E tr σ H Q := k
theorem z_cb {rr : List V → Hp → VK → Prop} {tr : TA} (k : tr σ H fun vs H1 => rr vs H1 Q) : tCB rr tr σ H Q := k
theorem z_bm {T : String} {rr : V → List V → Hp → VK → Prop} {to : TE} {tr : TA} (k : to σ H fun x H1 => tyV K T x H1 ∧ tr σ H1 fun xs H2 => rr x xs H2 Q) : tBM K T rr to tr σ H Q := k
theorem z_bm0 {T : String} {rr : V → List V → Hp → VK → Prop} {to : TE} (k : to σ H fun x H1 => tyV K T x H1 ∧ rr x [] H1 Q) : tBM0 K T rr to σ H Q := k
theorem z_tyL {xs : List V} {R : Prop} (h : H p = some (.lst xs)) (k : R) : tyV K "list" (.ref p) H ∧ R := ⟨.inl ⟨rfl, xs, SqL.of h⟩, k⟩
theorem z_app {xs : List V} (h : H p = some (.lst xs)) (hl : xs.length < sizeLine) (k : Q .non (upd H p (.lst (xs ++ [y])))) : rAppend (.ref p) [y] H Q := ⟨p, xs, y, rfl, rfl, h, hl, k⟩
theorem z_ext {xs zs : List V} (h : H p = some (.lst xs)) (h2 : H q = some (.lst zs)) (hl : xs.length + zs.length ≤ sizeLine) (k : Q .non (upd H p (.lst (xs ++ zs)))) : rExtend (.ref p) [.ref q] H Q := ⟨p, q, xs, zs, rfl, rfl, h, h2, hl, k⟩
theorem z_cat {xs zs : List V} (h : H p = some (.lst xs)) (h2 : H q = some (.lst zs)) (hl : xs.length + zs.length ≤ sizeLine) (k : ∀ a, H a = none → Q (.ref a) (upd H a (.lst (xs ++ zs)))) : rCat (.ref p) (.ref q) H Q := ⟨p, q, xs, zs, rfl, rfl, h, h2, hl, k⟩
theorem z_lst {tr : TA} (k : tr σ H fun xs H1 => xs.length ≤ sizeLine ∧ ∀ p, H1 p = none → Q (.ref p) (upd H1 p (.lst xs))) : tLst tr σ H Q := k
theorem z_tup {tr : TA} (k : tr σ H fun xs H1 => xs.length ≤ sizeLine ∧ ∀ p, H1 p = none → Q (.ref p) (upd H1 p (.tup xs))) : tTup tr σ H Q := k
theorem z_ixL {xs : List V} (h : H p = some (.lst xs)) (ha : atI xs i = some v) (k : Q v H) : rIxL K (.ref p) (.int i) H Q := ⟨p, xs, i, v, rfl, rfl, SqL.of h, ha, k⟩
theorem z_ixT {xs : List V} (h : H p = some (.tup xs)) (ha : atI xs i = some v) (k : Q v H) : rIxT K (.ref p) (.int i) H Q := ⟨p, xs, i, v, rfl, rfl, SqT.of h, ha, k⟩
/-! heaps -/
theorem upd_old {o w : HO} (h : H b = some o) (hn : H a = none) : upd H a w b = some o := by rw [upd_ne (ne_of_none h hn)]; exact h
theorem none_old {w : HO} (h : upd H a w b = none) : H b = none := by
  by_cases e : b = a
  · subst e; rw [upd_same] at h; cases h
  · rw [upd_ne e] at h; exact h
theorem ne_new {o : HO} (h : H b = some o) (hn : H a = none) : b ≠ a := ne_of_none h hn
end
/-- the heap at these addresses may change, all else that is tracked stays -/
def ExB (S : List Addr) (H H' : Hp) : Prop := ∀ b o, b ∉ S → H b = some o → H' b = some o
section
variable {S T : List Addr} {H H1 H2 : Hp} {a b : Addr} {o : HO}
theorem ExB.refl : ExB S H H := fun _ _ _ h => h
theorem ExB.trans (h : ExB S H H1) (k : ExB S H1 H2) : ExB S H H2 := fun b o n e => k b o n (h b o n e)
theorem ExB.get (h : ExB S H H1) (e : H b = some o) (n : b ∉ S) : H1 b = some o := h b o n e
theorem ExB.new (n : H a = none) : ExB S H (upd H a o) := fun b w _ e => upd_old e n
theorem ExB.mut (m : a ∈ S) : ExB S H (upd H a o) := fun b w n e => by rw [upd_ne (fun q => n (by rw [q]; exact m))]; exact e
theorem ExB.mono (h : ExB S H H1) (s : ∀ x ∈ S, x ∈ T) : ExB T H H1 := fun b o n e => h b o (fun q => n (s b q)) e
/-- an address that was free and is changed -/
theorem ExB.free (h : ExB S H H1) (n : H a = none) : ExB S H (upd H1 a o) := fun b w m e => by rw [upd_ne (ne_of_none e n)]; exact h b w m e
theorem ExB.fresh (h : ExB S H H1) (n : H1 a = none) (m : a ∉ S) : H a = none := by
  cases e : H a with
  | none => rfl
  | some o => rw [h a o m e] at n; cases n
end
theorem upd_none {H : Hp} {a b : Addr} {o w : HO} (hn : H a = none) (h : H b = some o) : upd H a w b = some o := upd_old h hn
theorem at_nat {α : Type} {xs : List α} {n : Nat} {v : α} (h : xs[n]? = some v) : atI xs (n : Int) = some v := atI_nat h
/-- the script's stream: three numbers -/
def Str3 (H : Hp) (a : Addr) : Prop := ∃ g c z : Int, H a = some (.lst [.int g, .int c, .int z])
theorem size_ok {n : Nat} (h : n ≤ 100000) : n ≤ sizeLine := Nat.le_trans h (by decide)
theorem size_lt {n : Nat} (h : n < 100000) : n < sizeLine := Nat.lt_of_lt_of_le h (by decide)
/-! built-in calls, each by a reading of its own -/
section
variable {K : Frg} {σ : L2.St} {H : Hp} {Q : VK} {D : Ends} {ta tb te tl : TE} {tr : TA} {x y v : V} {i j c : Int} {a p q dx C : Addr} {X : Cx} {R : It → Hp → Prop} {g : TG} {ts : TS} {tt : TT} {vs : List Nat} {wi : TI}
def rInt : List V → Hp → VK → Prop := fun xs H Q => (∃ i, xs = [.int i] ∧ Q (.int i) H) ∨ ∃ k, xs = [.bl k] ∧ Q (.int (if k then 1 else 0)) H
theorem cr_int : CallR X (.type "int") rInt := call_int1
theorem z_int1 (k : Q (.int i) H) : rInt [.int i] H Q := .inl ⟨i, rfl, k⟩
theorem z_intB {b : Bool} (k : Q (.int (if b then 1 else 0)) H) : rInt [.bl b] H Q := .inr ⟨b, rfl, k⟩
def rLen (K : Frg) : List V → Hp → VK → Prop := fun xs H Q => ∃ p ys, xs = [.ref p] ∧ (SqL K H p ys ∨ SqT K H p ys) ∧ Q (.int ys.length) H
theorem cr_len : CallR X (.builtin "len") (rLen X.K) := call_len_seq
theorem z_len {xs : List V} (h : H p = some (.lst xs)) (k : Q (.int xs.length) H) : rLen K [.ref p] H Q := ⟨p, xs, rfl, .inl (SqL.of h), k⟩
theorem z_lenT {xs : List V} (h : H p = some (.tup xs)) (k : Q (.int xs.length) H) : rLen K [.ref p] H Q := ⟨p, xs, rfl, .inr (SqT.of h), k⟩
theorem z_lenS {xs : List V} (h : SqL K H p xs) (k : Q (.int xs.length) H) : rLen K [.ref p] H Q := ⟨p, xs, rfl, .inl h, k⟩
def rListOf (K : Frg) : List V → Hp → VK → Prop := fun xs H Q => ∃ p ys, xs = [.ref p] ∧ (SqL K H p ys ∨ SqT K H p ys) ∧ ∀ l, H l = none → Q (.ref l) (upd H l (.lst ys))
theorem cr_list : CallR X (.type "list") (rListOf X.K) := call_list_of
theorem z_listOf {xs : List V} (h : H p = some (.lst xs)) (k : ∀ l, H l = none → Q (.ref l) (upd H l (.lst xs))) : rListOf K [.ref p] H Q := ⟨p, xs, rfl, .inl (SqL.of h), k⟩
def rTupOf (K : Frg) : List V → Hp → VK → Prop := fun xs H Q => ∃ p ys, xs = [.ref p] ∧ ((SqL K H p ys ∧ ∀ l, H l = none → Q (.ref l) (upd H l (.tup ys))) ∨ (SqT K H p ys ∧ Q (.ref p) H))
theorem cr_tuple : CallR X (.type "tuple") (rTupOf X.K) := call_tuple_of
theorem z_tupOf {xs : List V} (h : H p = some (.lst xs)) (k : ∀ l, H l = none → Q (.ref l) (upd H l (.tup xs))) : rTupOf K [.ref p] H Q := ⟨p, xs, rfl, .inl ⟨SqL.of h, k⟩⟩
def rMin2 : List V → Hp → VK → Prop := fun xs H Q => ∃ i j, xs = [.int i, .int j] ∧ Q (.int (if j < i then j else i)) H
theorem cr_min2 (hc : X.calm = true) : CallR X (.builtin "min") rMin2 := call_min2 hc
theorem z_min2 (k : Q (.int (if j < i then j else i)) H) : rMin2 [.int i, .int j] H Q := ⟨i, j, rfl, k⟩
def rMax2 : List V → Hp → VK → Prop := fun xs H Q => ∃ i j, xs = [.int i, .int j] ∧ Q (.int (if j > i then j else i)) H
theorem cr_max2 (hc : X.calm = true) : CallR X (.builtin "max") rMax2 := call_max2 hc
theorem z_max2 (k : Q (.int (if j > i then j else i)) H) : rMax2 [.int i, .int j] H Q := ⟨i, j, rfl, k⟩
theorem z_sum {ns : List Int} (h : H p = some (.lst (ns.map V.int))) (k : Q (.int ns.sum) H) : rSum K [.ref p] H Q := ⟨p, ns, rfl, SqL.of h, k⟩
theorem z_all {bs : List Bool} (h : H p = some (.lst (bs.map V.bl))) (k : Q (.bl (bs.all id)) H) : rAll K [.ref p] H Q := ⟨p, bs, rfl, SqL.of h, k⟩
theorem z_any {bs : List Bool} (h : H p = some (.lst (bs.map V.bl))) (k : Q (.bl (bs.any id)) H) : rAny K [.ref p] H Q := ⟨p, bs, rfl, SqL.of h, k⟩
def rNoneI : R2 := fun x y H Q => y = .non ∧ Q (.bl (decide (x = .non))) H
def rNoneN : R2 := fun x y H Q => y = .non ∧ Q (.bl (!decide (x = .non))) H
theorem op_noneI : OpR X (compareOp .Is) rNoneI := op_isN
theorem op_noneN : OpR X (compareOp .IsNot) rNoneN := op_notN
theorem z_noneI (k : Q (.bl (decide (x = .non))) H) : rNoneI x .non H Q := ⟨rfl, k⟩
theorem z_noneN (k : Q (.bl (!decide (x = .non))) H) : rNoneN x .non H Q := ⟨rfl, k⟩
/-! fields -/
def kFld (K : Frg) (f : Str) (Q : VK) (x : V) (H : Hp) : Prop := ∃ a C dx fs v, x = .ref a ∧ H a = some (.ins C dx fs) ∧ Cls K C ∧ NoAttr K C f ∧ fs.lookup f = some v ∧ Q v H
theorem z_fld {f : Str} (k : te σ H (kFld K f Q)) : tFld K te f σ H Q := k
theorem z_kfld {fs : List (Str × V)} {f : Str} (h : H p = some (.ins C dx fs)) (l : fs.lookup f = some v) (c : Cls K C) (n : NoAttr K C f) (k : Q v H) : kFld K f Q (.ref p) H := ⟨p, C, dx, fs, v, rfl, h, c, n, l, k⟩
def kSto (K : Frg) (f : Str) (D : Ends) (σ : L2.St) (y : V) (x : V) (H : Hp) : Prop := ∃ a C dx fs, x = .ref a ∧ H a = some (.ins C dx fs) ∧ Cls K C ∧ NoAttr K C f ∧ fs.length < 1000 ∧ D.nx σ (upd H a (.ins C dx (putF f y fs)))
theorem z_sfld {f : Str} (k : tb σ H fun y H1 => ta σ H1 (kSto K f D σ y)) : sFld K ta tb f D σ H := k
theorem z_ksto {fs : List (Str × V)} {f : Str} (h : H p = some (.ins C dx fs)) (c : Cls K C) (n : NoAttr K C f) (l : fs.length < 1000) (k : D.nx σ (upd H p (.ins C dx (putF f y fs)))) : kSto K f D σ y (.ref p) H := ⟨p, C, dx, fs, rfl, h, c, n, l, k⟩
/-! a method's call -/
def kMeth (C : Addr) (m : Str) (sp : Sp) (dvs : List V) (E : XK) (t : TA) (σ : L2.St) (Q : VK) (x : V) (H : Hp) : Prop := ∃ a dx fs, x = .ref a ∧ H a = some (.ins C dx fs) ∧ fs.lookup m = none ∧ t σ H fun vs H2 => sp (x :: (vs ++ dvs)) H2 Q E
theorem z_meth {m : Str} {sp : Sp} {dvs : List V} {E : XK} (k : ta σ H (kMeth C m sp dvs E tr σ Q)) : tMeth C m sp dvs E ta tr σ H Q := k
theorem z_kmeth {m : Str} {sp : Sp} {dvs : List V} {E : XK} {fs : List (Str × V)} (h : H p = some (.ins C dx fs)) (l : fs.lookup m = none) (k : tr σ H fun vs H2 => sp (.ref p :: (vs ++ dvs)) H2 Q E) : kMeth C m sp dvs E tr σ Q (.ref p) H := ⟨p, dx, fs, rfl, h, l, k⟩
theorem z_make {sp : Sp} {dvs : List V} {E : XK} (k : tr σ H fun vs H1 => ∀ x dx, H1 x = none → H1 dx = none → dx ≠ x → sp (.ref x :: (vs ++ dvs)) (upd (upd H1 dx (.own x)) x (.ins C dx [])) (fun v H2 => v = .non ∧ Q (.ref x) H2) E) : tMake C sp dvs E tr σ H Q := k
def kProp (C : Addr) (sp : Sp) (E : XK) (Q : VK) (x : V) (H : Hp) : Prop := ∃ a dx fs, x = .ref a ∧ H a = some (.ins C dx fs) ∧ sp [.ref a] H Q E
theorem z_prop {sp : Sp} {E : XK} (k : ta σ H (kProp C sp E Q)) : tProp C sp [] E ta σ H Q := k
theorem z_kprop {f : Str} {fs : List (Str × V)} {E : XK} (h : H p = some (.ins C dx fs)) (l : fs.lookup f = some v) (k : Q v H) : kProp C (getSp C f) E Q (.ref p) H := ⟨p, dx, fs, rfl, h, p, dx, fs, v, rfl, h, l, k⟩
/-! slices -/
theorem z_sl {r : V → Option Int → Option Int → Hp → VK → Prop} {t1 t2 : TO} (k : te σ H fun x H1 => t1 σ H1 fun l H2 => t2 σ H2 fun u H3 => r x l u H3 Q) : tSl r te t1 t2 σ H Q := k
theorem z_noPart {Qo : Option Int → Hp → Prop} (k : Qo none H) : tNoPart σ H Qo := k
theorem z_part {Qo : Option Int → Hp → Prop} (k : te σ H fun x H1 => ∃ i, x = .int i ∧ Qo (some i) H1) : tPart te σ H Qo := k
theorem z_pint {Qp : Int → Prop} (k : Qp i) : ∃ j, V.int i = .int j ∧ Qp j := ⟨i, rfl, k⟩
theorem z_slL {xs : List V} {lo hi : Option Int} (h : H p = some (.lst xs)) (k : ∀ a, H a = none → Q (.ref a) (upd H a (.lst (cutV xs lo hi)))) : rSlL K (.ref p) lo hi H Q := ⟨p, xs, rfl, SqL.of h, k⟩
/-! what is walked -/
def kL (K : Frg) (R : It → Hp → Prop) (x : V) (H : Hp) : Prop := ∃ a, x = .ref a ∧ (∃ xs, SqL K H a xs) ∧ R (Itl K a) H
theorem z_iList (k : tl σ H (kL K R)) : iList K tl σ H R := k
theorem z_kL {xs : List V} (h : H p = some (.lst xs)) (k : R (Itl K p) H) : kL K R (.ref p) H := ⟨p, rfl, ⟨xs, SqL.of h⟩, k⟩
def kT (K : Frg) (R : It → Hp → Prop) (x : V) (H : Hp) : Prop := ∃ a, x = .ref a ∧ (∃ xs, SqT K H a xs) ∧ R (Itt K a) H
theorem z_iTup (k : tl σ H (kT K R)) : iTup K tl σ H R := k
theorem z_kT {xs : List V} (h : H p = some (.tup xs)) (k : R (Itt K p) H) : kT K R (.ref p) H := ⟨p, rfl, ⟨xs, SqT.of h⟩, k⟩
def kR1 (R : It → Hp → Prop) (vs : List V) (H : Hp) : Prop := ∃ j : Int, vs = [.int j] ∧ -(2 ^ 62) ≤ j ∧ j < 2 ^ 62 ∧ R (Itr 0 j.toNat) H
theorem z_iR1 (k : tr σ H (kR1 R)) : iRng1 tr σ H R := k
theorem z_kR1 (h : -100000 ≤ j ∧ j ≤ 100000) (k : R (Itr 0 j.toNat) H) : kR1 R [.int j] H := ⟨j, rfl, by omega, by omega, k⟩
theorem z_kR1n {n : Nat} (h : n ≤ 100000) (k : R (Itr 0 n) H) : kR1 R [.int (n : Int)] H := ⟨n, rfl, by omega, by omega, by rw [Int.toNat_natCast]; exact k⟩
def kR2 (R : It → Hp → Prop) (vs : List V) (H : Hp) : Prop := ∃ i j : Int, vs = [.int i, .int j] ∧ (-(2 ^ 62) ≤ i ∧ i < 2 ^ 62 ∧ -(2 ^ 62) ≤ j ∧ j < 2 ^ 62) ∧ R (Itr i (j - i).toNat) H
theorem z_iR2 (k : tr σ H (kR2 R)) : iRng2 tr σ H R := k
theorem z_kR2 (h : -100000 ≤ i ∧ i ≤ 100000 ∧ -100000 ≤ j ∧ j ≤ 100000) (k : R (Itr i (j - i).toNat) H) : kR2 R [.int i, .int j] H := ⟨i, j, rfl, ⟨by omega, by omega, by omega, by omega⟩, k⟩
def kR3 (R : It → Hp → Prop) (vs : List V) (H : Hp) : Prop := ∃ (i j c : Int) (n : Nat), vs = [.int i, .int j, .int c] ∧ RgC i j c n ∧ R (Itc i c n) H
theorem z_iR3 (k : tr σ H (kR3 R)) : iRng3 tr σ H R := k
theorem z_kR3 {n : Nat} (h : RgC i j c n) (k : R (Itc i c n) H) : kR3 R [.int i, .int j, .int c] H := ⟨i, j, c, n, rfl, h, k⟩
def kEn (K : Frg) (R : It → Hp → Prop) (vs : List V) (H : Hp) : Prop := ∃ a xs, vs = [.ref a] ∧ SqL K H a xs ∧ R (Ite K a) H
theorem z_iEn (k : tr σ H (kEn K R)) : iEnum K tr σ H R := k
theorem z_kEn {xs : List V} (h : H p = some (.lst xs)) (k : R (Ite K p) H) : kEn K R [.ref p] H := ⟨p, xs, rfl, SqL.of h, k⟩
/-! loops -/
def ForG (J : It) (g : TG) (tb : TS) (D : Ends) (σ : L2.St) (H : Hp) : Prop := ∃ W : Nat → Nat → L2.St → Hp → Prop, (∃ m, W 0 m σ H) ∧ ∀ i m σ H, W i m σ H →
  (J.stop i H ∧ D.nx σ H) ∨ (J.go i H ∧ ∃ N : L2.St → Hp → Prop, (∀ σ' H', N σ' H' → ∃ m', m' < m ∧ W (i + 1) m' σ' H') ∧ ∀ x H', J.yld i H x H' → g x σ H' fun σ2 H2 => tb { D with nx := N, ct := N, bk := D.nx } σ2 H2)
theorem z_for (k : wi σ H fun J H1 => ForG J g ts D σ H1) : tFor wi g ts D σ H := k
theorem f_list {xs : List V} (Pv : Nat → L2.St → Hp → Prop) (h0 : Pv 0 σ H) (hl : ∀ i σ H, i ≤ xs.length → Pv i σ H → H p = some (.lst xs))
    (hs : ∀ i x σ H, xs[i]? = some x → Pv i σ H → g x σ H fun σ2 H2 => ts { D with nx := Pv (i + 1), ct := Pv (i + 1), bk := D.nx } σ2 H2) (hd : ∀ σ H, Pv xs.length σ H → D.nx σ H) : ForG (Itl K p) g ts D σ H :=
  for_list (K := K) (a := p) (xs := xs) Pv h0 (fun i σ H h1 h2 => SqL.of (hl i σ H h1 h2)) hs hd
theorem f_tup {xs : List V} (Pv : Nat → L2.St → Hp → Prop) (h0 : Pv 0 σ H) (hl : ∀ i σ H, i ≤ xs.length → Pv i σ H → H p = some (.tup xs))
    (hs : ∀ i x σ H, xs[i]? = some x → Pv i σ H → g x σ H fun σ2 H2 => ts { D with nx := Pv (i + 1), ct := Pv (i + 1), bk := D.nx } σ2 H2) (hd : ∀ σ H, Pv xs.length σ H → D.nx σ H) : ForG (Itt K p) g ts D σ H :=
  for_tup (K := K) (a := p) (xs := xs) Pv h0 (fun i σ H h1 h2 => SqT.of (hl i σ H h1 h2)) hs hd
theorem f_range {lo : Int} {n : Nat} (Pv : Nat → L2.St → Hp → Prop) (h0 : Pv 0 σ H)
    (hs : ∀ i σ H, i < n → Pv i σ H → g (.int (lo + i)) σ H fun σ2 H2 => ts { D with nx := Pv (i + 1), ct := Pv (i + 1), bk := D.nx } σ2 H2) (hd : ∀ σ H, Pv n σ H → D.nx σ H) : ForG (Itr lo n) g ts D σ H :=
  for_range Pv h0 hs hd
theorem f_range0 {n : Nat} (Pv : Nat → L2.St → Hp → Prop) (h0 : Pv 0 σ H)
    (hs : ∀ (i : Nat) σ H, i < n → Pv i σ H → g (.int (i : Int)) σ H fun σ2 H2 => ts { D with nx := Pv (i + 1), ct := Pv (i + 1), bk := D.nx } σ2 H2) (hd : ∀ σ H, Pv n σ H → D.nx σ H) : ForG (Itr 0 n) g ts D σ H :=
  for_range Pv h0 (fun i σ H h1 h2 => by rw [Int.zero_add]; exact hs i σ H h1 h2) hd
/-- enumerate: each turn a new pair -/
theorem f_enum {xs : List V} (Pv : Nat → L2.St → Hp → Prop) (h0 : Pv 0 σ H) (hl : ∀ i σ H, i ≤ xs.length → Pv i σ H → H p = some (.lst xs))
    (hs : ∀ (i : Nat) x σ H T, xs[i]? = some x → Pv i σ H → H T = none → g (.ref T) σ (upd H T (.tup [.int (i : Int), x])) fun σ2 H2 => ts { D with nx := Pv (i + 1), ct := Pv (i + 1), bk := D.nx } σ2 H2) (hd : ∀ σ H, Pv xs.length σ H → D.nx σ H) : ForG (Ite K p) g ts D σ H := by
  refine ⟨fun i m σ H => m = xs.length - i ∧ i ≤ xs.length ∧ Pv i σ H, ⟨xs.length, by simp, Nat.zero_le _, h0⟩, ?_⟩
  rintro i m σ H ⟨rfl, hi, pv⟩
  have q := hl i σ H hi pv
  by_cases hlt : i < xs.length
  · refine Or.inr ⟨⟨xs, xs[i], SqL.of q, List.getElem?_eq_getElem hlt⟩, fun σ' H' => Pv (i + 1) σ' H', fun σ' H' h => ⟨_, by omega, rfl, hlt, h⟩, ?_⟩
    rintro x H' ⟨T, y, rfl, hT, rfl, hy⟩
    exact hs i y σ H T (hy xs (SqL.of q)) pv hT
  · refine Or.inl ⟨⟨xs, SqL.of q, by omega⟩, hd σ H ?_⟩
    have e : i = xs.length := by omega
    rw [e] at pv
    exact pv
/-! comprehensions -/
def LcG (J : It) (g : TG) (tt : TT) (te : TE) (vs : List Nat) (σ : L2.St) (H1 : Hp) (D : Addr) (Q : VK) : Prop := ∃ W : Nat → Nat → Hp → Prop, (∃ m, W 0 m (upd H1 D (.lst []))) ∧ ∀ i m H, W i m H →
  (J.stop i H ∧ Q (.ref D) H) ∨ (J.go i H ∧ ∃ Nx : Hp → Prop, (∀ H', Nx H' → ∃ m', m' < m ∧ W (i + 1) m' H') ∧ ∀ x H', J.yld i H x H' → g x (wipe σ vs) H' fun σ2 H2 => wipe σ2 vs = wipe σ vs ∧ tt σ2 H2 fun b H3 =>
    if b = true then te σ2 H3 fun y H4 => ∃ acc, H4 D = some (.lst acc) ∧ acc.length < sizeLine ∧ Nx (upd H4 D (.lst (acc ++ [y]))) else Nx H3)
theorem z_lc (k : wi σ H fun J H1 => ∀ D, H1 D = none → LcG J g tt te vs σ H1 D Q) : tLc wi g tt te vs σ H Q := k
theorem z_yes {Qb : Bool → Hp → Prop} (k : Qb true H) : tYes σ H Qb := k
theorem z_acc {acc : List V} {A : Addr} {Nx : Hp → Prop} (h : H A = some (.lst acc)) (hl : acc.length < 100000) (k : Nx (upd H A (.lst (acc ++ [y])))) : ∃ acc, H A = some (.lst acc) ∧ acc.length < sizeLine ∧ Nx (upd H A (.lst (acc ++ [y]))) := ⟨acc, h, size_lt hl, k⟩
theorem l_range {n : Nat} {lo : Int} {A : Addr} (Pv : Nat → Hp → Prop) (h0 : Pv 0 (upd H A (.lst [])))
    (hs : ∀ i H, i < n → Pv i H → g (.int (lo + i)) (wipe σ vs) H fun σ2 H2 => wipe σ2 vs = wipe σ vs ∧ tt σ2 H2 fun b H3 =>
      if b = true then te σ2 H3 fun y H4 => ∃ acc, H4 A = some (.lst acc) ∧ acc.length < sizeLine ∧ Pv (i + 1) (upd H4 A (.lst (acc ++ [y]))) else Pv (i + 1) H3) (hd : ∀ H, Pv n H → Q (.ref A) H) : LcG (Itr lo n) g tt te vs σ H A Q :=
  lc_range (Qd := fun H => Q (.ref A) H) Pv h0 hs hd
theorem l_range0 {n : Nat} {A : Addr} (Pv : Nat → Hp → Prop) (h0 : Pv 0 (upd H A (.lst [])))
    (hs : ∀ (i : Nat) H, i < n → Pv i H → g (.int (i : Int)) (wipe σ vs) H fun σ2 H2 => wipe σ2 vs = wipe σ vs ∧ tt σ2 H2 fun b H3 =>
      if b = true then te σ2 H3 fun y H4 => ∃ acc, H4 A = some (.lst acc) ∧ acc.length < sizeLine ∧ Pv (i + 1) (upd H4 A (.lst (acc ++ [y]))) else Pv (i + 1) H3) (hd : ∀ H, Pv n H → Q (.ref A) H) : LcG (Itr 0 n) g tt te vs σ H A Q :=
  l_range Pv h0 (fun i H h1 h2 => by rw [Int.zero_add]; exact hs i H h1 h2) hd
theorem l_list {xs : List V} {A : Addr} (Pv : Nat → Hp → Prop) (h0 : Pv 0 (upd H A (.lst []))) (hl : ∀ i H, i ≤ xs.length → Pv i H → H p = some (.lst xs))
    (hs : ∀ i x H, xs[i]? = some x → Pv i H → g x (wipe σ vs) H fun σ2 H2 => wipe σ2 vs = wipe σ vs ∧ tt σ2 H2 fun b H3 =>
      if b = true then te σ2 H3 fun y H4 => ∃ acc, H4 A = some (.lst acc) ∧ acc.length < sizeLine ∧ Pv (i + 1) (upd H4 A (.lst (acc ++ [y]))) else Pv (i + 1) H3) (hd : ∀ H, Pv xs.length H → Q (.ref A) H) : LcG (Itl K p) g tt te vs σ H A Q :=
  lc_list (K := K) (a := p) (xs := xs) (Qd := fun H => Q (.ref A) H) Pv h0 (fun i H h1 h2 => SqL.of (hl i H h1 h2)) hs hd
/-- a range with a step -/
theorem l_rangeC {n : Nat} {lo c : Int} {A : Addr} (Pv : Nat → Hp → Prop) (h0 : Pv 0 (upd H A (.lst [])))
    (hs : ∀ (i : Nat) H, i < n → Pv i H → g (.int (lo + (i : Nat) * c)) (wipe σ vs) H fun σ2 H2 => wipe σ2 vs = wipe σ vs ∧ tt σ2 H2 fun b H3 =>
      if b = true then te σ2 H3 fun y H4 => ∃ acc, H4 A = some (.lst acc) ∧ acc.length < sizeLine ∧ Pv (i + 1) (upd H4 A (.lst (acc ++ [y]))) else Pv (i + 1) H3) (hd : ∀ H, Pv n H → Q (.ref A) H) : LcG (Itc lo c n) g tt te vs σ H A Q := by
  refine ⟨fun i m H => m = n - i ∧ i ≤ n ∧ Pv i H, ⟨n, by simp, Nat.zero_le _, h0⟩, ?_⟩
  rintro i m H ⟨rfl, hi, pv⟩
  by_cases hlt : i < n
  · refine Or.inr ⟨hlt, fun H' => Pv (i + 1) H', fun H' h => ⟨_, by omega, rfl, hlt, h⟩, ?_⟩
    rintro x H' ⟨rfl, rfl⟩
    exact hs i H' hlt pv
  · have e : i = n := by omega
    rw [e] at pv
    exact Or.inl ⟨by show n ≤ i; omega, hd H pv⟩
end
end Dr

/-! What each def promises. -/
namespace Dr
open PySem PySem.Spec PyProof.Rows L2
/-! ### data in the heap -/
def nv (xs : List Nat) : List V := xs.map fun (n : Nat) => V.int (n : Int)
def ov : Option Int → V
  | none => .non
  | some i => .int i
def onv : Option Nat → V
  | none => .non
  | some i => .int (i : Int)
def IsPair (H : Hp) (v : V) (p : Nat × Nat) : Prop := ∃ b, v = .ref b ∧ H b = some (.tup [.int (p.1 : Int), .int (p.2 : Int)])
/-- a list of pairs -/
def PL (H : Hp) (a : Addr) (ps : List (Nat × Nat)) : Prop := ∃ vs, H a = some (.lst vs) ∧ Paired (IsPair H) vs ps
/-- a list of lists, its rows at bs -/
def LLb (H : Hp) (a : Addr) (bs : List Addr) (xss : List (List Nat)) : Prop := H a = some (.lst (bs.map V.ref)) ∧ Paired (fun b xs => H b = some (.lst (nv xs))) bs xss
def LL (H : Hp) (a : Addr) (xss : List (List Nat)) : Prop := ∃ bs, LLb H a bs xss
/-- a list of lists made since H0 -/
def LLf (H0 H : Hp) (a : Addr) (xss : List (List Nat)) : Prop := ∃ bs, LLb H a bs xss ∧ H0 a = none ∧ ∀ b ∈ bs, H0 b = none
abbrev Rel2 := Nat → Nat → Bool
def rowV (n : Nat) (T : Rel2) (i : Nat) : List V := (List.range n).map fun j => V.bl (T i j)
/-- a table of truths, its rows at bs -/
structure TabB (H : Hp) (a : Addr) (bs : List Addr) (n : Nat) (T : Rel2) : Prop where
  at_ : H a = some (.lst (bs.map V.ref))
  len : bs.length = n
  row : ∀ i b, bs[i]? = some b → H b = some (.lst (rowV n T i))
def Tab (H : Hp) (a : Addr) (n : Nat) (T : Rel2) : Prop := ∃ bs, TabB H a bs n T
def pairsOf (n : Nat) (T : Rel2) : List (Nat × Nat) := (List.range n).flatMap fun i => ((List.range n).filter (T i)).map fun j => (i, j)
/-- the mask of a row -/
def maskL (xs : List Nat) : Nat := xs.foldl (fun m e => m ||| (1 <<< e)) 0
/-! ### orders -/
def wstep (T : Rel2) (k : Nat) : Rel2 := fun i j => T i j || (T i k && T k j)
/-- Warshall's closure -/
def clos (n : Nat) (ps : List (Nat × Nat)) : Rel2 := (List.range n).foldl wstep (fun i j => decide ((i, j) ∈ ps))
/-- pairs of elements below n that go up by some rank -/
def Acy (n : Nat) (ps : List (Nat × Nat)) : Prop := ∃ r : Nat → Int, ∀ p : Nat × Nat, p ∈ ps → p.1 < n ∧ p.2 < n ∧ r p.1 < r p.2
structure Strict (n : Nat) (T : Rel2) : Prop where
  rank : ∃ r : Nat → Int, ∀ i j, i < n → j < n → T i j = true → r i < r j
  tr : ∀ i j k, i < n → j < n → k < n → T i j = true → T j k = true → T i k = true
def covB (n : Nat) (T : Rel2) (i j : Nat) : Bool := T i j && !(List.range n).any fun k => T i k && T k j
def apartB (T : Rel2) (i j : Nat) : Bool := decide (i ≠ j) && (!T i j && !T j i)
/-- each below the next one -/
def ChainP (T : Rel2) (xs : List Nat) : Prop := ∀ (k a b : Nat), xs[k]? = some a → xs[k + 1]? = some b → T a b = true
def AntiP (T : Rel2) (xs : List Nat) : Prop := ∀ (k j a b : Nat), j < k → xs[k]? = some a → xs[j]? = some b → apartB T a b = true
def boundOf (xss : List (List Nat)) (c : Nat) : Nat := (xss.map fun xs => min xs.length c).sum
/-- chains and sets that show a cover -/
structure Cover (n : Nat) (T : Rel2) (c : Nat) (num : Nat) (cs ss : List (List Nat)) : Prop where
  few : cs.length ≤ c
  cne : ∀ x ∈ cs, x ≠ []
  nd : cs.flatten.Nodup
  lt : ∀ x ∈ cs.flatten, x < n
  cnt : cs.flatten.length = num
  ch : ∀ x ∈ cs, ChainP T x
  sne : ∀ x ∈ ss, x ≠ []
  part : ss.flatten.Perm (List.range n)
  an : ∀ x ∈ ss, AntiP T x
  bd : boundOf ss c = num
/-! ### objects -/
def fsO (n : Nat) (up dn pr : Addr) : List (Str × V) := [("_size", .int (n : Int)), ("_up", .ref up), ("_down", .ref dn), ("_pairs", .ref pr)]
def fsF (n : Nat) (t h r g : Addr) : List (Str × V) := [("_nodes", .int (n : Int)), ("_tails", .ref t), ("_heads", .ref h), ("_rooms", .ref r), ("_gains", .ref g)]
def fsC (o f ga : Addr) (u : Nat) : List (Str × V) := [("_order", .ref o), ("_flow", .ref f), ("_gaining", .ref ga), ("units", .int (u : Int))]
def maskRow (n : Nat) (T : Rel2) (i : Nat) : Nat := maskL ((List.range n).filter (T i))
/-- an order; its masks at up -/
structure OrdU (K : Frg) (H : Hp) (a up : Addr) (n : Nat) (T : Rel2) : Prop where
  ex : ∃ dx dn pr, H a = some (.ins (aO K) dx (fsO n up dn pr)) ∧ H up = some (.lst (nv ((List.range n).map (maskRow n T)))) ∧ PL H pr (pairsOf n T)
  le : n ≤ 40
def OrdAt (K : Frg) (H : Hp) (a : Addr) (n : Nat) (T : Rel2) : Prop := ∃ up, OrdU K H a up n T
/-! ### promises: the order -/
def sp_elements_of : Sp := fun vs H Q _ => match vs with
  | [a] => ∃ m : Nat, a = .int (m : Int) ∧ m < 2 ^ 40 ∧ ∀ p H', H p = none → ExB [] H H' → H' p = some (.lst (nv ((List.range 40).filter m.testBit))) → Q (.ref p) H'
  | _ => False
def sp_mask_of : Sp := fun vs H Q _ => match vs with
  | [a] => ∃ p xs, a = .ref p ∧ H p = some (.lst (nv xs)) ∧ (∀ x ∈ xs, x < 40) ∧ Q (.int (maskL xs : Int)) H
  | _ => False
def sp_found_ring : Sp := fun vs H Q _ => match vs with
  | [a] => ∃ p xss, a = .ref p ∧ LL H p xss ∧ xss.length ≤ 40 ∧ (∀ xs ∈ xss, xs.length ≤ 2000) ∧ (∃ r : Nat → Int, ∀ (i : Nat) xs, xss[i]? = some xs → ∀ x ∈ xs, x < xss.length ∧ r i < r x) ∧ ∀ H', ExB [] H H' → Q .non H'
  | _ => False
def relOf (xss : List (List Nat)) : Rel2 := fun i j => decide (j ∈ xss.getD i [])
def closR (n : Nat) (T : Rel2) : Rel2 := (List.range n).foldl wstep T
def sp_closed_masks : Sp := fun vs H Q _ => match vs with
  | [a] => ∃ p xss, a = .ref p ∧ LL H p xss ∧ xss.length ≤ 40 ∧ (∀ xs ∈ xss, ∀ x ∈ xs, x < xss.length) ∧
      ∀ q H', H q = none → ExB [] H H' → H' q = some (.lst (nv ((List.range xss.length).map (maskRow xss.length (closR xss.length (relOf xss)))))) → Q (.ref q) H'
  | _ => False
def sp_o_init (K : Frg) : Sp := fun vs H Q _ => match vs with
  | [a, b, c] => ∃ x dx p n ps, a = .ref x ∧ b = .int (n : Nat) ∧ c = .ref p ∧ H x = some (.ins (aO K) dx []) ∧ n ≤ 40 ∧ PL H p ps ∧ ps.length ≤ 2000 ∧ Acy n ps ∧
      ∀ H' up, H up = none → ExB [x] H H' → OrdU K H' x up n (clos n ps) → Q .non H'
  | _ => False
def sp_o_below (K : Frg) : Sp := fun vs H Q _ => match vs with
  | [a, b, c] => ∃ x n T i j, a = .ref x ∧ b = .int (i : Nat) ∧ c = .int (j : Nat) ∧ OrdAt K H x n T ∧ i < n ∧ j < n ∧ Q (.bl (T i j)) H
  | _ => False
def sp_o_apart (K : Frg) : Sp := fun vs H Q _ => match vs with
  | [a, b, c] => ∃ x n T i j, a = .ref x ∧ b = .int (i : Nat) ∧ c = .int (j : Nat) ∧ OrdAt K H x n T ∧ i < n ∧ j < n ∧ Q (.bl (apartB T i j)) H
  | _ => False
def sp_o_pairs (K : Frg) : Sp := fun vs H Q _ => match vs with
  | [a] => ∃ x n T, a = .ref x ∧ OrdAt K H x n T ∧ ∀ p H', H p = none → ExB [] H H' → PL H' p (pairsOf n T) → Q (.ref p) H'
  | _ => False
/-! ### promises: looks at chains and sets -/
def sp_is_chain (K : Frg) : Sp := fun vs H Q _ => match vs with
  | [a, b] => ∃ x n T m xs, a = .ref x ∧ b = .ref m ∧ OrdAt K H x n T ∧ H m = some (.lst (nv xs)) ∧ (∀ y ∈ xs, y < n) ∧ xs.length ≤ 2000 ∧ ChainP T xs ∧ ∀ H', ExB [] H H' → Q (.bl true) H'
  | _ => False
def sp_is_antichain (K : Frg) : Sp := fun vs H Q _ => match vs with
  | [a, b] => ∃ x n T m xs, a = .ref x ∧ b = .ref m ∧ OrdAt K H x n T ∧ H m = some (.lst (nv xs)) ∧ (∀ y ∈ xs, y < n) ∧ xs.length ≤ 40 ∧ AntiP T xs ∧ ∀ H', ExB [] H H' → Q (.bl true) H'
  | _ => False
def sp_parts_all (K : Frg) : Sp := fun vs H Q _ => match vs with
  | [a, b] => ∃ x n T m xss, a = .ref x ∧ b = .ref m ∧ OrdAt K H x n T ∧ LL H m xss ∧ (∀ y ∈ xss, y ≠ []) ∧ xss.flatten.Perm (List.range n) ∧ ∀ H', ExB [] H H' → Q (.bl true) H'
  | _ => False
def sp_bound_of : Sp := fun vs H Q _ => match vs with
  | [a, b] => ∃ m xss c, a = .ref m ∧ b = .int (c : Nat) ∧ LL H m xss ∧ xss.length ≤ 2000 ∧ ∀ H', ExB [] H H' → Q (.int (boundOf xss c : Nat)) H'
  | _ => False
def sp_shows_chain_cover (K : Frg) : Sp := fun vs H Q _ => match vs with
  | [a, b, c, d] => ∃ x n T k num pc cs ps ss, a = .ref x ∧ b = .int (k : Nat) ∧ c = .ref pc ∧ d = .ref ps ∧ OrdAt K H x n T ∧ LL H pc cs ∧ LL H ps ss ∧ Cover n T k num cs ss ∧ ∀ H', ExB [] H H' → Q (.bl true) H'
  | _ => False
/-- chain_cover, as the law sees it -/
def sp_chain_cover (K : Frg) : Sp := fun vs H Q _ => match vs with
  | [a, b] => ∃ x n T k, a = .ref x ∧ b = .int (k : Nat) ∧ OrdAt K H x n T ∧ Strict n T ∧
      ∀ p pc ps H' num cs ss, H p = none → ExB [] H H' → Cover n T k num cs ss → H' p = some (.tup [.int (num : Nat), .ref pc, .ref ps]) → LLf H H' pc cs → LLf H H' ps ss → Q (.ref p) H'
  | _ => False
/-! ### promises: the law's own -/
def sp_w_cell (K : Frg) : Sp := fun vs H Q _ => match vs with
  | [a, b] => ∃ (p : Addr) (ns : List Int) (i : Int), a = .ref p ∧ b = .int i ∧ 0 ≤ i ∧ SqL K H p (ns.map V.int) ∧ ∀ j : Int, Q (.int j) H
  | _ => False
def sp_w_stream : Sp := fun vs H Q _ => match vs with
  | [a] => ∃ i : Int, a = .int i ∧ ∀ p H', H p = none → ExB [] H H' → Str3 H' p → Q (.ref p) H'
  | _ => False
def sp_w_draw : Sp := fun vs H Q _ => match vs with
  | [a, m] => ∃ (p : Addr) (n : Int), a = .ref p ∧ m = .int n ∧ 0 < n ∧ n < 1000000000 ∧ Str3 H p ∧ ∀ (d : Int) (H' : Hp), 0 ≤ d → d < n → ExB [p] H H' → Str3 H' p → Q (.int d) H'
  | _ => False
def sp_w_mixed : Sp := fun vs H Q _ => match vs with
  | [a, b] => ∃ p q us, a = .ref p ∧ b = .ref q ∧ Str3 H p ∧ H q = some (.lst us) ∧ q ≠ p ∧ us.length ≤ 90000 ∧ ∀ l H' ws, List.Perm ws us → H l = none → ExB [p] H H' → Str3 H' p → H' l = some (.lst ws) → Q (.ref l) H'
  | _ => False
def sp_w_closed : Sp := fun vs H Q _ => match vs with
  | [a, b] => ∃ n p ps, a = .int (n : Nat) ∧ b = .ref p ∧ n ≤ 40 ∧ PL H p ps ∧ (∀ q ∈ ps, q.1 < n ∧ q.2 < n) ∧ ∀ l H', H l = none → ExB [] H H' → Tab H' l n (clos n ps) → Q (.ref l) H'
  | _ => False
def sp_w_pairs : Sp := fun vs H Q _ => match vs with
  | [a] => ∃ p n T, a = .ref p ∧ n ≤ 40 ∧ Tab H p n T ∧ ∀ l H', H l = none → ExB [] H H' → PL H' l (pairsOf n T) → Q (.ref l) H'
  | _ => False
def sp_w_apart : Sp := fun vs H Q _ => match vs with
  | [a, b, c] => ∃ p n T i j, a = .ref p ∧ b = .int (i : Nat) ∧ c = .int (j : Nat) ∧ Tab H p n T ∧ i < n ∧ j < n ∧ Q (.bl (apartB T i j)) H
  | _ => False
def sp_w_covers : Sp := fun vs H Q _ => match vs with
  | [a, b, c] => ∃ p n T i j, a = .ref p ∧ b = .int (i : Nat) ∧ c = .int (j : Nat) ∧ n ≤ 40 ∧ Tab H p n T ∧ i < n ∧ j < n ∧ ∀ H', ExB [] H H' → Q (.bl (covB n T i j)) H'
  | _ => False
def sp_w_is_integer : Sp := fun vs H Q _ => match vs with
  | [a] => ∃ i : Int, a = .int i ∧ Q (.bl true) H
  | _ => False
def sp_w_said : Sp := fun vs H Q _ => match vs with
  | [a, b] => a = .bl true ∧ b = .bl true ∧ Q (.bl true) H
  | _ => False
def sp_w_are_integers : Sp := fun vs H Q _ => match vs with
  | [a] => ∃ p xs, a = .ref p ∧ H p = some (.lst (nv xs)) ∧ xs.length ≤ 2000 ∧ ∀ H', ExB [] H H' → Q (.bl true) H'
  | _ => False
def sp_w_same_table (K : Frg) : Sp := fun vs H Q _ => match vs with
  | [a, b] => ∃ x p n T U, a = .ref x ∧ b = .ref p ∧ OrdAt K H x n T ∧ Tab H p n U ∧ (∀ i j, i < n → j < n → T i j = U i j) ∧ ∀ H', ExB [] H H' → Q (.bl true) H'
  | _ => False
/-- what every family promises of its pairs -/
abbrev RetAcy (H : Hp) (p : Addr) (n : Nat) (Q : VK) : Prop := ∀ l H' ps, Acy n ps → ps.length ≤ 2000 → H l = none → ExB [p] H H' → Str3 H' p → PL H' l ps → Q (.ref l) H'
/-- the same where no draw is made -/
abbrev RetAcy0 (H : Hp) (n : Nat) (Q : VK) : Prop := ∀ l H' ps, Acy n ps → ps.length ≤ 2000 → H l = none → ExB [] H H' → PL H' l ps → Q (.ref l) H'
def sp_w_any_pairs : Sp := fun vs H Q _ => match vs with
  | [a, b] => ∃ p n, a = .ref p ∧ b = .int (n : Nat) ∧ n ≤ 40 ∧ Str3 H p ∧ RetAcy H p n Q
  | _ => False
/-- a list of spans -/
def IsSpan (H : Hp) (v : V) (s : Int × Int) : Prop := ∃ b, v = .ref b ∧ H b = some (.tup [.int s.1, .int s.2])
def SL (H : Hp) (a : Addr) (ss : List (Int × Int)) : Prop := ∃ vs, H a = some (.lst vs) ∧ Paired (IsSpan H) vs ss
def sp_w_any_spans : Sp := fun vs H Q _ => match vs with
  | [a, b, c, d] => ∃ (p : Addr) (n : Nat) (m l : Int), a = .ref p ∧ b = .int (n : Nat) ∧ c = .int m ∧ d = .int l ∧ n ≤ 40 ∧ 0 < m ∧ m < 1000 ∧ Str3 H p ∧
      ∀ q H' ss, ss.length = n → (∀ s ∈ ss, s.1 ≤ s.2) → H q = none → ExB [p] H H' → Str3 H' p → SL H' q ss → Q (.ref q) H'
  | _ => False
def sp_w_by_spans : Sp := fun vs H Q _ => match vs with
  | [a] => ∃ p ss, a = .ref p ∧ SL H p ss ∧ ss.length ≤ 40 ∧ (∀ s ∈ ss, s.1 ≤ s.2) ∧ RetAcy0 H ss.length Q
  | _ => False
def sp_w_by_rows : Sp := fun vs H Q _ => match vs with
  | [a, b] => ∃ p q xs ys n, a = .ref p ∧ b = .ref q ∧ H p = some (.lst (nv xs)) ∧ H q = some (.lst (nv ys)) ∧ xs.Perm (List.range n) ∧ ys.Perm (List.range n) ∧ n ≤ 40 ∧ RetAcy0 H n Q
  | _ => False
def wordS (w : Bool) : Str := if w then "above" else "beside"
inductive Tree where
  | one (e : Nat)
  | node (w : Bool) (ts : List Tree)
mutual
/-- a tree as it stands in the heap; w: above -/
inductive TreeAt (H : Hp) : V → Tree → Prop
  | one {b : Addr} {e : Nat} : H b = some (.tup [.str "one", .int (e : Int)]) → TreeAt H (.ref b) (.one e)
  | node {b c : Addr} {w : Bool} {us : List V} {ts : List Tree} : H b = some (.tup [.str (wordS w), .ref c]) → H c = some (.tup us) → TreesAt H us ts → TreeAt H (.ref b) (.node w ts)
inductive TreesAt (H : Hp) : List V → List Tree → Prop
  | nil : TreesAt H [] []
  | cons {u : V} {us : List V} {t : Tree} {ts : List Tree} : TreeAt H u t → TreesAt H us ts → TreesAt H (u :: us) (t :: ts)
end
mutual
def Tree.mem : Tree → List Nat
  | .one e => [e]
  | .node _ ts => Tree.mems ts
def Tree.mems : List Tree → List Nat
  | [] => []
  | t :: ts => t.mem ++ Tree.mems ts
def Tree.dep : Tree → Nat
  | .one _ => 0
  | .node _ ts => Tree.deps ts + 1
def Tree.deps : List Tree → Nat
  | [] => 0
  | t :: ts => max t.dep (Tree.deps ts)
end
def sp_w_any_tree (d : Nat) : Sp := fun vs H Q _ => match vs with
  | [a, b, c] => ∃ (p q : Addr) (xs : List Nat) (w : Bool), a = .ref p ∧ b = .ref q ∧ c = .str (wordS w) ∧ Str3 H p ∧ H q = some (.lst (nv xs)) ∧ q ≠ p ∧ 0 < xs.length ∧ xs.length ≤ d ∧ xs.length ≤ 40 ∧
      ∀ v H' t, TreeAt H' v t → t.mem = xs → t.dep < d → ExB [p] H H' → Str3 H' p → Q v H'
  | _ => False
def sp_w_tree_members (d : Nat) : Sp := fun vs H Q _ => match vs with
  | [a] => ∃ t, TreeAt H a t ∧ t.dep < d ∧ t.mem.length ≤ 40 ∧ ∀ l H', H l = none → ExB [] H H' → H' l = some (.lst (nv t.mem)) → Q (.ref l) H'
  | _ => False
/-- pairs of the members of xs that go from an earlier place to a later one -/
def Asc (xs : List Nat) (ps : List (Nat × Nat)) : Prop := ∀ p : Nat × Nat, p ∈ ps → ∃ i j : Nat, i < j ∧ xs[i]? = some p.1 ∧ xs[j]? = some p.2
def sp_w_by_tree (d : Nat) : Sp := fun vs H Q _ => match vs with
  | [a] => ∃ t, TreeAt H a t ∧ t.dep < d ∧ d ≤ 20 ∧ t.mem.length ≤ 40 ∧ ∀ l H' ps, Asc t.mem ps → ps.length ≤ t.mem.length * t.mem.length → H l = none → ExB [] H H' → PL H' l ps → Q (.ref l) H'
  | _ => False
def sp_w_any_arcs : Sp := fun vs H Q _ => match vs with
  | [a, b] => ∃ p n, a = .ref p ∧ b = .int (n : Nat) ∧ n ≤ 40 ∧ Str3 H p ∧ ∀ q H' ss, ss.length = n → (∀ s ∈ ss, s.1 < s.2) → H q = none → ExB [p] H H' → Str3 H' p → SL H' q ss → Q (.ref q) H'
  | _ => False
def sp_w_by_arcs : Sp := fun vs H Q _ => match vs with
  | [a] => ∃ p ss, a = .ref p ∧ SL H p ss ∧ ss.length ≤ 40 ∧ (∀ s ∈ ss, s.1 < s.2) ∧ RetAcy0 H ss.length Q
  | _ => False
/-- parents: each stands at an earlier place of names -/
def ParOk (n : Nat) (ps : List (Option Nat)) : Prop := ps.length = n ∧ ∃ r : Nat → Int, ∀ (i j : Nat), ps[i]? = some (some j) → j < n ∧ r j < r i
def sp_w_any_parents : Sp := fun vs H Q _ => match vs with
  | [a, b] => ∃ p n, a = .ref p ∧ b = .int (n : Nat) ∧ n ≤ 40 ∧ Str3 H p ∧ ∀ q H' ps, ParOk n ps → H q = none → ExB [p] H H' → Str3 H' p → H' q = some (.lst (ps.map onv)) → Q (.ref q) H'
  | _ => False
def sp_w_by_parents : Sp := fun vs H Q _ => match vs with
  | [a] => ∃ p ps n, a = .ref p ∧ H p = some (.lst (ps.map onv)) ∧ ParOk n ps ∧ n ≤ 40 ∧ RetAcy0 H n Q
  | _ => False
def sp_w_by_ranks : Sp := fun vs H Q _ => match vs with
  | [a] => ∃ (p : Addr) (rs : List Int), a = .ref p ∧ H p = some (.lst (rs.map V.int)) ∧ rs.length ≤ 40 ∧ RetAcy0 H rs.length Q
  | _ => False
def sp_w_crown : Sp := fun vs H Q _ => match vs with
  | [a, b] => ∃ p n, a = .ref p ∧ b = .int (n : Nat) ∧ 5 < n ∧ n ≤ 40 ∧ Str3 H p ∧ RetAcy H p n Q
  | _ => False
def sp_w_family : Sp := fun vs H Q _ => match vs with
  | [a, b, c] => ∃ (p : Addr) (n : Nat) (f : Int), a = .ref p ∧ b = .int (n : Nat) ∧ c = .int f ∧ n ≤ 20 ∧ Str3 H p ∧ RetAcy H p n Q
  | _ => False
def sp_w_any_order : Sp := fun vs H Q _ => match vs with
  | [a, b] => ∃ p, a = .ref p ∧ b = .int 8 ∧ Str3 H p ∧ ∀ l H' n T, n ≤ 8 → Strict n T → H l = none → ExB [p] H H' → Str3 H' p → Tab H' l n T → Q (.ref l) H'
  | _ => False
/-- pairs told of an order: among them all covers -/
def Told (n : Nat) (T : Rel2) (ps : List (Nat × Nat)) : Prop := (∀ q ∈ ps, q.1 < n ∧ q.2 < n ∧ T q.1 q.2 = true) ∧ ∀ i j, i < n → j < n → covB n T i j = true → (i, j) ∈ ps
def sp_w_told : Sp := fun vs H Q _ => match vs with
  | [a, b] => ∃ p q n T, a = .ref p ∧ b = .ref q ∧ n ≤ 30 ∧ Str3 H p ∧ Tab H q n T ∧ ∀ l H' ps, Told n T ps → ps.length ≤ 2000 → H l = none → ExB [p] H H' → Str3 H' p → PL H' l ps → Q (.ref l) H'
  | _ => False
def sp_w_is_antichain : Sp := fun vs H Q _ => match vs with
  | [a, b] => ∃ p n T m xs, a = .ref p ∧ b = .ref m ∧ Tab H p n T ∧ H m = some (.lst (nv xs)) ∧ (∀ y ∈ xs, y < n) ∧ xs.length ≤ 40 ∧ AntiP T xs ∧ ∀ H', ExB [] H H' → Q (.bl true) H'
  | _ => False
def sp_w_is_chain : Sp := fun vs H Q _ => match vs with
  | [a, b] => ∃ p n T m xs, a = .ref p ∧ b = .ref m ∧ Tab H p n T ∧ H m = some (.lst (nv xs)) ∧ (∀ y ∈ xs, y < n) ∧ xs.length ≤ 2000 ∧ ChainP T xs ∧ ∀ H', ExB [] H H' → Q (.bl true) H'
  | _ => False
def sp_w_parts_all : Sp := fun vs H Q _ => match vs with
  | [a, b] => ∃ n m xss, a = .int (n : Nat) ∧ b = .ref m ∧ n ≤ 40 ∧ LL H m xss ∧ (∀ y ∈ xss, y ≠ []) ∧ xss.flatten.Perm (List.range n) ∧ ∀ H', ExB [] H H' → Q (.bl true) H'
  | _ => False
def sp_w_are_lists : Sp := fun vs H Q _ => match vs with
  | [a] => ∃ m xss, a = .ref m ∧ LL H m xss ∧ (∀ y ∈ xss, y.length ≤ 2000) ∧ ∀ H', ExB [] H H' → Q (.bl true) H'
  | _ => False
def sp_w_bound : Sp := fun vs H Q _ => match vs with
  | [a, b] => ∃ m xss c, a = .ref m ∧ b = .int (c : Nat) ∧ LL H m xss ∧ xss.length ≤ 2000 ∧ ∀ H', ExB [] H H' → Q (.int (boundOf xss c : Nat)) H'
  | _ => False
def sp_law (K : Frg) : Sp := fun vs H Q _ => match vs with
  | [a] => ∃ (p : Addr) (ns : List Int), a = .ref p ∧ SqL K H p (ns.map V.int) ∧ ∀ H', Q (.bl true) H'
  | _ => False
end Dr

/-! Closures, in plain Lean. -/
namespace Dr
open PySem PySem.Spec PyProof.Rows L2
/-- a way through pairs -/
inductive Way (R : Nat → Nat → Prop) : Nat → Nat → Prop
  | one {a b : Nat} : R a b → Way R a b
  | step {a b c : Nat} : R a b → Way R b c → Way R a c
theorem Way.app {R : Nat → Nat → Prop} {a b c : Nat} (h : Way R a b) (k : Way R b c) : Way R a c := by
  induction h with
  | one h => exact .step h k
  | step h _ ih => exact .step h (ih k)
def war (T : Rel2) (k : Nat) : Rel2 := (List.range k).foldl wstep T
theorem war_succ (T : Rel2) (k : Nat) : war T (k + 1) = wstep (war T k) k := by unfold war; rw [List.range_succ, List.foldl_append]; rfl
theorem war_sound {T : Rel2} : ∀ {k i j : Nat}, war T k i j = true → Way (fun a b => T a b = true) i j
  | 0, _, _, h => .one h
  | k + 1, i, j, h => by
    rw [war_succ] at h
    unfold wstep at h
    rw [Bool.or_eq_true, Bool.and_eq_true] at h
    rcases h with h | ⟨h1, h2⟩
    · exact war_sound h
    · exact (war_sound h1).app (war_sound h2)
theorem war_mono {T : Rel2} : ∀ {k i j : Nat}, T i j = true → war T k i j = true
  | 0, _, _, h => h
  | k + 1, i, j, h => by rw [war_succ]; unfold wstep; rw [war_mono h, Bool.true_or]
/-- the first k elements may be passed through -/
theorem war_tr {T : Rel2} : ∀ {k i j m : Nat}, m < k → war T k i m = true → war T k m j = true → war T k i j = true
  | 0, _, _, _, h, _, _ => absurd h (by omega)
  | k + 1, i, j, m, hm, h1, h2 => by
    rw [war_succ] at h1 h2 ⊢
    unfold wstep at h1 h2 ⊢
    rw [Bool.or_eq_true, Bool.and_eq_true] at h1 h2 ⊢
    by_cases e : m = k
    · subst e
      right
      refine ⟨?_, ?_⟩
      · rcases h1 with h | h
        · exact h
        · exact h.1
      · rcases h2 with h | h
        · exact h
        · exact h.2
    · have hm' : m < k := by omega
      rcases h1 with a | ⟨a, b⟩ <;> rcases h2 with c | ⟨c, d⟩
      · exact .inl (war_tr hm' a c)
      · exact .inr ⟨war_tr hm' a c, d⟩
      · exact .inr ⟨a, war_tr hm' b c⟩
      · exact .inr ⟨a, d⟩
theorem clos_war (n : Nat) (ps : List (Nat × Nat)) : clos n ps = war (fun i j => decide ((i, j) ∈ ps)) n := rfl
theorem clos_tr {n : Nat} {ps : List (Nat × Nat)} {i j m : Nat} (hm : m < n) (h1 : clos n ps i m = true) (h2 : clos n ps m j = true) : clos n ps i j = true := war_tr hm h1 h2
theorem clos_in {n : Nat} {ps : List (Nat × Nat)} {i j : Nat} (h : (i, j) ∈ ps) : clos n ps i j = true := war_mono (decide_eq_true h)
theorem Way.mono {R S : Nat → Nat → Prop} (h : ∀ a b, R a b → S a b) {a b : Nat} (w : Way R a b) : Way S a b := by
  induction w with
  | one k => exact .one (h _ _ k)
  | step k _ ih => exact .step (h _ _ k) ih
theorem clos_way {n : Nat} {ps : List (Nat × Nat)} {i j : Nat} (h : clos n ps i j = true) : Way (fun a b => (a, b) ∈ ps) i j :=
  Way.mono (fun a b k => of_decide_eq_true k) (war_sound (T := fun i j => decide ((i, j) ∈ ps)) (k := n) h)
theorem way_up {R : Nat → Nat → Prop} {r : Nat → Int} (h : ∀ a b, R a b → r a < r b) {a b : Nat} (w : Way R a b) : r a < r b := by
  induction w with
  | one k => exact h _ _ k
  | step k _ ih => exact Int.lt_trans (h _ _ k) ih
theorem way_clos {n : Nat} {ps : List (Nat × Nat)} (hl : ∀ q ∈ ps, q.1 < n ∧ q.2 < n) {i j : Nat} (w : Way (fun a b => (a, b) ∈ ps) i j) : clos n ps i j = true := by
  induction w with
  | one k => exact clos_in k
  | step k _ ih => exact clos_tr (hl _ k).2 (clos_in k) ih
/-- what is told of a strict order brings it forth -/
theorem told_clos {n : Nat} {T : Rel2} {ps : List (Nat × Nat)} (s : Strict n T) (h : Told n T ps) {i j : Nat} (hi : i < n) (hj : j < n) : clos n ps i j = T i j := by
  have hl : ∀ q ∈ ps, q.1 < n ∧ q.2 < n := fun q hq => ⟨(h.1 q hq).1, (h.1 q hq).2.1⟩
  obtain ⟨r, hr⟩ := s.rank
  have up : ∀ a b, Way (fun a b => (a, b) ∈ ps) a b → a < n ∧ b < n ∧ T a b = true := by
    intro a b w
    induction w with
    | one k => exact h.1 _ k
    | step k _ ih =>
      obtain ⟨h1, h2, h3⟩ := h.1 _ k
      exact ⟨h1, ih.2.1, s.tr _ _ _ h1 h2 ih.2.1 h3 ih.2.2⟩
  have dn : ∀ (m : Nat) (a b : Nat), a < n → b < n → T a b = true → (r b - r a).toNat ≤ m → Way (fun a b => (a, b) ∈ ps) a b := by
    intro m
    induction m with
    | zero =>
      intro a b ha hb ht hm
      have := hr a b ha hb ht
      omega
    | succ m ih =>
      intro a b ha hb ht hm
      by_cases hc : covB n T a b = true
      · exact .one (h.2 a b ha hb hc)
      · unfold covB at hc
        rw [ht, Bool.true_and, Bool.not_eq_true', Bool.not_eq_false, List.any_eq_true] at hc
        obtain ⟨k, hk, hk2⟩ := hc
        rw [Bool.and_eq_true] at hk2
        have hkn := List.mem_range.mp hk
        have r1 := hr a k ha hkn hk2.1
        have r2 := hr k b hkn hb hk2.2
        exact (ih a k ha hkn hk2.1 (by omega)).app (ih k b hkn hb hk2.2 (by omega))
  cases hT : T i j with
  | true => exact way_clos hl (dn _ i j hi hj hT (Nat.le_refl _))
  | false =>
    cases hc : clos n ps i j with
    | false => rfl
    | true =>
      have := (up i j (clos_way hc)).2.2
      rw [hT] at this; cases this
theorem told_acy {n : Nat} {T : Rel2} {ps : List (Nat × Nat)} (s : Strict n T) (h : Told n T ps) : Acy n ps := by
  obtain ⟨r, hr⟩ := s.rank
  exact ⟨r, fun p hp => ⟨(h.1 p hp).1, (h.1 p hp).2.1, hr _ _ (h.1 p hp).1 (h.1 p hp).2.1 (h.1 p hp).2.2⟩⟩
end Dr

namespace Dr
open PySem PySem.Spec PyProof.Rows L2
/-! ### lists of naturals -/
theorem nv_length (xs : List Nat) : (nv xs).length = xs.length := List.length_map _
theorem nv_get {xs : List Nat} {i x : Nat} (h : xs[i]? = some x) : (nv xs)[i]? = some (.int (x : Int)) := by
  unfold nv; rw [List.getElem?_map, h]; rfl
theorem nv_inv {xs : List Nat} {i : Nat} {v : V} (h : (nv xs)[i]? = some v) : ∃ x : Nat, xs[i]? = some x ∧ v = .int (x : Int) := by
  unfold nv at h; rw [List.getElem?_map] at h
  cases e : xs[i]? with
  | none => rw [e] at h; cases h
  | some x => rw [e] at h; exact ⟨x, rfl, (Option.some.inj h).symm⟩
theorem at_nv {xs : List Nat} {i x : Nat} (h : xs[i]? = some x) : atI (nv xs) (i : Int) = some (.int (x : Int)) := atI_nat (nv_get h)
theorem nv_app (xs ys : List Nat) : nv (xs ++ ys) = nv xs ++ nv ys := List.map_append
theorem nv_ints (xs : List Nat) : nv xs = (xs.map fun (n : Nat) => (n : Int)).map V.int := by
  unfold nv; rw [List.map_map]; rfl
theorem ix_nat {n i : Nat} (h : i < n) : ixN n (i : Int) = some i := by
  unfold ixN
  rw [if_pos (by omega), if_pos (by omega)]; simp
theorem get_of_lt {α : Type} {xs : List α} {i : Nat} (h : i < xs.length) : ∃ x, xs[i]? = some x := ⟨_, List.getElem?_eq_getElem h⟩
theorem lt_of_get {α : Type} {xs : List α} {i : Nat} {x : α} (h : xs[i]? = some x) : i < xs.length := (List.getElem?_eq_some_iff.mp h).1
theorem mem_of_get {α : Type} {xs : List α} {i : Nat} {x : α} (h : xs[i]? = some x) : x ∈ xs := List.mem_of_getElem? h
theorem rng_get {n i : Nat} (h : i < n) : (List.range n)[i]? = some i := by rw [List.getElem?_range h]
/-! ### paired lists -/
section
variable {α β : Type} {F G : α → β → Prop}
theorem pr_len : ∀ {xs : List α} {ys : List β}, Paired F xs ys → xs.length = ys.length
  | [], [], _ => rfl
  | _ :: _, _ :: _, .cons _ h => congrArg (· + 1) (pr_len h)
theorem pr_get : ∀ {xs : List α} {ys : List β} {i : Nat} {x : α}, Paired F xs ys → xs[i]? = some x → ∃ y, ys[i]? = some y ∧ F x y
  | [], _, _, _, _, e => by simp at e
  | _ :: _, _ :: _, 0, _, .cons h _, e => ⟨_, rfl, by cases e; exact h⟩
  | _ :: _, _ :: _, i + 1, _, .cons _ h, e => pr_get (i := i) h e
theorem pr_getR : ∀ {xs : List α} {ys : List β} {i : Nat} {y : β}, Paired F xs ys → ys[i]? = some y → ∃ x, xs[i]? = some x ∧ F x y
  | _, [], _, _, _, e => by simp at e
  | _ :: _, _ :: _, 0, _, .cons h _, e => ⟨_, rfl, by cases e; exact h⟩
  | _ :: _, _ :: _, i + 1, _, .cons _ h, e => pr_getR (i := i) h e
theorem pr_mono (k : ∀ x y, F x y → G x y) : ∀ {xs : List α} {ys : List β}, Paired F xs ys → Paired G xs ys
  | [], [], _ => .nil
  | _ :: _, _ :: _, .cons h t => .cons (k _ _ h) (pr_mono k t)
theorem pr_monoM : ∀ {xs : List α} {ys : List β}, (∀ x y, x ∈ xs → F x y → G x y) → Paired F xs ys → Paired G xs ys
  | [], [], _, _ => .nil
  | _ :: _, _ :: _, k, .cons h t => .cons (k _ _ List.mem_cons_self h) (pr_monoM (fun x y m => k x y (List.mem_cons_of_mem _ m)) t)
theorem pr_snoc : ∀ {xs : List α} {ys : List β} {x : α} {y : β}, Paired F xs ys → F x y → Paired F (xs ++ [x]) (ys ++ [y])
  | [], [], _, _, _, h => .cons h .nil
  | _ :: _, _ :: _, _, _, .cons h t, k => .cons h (pr_snoc t k)
theorem pr_app : ∀ {xs us : List α} {ys ws : List β}, Paired F xs ys → Paired F us ws → Paired F (xs ++ us) (ys ++ ws)
  | [], _, [], _, _, h => h
  | _ :: _, _, _ :: _, _, .cons h t, k => .cons h (pr_app t k)
theorem pr_of : ∀ {xs : List α} {ys : List β}, xs.length = ys.length → (∀ (i : Nat) (x : α) (y : β), xs[i]? = some x → ys[i]? = some y → F x y) → Paired F xs ys
  | [], [], _, _ => .nil
  | x :: xs, y :: ys, hl, h => .cons (h 0 x y rfl rfl) (pr_of (by simpa using hl) fun i a b ha hb => h (i + 1) a b ha hb)
  | [], _ :: _, hl, _ => by cases hl
  | _ :: _, [], hl, _ => by cases hl
theorem pr_mem {xs : List α} {ys : List β} {x : α} (h : Paired F xs ys) (m : x ∈ xs) : ∃ y, y ∈ ys ∧ F x y := by
  obtain ⟨i, hi, rfl⟩ := List.mem_iff_getElem.mp m
  obtain ⟨y, e, k⟩ := pr_get h (List.getElem?_eq_getElem hi)
  exact ⟨y, List.mem_of_getElem? e, k⟩
end
/-! ### what stays -/
section
variable {S : List Addr} {H H' : Hp} {a p : Addr} {K : Frg}
theorem ExB.nn (h : ExB [] H H') {b : Addr} {o : HO} (e : H b = some o) : H' b = some o := h b o (by simp) e
theorem ExB.up (h : ExB [] H H') : ExB S H H' := h.mono (by simp)
theorem ExB.one (h : ExB [p] H H') {b : Addr} {o : HO} (e : H b = some o) (n : b ≠ p) : H' b = some o := h b o (by simp [n]) e
theorem Str3.not {vs : List V} (h : Str3 H p) (e : H a = some (.lst vs)) (n : ∀ i j k, vs ≠ [.int i, .int j, .int k]) : a ≠ p := by
  intro q; subst q
  obtain ⟨g, c, z, hs⟩ := h
  rw [hs] at e; cases e
  exact n g c z rfl
theorem Str3.notT {vs : List V} (h : Str3 H p) (e : H a = some (.tup vs)) : a ≠ p := by
  intro q; subst q
  obtain ⟨g, c, z, hs⟩ := h
  rw [hs] at e; cases e
theorem Str3.notI {C dx : Addr} {fs : List (Str × V)} (h : Str3 H p) (e : H a = some (.ins C dx fs)) : a ≠ p := by
  intro q; subst q
  obtain ⟨g, c, z, hs⟩ := h
  rw [hs] at e; cases e
theorem Str3.ne (h : Str3 H p) (e : H a = none) : a ≠ p := by
  intro q; subst q
  obtain ⟨g, c, z, hs⟩ := h
  rw [hs] at e; cases e
theorem Str3.mono (h : Str3 H p) (e : ExB [] H H') : Str3 H' p := by
  obtain ⟨g, c, z, hs⟩ := h
  exact ⟨g, c, z, e.nn hs⟩
theorem Str3.old (h : Str3 H p) {b : Addr} {o : HO} (e : H b = none) : Str3 (upd H b o) p := by
  obtain ⟨g, c, z, hs⟩ := h
  exact ⟨g, c, z, upd_old hs e⟩
theorem Str3.some (h : Str3 H p) : ∃ o, H p = some o := by
  obtain ⟨g, c, z, hs⟩ := h
  exact ⟨_, hs⟩
theorem IsPair.mono {v : V} {q : Nat × Nat} (h : IsPair H v q) (e : ExB [] H H') : IsPair H' v q := by
  obtain ⟨b, rfl, k⟩ := h
  exact ⟨b, rfl, e.nn k⟩
theorem PL.mono {ps : List (Nat × Nat)} (h : PL H a ps) (e : ExB [] H H') : PL H' a ps := by
  obtain ⟨vs, h1, h2⟩ := h
  exact ⟨vs, e.nn h1, pr_mono (fun x y k => k.mono e) h2⟩
theorem PL.noStr {ps : List (Nat × Nat)} {vs : List V} (h2 : Paired (IsPair H) vs ps) (i j k : Int) : vs ≠ [.int i, .int j, .int k] := by
  rintro rfl
  cases ps with
  | nil => cases h2
  | cons q r =>
    cases h2 with
    | cons h _ => obtain ⟨b, e, _⟩ := h; cases e
theorem PL.str {ps : List (Nat × Nat)} (h : PL H a ps) (s : Str3 H p) (e : ExB [p] H H') : PL H' a ps := by
  obtain ⟨vs, h1, h2⟩ := h
  exact ⟨vs, e.one h1 (s.not h1 (PL.noStr h2)), pr_mono (fun x y k => by
    obtain ⟨b, rfl, k⟩ := k
    exact ⟨b, rfl, e.one k (s.notT k)⟩) h2⟩
theorem LLb.mono {bs : List Addr} {xss : List (List Nat)} (h : LLb H a bs xss) (e : ExB [] H H') : LLb H' a bs xss := ⟨e.nn h.1, pr_mono (fun x y k => e.nn k) h.2⟩
theorem LL.mono {xss : List (List Nat)} (h : LL H a xss) (e : ExB [] H H') : LL H' a xss := by
  obtain ⟨bs, k⟩ := h
  exact ⟨bs, k.mono e⟩
theorem LLf.ll {H0 : Hp} {xss : List (List Nat)} (h : LLf H0 H a xss) : LL H a xss := by
  obtain ⟨bs, k, _⟩ := h
  exact ⟨bs, k⟩
theorem LLf.mono {H0 : Hp} {xss : List (List Nat)} (h : LLf H0 H a xss) (e : ExB [] H H') : LLf H0 H' a xss := by
  obtain ⟨bs, k, m⟩ := h
  exact ⟨bs, k.mono e, m⟩
theorem TabB.mono {bs : List Addr} {n : Nat} {T : Rel2} (h : TabB H a bs n T) (e : ExB [] H H') : TabB H' a bs n T := ⟨e.nn h.at_, h.len, fun i b k => e.nn (h.row i b k)⟩
theorem Tab.mono {n : Nat} {T : Rel2} (h : Tab H a n T) (e : ExB [] H H') : Tab H' a n T := by
  obtain ⟨bs, k⟩ := h
  exact ⟨bs, k.mono e⟩
theorem Tab.str {n : Nat} {T : Rel2} (h : Tab H a n T) (s : Str3 H p) (e : ExB [p] H H') : Tab H' a n T := by
  obtain ⟨bs, k⟩ := h
  refine ⟨bs, e.one k.at_ (s.not k.at_ ?_), k.len, fun i b q => e.one (k.row i b q) (s.not (k.row i b q) ?_)⟩
  · intro i j k h
    cases bs with
    | nil => cases h
    | cons b r => cases h
  · intro i' j k' h
    unfold rowV at h
    cases n with
    | zero => cases h
    | succ n => rw [List.range_succ_eq_map] at h; cases h
theorem OrdU.mono {up : Addr} {n : Nat} {T : Rel2} (h : OrdU K H a up n T) (e : ExB [] H H') : OrdU K H' a up n T := by
  obtain ⟨⟨dx, dn, pr, h1, h2, h3⟩, le⟩ := h
  exact ⟨⟨dx, dn, pr, e.nn h1, e.nn h2, h3.mono e⟩, le⟩
theorem OrdU.str {up : Addr} {n : Nat} {T : Rel2} (h : OrdU K H a up n T) (s : Str3 H p) (e : ExB [p] H H') (m : up ≠ p) : OrdU K H' a up n T := by
  obtain ⟨⟨dx, dn, pr, h1, h2, h3⟩, le⟩ := h
  exact ⟨⟨dx, dn, pr, e.one h1 (s.notI h1), e.one h2 m, h3.str s e⟩, le⟩
theorem OrdAt.mono {n : Nat} {T : Rel2} (h : OrdAt K H a n T) (e : ExB [] H H') : OrdAt K H' a n T := by
  obtain ⟨up, k⟩ := h
  exact ⟨up, k.mono e⟩
theorem OrdAt.le {n : Nat} {T : Rel2} (h : OrdAt K H a n T) : n ≤ 40 := by
  obtain ⟨up, k⟩ := h
  exact k.le
end
/-! ### fields -/
theorem lO_size {n : Nat} {u d p : Addr} : (fsO n u d p).lookup ("_size" : Str) = some (.int (n : Int)) := by kernel_rfl
theorem lO_up {n : Nat} {u d p : Addr} : (fsO n u d p).lookup ("_up" : Str) = some (.ref u) := by kernel_rfl
theorem lO_down {n : Nat} {u d p : Addr} : (fsO n u d p).lookup ("_down" : Str) = some (.ref d) := by kernel_rfl
theorem lO_pairs {n : Nat} {u d p : Addr} : (fsO n u d p).lookup ("_pairs" : Str) = some (.ref p) := by kernel_rfl
theorem nO_below {n : Nat} {u d p : Addr} : (fsO n u d p).lookup ("below" : Str) = none := by kernel_rfl
theorem nO_apart {n : Nat} {u d p : Addr} : (fsO n u d p).lookup ("apart" : Str) = none := by kernel_rfl
theorem nO_pairs {n : Nat} {u d p : Addr} : (fsO n u d p).lookup ("pairs" : Str) = none := by kernel_rfl
theorem lF_nodes {n : Nat} {t h r g : Addr} : (fsF n t h r g).lookup ("_nodes" : Str) = some (.int (n : Int)) := by kernel_rfl
theorem lF_tails {n : Nat} {t h r g : Addr} : (fsF n t h r g).lookup ("_tails" : Str) = some (.ref t) := by kernel_rfl
theorem lF_heads {n : Nat} {t h r g : Addr} : (fsF n t h r g).lookup ("_heads" : Str) = some (.ref h) := by kernel_rfl
theorem lF_rooms {n : Nat} {t h r g : Addr} : (fsF n t h r g).lookup ("_rooms" : Str) = some (.ref r) := by kernel_rfl
theorem lF_gains {n : Nat} {t h r g : Addr} : (fsF n t h r g).lookup ("_gains" : Str) = some (.ref g) := by kernel_rfl
theorem nF_add_arc {n : Nat} {t h r g : Addr} : (fsF n t h r g).lookup ("add_arc" : Str) = none := by kernel_rfl
theorem nF_flows {n : Nat} {t h r g : Addr} : (fsF n t h r g).lookup ("flows" : Str) = none := by kernel_rfl
theorem nF_head {n : Nat} {t h r g : Addr} : (fsF n t h r g).lookup ("head" : Str) = none := by kernel_rfl
theorem nF_arcs_from {n : Nat} {t h r g : Addr} : (fsF n t h r g).lookup ("arcs_from" : Str) = none := by kernel_rfl
theorem nF_gains_from {n : Nat} {t h r g : Addr} : (fsF n t h r g).lookup ("gains_from" : Str) = none := by kernel_rfl
theorem nF_push {n : Nat} {t h r g : Addr} : (fsF n t h r g).lookup ("push" : Str) = none := by kernel_rfl
theorem lC_order {o f ga : Addr} {u : Nat} : (fsC o f ga u).lookup ("_order" : Str) = some (.ref o) := by kernel_rfl
theorem lC_flow {o f ga : Addr} {u : Nat} : (fsC o f ga u).lookup ("_flow" : Str) = some (.ref f) := by kernel_rfl
theorem lC_gaining {o f ga : Addr} {u : Nat} : (fsC o f ga u).lookup ("_gaining" : Str) = some (.ref ga) := by kernel_rfl
theorem lC_units {o f ga : Addr} {u : Nat} : (fsC o f ga u).lookup ("units" : Str) = some (.int (u : Int)) := by kernel_rfl
theorem nC_next_gain {o f ga : Addr} {u : Nat} : (fsC o f ga u).lookup ("next_gain" : Str) = none := by kernel_rfl
theorem nC_add_unit {o f ga : Addr} {u : Nat} : (fsC o f ga u).lookup ("add_unit" : Str) = none := by kernel_rfl
theorem nC_chains {o f ga : Addr} {u : Nat} : (fsC o f ga u).lookup ("chains" : Str) = none := by kernel_rfl
theorem nC_prices {o f ga : Addr} {u : Nat} : (fsC o f ga u).lookup ("prices" : Str) = none := by kernel_rfl
theorem nC_sets {o f ga : Addr} {u : Nat} : (fsC o f ga u).lookup ("sets" : Str) = none := by kernel_rfl
/-! ### the property -/
theorem getter_ok {P : Program} {w : World} {K : Frg} {mg : Str → Option Value} {base : Heap} (T : Tx K mg) :
    ∃ fd, FnOk P w K mg base CX0 1 (getAd K "Order" "size") fd ["self"] (getSp (aO K) "_size") ∧ L2.Binds K fd ["self"] [] := by
  obtain ⟨fd, F⟩ := T.s.getter
  have bd : L2.Binds K fd ["self"] [] := F.bindsN fun _ _ _ _ _ _ us hl => match us, hl with | [_], _ => rfl
  obtain ⟨oc, od, dV, kV, doc, pm, an, cdv, ct, osl, rfl, lk, hcd, hD, hK⟩ := F.ex
  exact ⟨_, fn_getter (N := ["self"]) lk hcd ⟨rfl, rfl, rfl, by decide +kernel, rfl, by decide +kernel, by decide +kernel⟩ rfl rfl T.clO T.na_size, bd⟩
theorem room65 {k : Nat} {A : Around} (r : Room k A) : A.units + 65 < cLine := by have := r.un; omega
/-! ### masks -/
theorem maskL_bit (xs : List Nat) (m j : Nat) : (xs.foldl (fun m e => m ||| (1 <<< e)) m).testBit j = (m.testBit j || decide (j ∈ xs)) := by
  induction xs generalizing m with
  | nil => simp
  | cons x xs ih =>
    rw [List.foldl_cons, ih, Nat.testBit_or, Nat.one_shiftLeft, Nat.testBit_two_pow]
    by_cases h : j = x
    · subst h; simp
    · have h2 : ¬ x = j := fun q => h q.symm
      simp [h, h2]
theorem mask_bit (xs : List Nat) (j : Nat) : (maskL xs).testBit j = decide (j ∈ xs) := by unfold maskL; rw [maskL_bit]; simp
theorem maskRow_bit {n : Nat} {T : Rel2} {i j : Nat} : (maskRow n T i).testBit j = (decide (j < n) && T i j) := by
  unfold maskRow; rw [mask_bit]
  rw [Bool.eq_iff_iff]; simp [List.mem_filter]
/-- a bit, as the program asks for it -/
theorem bit_and (m j : Nat) : decide (Builtin.bitAnd ((m : Int) / 2 ^ ((j : Nat) : Int).toNat) 1 = 1) = m.testBit j := by
  rw [bitAnd_m1, Int.toNat_natCast, Nat.testBit_eq_decide_div_mod_eq]
  have e : ((m : Int) / 2 ^ j) % 2 = ((m / 2 ^ j % 2 : Nat) : Int) := by
    rw [Int.natCast_emod, Int.natCast_ediv, Int.natCast_pow]; rfl
  rw [e]
  by_cases h : m / 2 ^ j % 2 = 1
  · rw [h]; simp
  · rw [decide_eq_false h, decide_eq_false (by omega)]
/-! ### isinstance -/
section
variable {K : Frg} {H : Hp} {Q : VK} {p : Addr} {xs : List V}
theorem z_isiII {i : Int} (k : Q (.bl true) H) : rIsi K [.int i, .ty "int"] H Q := ⟨.int i, .ty "int", .type "int", .type "int", true, rfl, .ty _, .base (.int i), kit_ty (by decide +kernel), k⟩
theorem z_isiIB {i : Int} (k : Q (.bl false) H) : rIsi K [.int i, .ty "bool"] H Q := ⟨.int i, .ty "bool", .type "int", .type "bool", false, rfl, .ty _, .base (.int i), kit_ty (by decide +kernel), k⟩
theorem z_isiBB {i : Bool} (k : Q (.bl true) H) : rIsi K [.bl i, .ty "bool"] H Q := ⟨.bl i, .ty "bool", .type "bool", .type "bool", true, rfl, .ty _, .base (.bl i), kit_ty (by decide +kernel), k⟩
theorem z_isiL (h : H p = some (.lst xs)) (k : Q (.bl true) H) : rIsi K [.ref p, .ty "list"] H Q := ⟨.ref p, .ty "list", .type "list", .type "list", true, rfl, .ty _, .base (.lst h), kit_ty (by decide +kernel), k⟩
theorem z_isiT (h : H p = some (.tup xs)) (k : Q (.bl true) H) : rIsi K [.ref p, .ty "tuple"] H Q := ⟨.ref p, .ty "tuple", .type "tuple", .type "tuple", true, rfl, .ty _, .base (.tup h), kit_ty (by decide +kernel), k⟩
end
theorem at_refs {bs : List Addr} {i : Nat} {b : Addr} (h : bs[i]? = some b) : atI (bs.map V.ref) (i : Int) = some (.ref b) := atI_nat (by rw [List.getElem?_map, h]; rfl)
theorem at_row {n : Nat} {T : Rel2} {i j : Nat} (h : j < n) : atI (rowV n T i) (j : Int) = some (.bl (T i j)) := atI_nat (by unfold rowV; rw [List.getElem?_map, rng_get h]; rfl)
/-! ### rules whose reading says K itself, not a context's -/
section
variable {X : Cx} {K : Frg} {e e2 o i tg : Expr} {es : List Expr} {st : Stmt} {f : Str} {pos : Pos} {ta tb te to tl : TE} {tr : TA} {tgs : TGs} {n : Nat} {t : TT} {r : V → List V → Hp → VK → Prop} {rd : V → V → Hp → VK → Prop} {T : String}
theorem ixl (h : X.K = K) : IxR X (rIxL K) := h ▸ ix_list
theorem ixt (h : X.K = K) : IxR X (rIxT K) := h ▸ ix_tup
theorem k_len (h : X.K = K) : CallR X (.builtin "len") (rLen K) := h ▸ cr_len
theorem k_list (h : X.K = K) : CallR X (.type "list") (rListOf K) := h ▸ cr_list
theorem k_tuple (h : X.K = K) : CallR X (.type "tuple") (rTupOf K) := h ▸ cr_tuple
theorem k_sum (h : X.K = K) (c : X.calm = true) : CallR X (.builtin "sum") (rSum K) := h ▸ cr_sum c
theorem k_max (h : X.K = K) (c : X.calm = true) : CallR X (.builtin "max") (rMax K) := h ▸ cr_max c
theorem k_all (h : X.K = K) (c : X.calm = true) : CallR X (.builtin "all") (rAll K) := h ▸ cr_all c
theorem k_any (h : X.K = K) (c : X.calm = true) : CallR X (.builtin "any") (rAny K) := h ▸ cr_any c
theorem k_sorted (h : X.K = K) : CallR X (.builtin "sorted") (rSorted K) := h ▸ cr_sorted
theorem k_isi (h : X.K = K) : CallR X (.builtin "isinstance") (rIsi K) := h ▸ call_isi
theorem k_sl (h : X.K = K) : SlR X (rSlL K) := h ▸ sl_list
theorem k_in (h : X.K = K) : OpR X (compareOp .In) (rIn K false) := h ▸ op_in_seq
theorem k_eqD (h : X.K = K) (u : X.A.units + 64 < cLine) : OpR X (compareOp .Eq) (rEqD K) := h ▸ op_eqD u
theorem k_inD (h : X.K = K) (u : X.A.units + 65 < cLine) : OpR X (compareOp .In) (rInD K) := h ▸ op_inD u
theorem k_index (h : X.K = K) : MtR X "list.index" (rIndex K) := h ▸ mt_index
theorem kFl (h : X.K = K) (p : PE X e (tFld X.K ta f)) : PE X e (tFld K ta f) := h ▸ p
theorem kSt (h : X.K = K) (p : PS X st (sFld X.K ta tb f)) : PS X st (sFld K ta tb f) := h ▸ p
theorem kFa (h : X.K = K) (p : PS X st (sFldAug X.K ta tb rd f)) : PS X st (sFldAug K ta tb rd f) := h ▸ p
theorem kBm (h : X.K = K) (p : PE X e (tBM X.K T r to tr)) : PE X e (tBM K T r to tr) := h ▸ p
theorem kBm0 (h : X.K = K) (p : PE X e (tBM0 X.K T r to)) : PE X e (tBM0 K T r to) := h ▸ p
theorem kIl (h : X.K = K) (p : PI X tg i (iList X.K tl)) : PI X tg i (iList K tl) := h ▸ p
theorem kIt (h : X.K = K) (p : PI X tg i (iTup X.K tl)) : PI X tg i (iTup K tl) := h ▸ p
theorem kIe (h : X.K = K) (p : PI X tg i (iEnum X.K tr)) : PI X tg i (iEnum K tr) := h ▸ p
theorem kIz (h : X.K = K) (p : PI X tg i (iZip X.K tr)) : PI X tg i (iZip K tr) := h ▸ p
theorem kGt (h : X.K = K) (p : PG X e (gTup X.K n tgs)) : PG X e (gTup K n tgs) := h ▸ p
theorem kLs (h : X.K = K) (p : PE X e (RZ.tLenSetI X.K ta)) : PE X e (RZ.tLenSetI K ta) := h ▸ p
/-- a value's truth as a test -/
def tTrue (K : Frg) (ta : TE) : TT := fun σ H Q => ta σ H fun x H' => ∃ k, TruV K x H' k ∧ Q k H'
theorem kTr (h : X.K = K) (p : PT X e (fun σ H Q => ta σ H fun x H' => ∃ k, TruV X.K x H' k ∧ Q k H')) : PT X e (tTrue K ta) := h ▸ p
end
section
variable {K : Frg} {σ : L2.St} {H : Hp} {ta : TE} {Qb : Bool → Hp → Prop} {i : Int}
def kTru (K : Frg) (Q : Bool → Hp → Prop) (x : V) (H : Hp) : Prop := ∃ k, TruV K x H k ∧ Q k H
theorem z_true (k : ta σ H (kTru K Qb)) : tTrue K ta σ H Qb := k
theorem z_truI (k : Qb (i != 0) H) : kTru K Qb (.int i) H := ⟨_, rfl, k⟩
end
/-! ### comprehensions whose elements lay nothing -/
section
variable {K : Frg} {σ : L2.St} {H : Hp} {Q : VK} {g : TG} {tt : TT} {te : TE} {vs : List Nat} {A p : Addr} {y : V}
theorem z_wp {a b : L2.St} {R : Prop} (h : wipe a vs = wipe b vs) (k : R) : wipe a vs = wipe b vs ∧ R := ⟨h, k⟩
theorem z_accU {acc : List V} {Nx : Hp → Prop} (hl : acc.length < 100000) (k : Nx (upd H A (.lst (acc ++ [y])))) : ∃ ac, upd H A (.lst acc) A = some (.lst ac) ∧ ac.length < sizeLine ∧ Nx (upd (upd H A (.lst acc)) A (.lst (ac ++ [y]))) :=
  ⟨acc, upd_same, size_lt hl, by rw [upd_upd]; exact k⟩
theorem l_pureF {n : Nat} (b : Nat → Bool) (f : Nat → V) (hn : n ≤ 90000)
    (hs : ∀ (i : Nat) acc (Nx : Hp → Prop), i < n → acc.length ≤ i → Nx (upd H A (.lst (if b i = true then acc ++ [f i] else acc))) → g (.int (i : Int)) (wipe σ vs) (upd H A (.lst acc)) fun σ2 H2 => wipe σ2 vs = wipe σ vs ∧ tt σ2 H2 fun c H3 =>
      if c = true then te σ2 H3 fun y H4 => ∃ acc, H4 A = some (.lst acc) ∧ acc.length < sizeLine ∧ Nx (upd H4 A (.lst (acc ++ [y]))) else Nx H3)
    (k : Q (.ref A) (upd H A (.lst (((List.range n).filter b).map f)))) : LcG (Itr 0 n) g tt te vs σ H A Q := by
  refine l_range0 (fun i H' => H' = upd H A (.lst (((List.range i).filter b).map f))) rfl (fun i H' hi e => ?_) (fun H' e => by rw [e]; exact k)
  subst e
  refine hs i _ _ hi ?_ ?_
  · rw [List.length_map]; exact Nat.le_trans (List.length_filter_le _ _) (by simp)
  · congr 2
    rw [List.range_succ, List.filter_append, List.map_append]
    cases hb : b i <;> simp [hb]
theorem l_pure0 {n : Nat} (f : Nat → V) (hn : n ≤ 90000)
    (hs : ∀ (i : Nat) acc (Nx : Hp → Prop), i < n → acc.length ≤ i → Nx (upd H A (.lst (acc ++ [f i]))) → g (.int (i : Int)) (wipe σ vs) (upd H A (.lst acc)) fun σ2 H2 => wipe σ2 vs = wipe σ vs ∧ tt σ2 H2 fun c H3 =>
      if c = true then te σ2 H3 fun y H4 => ∃ acc, H4 A = some (.lst acc) ∧ acc.length < sizeLine ∧ Nx (upd H4 A (.lst (acc ++ [y]))) else Nx H3)
    (k : Q (.ref A) (upd H A (.lst ((List.range n).map f)))) : LcG (Itr 0 n) g tt te vs σ H A Q := by
  refine l_range0 (fun i H' => H' = upd H A (.lst ((List.range i).map f))) rfl (fun i H' hi e => ?_) (fun H' e => by rw [e]; exact k)
  subst e
  refine hs i _ _ hi (by simp) ?_
  rw [List.range_succ, List.map_append]; rfl
/-- over a list that stands -/
theorem l_pureL {xs : List V} (b : V → Bool) (f : V → V) (hp : H p = some (.lst xs)) (hA : H A = none) (hn : xs.length ≤ 90000)
    (hs : ∀ (i : Nat) x acc (Nx : Hp → Prop), xs[i]? = some x → acc.length ≤ i → Nx (upd H A (.lst (if b x = true then acc ++ [f x] else acc))) → g x (wipe σ vs) (upd H A (.lst acc)) fun σ2 H2 => wipe σ2 vs = wipe σ vs ∧ tt σ2 H2 fun c H3 =>
      if c = true then te σ2 H3 fun y H4 => ∃ acc, H4 A = some (.lst acc) ∧ acc.length < sizeLine ∧ Nx (upd H4 A (.lst (acc ++ [y]))) else Nx H3)
    (k : Q (.ref A) (upd H A (.lst ((xs.filter b).map f)))) : LcG (Itl K p) g tt te vs σ H A Q := by
  refine l_list (K := K) (xs := xs) (fun i H' => H' = upd H A (.lst (((xs.take i).filter b).map f))) (by simp) (fun i H' _ e => by rw [e]; exact upd_old hp hA) (fun i x H' hx e => ?_) (fun H' e => by rw [e, List.take_length]; exact k)
  subst e
  have hi := lt_of_get hx
  refine hs i x _ _ hx ?_ ?_
  · rw [List.length_map]; exact Nat.le_trans (List.length_filter_le _ _) (by simp; omega)
  · congr 2
    rw [List.take_succ, hx]
    simp only [Option.toList_some, List.filter_append, List.map_append]
    cases hb : b x <;> simp [hb]
end
/-! ### small facts of lists -/
theorem bls_map {n : Nat} (f : Nat → Bool) : (List.range n).map (fun i => V.bl (f i)) = ((List.range n).map f).map V.bl := by rw [List.map_map]; rfl
theorem all_range_true {n : Nat} {f : Nat → Bool} (h : ∀ i, i < n → f i = true) : ((List.range n).map f).all id = true := by
  rw [List.all_map, List.all_eq_true]
  intro i hi
  exact h i (List.mem_range.mp hi)
theorem z_tt {R : Prop} (k : R) : True ∧ R := ⟨trivial, k⟩
theorem take_snoc {α : Type} {xs : List α} {i : Nat} {x : α} (h : xs[i]? = some x) : xs.take (i + 1) = xs.take i ++ [x] := by rw [List.take_succ, h]; rfl
/-- a mask and one more bit -/
theorem mask_or (m a : Nat) : Builtin.bitOr (m : Int) (1 * 2 ^ ((a : Nat) : Int).toNat) = ((m ||| (1 <<< a) : Nat) : Int) := by
  have e : (1 * 2 ^ ((a : Nat) : Int).toNat : Int) = ((2 ^ a : Nat) : Int) := by rw [Int.one_mul, Int.toNat_natCast, Int.natCast_pow]; rfl
  rw [e, Bits.bitOr_pp (Int.natCast_nonneg _) (Int.natCast_nonneg _), Nat.one_shiftLeft]; rfl
theorem or_nat (m a : Nat) : Builtin.bitOr (m : Int) (a : Int) = ((m ||| a : Nat) : Int) := by
  rw [Bits.bitOr_pp (Int.natCast_nonneg _) (Int.natCast_nonneg _)]; rfl
theorem maskL_snoc (xs : List Nat) (a : Nat) : maskL (xs ++ [a]) = maskL xs ||| (1 <<< a) := by unfold maskL; rw [List.foldl_append]; rfl
theorem ifmin (a c : Nat) : (if ((c : Nat) : Int) < ((a : Nat) : Int) then ((c : Nat) : Int) else ((a : Nat) : Int)) = ((min a c : Nat) : Int) := by
  by_cases h : c < a
  · rw [if_pos (by omega)]; omega
  · rw [if_neg (by omega)]; omega
theorem sum_ints (xs : List Nat) : (xs.map fun (n : Nat) => (n : Int)).sum = ((xs.sum : Nat) : Int) := by
  induction xs with
  | nil => rfl
  | cons x xs ih => rw [List.map_cons, List.sum_cons, List.sum_cons, ih]; omega
theorem z_popAt {H : Hp} {Q : VK} {l : Addr} {xs : List V} {j : Nat} {y : V} (h : H l = some (.lst xs)) (hj : xs[j]? = some y) (hl : xs.length ≤ 100000) (k : Q y (upd H l (.lst (xs.eraseIdx j)))) : rPopAt (.ref l) [.int (j : Int)] H Q :=
  have lt := lt_of_get hj
  ⟨l, xs, j, j, y, rfl, rfl, h, by omega, by omega, (ixN_seq (ix_nat lt)).1, hj, k⟩
theorem z_popL {H : Hp} {Q : VK} {l : Addr} {xs : List V} {y : V} (h : H l = some (.lst (xs ++ [y]))) (k : Q y (upd H l (.lst xs))) : rPop (.ref l) [] H Q :=
  ⟨l, xs ++ [y], y, rfl, rfl, h, by simp, by rw [List.dropLast_concat]; exact k⟩
theorem perm_erase {α : Type} : ∀ {xs : List α} {j : Nat} {y : α}, xs[j]? = some y → List.Perm (y :: xs.eraseIdx j) xs
  | x :: xs, 0, y, h => by cases h; exact List.Perm.refl _
  | x :: xs, j + 1, y, h => by
    have ih := perm_erase (xs := xs) (j := j) (y := y) h
    rw [List.eraseIdx_cons_succ]
    exact (List.Perm.swap _ _ _).trans (ih.cons x)
  | [], _, _, h => by simp at h
theorem z_nT {A B : Prop} (k : B) : if (!true) = true then A else B := by rw [if_neg (by simp)]; exact k
theorem z_nF {A B : Prop} (k : A) : if (!false) = true then A else B := by rw [if_pos (by simp)]; exact k
/-- the slice up to i -/
theorem cut_to {xs : List V} {i : Nat} (h : i ≤ xs.length) : cutV xs none (some (i : Int)) = xs.take i := by
  unfold cutV
  rw [HT.sIx_none, HT.sIx_nat, Nat.min_eq_left h, List.drop_zero, Nat.sub_zero]
theorem cut_from {xs : List V} {i : Nat} (h : i ≤ xs.length) : cutV xs (some (i : Int)) none = xs.drop i := by
  unfold cutV
  rw [HT.sIx_none, HT.sIx_nat, Nat.min_eq_left h, List.take_of_length_le (by simp)]
theorem nv_take (xs : List Nat) (i : Nat) : (nv xs).take i = nv (xs.take i) := by unfold nv; rw [List.map_take]
theorem nv_drop (xs : List Nat) (i : Nat) : (nv xs).drop i = nv (xs.drop i) := by unfold nv; rw [List.map_drop]
theorem filt_tt {α : Type} (xs : List α) : xs.filter (fun _ => true) = xs := by simp
theorem all_tt {α : Type} (xs : List α) : (xs.map fun _ => true).all id = true := by rw [List.all_map, List.all_eq_true]; intro _ _; rfl
theorem filt_map_tt {α : Type} (xs : List α) : ((xs.filter fun _ => true).map fun _ => V.bl true) = (xs.map fun _ => true).map V.bl := by rw [filt_tt, List.map_map]; rfl
theorem take_flat_le (xss : List (List Nat)) (i : Nat) : (xss.take i).flatten.length ≤ xss.flatten.length := by
  have h : xss.flatten = (xss.take i).flatten ++ (xss.drop i).flatten := by rw [← List.flatten_append, List.take_append_drop]
  rw [h, List.length_append]; omega
/-! sorted, list(range), == -/
section
variable {K : Frg} {σ : L2.St} {H : Hp} {Q : VK} {te : TE} {p q : Addr} {i : Int}
theorem range_sorted (n : Nat) : ((List.range n).map fun (m : Nat) => (m : Int)).Pairwise (· ≤ ·) := by
  rw [List.pairwise_map]
  exact List.Pairwise.imp (fun h => by omega) List.pairwise_lt_range
theorem z_sortedN {xs : List Nat} {n : Nat} (h : H p = some (.lst (nv xs))) (hp : xs.Perm (List.range n)) (hn : n < 64) (k : ∀ a, H a = none → Q (.ref a) (upd H a (.lst (nv (List.range n))))) : rSorted K [.ref p] H Q := by
  refine ⟨p, xs.map fun (m : Nat) => (m : Int), rfl, SqL.of (by rw [← nv_ints]; exact h), by rw [List.length_map, hp.length_eq, List.length_range]; exact hn, fun ns' a pm pw ha => ?_⟩
  have e : ns' = (List.range n).map fun (m : Nat) => (m : Int) :=
    (pm.trans (hp.map _)).eq_of_pairwise (fun x y _ _ h1 h2 => Int.le_antisymm h1 h2) pw (range_sorted n)
  rw [e, ← nv_ints]
  exact k a ha
theorem z_lstRg {t : L2.St → Hp → (Int → Int → Hp → Prop) → Prop} (k : t σ H fun a b H1 => RgOk a b ∧ ∀ q, H1 q = none → Q (.ref q) (upd H1 q (.lst (rgV a b)))) : tLstRg t σ H Q := k
theorem z_rg1 {R : Int → Int → Hp → Prop} (k : te σ H fun x H1 => ∃ n, x = .int n ∧ R 0 n H1) : tRg1 te σ H R := k
theorem rgV_nv (n : Nat) : rgV 0 (n : Int) = nv (List.range n) := by
  unfold rgV nv
  rw [show ((n : Int) - 0).toNat = n by omega]
  apply List.map_congr_left
  intro m _
  rw [Int.zero_add]
theorem rgOk0 {n : Nat} (h : n ≤ 10000) : RgOk 0 (n : Int) := by unfold RgOk; omega
theorem dpAll_ints : ∀ xs : List Nat, DpAll K H (nv xs) (xs.map fun (m : Nat) => PyData.int (m : Int))
  | [] => .nil
  | x :: xs => .cons (.int _) (dpAll_ints xs)
theorem dp_nv {xs : List Nat} (h : H p = some (.lst (nv xs))) : Dp K H (.ref p) (.list (xs.map fun (m : Nat) => PyData.int (m : Int))) := .lst (SqL.of h) (dpAll_ints xs)
theorem lay_ints : ∀ xs : List Nat, PyData.canLayAll0 (xs.map fun (m : Nat) => PyData.int (m : Int)) = true
  | [] => by simp [PyData.canLayAll0]
  | x :: xs => by simp [PyData.canLayAll0, PyData.canLay0, lay_ints xs]
theorem dep_ints : ∀ xs : List Nat, PyData.depthAll (xs.map fun (m : Nat) => PyData.int (m : Int)) ≤ 1
  | [] => by simp [PyData.depthAll]
  | x :: xs => by
    have h := dep_ints xs
    simp only [List.map_cons, PyData.depthAll, PyData.depth]
    omega
theorem shp_ints (xs : List Nat) : SeqAt.shaped (.list (xs.map fun (m : Nat) => PyData.int (m : Int))) = true := by
  have h := dep_ints xs
  show (PyData.canLay0 (.list _) && decide (PyData.depth (.list _) ≤ 64)) = true
  rw [Bool.and_eq_true]
  exact ⟨by simp only [PyData.canLay0]; exact lay_ints xs, decide_eq_true (by simp only [PyData.depth]; omega)⟩
theorem z_eqDN {xs : List Nat} (h1 : H p = some (.lst (nv xs))) (h2 : H q = some (.lst (nv xs))) (k : Q (.bl true) H) : rEqD K (.ref p) (.ref q) H Q := by
  refine ⟨_, _, dp_nv h1, dp_nv h2, shp_ints xs, shp_ints xs, ?_⟩
  rw [SeqAt.eqv_refl _ (SeqAt.canLay_of_shaped (shp_ints xs))]
  exact k
theorem dpAll_rows : ∀ {bs : List Addr} {xss : List (List Nat)}, Paired (fun b xs => H b = some (.lst (nv xs))) bs xss → DpAll K H (bs.map V.ref) (xss.map fun xs => PyData.list (xs.map fun (m : Nat) => PyData.int (m : Int)))
  | [], [], _ => .nil
  | _ :: _, _ :: _, .cons h t => .cons (dp_nv h) (dpAll_rows t)
theorem lay_rows : ∀ xss : List (List Nat), PyData.canLayAll0 (xss.map fun xs => PyData.list (xs.map fun (m : Nat) => PyData.int (m : Int))) = true
  | [] => by simp [PyData.canLayAll0]
  | x :: xs => by simp only [List.map_cons, PyData.canLayAll0, PyData.canLay0, lay_rows xs, lay_ints x, Bool.and_self]
theorem dep_rows : ∀ xss : List (List Nat), PyData.depthAll (xss.map fun xs => PyData.list (xs.map fun (m : Nat) => PyData.int (m : Int))) ≤ 2
  | [] => by simp [PyData.depthAll]
  | x :: xs => by
    have h := dep_rows xs
    have h2 := dep_ints x
    simp only [List.map_cons, PyData.depthAll, PyData.depth]
    omega
/-- [] in rows, none of them empty -/
theorem z_inRows {xss : List (List Nat)} (h1 : H p = some (.lst [])) (h2 : LL H q xss) (hne : ∀ x ∈ xss, x ≠ []) (k : Q (.bl false) H) : rInD K (.ref p) (.ref q) H Q := by
  obtain ⟨bs, h3, h4⟩ := h2
  refine ⟨.list [], _, .lst (SqL.of h1) .nil, .lst (SqL.of h3) (dpAll_rows h4), shp_ints [], ?_, ?_⟩
  · have h := dep_rows xss
    show (PyData.canLay0 (.list _) && decide (PyData.depth (.list _) ≤ 64)) = true
    rw [Bool.and_eq_true]
    exact ⟨by simp only [PyData.canLay0]; exact lay_rows xss, decide_eq_true (by simp only [PyData.depth]; omega)⟩
  · rw [show ((xss.map fun xs => PyData.list (xs.map fun (m : Nat) => PyData.int (m : Int))).any fun z => PyData.eqv z (.list [])) = false by
      rw [List.any_map, List.any_eq_false]
      intro x hx
      cases x with
      | nil => exact absurd rfl (hne _ hx)
      | cons y ys => simp [PyData.eqv, PyData.eqvAll]]
    exact k
end
/-! two fors in a comprehension -/
section
variable {K : Frg} {σ : L2.St} {H : Hp} {Q : VK} {g g1 : TG} {tt tt1 : TT} {te : TE} {vs vs1 : List Nat} {A p : Addr} {wi wi1 : TI}
/-- the inner loop -/
def LiG (J1 : It) (g1 : TG) (tt1 : TT) (te : TE) (vs1 : List Nat) (σ2 : L2.St) (H4 : Hp) (D : Addr) (Nx : Hp → Prop) : Prop := ∃ W1 : Nat → Nat → Hp → Prop, (∃ m, W1 0 m H4) ∧ ∀ j k H, W1 j k H →
  (J1.stop j H ∧ Nx H) ∨ (J1.go j H ∧ ∃ Nx1 : Hp → Prop, (∀ H', Nx1 H' → ∃ k', k' < k ∧ W1 (j + 1) k' H') ∧ ∀ x H', J1.yld j H x H' → g1 x (wipe σ2 vs1) H' fun σ3 H5 => wipe σ3 vs1 = wipe σ2 vs1 ∧ tt1 σ3 H5 fun b H6 =>
    if b = true then te σ3 H6 fun y H7 => ∃ acc, H7 D = some (.lst acc) ∧ acc.length < sizeLine ∧ Nx1 (upd H7 D (.lst (acc ++ [y]))) else Nx1 H6)
def LoG (J : It) (g : TG) (tt : TT) (wi1 : TI) (g1 : TG) (tt1 : TT) (te : TE) (vs vs1 : List Nat) (σ : L2.St) (H1 : Hp) (D : Addr) (Q : VK) : Prop := ∃ W : Nat → Nat → Hp → Prop, (∃ m, W 0 m (upd H1 D (.lst []))) ∧ ∀ i m H, W i m H →
  (J.stop i H ∧ Q (.ref D) H) ∨ (J.go i H ∧ ∃ Nx : Hp → Prop, (∀ H', Nx H' → ∃ m', m' < m ∧ W (i + 1) m' H') ∧ ∀ x H', J.yld i H x H' → g x (wipe σ vs) H' fun σ2 H2 => wipe σ2 vs = wipe σ vs ∧ tt σ2 H2 fun b H3 =>
    if b = true then wi1 σ2 H3 fun J1 H4 => LiG J1 g1 tt1 te vs1 σ2 H4 D Nx else Nx H3)
theorem z_lc2 (k : wi σ H fun J H1 => ∀ D, H1 D = none → LoG J g tt wi1 g1 tt1 te vs vs1 σ H1 D Q) : tLc2 wi g tt wi1 g1 tt1 te vs vs1 σ H Q := k
theorem lo_range {n : Nat} (Pv : Nat → Hp → Prop) (h0 : Pv 0 (upd H A (.lst [])))
    (hs : ∀ (i : Nat) H, i < n → Pv i H → g (.int (i : Int)) (wipe σ vs) H fun σ2 H2 => wipe σ2 vs = wipe σ vs ∧ tt σ2 H2 fun b H3 =>
      if b = true then wi1 σ2 H3 fun J1 H4 => LiG J1 g1 tt1 te vs1 σ2 H4 A (Pv (i + 1)) else Pv (i + 1) H3) (hd : ∀ H, Pv n H → Q (.ref A) H) : LoG (Itr 0 n) g tt wi1 g1 tt1 te vs vs1 σ H A Q := by
  refine ⟨fun i m H => m = n - i ∧ i ≤ n ∧ Pv i H, ⟨n, by simp, Nat.zero_le _, h0⟩, ?_⟩
  rintro i m H ⟨rfl, hi, pv⟩
  by_cases hlt : i < n
  · refine Or.inr ⟨hlt, Pv (i + 1), fun H' h => ⟨_, by omega, rfl, hlt, h⟩, ?_⟩
    rintro x H' ⟨rfl, rfl⟩
    rw [Int.zero_add]
    exact hs i H' hlt pv
  · have e : i = n := by omega
    rw [e] at pv
    exact Or.inl ⟨by show n ≤ i; omega, hd H pv⟩
theorem li_range {n : Nat} {Nx : Hp → Prop} (Pv : Nat → Hp → Prop) (h0 : Pv 0 H)
    (hs : ∀ (i : Nat) H, i < n → Pv i H → g1 (.int (i : Int)) (wipe σ vs1) H fun σ3 H5 => wipe σ3 vs1 = wipe σ vs1 ∧ tt1 σ3 H5 fun b H6 =>
      if b = true then te σ3 H6 fun y H7 => ∃ acc, H7 A = some (.lst acc) ∧ acc.length < sizeLine ∧ Pv (i + 1) (upd H7 A (.lst (acc ++ [y]))) else Pv (i + 1) H6) (hd : ∀ H, Pv n H → Nx H) : LiG (Itr 0 n) g1 tt1 te vs1 σ H A Nx := by
  refine ⟨fun i m H => m = n - i ∧ i ≤ n ∧ Pv i H, ⟨n, by simp, Nat.zero_le _, h0⟩, ?_⟩
  rintro i m H ⟨rfl, hi, pv⟩
  by_cases hlt : i < n
  · refine Or.inr ⟨hlt, Pv (i + 1), fun H' h => ⟨_, by omega, rfl, hlt, h⟩, ?_⟩
    rintro x H' ⟨rfl, rfl⟩
    rw [Int.zero_add]
    exact hs i H' hlt pv
  · have e : i = n := by omega
    rw [e] at pv
    exact Or.inl ⟨by show n ≤ i; omega, hd H pv⟩
end
end Dr

namespace Dr
open PySem PySem.Spec PyProof.Rows L2
section
variable {K : Frg} {σ : L2.St} {H : Hp} {Q : VK} {D : Ends} {te : TE} {t : TT} {ts : TS} {g g1 g2 g3 : TG} {tt : TT} {vs : List Nat} {x y z v : V} {A p b : Addr} {J : It}
/-! ### while -/
def KW (W : Nat → L2.St → Hp → Prop) (m : Nat) (tb : TS) (D : Ends) (σ : L2.St) (H : Hp) : Prop := ∃ N : L2.St → Hp → Prop, (∀ σ' H', N σ' H' → ∃ m', m' < m ∧ W m' σ' H') ∧ tb { D with nx := N, ct := N, bk := D.nx } σ H
theorem z_while (W : Nat → L2.St → Hp → Prop) (m0 : Nat) (h0 : W m0 σ H) (hs : ∀ m σ H, W m σ H → t σ H fun b H1 => if b = true then KW W m ts D σ H1 else D.nx σ H1) : tWhile t ts D σ H := ⟨W, ⟨m0, h0⟩, hs⟩
theorem z_kw {W : Nat → L2.St → Hp → Prop} {m : Nat} (k : ts { D with nx := fun σ' H' => ∃ m', m' < m ∧ W m' σ' H', ct := fun σ' H' => ∃ m', m' < m ∧ W m' σ' H', bk := D.nx } σ H) : KW W m ts D σ H := ⟨_, fun _ _ h => h, k⟩
/-! ### tuples as targets -/
theorem z_gt2 {Qs : L2.St → Hp → Prop} (h : H p = some (.tup [x, y])) (k : g1 x σ H fun σ' H' => g2 y σ' H' Qs) : gTup K 2 (gCons g1 (gCons g2 gNil)) (.ref p) σ H Qs :=
  ⟨p, [x, y], rfl, SqT.of h, rfl, x, [y], rfl, (show g1 x σ H _ from (by
    have e : (fun σ' H' => (gCons g2 gNil) [y] σ' H' Qs) = (fun σ' H' => ∃ v r, [y] = v :: r ∧ g2 v σ' H' fun σ'' H'' => gNil r σ'' H'' Qs) := rfl
    have e2 : ∀ (σ' : L2.St) (H' : Hp), (∃ v r, [y] = v :: r ∧ g2 v σ' H' fun σ'' H'' => gNil r σ'' H'' Qs) = (g2 y σ' H' fun σ'' H'' => Qs σ'' H'') := fun σ' H' => propext ⟨fun ⟨v, r, e, k⟩ => by
      cases e
      have e3 : (fun σ'' H'' => gNil [] σ'' H'' Qs) = fun σ'' H'' => Qs σ'' H'' := funext fun a => funext fun b => propext ⟨fun h => h.2, fun h => ⟨rfl, h⟩⟩
      rw [e3] at k; exact k, fun k => ⟨y, [], rfl, by
      have e3 : (fun σ'' H'' => gNil [] σ'' H'' Qs) = fun σ'' H'' => Qs σ'' H'' := funext fun a => funext fun b => propext ⟨fun h => h.2, fun h => ⟨rfl, h⟩⟩
      rw [e3]; exact k⟩⟩
    have e4 : (fun σ' H' => (gCons g2 gNil) [y] σ' H' Qs) = fun σ' H' => g2 y σ' H' Qs := funext fun a => funext fun b => e2 a b
    rw [e4]; exact k))⟩
theorem z_gt3 {i j l : Nat} {Qs : L2.St → Hp → Prop} (h : H p = some (.tup [x, y, z])) (k : Qs (((σ.set i (some x)).set j (some y)).set l (some z)) H) : gTup K 3 (gCons (gName i) (gCons (gName j) (gCons (gName l) gNil))) (.ref p) σ H Qs :=
  ⟨p, [x, y, z], rfl, SqT.of h, rfl, x, [y, z], rfl, y, [z], rfl, z, [], rfl, rfl, k⟩
/-! ### comprehensions that make pairs -/
theorem ExB.cur {H1 : Hp} {o : HO} (e : ExB [] H H1) (h : H A = none) : ExB [] H (upd H1 A o) := ExB.free e h
/-- over a range: a pair for each number that passes -/
theorem l_pairs0 {n : Nat} (bt : Nat → Bool) (f : Nat → Nat × Nat) (hA : H A = none) (hn : n ≤ 90000)
    (hs : ∀ (i : Nat) acc H' (Nx : Hp → Prop), i < n → ExB [] H H' → H' A = some (.lst acc) → acc.length ≤ i → (bt i = false → Nx H') →
      (bt i = true → ∀ T, H' T = none → Nx (upd (upd H' T (.tup [.int ((f i).1 : Nat), .int ((f i).2 : Nat)])) A (.lst (acc ++ [.ref T])))) →
      g (.int (i : Int)) (wipe σ vs) H' fun σ2 H2 => wipe σ2 vs = wipe σ vs ∧ tt σ2 H2 fun c H3 => if c = true then te σ2 H3 fun y H4 => ∃ acc, H4 A = some (.lst acc) ∧ acc.length < sizeLine ∧ Nx (upd H4 A (.lst (acc ++ [y]))) else Nx H3)
    (k : ∀ H', ExB [] H H' → PL H' A (((List.range n).filter bt).map f) → Q (.ref A) H') : LcG (Itr 0 n) g tt te vs σ H A Q := by
  refine l_range0 (fun i H' => ExB [] H H' ∧ ∃ acc, H' A = some (.lst acc) ∧ acc.length ≤ i ∧ Paired (IsPair H') acc (((List.range i).filter bt).map f)) ⟨ExB.new hA, [], upd_same, Nat.le_refl _, .nil⟩ (fun i H' hi ⟨ex, acc, h1, hl, h2⟩ => ?_) (fun H' ⟨ex, acc, h1, hl, h2⟩ => k H' ex ⟨acc, h1, h2⟩)
  refine hs i acc H' _ hi ex h1 hl ?_ ?_
  · intro hb
    refine ⟨ex, acc, h1, by omega, ?_⟩
    rw [List.range_succ, List.filter_append, List.map_append]
    simpa [hb] using h2
  · intro hb T hT
    have nA : A ≠ T := ne_of_none h1 hT
    refine ⟨(ex.trans (ExB.new hT)).free hA, acc ++ [.ref T], upd_same, by rw [List.length_append, List.length_singleton]; omega, ?_⟩
    rw [List.range_succ, List.filter_append, List.map_append]
    have e : (List.filter bt [i]).map f = [f i] := by simp [hb]
    rw [e]
    refine pr_snoc (pr_mono (fun v q ⟨b, e1, e2⟩ => ⟨b, e1, ?_⟩) h2) ⟨T, rfl, by rw [upd_ne nA.symm, upd_same]⟩
    have n1 : b ≠ A := ne_of e2 h1 (by intro q; cases q)
    rw [upd_ne n1]
    exact upd_old e2 hT
/-- over a list of numbers that stands -/
theorem l_pairsL {xs : List Nat} (bt : Nat → Bool) (f : Nat → Nat × Nat) (hp : H p = some (.lst (nv xs))) (hA : H A = none) (hn : xs.length ≤ 90000)
    (hs : ∀ (i m : Nat) acc H' (Nx : Hp → Prop), xs[i]? = some m → ExB [] H H' → H' A = some (.lst acc) → acc.length ≤ i → (bt m = false → Nx H') →
      (bt m = true → ∀ T, H' T = none → Nx (upd (upd H' T (.tup [.int ((f m).1 : Nat), .int ((f m).2 : Nat)])) A (.lst (acc ++ [.ref T])))) →
      g (.int (m : Int)) (wipe σ vs) H' fun σ2 H2 => wipe σ2 vs = wipe σ vs ∧ tt σ2 H2 fun c H3 => if c = true then te σ2 H3 fun y H4 => ∃ acc, H4 A = some (.lst acc) ∧ acc.length < sizeLine ∧ Nx (upd H4 A (.lst (acc ++ [y]))) else Nx H3)
    (k : ∀ H', ExB [] H H' → PL H' A ((xs.filter bt).map f) → Q (.ref A) H') : LcG (Itl K p) g tt te vs σ H A Q := by
  refine l_list (K := K) (xs := nv xs) (fun i H' => ExB [] H H' ∧ ∃ acc, H' A = some (.lst acc) ∧ acc.length ≤ i ∧ Paired (IsPair H') acc (((xs.take i).filter bt).map f)) ⟨ExB.new hA, [], upd_same, Nat.le_refl _, by simp; exact .nil⟩ (fun i H' _ e => e.1.nn hp) (fun i x H' hx ⟨ex, acc, h1, hl, h2⟩ => ?_) (fun H' ⟨ex, acc, h1, hl, h2⟩ => k H' ex ⟨acc, h1, by rw [nv_length, List.take_length] at h2; exact h2⟩)
  obtain ⟨m, hm, rfl⟩ := nv_inv hx
  refine hs i m acc H' _ hm ex h1 hl ?_ ?_
  · intro hb
    refine ⟨ex, acc, h1, by omega, ?_⟩
    rw [take_snoc hm, List.filter_append, List.map_append]
    simpa [hb] using h2
  · intro hb T hT
    have nA : A ≠ T := ne_of_none h1 hT
    refine ⟨(ex.trans (ExB.new hT)).free hA, acc ++ [.ref T], upd_same, by rw [List.length_append, List.length_singleton]; omega, ?_⟩
    rw [take_snoc hm, List.filter_append, List.map_append]
    have e : (List.filter bt [m]).map f = [f m] := by simp [hb]
    rw [e]
    refine pr_snoc (pr_mono (fun v q ⟨b, e1, e2⟩ => ⟨b, e1, ?_⟩) h2) ⟨T, rfl, by rw [upd_ne nA.symm, upd_same]⟩
    have n1 : b ≠ A := ne_of e2 h1 (by intro q; cases q)
    rw [upd_ne n1]
    exact upd_old e2 hT
end
theorem PL.cat {H : Hp} {a b c : Addr} {ps qs : List (Nat × Nat)} {vs ws : List V} (h1 : H a = some (.lst vs)) (h2 : Paired (IsPair H) vs ps) (h3 : H b = some (.lst ws)) (h4 : Paired (IsPair H) ws qs) (hc : H c = none) : PL (upd H c (.lst (vs ++ ws))) c (ps ++ qs) :=
  ⟨_, upd_same, pr_mono (fun v q h => h.mono (ExB.new hc)) (pr_app h2 h4)⟩
/-! ### tables that are filled -/
def setT (T : Rel2) (i j : Nat) : Rel2 := fun a b => T a b || (decide (a = i) && decide (b = j))
theorem rowV_length (n : Nat) (T : Rel2) (i : Nat) : (rowV n T i).length = n := by unfold rowV; rw [List.length_map, List.length_range]
theorem rowV_set {n : Nat} {T : Rel2} {i j : Nat} (hj : j < n) : (rowV n T i).set j (.bl true) = rowV n (setT T i j) i := by
  apply List.ext_getElem?
  intro m
  unfold rowV setT
  rw [List.getElem?_set]
  by_cases e : j = m
  · subst e
    rw [if_pos rfl, List.getElem?_map, rng_get hj]
    simp [hj]
  · rw [if_neg e, List.getElem?_map, List.getElem?_map]
    cases h : (List.range n)[m]? with
    | none => rfl
    | some q =>
      have hm := lt_of_get h
      rw [List.length_range] at hm
      rw [rng_get hm] at h
      cases h
      have e2 : ¬ m = j := fun q => e q.symm
      simp [e2]
theorem rowV_congr {n : Nat} {T U : Rel2} {i : Nat} (h : ∀ j, j < n → T i j = U i j) : rowV n T i = rowV n U i := by
  unfold rowV
  apply List.map_congr_left
  intro j hj
  rw [h j (List.mem_range.mp hj)]
theorem TabB.congr {H : Hp} {a : Addr} {bs : List Addr} {n : Nat} {T U : Rel2} (h : TabB H a bs n T) (e : ∀ i j, i < n → j < n → T i j = U i j) : TabB H a bs n U :=
  ⟨h.at_, h.len, fun i b hb => by
    rw [h.row i b hb, rowV_congr (fun j hj => e i j (by have := lt_of_get hb; rw [h.len] at this; exact this) hj)]⟩
theorem TabB.set {H : Hp} {a b : Addr} {bs : List Addr} {n : Nat} {T : Rel2} {i j : Nat} (h : TabB H a bs n T) (nd : bs.Nodup) (hb : bs[i]? = some b) (hj : j < n) :
    TabB (upd H b (.lst ((rowV n T i).set j (.bl true)))) a bs n (setT T i j) := by
  have nab : a ≠ b := by
    intro q
    have h1 := h.at_
    have h2 := h.row i b hb
    rw [q] at h1
    rw [h1] at h2
    cases bs with
    | nil => simp at hb
    | cons c r =>
      have h3 := Option.some.inj h2
      injection h3 with h4
      unfold rowV at h4
      cases n with
      | zero => cases h4
      | succ n => rw [List.range_succ_eq_map] at h4; cases h4
  refine ⟨by rw [upd_ne nab]; exact h.at_, h.len, fun i' b' hb' => ?_⟩
  by_cases e : i' = i
  · subst e
    rw [hb] at hb'
    cases hb'
    rw [upd_same, rowV_set hj]
  · have nb : b' ≠ b := fun q => e (by
      subst q
      exact (List.getElem_inj (h₀ := lt_of_get hb') (h₁ := lt_of_get hb) nd).mp (by rw [(List.getElem?_eq_some_iff.mp hb').2, (List.getElem?_eq_some_iff.mp hb).2]))
    rw [upd_ne nb, h.row i' b' hb']
    rw [rowV_congr (T := T) (U := setT T i j) (fun m hm => by unfold setT; simp [e])]
theorem TabB.ex {H : Hp} {a b : Addr} {bs : List Addr} {H0 : Hp} {o : HO} (m : b ∈ bs) (nw : ∀ c ∈ bs, H0 c = none) (e : ExB [] H0 H) : ExB [] H0 (upd H b o) := e.free (nw b m)
/-! ### Warshall's rounds, half done -/
def midT (T : Rel2) (k i : Nat) : Rel2 := fun a b => if a < i then wstep T k a b else T a b
def inT (T : Rel2) (k i j : Nat) : Rel2 := fun a b => if a < i then wstep T k a b else if a = i then T a b || (decide (b < j) && (T a k && T k b)) else T a b
section
variable {T : Rel2} {k i j a b n : Nat}
theorem midT_at : midT T k i i b = T i b := by unfold midT; rw [if_neg (by omega)]
theorem wstep_k : wstep T k k b = T k b := by unfold wstep; cases T k b <;> simp
theorem midT_k : midT T k i k b = T k b := by
  unfold midT
  by_cases h : k < i
  · rw [if_pos h, wstep_k]
  · rw [if_neg h]
theorem inT_k : inT T k i j k b = T k b := by
  unfold inT
  by_cases h : k < i
  · rw [if_pos h, wstep_k]
  · rw [if_neg h]
    by_cases h2 : k = i
    · rw [if_pos h2]; cases T k b <;> simp
    · rw [if_neg h2]
theorem inT_0 : inT T k i 0 a b = midT T k i a b := by
  unfold inT midT
  by_cases h : a < i
  · rw [if_pos h, if_pos h]
  · rw [if_neg h, if_neg h]
    by_cases h2 : a = i
    · rw [if_pos h2]; simp
    · rw [if_neg h2]
theorem inT_n (hb : b < n) : inT T k i n a b = midT T k (i + 1) a b := by
  unfold inT midT
  by_cases h : a < i
  · rw [if_pos h, if_pos (by omega)]
  · rw [if_neg h]
    by_cases h2 : a = i
    · rw [if_pos h2, if_pos (by omega)]; unfold wstep; simp [hb]
    · rw [if_neg h2, if_neg (by omega)]
theorem inT_set (h1 : T i k = true) (h2 : T k j = true) : setT (inT T k i j) i j a b = inT T k i (j + 1) a b := by
  unfold setT inT
  by_cases h : a < i
  · rw [if_pos h, if_pos h]
    have : ¬ a = i := by omega
    simp [this]
  · rw [if_neg h, if_neg h]
    by_cases h3 : a = i
    · subst h3
      rw [if_pos rfl, if_pos rfl, h1]
      by_cases h4 : b = j
      · subst h4; simp [h2]
      · have e : decide (b < j + 1) = decide (b < j) := by rw [decide_eq_decide]; omega
        rw [e]; simp [h4]
    · rw [if_neg h3, if_neg h3]; simp [h3]
theorem inT_skip (h2 : T k j = false) : inT T k i j a b = inT T k i (j + 1) a b := by
  unfold inT
  by_cases h : a < i
  · rw [if_pos h, if_pos h]
  · rw [if_neg h, if_neg h]
    by_cases h3 : a = i
    · subst h3
      rw [if_pos rfl, if_pos rfl]
      by_cases h4 : b = j
      · subst h4; simp [h2]
      · have e : decide (b < j + 1) = decide (b < j) := by rw [decide_eq_decide]; omega
        rw [e]
    · rw [if_neg h3, if_neg h3]
theorem mid_skip (h : T i k = false) : midT T k i a b = midT T k (i + 1) a b := by
  unfold midT
  by_cases h1 : a < i
  · rw [if_pos h1, if_pos (by omega)]
  · rw [if_neg h1]
    by_cases h2 : a = i
    · subst h2
      rw [if_pos (by omega)]; unfold wstep; simp [h]
    · rw [if_neg (by omega)]
theorem mid_n (ha : a < n) : midT T k n a b = wstep T k a b := by unfold midT; rw [if_pos ha]
theorem mid_0 : midT T k 0 a b = T a b := by unfold midT; rw [if_neg (by omega)]
end
/-- the first k rounds -/
def wars (T : Rel2) (k : Nat) : Rel2 := (List.range k).foldl wstep T
theorem wars_succ (T : Rel2) (k : Nat) : wars T (k + 1) = wstep (wars T k) k := by unfold wars; rw [List.range_succ, List.foldl_append]; rfl
theorem mapset {α : Type} {n i : Nat} {f g : Nat → α} {v : α} (hi : i < n) (hv : v = g i) (h : ∀ j, j < n → j ≠ i → f j = g j) : ((List.range n).map f).set i v = (List.range n).map g := by
  apply List.ext_getElem?
  intro m
  rw [List.getElem?_set, List.getElem?_map, List.getElem?_map]
  by_cases e : i = m
  · subst e
    rw [if_pos rfl, rng_get hi, List.length_map, List.length_range, if_pos hi, hv]; rfl
  · rw [if_neg e]
    cases q : (List.range n)[m]? with
    | none => rfl
    | some z =>
      have hm := lt_of_get q
      rw [List.length_range] at hm
      rw [rng_get hm] at q; cases q
      rw [Option.map_some, Option.map_some, h m hm (fun q => e q.symm)]
theorem nv_set (xs : List Nat) (i x : Nat) : (nv xs).set i (.int (x : Int)) = nv (xs.set i x) := by unfold nv; rw [List.map_set]
theorem map_get {α : Type} {n i : Nat} (f : Nat → α) (hi : i < n) : ((List.range n).map f)[i]? = some (f i) := by rw [List.getElem?_map, rng_get hi]; rfl
theorem bit_ne (m j : Nat) : (Builtin.bitAnd ((m : Int) / 2 ^ ((j : Nat) : Int).toNat) 1 != 0) = m.testBit j := by
  rw [← bit_and]
  rw [bitAnd_m1]
  have : ((m : Int) / 2 ^ ((j : Nat) : Int).toNat) % 2 = 0 ∨ ((m : Int) / 2 ^ ((j : Nat) : Int).toNat) % 2 = 1 := by omega
  rcases this with q | q <;> rw [q] <;> decide
theorem maskRow_eq {n : Nat} {T : Rel2} {i m : Nat} (h : ∀ j, m.testBit j = (decide (j < n) && T i j)) : m = maskRow n T i := by
  apply Nat.eq_of_testBit_eq
  intro j
  rw [h, maskRow_bit]
/-! ### the three states of a search -/
inductive C3 where
  | new | opn | don
  deriving DecidableEq
def C3.str : C3 → Str
  | .new => "new"
  | .opn => "open"
  | .don => "done"
theorem C3.is_opn (c : C3) : decide (c.str = ("open" : Str)) = decide (c = .opn) := by
  cases c with
  | new => exact (by decide +kernel : decide (C3.new.str = ("open" : Str)) = decide (C3.new = .opn))
  | opn => exact (by decide +kernel : decide (C3.opn.str = ("open" : Str)) = decide (C3.opn = .opn))
  | don => exact (by decide +kernel : decide (C3.don.str = ("open" : Str)) = decide (C3.don = .opn))
theorem C3.is_new (c : C3) : decide (c.str = ("new" : Str)) = decide (c = .new) := by
  cases c with
  | new => exact (by decide +kernel : decide (C3.new.str = ("new" : Str)) = decide (C3.new = .new))
  | opn => exact (by decide +kernel : decide (C3.opn.str = ("new" : Str)) = decide (C3.opn = .new))
  | don => exact (by decide +kernel : decide (C3.don.str = ("new" : Str)) = decide (C3.don = .new))
def stL (n : Nat) (c : Nat → C3) : List V := (List.range n).map fun i => V.str (c i).str
def setC (c : Nat → C3) (i : Nat) (v : C3) : Nat → C3 := fun j => if j = i then v else c j
theorem stL_set {n i : Nat} {c : Nat → C3} (v : C3) (hi : i < n) : (stL n c).set i (.str v.str) = stL n (setC c i v) :=
  mapset hi (by unfold setC; rw [if_pos rfl]) (fun j _ h => by unfold setC; rw [if_neg h])
theorem stL_at {n i : Nat} {c : Nat → C3} (hi : i < n) : atI (stL n c) (i : Int) = some (.str (c i).str) := atI_nat (map_get _ hi)
theorem stL_ix {n i : Nat} {c : Nat → C3} (hi : i < n) : ixN (stL n c).length (i : Int) = some i := by unfold stL; rw [List.length_map, List.length_range]; exact ix_nat hi
theorem sN_eq : C3.new.str = ("new" : Str) := rfl
/-- what new elements still bring -/
def newW (w : Nat → Nat) (c : Nat → C3) : Nat → Nat
  | 0 => 0
  | n + 1 => newW w c n + if c n = .new then w n else 0
theorem newW_congr {w : Nat → Nat} {c d : Nat → C3} : ∀ {n : Nat}, (∀ i, i < n → (c i = .new ↔ d i = .new)) → newW w c n = newW w d n
  | 0, _ => rfl
  | n + 1, h => by
    unfold newW
    rw [newW_congr (fun i hi => h i (by omega))]
    by_cases q : c n = .new
    · rw [if_pos q, if_pos ((h n (by omega)).mp q)]
    · rw [if_neg q, if_neg (fun z => q ((h n (by omega)).mpr z))]
theorem newW_open {w : Nat → Nat} {c : Nat → C3} {i : Nat} {v : C3} (hv : v ≠ .new) (hc : c i = .new) : ∀ {n : Nat}, i < n → newW w (setC c i v) n + w i = newW w c n
  | 0, h => by omega
  | n + 1, h => by
    unfold newW
    by_cases e : i = n
    · subst e
      have e1 : newW w (setC c i v) i = newW w c i := newW_congr fun j hj => by unfold setC; rw [if_neg (by omega)]
      have e2 : setC c i v i = v := by unfold setC; rw [if_pos rfl]
      rw [e1, e2, if_neg hv, if_pos hc]; omega
    · have ih := newW_open (w := w) hv hc (n := n) (by omega)
      have e2 : setC c i v n = c n := by unfold setC; rw [if_neg (fun q => e q.symm)]
      rw [e2]; omega
theorem z_cut {t u : TS} {D : Ends} {σ : L2.St} {H : Hp} (Mid : L2.St → Hp → Prop) (h : t { D with nx := Mid } σ H) (k : ∀ σ' H', Mid σ' H' → u D σ' H') : C8.tCut t u D σ H := ⟨Mid, h, k⟩
theorem newW_le {w : Nat → Nat} {c : Nat → C3} {i : Nat} {v : C3} (hv : v ≠ .new) : ∀ {n : Nat}, newW w (setC c i v) n ≤ newW w c n
  | 0 => Nat.le_refl _
  | n + 1 => by
    unfold newW
    have ih := newW_le (w := w) (c := c) (i := i) hv (n := n)
    by_cases e : n = i
    · have e2 : setC c i v n = v := by unfold setC; rw [if_pos e]
      rw [e2, if_neg hv]; omega
    · have e2 : setC c i v n = c n := by unfold setC; rw [if_neg e]
      rw [e2]; omega
/-- what holds while rings are sought: the states, the way, what is left -/
structure FR (H0 H : Hp) (n : Nat) (r : Nat → Int) (st wy lf : Addr) (c : Nat → C3) (w : List Nat) (lbs : List Addr) (ls : List (List Nat)) : Prop where
  ex : ExB [] H0 H
  st0 : H0 st = none
  wy0 : H0 wy = none
  lf0 : H0 lf = none
  n1 : st ≠ wy
  n2 : st ≠ lf
  n3 : wy ≠ lf
  hs : H st = some (.lst (stL n c))
  hw : H wy = some (.lst (nv w))
  hl : H lf = some (.lst (lbs.map V.ref))
  nd : lbs.Nodup
  fr : ∀ b ∈ lbs, H0 b = none ∧ b ≠ st ∧ b ≠ wy ∧ b ≠ lf
  rows : Paired (fun b xs => H b = some (.lst (nv xs))) lbs ls
  up : Paired (fun a xs => a < n ∧ ∀ x ∈ xs, x < n ∧ r a < r x) w ls
  pw : w.Pairwise fun a b => r a < r b
  op : ∀ i, i < n → c i = .opn → i ∈ w
theorem snoc_of {α : Type} {xs : List α} (h : 0 < xs.length) : ∃ ys y, xs = ys ++ [y] := by
  rcases List.eq_nil_or_concat xs with e | ⟨ys, y, e⟩
  · rw [e] at h; cases h
  · exact ⟨ys, y, by rw [e]; simp⟩
theorem pr_snocI {α β : Type} {F : α → β → Prop} : ∀ {xs : List α} {ys : List β} {x : α}, Paired F (xs ++ [x]) ys → ∃ zs z, ys = zs ++ [z] ∧ Paired F xs zs ∧ F x z
  | [], [], _, h => by cases h
  | [], [y], _, .cons h _ => ⟨[], y, rfl, .nil, h⟩
  | [], _ :: _ :: _, _, .cons _ h => by cases h
  | a :: xs, [], _, h => by cases h
  | a :: xs, b :: ys, x, .cons h t => by
    obtain ⟨zs, z, e, k, m⟩ := pr_snocI (xs := xs) (ys := ys) t
    exact ⟨b :: zs, z, by rw [e]; rfl, .cons h k, m⟩
section
variable {H0 H : Hp} {n : Nat} {r : Nat → Int} {st wy lf nb b : Addr} {c : Nat → C3} {w xs xf : List Nat} {lbs lb : List Addr} {ls l : List (List Nat)} {f t x : Nat}
theorem FR.popRow (h : FR H0 H n r st wy lf c (w ++ [t]) (lb ++ [b]) (l ++ [xs ++ [x]])) : FR H0 (upd H b (.lst (nv xs))) n r st wy lf c (w ++ [t]) (lb ++ [b]) (l ++ [xs]) := by
  obtain ⟨f0, f1, f2, f3⟩ := h.fr b (by simp)
  obtain ⟨ls', z, e, hr, hz⟩ := pr_snocI h.rows
  obtain ⟨rfl, e2⟩ := List.append_inj' e rfl
  cases e2
  obtain ⟨ls'', z2, e3, hr2, hz2⟩ := pr_snocI h.up
  obtain ⟨rfl, e4⟩ := List.append_inj' e3 rfl
  cases e4
  have nd := List.nodup_append.mp h.nd
  refine ⟨h.ex.free f0, h.st0, h.wy0, h.lf0, h.n1, h.n2, h.n3, by rw [upd_ne f1.symm]; exact h.hs, by rw [upd_ne f2.symm]; exact h.hw, by rw [upd_ne f3.symm]; exact h.hl, h.nd, h.fr, ?_, ?_, h.pw, h.op⟩
  · refine pr_snoc (pr_monoM (fun a y m k => ?_) hr) upd_same
    have nab : a ≠ b := nd.2.2 a m b (by simp)
    rw [upd_ne nab]; exact k
  · exact pr_snoc hr2 ⟨hz2.1, fun y hy => hz2.2 y (by simp [hy])⟩
theorem FR.openF (h : FR H0 H n r st wy lf c w lbs ls) (hf : f < n) (hup : ∀ y ∈ w, r y < r f) (hnb : H nb = none) (hxf : ∀ y ∈ xf, y < n ∧ r f < r y) :
    FR H0 (upd (upd (upd (upd H st (.lst (stL n (setC c f .opn)))) wy (.lst (nv (w ++ [f])))) nb (.lst (nv xf))) lf (.lst ((lbs ++ [nb]).map V.ref))) n r st wy lf (setC c f .opn) (w ++ [f]) (lbs ++ [nb]) (ls ++ [xf]) := by
  have m1 : nb ≠ st := (ne_of_none h.hs hnb).symm
  have m2 : nb ≠ wy := (ne_of_none h.hw hnb).symm
  have m3 : nb ≠ lf := (ne_of_none h.hl hnb).symm
  have nb0 : H0 nb = none := h.ex.fresh hnb (by simp)
  refine ⟨(((h.ex.free h.st0).free h.wy0).free nb0).free h.lf0, h.st0, h.wy0, h.lf0, h.n1, h.n2, h.n3, ?_, ?_, upd_same, ?_, ?_, ?_, ?_, ?_, ?_⟩
  · rw [upd_ne h.n2, upd_ne m1.symm, upd_ne h.n1, upd_same]
  · rw [upd_ne h.n3, upd_ne m2.symm, upd_same]
  · rw [List.nodup_append]
    refine ⟨h.nd, by simp, fun a ha d hd => ?_⟩
    rw [List.mem_singleton] at hd
    subst hd
    obtain ⟨y, _, hy⟩ := pr_mem h.rows ha
    exact ne_of_none hy hnb
  · intro b hb
    rcases List.mem_append.mp hb with q | q
    · exact h.fr b q
    · rw [List.mem_singleton] at q; subst q; exact ⟨nb0, m1, m2, m3⟩
  · refine pr_snoc (pr_monoM (fun a y m k => ?_) h.rows) ?_
    · obtain ⟨g0, g1, g2, g3⟩ := h.fr a m
      rw [upd_ne g3, upd_ne (ne_of_none k hnb), upd_ne g2, upd_ne g1]; exact k
    · rw [upd_ne m3, upd_same]
  · exact pr_snoc h.up ⟨hf, hxf⟩
  · rw [List.pairwise_append]
    exact ⟨h.pw, by simp, fun a ha d hd => by rw [List.mem_singleton] at hd; subst hd; exact hup a ha⟩
  · intro i hi hc
    by_cases e : i = f
    · rw [e]; simp
    · have : setC c f .opn i = c i := by unfold setC; rw [if_neg e]
      rw [this] at hc
      exact List.mem_append_left _ (h.op i hi hc)
theorem FR.close (h : FR H0 H n r st wy lf c (w ++ [t]) (lb ++ [b]) (l ++ [[]])) : FR H0 (upd (upd (upd H st (.lst (stL n (setC c t .don)))) wy (.lst (nv w))) lf (.lst (lb.map V.ref))) n r st wy lf (setC c t .don) w lb l := by
  obtain ⟨ls', z, e, hr, hz⟩ := pr_snocI h.rows
  obtain ⟨rfl, e2⟩ := List.append_inj' e rfl
  cases e2
  obtain ⟨ls'', z2, e3, hr2, hz2⟩ := pr_snocI h.up
  obtain ⟨rfl, e4⟩ := List.append_inj' e3 rfl
  cases e4
  have nd := List.nodup_append.mp h.nd
  have pw := List.pairwise_append.mp h.pw
  refine ⟨((h.ex.free h.st0).free h.wy0).free h.lf0, h.st0, h.wy0, h.lf0, h.n1, h.n2, h.n3, ?_, ?_, upd_same, nd.1, fun b hb => h.fr b (by simp [hb]), ?_, hr2, pw.1, ?_⟩
  · rw [upd_ne h.n2, upd_ne h.n1, upd_same]
  · rw [upd_ne h.n3, upd_same]
  · refine pr_monoM (fun a y m k => ?_) hr
    obtain ⟨g0, g1, g2, g3⟩ := h.fr a (by simp [m])
    rw [upd_ne g3, upd_ne g2, upd_ne g1]; exact k
  · intro i hi hc
    by_cases e : i = t
    · subst e
      have : setC c i .don i = .don := by unfold setC; rw [if_pos rfl]
      rw [this] at hc; cases hc
    · have : setC c t .don i = c i := by unfold setC; rw [if_neg e]
      rw [this] at hc
      have := h.op i hi hc
      simp [e] at this
      exact this
end
theorem nodup_le : ∀ {n : Nat} {xs : List Nat}, xs.Nodup → (∀ x ∈ xs, x < n) → xs.length ≤ n
  | 0, xs, _, h => by
    cases xs with
    | nil => exact Nat.le_refl _
    | cons x r => exact absurd (h x (by simp)) (by omega)
  | n + 1, xs, nd, h => by
    by_cases m : n ∈ xs
    · have ih := nodup_le (n := n) (xs := xs.erase n) (nd.erase n) (fun x hx => by
        have h1 := h x (List.mem_of_mem_erase hx)
        have h2 : x ≠ n := fun q => by
          subst q
          exact (List.Nodup.not_mem_erase nd) hx
        omega)
      rw [List.length_erase_of_mem m] at ih
      omega
    · have ih := nodup_le (n := n) (xs := xs) nd (fun x hx => by
        have h1 := h x hx
        have h2 : x ≠ n := fun q => m (q ▸ hx)
        omega)
      omega
theorem FR.wlen {H0 H : Hp} {n : Nat} {r : Nat → Int} {st wy lf : Addr} {c : Nat → C3} {w : List Nat} {lbs : List Addr} {ls : List (List Nat)} (h : FR H0 H n r st wy lf c w lbs ls) : w.length ≤ n ∧ lbs.length ≤ n := by
  have h1 : w.length ≤ n := nodup_le (h.pw.imp (fun h q => by subst q; omega)) (fun x hx => by
    obtain ⟨y, _, hy⟩ := pr_mem h.up hx
    exact hy.1)
  have h2 := pr_len h.up
  have h3 := pr_len h.rows
  exact ⟨h1, by omega⟩
theorem lt_putF {f : Str} {v : V} {fs : List (Str × V)} {k : Nat} (h : fs.length < k) : (putF f v fs).length < k + 1 := by
  have := length_putF f v fs; omega
theorem putO (n : Nat) (up dn pr : Addr) : putF "_pairs" (.ref pr) (putF "_down" (.ref dn) (putF "_up" (.ref up) (putF "_size" (.int (n : Int)) []))) = fsO n up dn pr := by kernel_rfl
/-- the rows of direct successors -/
def rowsOf (n : Nat) (ps : List (Nat × Nat)) : List (List Nat) := (List.range n).map fun i => (ps.filter fun q => decide (q.1 = i)).map (·.2)
theorem rowsOf_get {n i : Nat} {ps : List (Nat × Nat)} (h : i < n) : (rowsOf n ps)[i]? = some ((ps.filter fun q => decide (q.1 = i)).map (·.2)) := map_get _ h
theorem rowsOf_snoc {n : Nat} {ps : List (Nat × Nat)} {q : Nat × Nat} (h : q.1 < n) : rowsOf n (ps ++ [q]) = (rowsOf n ps).set q.1 ((ps.filter fun z => decide (z.1 = q.1)).map (·.2) ++ [q.2]) := by
  unfold rowsOf
  rw [mapset (g := fun i => ((ps ++ [q]).filter fun z => decide (z.1 = i)).map (·.2)) h]
  · rw [List.filter_append, List.map_append]; simp
  · intro j _ hj
    have e : ¬ q.1 = j := fun z => hj z.symm
    rw [List.filter_append]; simp [e]
theorem relOf_rows {n : Nat} {ps : List (Nat × Nat)} (h : ∀ q ∈ ps, q.1 < n ∧ q.2 < n) : relOf (rowsOf n ps) = fun i j => decide ((i, j) ∈ ps) := by
  funext i j
  unfold relOf
  by_cases hi : i < n
  · rw [List.getD_eq_getElem?_getD, rowsOf_get hi, Option.getD_some, decide_eq_decide, List.mem_map]
    constructor
    · rintro ⟨q, hq, rfl⟩
      rw [List.mem_filter] at hq
      have e := of_decide_eq_true hq.2
      rw [← e]; exact hq.1
    · intro hm
      exact ⟨(i, j), by rw [List.mem_filter]; exact ⟨hm, by simp⟩, rfl⟩
  · have e1 : (rowsOf n ps)[i]? = none := by
      rw [List.getElem?_eq_none_iff]; unfold rowsOf; rw [List.length_map, List.length_range]; omega
    rw [List.getD_eq_getElem?_getD, e1, Option.getD_none, decide_eq_decide]
    constructor
    · intro q; cases q
    · intro q; exact absurd (h _ q).1 hi
theorem rowsOf_mem {n i x : Nat} {ps : List (Nat × Nat)} {xs : List Nat} (h : (rowsOf n ps)[i]? = some xs) (hx : x ∈ xs) : (i, x) ∈ ps := by
  have hi : i < n := by have := lt_of_get h; unfold rowsOf at this; rwa [List.length_map, List.length_range] at this
  rw [rowsOf_get hi] at h
  cases h
  obtain ⟨q, hq, rfl⟩ := List.mem_map.mp hx
  rw [List.mem_filter] at hq
  have e := of_decide_eq_true hq.2
  rw [← e]; exact hq.1
theorem rowsOf_len (n : Nat) (ps : List (Nat × Nat)) : (rowsOf n ps).length = n := by unfold rowsOf; rw [List.length_map, List.length_range]
theorem rowsOf_le {n : Nat} {ps : List (Nat × Nat)} {xs : List Nat} (h : xs ∈ rowsOf n ps) : xs.length ≤ ps.length := by
  unfold rowsOf at h
  obtain ⟨i, _, rfl⟩ := List.mem_map.mp h
  rw [List.length_map]
  exact List.length_filter_le _ _
/-- a row of rows is changed -/
theorem rows_set {H : Hp} {b' : Addr} {bs : List Addr} {xss : List (List Nat)} {i : Nat} {b : Addr} {ys : List Nat} (h : Paired (fun b xs => H b = some (.lst (nv xs))) bs xss) (nd : bs.Nodup) (hb : bs[i]? = some b) :
    Paired (fun b xs => upd H b' (.lst (nv ys)) b = some (.lst (nv xs))) bs (xss.set i ys) ∨ b' ≠ b := by
  by_cases e : b' = b
  · subst e
    refine .inl (pr_of (by rw [List.length_set]; exact pr_len h) fun m c xs hc hx => ?_)
    by_cases e : m = i
    · subst e
      rw [hb] at hc; cases hc
      rw [List.getElem?_set_self (by rw [← pr_len h]; exact lt_of_get hb)] at hx
      cases hx
      exact upd_same
    · rw [List.getElem?_set_ne (fun q => e q.symm)] at hx
      have ne : c ≠ b' := fun q => e (by
        subst q
        exact (List.getElem_inj (h₀ := lt_of_get hc) (h₁ := lt_of_get hb) nd).mp (by rw [(List.getElem?_eq_some_iff.mp hc).2, (List.getElem?_eq_some_iff.mp hb).2]))
      obtain ⟨y, hy, hr⟩ := pr_get h hc
      rw [hx] at hy; cases hy
      rw [upd_ne ne]; exact hr
  · exact .inr e
theorem maskRow_lt {n : Nat} {T : Rel2} {i : Nat} (hn : n ≤ 40) : maskRow n T i < 2 ^ 40 := by
  apply Nat.lt_pow_two_of_testBit
  intro j hj
  rw [maskRow_bit, decide_eq_false (by omega), Bool.false_and]
theorem maskRow_elems {n : Nat} {T : Rel2} {i : Nat} (hn : n ≤ 40) : (List.range 40).filter (maskRow n T i).testBit = (List.range n).filter (T i) := by
  have e : (List.range 40) = List.range n ++ (List.range (40 - n)).map (n + ·) := by rw [← List.range_add, Nat.add_sub_cancel' hn]
  rw [e, List.filter_append]
  have z : ((List.range (40 - n)).map (n + ·)).filter (maskRow n T i).testBit = [] := by
    rw [List.filter_eq_nil_iff]
    intro a ha
    obtain ⟨b, _, rfl⟩ := List.mem_map.mp ha
    rw [maskRow_bit, decide_eq_false (by omega), Bool.false_and]; simp
  rw [z, List.append_nil]
  apply List.filter_congr
  intro a ha
  rw [maskRow_bit, decide_eq_true (List.mem_range.mp ha), Bool.true_and]
theorem LLb.keep {H H' : Hp} {a : Addr} {bs : List Addr} {xss : List (List Nat)} {S : List Addr} (h : LLb H a bs xss) (e : ExB S H H') (n : a ∉ S) (m : ∀ b ∈ bs, b ∉ S) : LLb H' a bs xss :=
  ⟨e.get h.1 n, pr_monoM (fun b xs mb k => e.get k (m b mb)) h.2⟩
/-! ### families -/
theorem pairsOf_len {n : Nat} {T : Rel2} (hn : n ≤ 40) : (pairsOf n T).length ≤ 2000 := by
  unfold pairsOf
  rw [List.length_flatMap]
  have h : ∀ xs : List Nat, (xs.map fun i => (((List.range n).filter (T i)).map fun j => (i, j)).length).sum ≤ xs.length * 40 := by
    intro xs
    induction xs with
    | nil => simp
    | cons x xs ih =>
      rw [List.map_cons, List.sum_cons, List.length_cons, Nat.succ_mul]
      have : (((List.range n).filter (T x)).map fun j => (x, j)).length ≤ 40 := by
        rw [List.length_map]; exact Nat.le_trans (List.length_filter_le _ _) (by rw [List.length_range]; omega)
      omega
  have := h (List.range n)
  rw [List.length_range] at this
  have : n * 40 ≤ 40 * 40 := Nat.mul_le_mul_right _ hn
  omega
theorem mem_pairsOf {n : Nat} {T : Rel2} {i j : Nat} : (i, j) ∈ pairsOf n T ↔ i < n ∧ j < n ∧ T i j = true := by
  unfold pairsOf
  rw [List.mem_flatMap]
  constructor
  · rintro ⟨a, ha, h⟩
    obtain ⟨b, hb, e⟩ := List.mem_map.mp h
    cases e
    rw [List.mem_filter] at hb
    exact ⟨List.mem_range.mp ha, List.mem_range.mp hb.1, hb.2⟩
  · rintro ⟨h1, h2, h3⟩
    exact ⟨i, List.mem_range.mpr h1, List.mem_map.mpr ⟨j, List.mem_filter.mpr ⟨List.mem_range.mpr h2, h3⟩, rfl⟩⟩
theorem acy_pairsOf {n : Nat} {T : Rel2} {r : Nat → Int} (h : ∀ i j, i < n → j < n → T i j = true → r i < r j) : Acy n (pairsOf n T) :=
  ⟨r, fun ⟨i, j⟩ hm => by
    obtain ⟨h1, h2, h3⟩ := mem_pairsOf.mp hm
    exact ⟨h1, h2, h i j h1 h2 h3⟩⟩
theorem SL.mono {H H' : Hp} {a : Addr} {ss : List (Int × Int)} (h : SL H a ss) (e : ExB [] H H') : SL H' a ss := by
  obtain ⟨vs, h1, h2⟩ := h
  exact ⟨vs, e.nn h1, pr_mono (fun v s ⟨b, e1, e2⟩ => ⟨b, e1, e.nn e2⟩) h2⟩
theorem IsSpan.mono {H H' : Hp} {v : V} {s : Int × Int} (h : IsSpan H v s) (e : ExB [] H H') : IsSpan H' v s := by
  obtain ⟨b, rfl, k⟩ := h
  exact ⟨b, rfl, e.nn k⟩
theorem IsSpan.str {H H' : Hp} {p : Addr} {v : V} {s : Int × Int} (h : IsSpan H v s) (st : Str3 H p) (e : ExB [p] H H') : IsSpan H' v s := by
  obtain ⟨b, rfl, k⟩ := h
  exact ⟨b, rfl, e.one k (st.notT k)⟩
theorem IsPair.str {H H' : Hp} {p : Addr} {v : V} {s : Nat × Nat} (h : IsPair H v s) (st : Str3 H p) (e : ExB [p] H H') : IsPair H' v s := by
  obtain ⟨b, rfl, k⟩ := h
  exact ⟨b, rfl, e.one k (st.notT k)⟩
/-- a pair is made and appended -/
theorem pr_push {H : Hp} {f t : Addr} {vs ws : List V} {ps : List (Nat × Nat)} {q : Nat × Nat} (h : Paired (IsPair H) vs ps) (hf : H f = some (.lst vs)) (ht : H t = none) :
    Paired (IsPair (upd (upd H t (.tup [.int (q.1 : Nat), .int (q.2 : Nat)])) f (.lst ws))) (vs ++ [.ref t]) (ps ++ [q]) := by
  have nft : f ≠ t := ne_of_none hf ht
  refine pr_snoc (pr_mono (fun v s ⟨b, e1, e2⟩ => ⟨b, e1, ?_⟩) h) ⟨t, rfl, by rw [upd_ne nft.symm, upd_same]⟩
  rw [upd_ne (ne_of e2 hf (by intro z; cases z))]; exact upd_old e2 ht
theorem sp_push {H : Hp} {f t : Addr} {vs ws : List V} {ps : List (Int × Int)} {q : Int × Int} (h : Paired (IsSpan H) vs ps) (hf : H f = some (.lst vs)) (ht : H t = none) :
    Paired (IsSpan (upd (upd H t (.tup [.int q.1, .int q.2])) f (.lst ws))) (vs ++ [.ref t]) (ps ++ [q]) := by
  have nft : f ≠ t := ne_of_none hf ht
  refine pr_snoc (pr_mono (fun v s ⟨b, e1, e2⟩ => ⟨b, e1, ?_⟩) h) ⟨t, rfl, by rw [upd_ne nft.symm, upd_same]⟩
  rw [upd_ne (ne_of e2 hf (by intro z; cases z))]; exact upd_old e2 ht
theorem Str3.push {H : Hp} {p f t : Addr} {o w : HO} (h : Str3 H p) (hf : f ≠ p) (ht : H t = none) : Str3 (upd (upd H t o) f w) p := by
  obtain ⟨g, c, z, e⟩ := h
  exact ⟨g, c, z, by rw [upd_ne hf.symm]; exact upd_old e ht⟩
theorem Str3.other {H : Hp} {p f : Addr} {w : HO} (h : Str3 H p) (hf : f ≠ p) : Str3 (upd H f w) p := by
  obtain ⟨g, c, z, e⟩ := h
  exact ⟨g, c, z, by rw [upd_ne hf.symm]; exact e⟩
/-! permutations, ranks -/
def toN : V → Nat
  | .int i => i.toNat
  | _ => 0
theorem perm_nv {ws : List V} {xs : List Nat} (h : ws.Perm (nv xs)) : ∃ ys, ws = nv ys ∧ ys.Perm xs := by
  refine ⟨ws.map toN, ?_, ?_⟩
  · unfold nv
    rw [List.map_map]
    have e : ∀ v ∈ ws, ((fun (n : Nat) => V.int (n : Int)) ∘ toN) v = v := by
      intro v hv
      have := h.mem_iff.mp hv
      unfold nv at this
      obtain ⟨n, _, rfl⟩ := List.mem_map.mp this
      simp [toN]
    rw [List.map_congr_left e]; simp
  · have := h.map toN
    have e : (nv xs).map toN = xs := by
      unfold nv
      rw [List.map_map]
      have : ∀ n ∈ xs, (toN ∘ fun (n : Nat) => V.int (n : Int)) n = n := fun n _ => by simp [toN]
      rw [List.map_congr_left this]; simp
    rwa [e] at this
theorem ranks : ∀ {xs : List Nat}, xs.Nodup → ∃ r : Nat → Int, ∀ (i a : Nat), xs[i]? = some a → r a = (i : Int)
  | [], _ => ⟨fun _ => 0, fun i a h => by simp at h⟩
  | x :: xs, nd => by
    obtain ⟨n1, n2⟩ := List.nodup_cons.mp nd
    obtain ⟨r, hr⟩ := ranks n2
    refine ⟨fun a => if a = x then 0 else r a + 1, fun i a h => ?_⟩
    cases i with
    | zero => cases h; simp
    | succ i =>
      have h2 : xs[i]? = some a := h
      have ne : a ≠ x := fun q => n1 (q ▸ List.mem_of_getElem? h2)
      show (if a = x then 0 else r a + 1) = _
      rw [if_neg ne, hr i a h2]; omega
theorem perm_nd {xs : List Nat} {n : Nat} (h : xs.Perm (List.range n)) : xs.Nodup := h.nodup_iff.mpr List.nodup_range
theorem perm_lt {xs : List Nat} {n i a : Nat} (h : xs.Perm (List.range n)) (e : xs[i]? = some a) : a < n := List.mem_range.mp (h.mem_iff.mp (List.mem_of_getElem? e))
theorem perm_len {xs : List Nat} {n : Nat} (h : xs.Perm (List.range n)) : xs.length = n := by rw [h.length_eq, List.length_range]
theorem acy_asc {xs : List Nat} {n : Nat} {ps : List (Nat × Nat)} (h : xs.Perm (List.range n)) (a : Asc xs ps) : Acy n ps := by
  obtain ⟨r, hr⟩ := ranks (perm_nd h)
  refine ⟨r, fun p hp => ?_⟩
  obtain ⟨i, j, hij, e1, e2⟩ := a p hp
  exact ⟨perm_lt h e1, perm_lt h e2, by rw [hr i _ e1, hr j _ e2]; omega⟩
theorem Asc.snoc {xs : List Nat} {ps : List (Nat × Nat)} {q : Nat × Nat} {i j : Nat} (h : Asc xs ps) (hij : i < j) (e1 : xs[i]? = some q.1) (e2 : xs[j]? = some q.2) : Asc xs (ps ++ [q]) := by
  intro p hp
  rcases List.mem_append.mp hp with z | z
  · exact h p z
  · rw [List.mem_singleton] at z; subst z; exact ⟨i, j, hij, e1, e2⟩
theorem Asc.app {xs : List Nat} {ps qs : List (Nat × Nat)} (h : Asc xs ps) (k : Asc xs qs) : Asc xs (ps ++ qs) := by
  intro p hp
  rcases List.mem_append.mp hp with z | z
  · exact h p z
  · exact k p z
theorem eqV_int (a b : Int) : eqV (.int a) (.int b) = (a == b) := rfl
theorem flat_nv (xs : List Nat) : (nv xs).all flatV = true := by
  rw [List.all_eq_true]
  intro v hv
  unfold nv at hv
  obtain ⟨n, _, rfl⟩ := List.mem_map.mp hv
  rfl
/-- xs.index(a), a at its one place -/
theorem z_indexN {K : Frg} {H : Hp} {Q : VK} {q : Addr} {ys : List Nat} {j a : Nat} (h : H q = some (.lst (nv ys))) (hj : ys[j]? = some a) (nd : ys.Nodup) (k : Q (.int (j : Int)) H) : rIndex K (.ref q) [.int (a : Int)] H Q := by
  refine ⟨q, nv ys, .int (a : Int), j, .int (a : Int), rfl, rfl, SqL.of h, rfl, flat_nv ys, nv_get hj, by rw [eqV_int]; simp, fun m z' hm hz => ?_, k⟩
  obtain ⟨b, hb, rfl⟩ := nv_inv hz
  rw [eqV_int, beq_eq_false_iff_ne]
  intro e
  have e2 : b = a := by omega
  subst e2
  have := (List.getElem_inj (h₀ := lt_of_get hb) (h₁ := lt_of_get hj) nd).mp (by rw [(List.getElem?_eq_some_iff.mp hb).2, (List.getElem?_eq_some_iff.mp hj).2])
  omega
/-- a in xs -/
theorem inV_nv (xs : List Nat) (a : Nat) : inV (.int (a : Int)) (nv xs) = decide (a ∈ xs) := by
  unfold inV nv
  rw [List.any_map, Bool.eq_iff_iff, List.any_eq_true, decide_eq_true_eq]
  constructor
  · rintro ⟨b, hb, e⟩
    have e2 : (b : Int) = (a : Int) := by
      have : eqV (.int (b : Int)) (.int (a : Int)) = true := e
      rw [eqV_int] at this; exact eq_of_beq this
    have : b = a := by omega
    rw [← this]; exact hb
  · intro h
    exact ⟨a, h, by show eqV (.int (a : Int)) (.int (a : Int)) = true; rw [eqV_int]; simp⟩
theorem z_inN {K : Frg} {H : Hp} {Q : VK} {q : Addr} {ys : List Nat} {a : Nat} (h : H q = some (.lst (nv ys))) (k : Q (.bl (decide (a ∈ ys))) H) : rIn K false (.int (a : Int)) (.ref q) H Q :=
  ⟨q, nv ys, rfl, .inl (SqL.of h), rfl, flat_nv ys, by rw [inV_nv]; exact k⟩
/-- over a list of addresses: a truth for each -/
theorem l_trueL {K : Frg} {σ : L2.St} {H : Hp} {Q : VK} {te : TE} {g : TG} {tt : TT} {vs : List Nat} {A p : Addr} {bs : List Addr} (hp : H p = some (.lst (bs.map V.ref))) (hA : H A = none) (hn : bs.length ≤ 90000)
    (hs : ∀ (i : Nat) b acc H' (Nx : Hp → Prop), bs[i]? = some b → ExB [] H H' → H' A = some (.lst acc) → acc.length ≤ i → (∀ H'', ExB [] H' H'' → Nx (upd H'' A (.lst (acc ++ [.bl true])))) →
      g (.ref b) (wipe σ vs) H' fun σ2 H2 => wipe σ2 vs = wipe σ vs ∧ tt σ2 H2 fun c H3 => if c = true then te σ2 H3 fun y H4 => ∃ acc, H4 A = some (.lst acc) ∧ acc.length < sizeLine ∧ Nx (upd H4 A (.lst (acc ++ [y]))) else Nx H3)
    (k : ∀ H', ExB [] H H' → H' A = some (.lst ((bs.map fun _ => true).map V.bl)) → Q (.ref A) H') : LcG (Itl K p) g tt te vs σ H A Q := by
  refine l_list (K := K) (xs := bs.map V.ref) (fun i H' => ExB [] H H' ∧ H' A = some (.lst (((bs.take i).map fun _ => true).map V.bl))) ⟨ExB.new hA, by simp [upd_same]⟩ (fun i H' _ e => e.1.nn hp) (fun i x H' hx ⟨ex, h1⟩ => ?_) (fun H' ⟨ex, h1⟩ => k H' ex (by rw [List.length_map, List.take_length] at h1; exact h1))
  rw [List.getElem?_map] at hx
  obtain ⟨b, hb, rfl⟩ := Option.map_eq_some_iff.mp hx
  refine hs i b _ H' _ hb ex h1 (by simp; omega) (fun H'' ex2 => ⟨(ex.trans ex2).free hA, ?_⟩)
  rw [upd_same, take_snoc hb, List.map_append, List.map_append]; rfl
theorem Acy.sub {n : Nat} {ps qs : List (Nat × Nat)} (h : Acy n ps) (s : ∀ q ∈ qs, q ∈ ps) : Acy n qs := by
  obtain ⟨r, hr⟩ := h
  exact ⟨r, fun p hp => hr p (s p hp)⟩
theorem pr_perm {α β : Type} {F : α → β → Prop} {us vs : List α} (h : us.Perm vs) : ∀ {ps : List β}, Paired F vs ps → ∃ qs, Paired F us qs ∧ qs.Perm ps := by
  induction h with
  | nil => exact fun h => ⟨_, h, List.Perm.refl _⟩
  | cons x h ih =>
    rintro ps (_ | ⟨h1, h2⟩)
    obtain ⟨qs, h3, h4⟩ := ih h2
    exact ⟨_ :: qs, .cons h1 h3, h4.cons _⟩
  | swap x y l =>
    rintro ps (_ | ⟨h1, _ | ⟨h2, h3⟩⟩)
    exact ⟨_, .cons h2 (.cons h1 h3), List.Perm.swap _ _ _⟩
  | trans h1 h2 ih1 ih2 =>
    intro ps h
    obtain ⟨qs, a, b⟩ := ih2 h
    obtain ⟨rs, c, d⟩ := ih1 a
    exact ⟨rs, c, d.trans b⟩
theorem pairsOf_sq {n : Nat} {T : Rel2} : (pairsOf n T).length ≤ n * n := by
  unfold pairsOf
  rw [List.length_flatMap]
  have h : ∀ xs : List Nat, (xs.map fun i => (((List.range n).filter (T i)).map fun j => (i, j)).length).sum ≤ xs.length * n := by
    intro xs
    induction xs with
    | nil => simp
    | cons x xs ih =>
      rw [List.map_cons, List.sum_cons, List.length_cons, Nat.succ_mul]
      have : (((List.range n).filter (T x)).map fun j => (x, j)).length ≤ n := by
        rw [List.length_map]; exact Nat.le_trans (List.length_filter_le _ _) (by rw [List.length_range]; omega)
      omega
  have := h (List.range n)
  rw [List.length_range] at this
  exact this
/-- a list is no longer than its flattening, if no row is empty -/
theorem rows_le_flat : ∀ {xs : List (List Nat)}, (∀ x ∈ xs, x ≠ []) → xs.length ≤ xs.flatten.length
  | [], _ => by simp
  | a :: r, h => by
    have h1 := rows_le_flat (xs := r) (fun x hx => h x (by simp [hx]))
    have h2 : 0 < a.length := List.length_pos_iff.mpr (h a (by simp))
    rw [List.flatten_cons, List.length_append, List.length_cons]; omega
theorem row_le_flat {xs : List (List Nat)} {i : Nat} {x : List Nat} (h : xs[i]? = some x) : x.length ≤ xs.flatten.length := by
  have := take_flat_le xs (i + 1)
  rw [take_snoc h, List.flatten_append, List.flatten_singleton, List.length_append] at this
  omega
theorem acy_strict {n : Nat} {ps : List (Nat × Nat)} (h : Acy n ps) : Strict n (clos n ps) := by
  obtain ⟨r, hr⟩ := h
  exact ⟨⟨r, fun i j _ _ hc => way_up (fun a b h => (hr (a, b) h).2.2) (clos_way hc)⟩, fun i j k _ hj _ h1 h2 => clos_tr hj h1 h2⟩
/-! ### trees -/
mutual
theorem TreeAt.keep {H H' : Hp} (hk : ∀ b xs, H b = some (.tup xs) → H' b = some (.tup xs)) : ∀ {v : V} {t : Tree}, TreeAt H v t → TreeAt H' v t
  | _, _, .one h => .one (hk _ _ h)
  | _, _, .node h1 h2 h3 => .node (hk _ _ h1) (hk _ _ h2) (TreesAt.keep hk h3)
theorem TreesAt.keep {H H' : Hp} (hk : ∀ b xs, H b = some (.tup xs) → H' b = some (.tup xs)) : ∀ {us : List V} {ts : List Tree}, TreesAt H us ts → TreesAt H' us ts
  | _, _, .nil => .nil
  | _, _, .cons h t => .cons (TreeAt.keep hk h) (TreesAt.keep hk t)
end
theorem TreesAt.get {H : Hp} : ∀ {us : List V} {ts : List Tree} {i : Nat} {u : V}, TreesAt H us ts → us[i]? = some u → ∃ t, ts[i]? = some t ∧ TreeAt H u t
  | _, _, 0, _, .cons h _, e => by cases e; exact ⟨_, rfl, h⟩
  | _, _, i + 1, _, .cons _ t, e => TreesAt.get (i := i) t e
  | _, _, _, _, .nil, e => by simp at e
theorem TreesAt.len {H : Hp} : ∀ {us : List V} {ts : List Tree}, TreesAt H us ts → us.length = ts.length
  | _, _, .nil => rfl
  | _, _, .cons _ t => by rw [List.length_cons, List.length_cons, TreesAt.len t]
theorem TreesAt.snoc {H : Hp} {u : V} {t : Tree} (h : TreeAt H u t) : ∀ {us : List V} {ts : List Tree}, TreesAt H us ts → TreesAt H (us ++ [u]) (ts ++ [t])
  | _, _, .nil => .cons h .nil
  | _, _, .cons a b => .cons a (TreesAt.snoc h b)
theorem mems_snoc (t : Tree) : ∀ ts : List Tree, Tree.mems (ts ++ [t]) = Tree.mems ts ++ t.mem
  | [] => by simp [Tree.mems]
  | a :: r => by rw [List.cons_append]; unfold Tree.mems; rw [mems_snoc t r, List.append_assoc]
theorem deps_snoc (t : Tree) : ∀ ts : List Tree, Tree.deps (ts ++ [t]) = max (Tree.deps ts) t.dep
  | [] => by simp [Tree.deps]
  | a :: r => by rw [List.cons_append]; unfold Tree.deps; rw [deps_snoc t r]; omega
theorem deps_get {t : Tree} : ∀ {ts : List Tree} {i : Nat}, ts[i]? = some t → t.dep ≤ Tree.deps ts
  | [], _, h => by simp at h
  | a :: r, 0, h => by cases h; unfold Tree.deps; omega
  | a :: r, i + 1, h => by have := deps_get (ts := r) (i := i) h; unfold Tree.deps; omega
theorem mems_take : ∀ (ts : List Tree) (i : Nat), (Tree.mems (ts.take i)).length ≤ (Tree.mems ts).length
  | [], _ => by simp
  | a :: r, 0 => by simp [Tree.mems]
  | a :: r, i + 1 => by rw [List.take_succ_cons]; unfold Tree.mems; rw [List.length_append, List.length_append]; have := mems_take r i; omega
theorem TreeAt.nn {H H' : Hp} (e : ExB [] H H') {v : V} {t : Tree} (h : TreeAt H v t) : TreeAt H' v t := h.keep fun _ _ k => e.nn k
theorem TreesAt.nn {H H' : Hp} (e : ExB [] H H') {v : List V} {t : List Tree} (h : TreesAt H v t) : TreesAt H' v t := h.keep fun _ _ k => e.nn k
theorem TreesAt.str {H H' : Hp} {p : Addr} (s : Str3 H p) (e : ExB [p] H H') {v : List V} {t : List Tree} (h : TreesAt H v t) : TreesAt H' v t := h.keep fun _ _ k => e.one k (s.notT k)
theorem word_one (w : Bool) : decide (wordS w = ("one" : Str)) = false := by
  cases w with
  | true => exact (by decide +kernel : decide (("above" : Str) = "one") = false)
  | false => exact (by decide +kernel : decide (("beside" : Str) = "one") = false)
theorem word_above (w : Bool) : decide (wordS w = ("above" : Str)) = w := by
  cases w with
  | true => exact (by decide +kernel : decide (("above" : Str) = "above") = true)
  | false => exact (by decide +kernel : decide (("beside" : Str) = "above") = false)
theorem word_beside (w : Bool) : decide (wordS w = ("beside" : Str)) = !w := by
  cases w with
  | true => exact (by decide +kernel : decide (("above" : Str) = "beside") = false)
  | false => exact (by decide +kernel : decide (("beside" : Str) = "beside") = true)
theorem one_one : decide (("one" : Str) = "one") = true := by decide +kernel
theorem Asc.left {xs ys : List Nat} {ps : List (Nat × Nat)} (h : Asc xs ps) : Asc (xs ++ ys) ps := fun p hp => by
  obtain ⟨i, j, a, b, c⟩ := h p hp
  exact ⟨i, j, a, by rw [List.getElem?_append_left (lt_of_get b)]; exact b, by rw [List.getElem?_append_left (lt_of_get c)]; exact c⟩
theorem Asc.right {xs ys : List Nat} {ps : List (Nat × Nat)} (h : Asc ys ps) : Asc (xs ++ ys) ps := fun p hp => by
  obtain ⟨i, j, a, b, c⟩ := h p hp
  exact ⟨xs.length + i, xs.length + j, by omega, by rw [List.getElem?_append_right (by omega), Nat.add_sub_cancel_left]; exact b, by rw [List.getElem?_append_right (by omega), Nat.add_sub_cancel_left]; exact c⟩
theorem Asc.cross {xs ys : List Nat} {i a : Nat} (h : xs[i]? = some a) : Asc (xs ++ ys) (ys.map fun b => (a, b)) := fun p hp => by
  obtain ⟨b, hb, rfl⟩ := List.mem_map.mp hp
  obtain ⟨j, hj⟩ := List.mem_iff_getElem?.mp hb
  exact ⟨i, xs.length + j, by have := lt_of_get h; omega, by rw [List.getElem?_append_left (lt_of_get h)]; exact h, by rw [List.getElem?_append_right (by omega), Nat.add_sub_cancel_left]; exact hj⟩
end Dr

/-! Flows: what stands in the heap, and what each def promises. -/
namespace Dr
open PySem PySem.Spec PyProof.Rows L2
/-! ### two rules more -/
section
variable {X : Cx} {K : Frg}
theorem pget_list0 : PGet X (rIxL X.K) := by
  intro pins s σ H o i ov iv Q I ro ri h
  obtain ⟨p, xs, k, z, rfl, rfl, hq, he, q⟩ := h
  cases ro
  obtain ⟨t, rfl⟩ := ri
  obtain ⟨its, r, pl, hz⟩ := I.list hq
  obtain ⟨j, h1, h2, h3, h4, h5⟩ := atI_get he
  obtain ⟨w, ew, rw'⟩ := r.get h2
  have hl := r.length
  have hn := line63
  have fin : EP X pins σ Q w s := ⟨z, H, I, rw', q⟩
  by_cases h0 : 0 ≤ k
  · have hj : k.toNat = j := by
      rw [seqIndex_of h0 h5] at h1
      exact Option.some.inj h1
    exact wpAny_getItem_list pl.isList h0 (by omega) (by rw [hj]; simpa using ew) fin
  · have hj : (k + (its.toArray.size : Int)).toNat = j := by
      rw [seqIndex_neg (by omega) h4] at h1
      rw [List.size_toArray, ← hl]
      exact Option.some.inj h1
    exact wpAny_getItem_list_neg pl.isList (by omega) (by rw [List.size_toArray] <;> omega) (by omega) (by rw [hj]; simpa using ew) fin
theorem pget_list (h : X.K = K) : PGet X (rIxL K) := h ▸ pget_list0
end
section
variable {K : Frg} {σ : L2.St} {H : Hp} {Q : VK} {D : Ends} {ta tb te to ti : TE} {tget : V → V → Hp → VK → Prop} {tip : TIp} {tset : TSet} {p q : Addr} {x y v : V} {f : Str} {rd : V → V → Hp → VK → Prop} {C dx : Addr} {wi : TI} {tr : TA} {g : TG} {ts : TS}
theorem z_augS (k : to σ H fun o H1 => ti σ H1 fun i H2 => tget o i H2 fun x H3 => te σ H3 fun y H4 => tip x y H4 fun z H5 => tset o i z H5 fun H6 => D.nx σ H6) : tAugS to ti te tget tip tset D σ H := k
theorem z_rsetL {xs : List V} {i : Int} {n : Nat} {Qh : Hp → Prop} (h : H p = some (.lst xs)) (hi : ixN xs.length i = some n) (k : Qh (upd H p (.lst (xs.set n v)))) : rSetL (.ref p) (.int i) v H Qh := ⟨p, xs, i, n, rfl, rfl, h, hi, k⟩
def kFa2 (K : Frg) (f : Str) (tv : TE) (rd : V → V → Hp → VK → Prop) (D : Ends) (σ : L2.St) (x : V) (H1 : Hp) : Prop := ∃ a C dx fs v, x = .ref a ∧ H1 a = some (.ins C dx fs) ∧ Cls K C ∧ NoAttr K C f ∧ fs.lookup f = some v ∧
  tv σ H1 fun y H2 => rd v y H2 fun z H3 => ∃ dx' fs', H3 a = some (.ins C dx' fs') ∧ fs'.length < 1000 ∧ D.nx σ (upd H3 a (.ins C dx' (putF f z fs')))
theorem z_fldaug (k : ta σ H (kFa2 K f te rd D σ)) : sFldAug K ta te rd f D σ H := k
theorem z_kFa2 {fs : List (Str × V)} (h : H p = some (.ins C dx fs)) (c : Cls K C) (n : NoAttr K C f) (l : fs.lookup f = some v) (k : te σ H fun y H2 => rd v y H2 fun z H3 => ∃ dx' fs', H3 p = some (.ins C dx' fs') ∧ fs'.length < 1000 ∧ D.nx σ (upd H3 p (.ins C dx' (putF f z fs')))) : kFa2 K f te rd D σ (.ref p) H := ⟨p, C, dx, fs, v, rfl, h, c, n, l, k⟩
theorem z_truB {c : Bool} {Qb : Bool → Hp → Prop} (k : Qb c H) : kTru K Qb (.bl c) H := ⟨_, rfl, k⟩
/-! dicts of numbers -/
theorem z_dnew (k : ∀ p, H p = none → Q (.ref p) (upd H p (.dK []))) : tDNewK σ H Q := k
theorem z_dget (k : ta σ H fun x H1 => tb σ H1 fun y H2 => ∃ a v, x = .ref a ∧ DGet H2 a y (some v) ∧ Q v H2) : tDGet ta tb σ H Q := k
theorem z_dput (k : te σ H fun v H1 => ta σ H1 fun x H2 => tb σ H2 fun y H3 => ∃ a H4, x = .ref a ∧ DPut H3 a y v H4 ∧ D.nx σ H4) : sDPut ta tb te D σ H := k
theorem z_daug (k : ta σ H fun x H1 => tb σ H1 fun y H2 => ∃ a v, x = .ref a ∧ DGet H2 a y (some v) ∧ te σ H2 fun y2 H3 => rd v y2 H3 fun z H4 => ∃ H5, DPut H4 a y z H5 ∧ D.nx σ H5) : sDAug ta tb te rd D σ H := k
/-! zip -/
theorem z_iZip {R : It → Hp → Prop} (k : tr σ H fun vs H1 => ∃ a b xs ys, vs = [.ref a, .ref b] ∧ SqL K H1 a xs ∧ SqL K H1 b ys ∧ R (Itz K a b) H1) : iZip K tr σ H R := k
theorem f_zip {a b : Addr} {xs ys : List V} (Pv : Nat → L2.St → Hp → Prop) (h0 : Pv 0 σ H) (he : xs.length = ys.length) (hl : ∀ i σ H, i ≤ xs.length → Pv i σ H → H a = some (.lst xs) ∧ H b = some (.lst ys))
    (hs : ∀ (i : Nat) x y σ H T, xs[i]? = some x → ys[i]? = some y → Pv i σ H → H T = none → g (.ref T) σ (upd H T (.tup [x, y])) fun σ2 H2 => ts { D with nx := Pv (i + 1), ct := Pv (i + 1), bk := D.nx } σ2 H2) (hd : ∀ σ H, Pv xs.length σ H → D.nx σ H) : ForG (Itz K a b) g ts D σ H := by
  refine ⟨fun i m σ H => m = xs.length - i ∧ i ≤ xs.length ∧ Pv i σ H, ⟨xs.length, by simp, Nat.zero_le _, h0⟩, ?_⟩
  rintro i m σ H ⟨rfl, hi, pv⟩
  obtain ⟨q1, q2⟩ := hl i σ H hi pv
  by_cases hlt : i < xs.length
  · refine Or.inr ⟨⟨xs, ys, xs[i], ys[i]'(by omega), SqL.of q1, SqL.of q2, List.getElem?_eq_getElem hlt, List.getElem?_eq_getElem (by omega)⟩, fun σ' H' => Pv (i + 1) σ' H', fun σ' H' h => ⟨_, by omega, rfl, hlt, h⟩, ?_⟩
    rintro v H' ⟨T, x, y, rfl, hT, rfl, hx, hy⟩
    exact hs i x y σ H T (hx xs (SqL.of q1)) (hy ys (SqL.of q2)) pv hT
  · refine Or.inl ⟨⟨xs, ys, SqL.of q1, SqL.of q2, Or.inl (by omega)⟩, hd σ H ?_⟩
    have e : i = xs.length := by omega
    rw [e] at pv
    exact pv
end
theorem rgC2 {M : Nat} (h : M ≤ 100000) : RgC 0 ((2 * M : Nat) : Int) 2 M := by
  have e : Builtin.Range.rangeSize 0 ((2 * M : Nat) : Int) 2 = (M : Int) := by
    unfold Builtin.Range.rangeSize
    simp only [show (2 : Int) > 0 by decide, if_true]
    split <;> omega
  have fl : ∀ i : Int, -1000000 ≤ i → i ≤ 1000000 → Builtin.Range.rangeFitsLong i = true := fun i h1 h2 => by
    unfold Builtin.Range.rangeFitsLong
    rw [Bool.and_eq_true]
    exact ⟨decide_eq_true (by omega), decide_eq_true (by omega)⟩
  refine ⟨by decide, by decide, ?_, e⟩
  unfold Builtin.Range.small
  rw [e, fl 0 (by omega) (by omega), fl ((2 * M : Nat) : Int) (by omega) (by omega), fl 2 (by omega) (by omega), fl (M : Int) (by omega) (by omega), if_pos (by decide), fl _ (by omega) (by omega)]
  simp
/-! ### networks and what is found in them, in plain terms -/
structure Net where
  m : Nat
  N : Nat
  tl : Nat → Nat
  hd : Nat → Nat
  rm : Nat → Int
  gn : Nat → Int
def app2 {α : Type} (m : Nat) (f : Nat → α) (x y : α) : Nat → α := fun a => if a = m then x else if a = m + 1 then y else f a
def setF {α : Type} (f : Nat → α) (i : Nat) (v : α) : Nat → α := fun j => if j = i then v else f j
def Net.add (G : Net) (u v : Nat) (r g : Int) : Net := { G with m := G.m + 2, tl := app2 G.m G.tl u v, hd := app2 G.m G.hd v u, rm := app2 G.m G.rm r 0, gn := app2 G.m G.gn g (0 - g) }
structure Bf where
  b : Nat → Option Int
  l : Nat → Option Nat
  c : Bool
def bfInit (s : Nat) : Bf := ⟨setF (fun _ => none) s (some 0), fun _ => none, false⟩
/-- one arc is looked at -/
def relax (G : Net) (S : Bf) (a : Nat) : Bf :=
  if 0 < G.rm a then
    match S.b (G.tl a) with
    | none => S
    | some x => match S.b (G.hd a) with
      | none => ⟨setF S.b (G.hd a) (some (x + G.gn a)), setF S.l (G.hd a) (some a), true⟩
      | some z => if z < x + G.gn a then ⟨setF S.b (G.hd a) (some (x + G.gn a)), setF S.l (G.hd a) (some a), true⟩ else S
  else S
def bround (G : Net) (S : Bf) : Bf := (List.range G.m).foldl (relax G) { S with c := false }
def bruns (G : Net) : Nat → Bf → Bf
  | 0, S => S
  | k + 1, S => if (bround G S).c then bruns G k (bround G S) else bround G S
def bfRun (G : Net) (s : Nat) : Bf := bruns G G.N (bfInit s)
/-- the arcs that lead back -/
inductive Pt (G : Net) (l : Nat → Option Nat) : Nat → List Nat → Prop
  | nil : Pt G l 0 []
  | cons {x a : Nat} {as : List Nat} : x ≠ 0 → l x = some a → Pt G l (G.tl a) as → Pt G l x (a :: as)
def opp (a : Nat) : Nat := if a % 2 = 0 then a + 1 else a - 1
def stepR (rm : Nat → Int) (a : Nat) : Nat → Int := fun i => if i = opp a then setF rm a (rm a - 1) i + 1 else setF rm a (rm a - 1) i
def pushR (rm : Nat → Int) (as : List Nat) : Nat → Int := as.foldl stepR rm
def arcsFrom (M : Nat) (tl : Nat → Nat) (v : Nat) : List Nat := ((List.range M).filter fun i => decide (tl (2 * i) = v)).map fun i => 2 * i
/-! ### in the heap -/
def tV (m : Nat) (f : Nat → Nat) : List V := (List.range m).map fun a => V.int ((f a : Nat) : Int)
def rV (m : Nat) (f : Nat → Int) : List V := (List.range m).map fun a => V.int (f a)
def bV (n : Nat) (f : Nat → Option Int) : List V := (List.range n).map fun a => ov (f a)
def lV (n : Nat) (f : Nat → Option Nat) : List V := (List.range n).map fun a => onv (f a)
structure FlowAt (K : Frg) (H : Hp) (f t h r g : Addr) (G : Net) : Prop where
  at_ : ∃ dx, H f = some (.ins (aF K) dx (fsF G.N t h r g))
  tls : H t = some (.lst (tV G.m G.tl))
  hds : H h = some (.lst (tV G.m G.hd))
  rms : H r = some (.lst (rV G.m G.rm))
  gns : H g = some (.lst (rV G.m G.gn))
  n1 : t ≠ h
  n2 : t ≠ r
  n3 : t ≠ g
  n4 : h ≠ r
  n5 : h ≠ g
  n6 : r ≠ g
section
variable {K : Frg} {H H' : Hp} {f t h r g : Addr} {G : Net}
theorem FlowAt.mono (F : FlowAt K H f t h r g G) (e : ExB [] H H') : FlowAt K H' f t h r g G := by
  obtain ⟨dx, q⟩ := F.at_
  exact ⟨⟨dx, e.nn q⟩, e.nn F.tls, e.nn F.hds, e.nn F.rms, e.nn F.gns, F.n1, F.n2, F.n3, F.n4, F.n5, F.n6⟩
theorem FlowAt.keep {S : List Addr} (F : FlowAt K H f t h r g G) (e : ExB S H H') (s : ∀ x ∈ [f, t, h, r, g], x ∉ S) : FlowAt K H' f t h r g G := by
  obtain ⟨dx, q⟩ := F.at_
  exact ⟨⟨dx, e.get q (s _ (by simp))⟩, e.get F.tls (s _ (by simp)), e.get F.hds (s _ (by simp)), e.get F.rms (s _ (by simp)), e.get F.gns (s _ (by simp)), F.n1, F.n2, F.n3, F.n4, F.n5, F.n6⟩
theorem tV_len {m : Nat} {f : Nat → Nat} : (tV m f).length = m := by unfold tV; rw [List.length_map, List.length_range]
theorem rV_len {m : Nat} {f : Nat → Int} : (rV m f).length = m := by unfold rV; rw [List.length_map, List.length_range]
theorem bV_len {m : Nat} {f : Nat → Option Int} : (bV m f).length = m := by unfold bV; rw [List.length_map, List.length_range]
theorem lV_len {m : Nat} {f : Nat → Option Nat} : (lV m f).length = m := by unfold lV; rw [List.length_map, List.length_range]
theorem at_tV {m a : Nat} {f : Nat → Nat} (h : a < m) : atI (tV m f) (a : Int) = some (.int ((f a : Nat) : Int)) := atI_nat (map_get _ h)
theorem at_rV {m a : Nat} {f : Nat → Int} (h : a < m) : atI (rV m f) (a : Int) = some (.int (f a)) := atI_nat (map_get _ h)
theorem at_bV {m a : Nat} {f : Nat → Option Int} (h : a < m) : atI (bV m f) (a : Int) = some (ov (f a)) := atI_nat (map_get _ h)
theorem at_lV {m a : Nat} {f : Nat → Option Nat} (h : a < m) : atI (lV m f) (a : Int) = some (onv (f a)) := atI_nat (map_get _ h)
theorem app2_at {α : Type} {β : Type} {m : Nat} {f : Nat → α} {x y : α} (w : α → β) : (List.range m).map (fun a => w (f a)) ++ [w x, w y] = (List.range (m + 2)).map fun a => w (app2 m f x y a) := by
  rw [show m + 2 = (m + 1) + 1 from rfl, List.range_succ, List.range_succ, List.map_append, List.map_append, List.append_assoc]
  congr 1
  · apply List.map_congr_left
    intro a ha
    have := List.mem_range.mp ha
    unfold app2; rw [if_neg (by omega), if_neg (by omega)]
  · simp [app2]
theorem tV_app2 {m : Nat} {f : Nat → Nat} {x y : Nat} : tV m f ++ [.int (x : Int), .int (y : Int)] = tV (m + 2) (app2 m f x y) := app2_at fun (n : Nat) => V.int (n : Int)
theorem rV_app2 {m : Nat} {f : Nat → Int} {x y : Int} : rV m f ++ [.int x, .int y] = rV (m + 2) (app2 m f x y) := app2_at V.int
theorem rV_set {m i : Nat} {f : Nat → Int} {v : Int} (h : i < m) : (rV m f).set i (.int v) = rV m (setF f i v) := mapset h (by unfold setF; rw [if_pos rfl]) fun j _ e => by unfold setF; rw [if_neg e]
theorem bV_set {m i : Nat} {f : Nat → Option Int} {v : Option Int} (h : i < m) : (bV m f).set i (ov v) = bV m (setF f i v) := mapset h (by unfold setF; rw [if_pos rfl]) fun j _ e => by unfold setF; rw [if_neg e]
theorem lV_set {m i : Nat} {f : Nat → Option Nat} {v : Option Nat} (h : i < m) : (lV m f).set i (onv v) = lV m (setF f i v) := mapset h (by unfold setF; rw [if_pos rfl]) fun j _ e => by unfold setF; rw [if_neg e]
theorem putFl (N : Nat) (t h r g : Addr) : putF "_gains" (.ref g) (putF "_rooms" (.ref r) (putF "_heads" (.ref h) (putF "_tails" (.ref t) (putF "_nodes" (.int (N : Int)) [])))) = fsF N t h r g := by kernel_rfl
theorem ov_non (o : Option Int) : decide (ov o = .non) = o.isNone := by
  cases o with
  | none => rfl
  | some i => exact decide_eq_false (fun q => by cases q)
end
/-! ### promises -/
def sp_f_init (K : Frg) : Sp := fun vs H Q _ => match vs with
  | [a, b] => ∃ x dx N, a = .ref x ∧ b = .int (N : Nat) ∧ H x = some (.ins (aF K) dx []) ∧ ∀ H' t h r g, H t = none → H h = none → H r = none → H g = none → ExB [x] H H' → FlowAt K H' x t h r g ⟨0, N, fun _ => 0, fun _ => 0, fun _ => 0, fun _ => 0⟩ → Q .non H'
  | _ => False
def sp_f_add_arc (K : Frg) : Sp := fun vs H Q _ => match vs with
  | [a, b, c, d, e] => ∃ x t h r g G u v rr gg, a = .ref x ∧ b = .int (u : Nat) ∧ c = .int (v : Nat) ∧ d = .int rr ∧ e = .int gg ∧ FlowAt K H x t h r g G ∧ G.m ≤ 90000 ∧
      ∀ H', ExB [t, h, r, g] H H' → FlowAt K H' x t h r g (G.add u v rr gg) → Q (.int (G.m : Nat)) H'
  | _ => False
def sp_f_flows (K : Frg) : Sp := fun vs H Q _ => match vs with
  | [a, b] => ∃ x t h r g G i, a = .ref x ∧ b = .int (i : Nat) ∧ FlowAt K H x t h r g G ∧ i + 1 < G.m ∧ Q (.int (G.rm (i + 1))) H
  | _ => False
def sp_f_head (K : Frg) : Sp := fun vs H Q _ => match vs with
  | [a, b] => ∃ x t h r g G i, a = .ref x ∧ b = .int (i : Nat) ∧ FlowAt K H x t h r g G ∧ i < G.m ∧ Q (.int ((G.hd i : Nat) : Int)) H
  | _ => False
def sp_f_arcs_from (K : Frg) : Sp := fun vs H Q _ => match vs with
  | [a, b] => ∃ x t h r g G M v, a = .ref x ∧ b = .int (v : Nat) ∧ FlowAt K H x t h r g G ∧ G.m = 2 * M ∧ M ≤ 40000 ∧ ∀ l H', H l = none → ExB [] H H' → H' l = some (.lst (nv (arcsFrom M G.tl v))) → Q (.ref l) H'
  | _ => False
def sp_f_gains_from (K : Frg) : Sp := fun vs H Q _ => match vs with
  | [a, b] => ∃ x t h r g G s, a = .ref x ∧ b = .int (s : Nat) ∧ FlowAt K H x t h r g G ∧ G.m ≤ 90000 ∧ G.N ≤ 1000 ∧ s < G.N ∧ (∀ a, a < G.m → G.tl a < G.N ∧ G.hd a < G.N) ∧
      ∀ p bb ll H', H p = none → H bb = none → H ll = none → ExB [] H H' → H' p = some (.tup [.ref bb, .ref ll]) → H' bb = some (.lst (bV G.N (bfRun G s).b)) → H' ll = some (.lst (lV G.N (bfRun G s).l)) → Q (.ref p) H'
  | _ => False
def sp_f_push (K : Frg) : Sp := fun vs H Q _ => match vs with
  | [a, b] => ∃ x t h r g G ll l as, a = .ref x ∧ b = .ref ll ∧ FlowAt K H x t h r g G ∧ 1 < G.N ∧ H ll = some (.lst (lV G.N l)) ∧ ll ≠ r ∧ Pt G l 1 as ∧ (∀ a ∈ as, opp a < G.m ∧ a < G.m) ∧ (∀ a, a < G.m → G.tl a < G.N) ∧
      ∀ H', ExB [r] H H' → FlowAt K H' x t h r g { G with rm := pushR G.rm as } → Q .non H'
  | _ => False
end Dr

/-! The chain flow: its network, what stands in the heap, what each def promises. -/
namespace Dr
open PySem PySem.Spec PyProof.Rows L2
/-! ### the network: arc 2i leads forth, arc 2i+1 back -/
section
variable (n : Nat) (P : List (Nat × Nat))
def cM : Nat := 4 * n + P.length
def cu (i : Nat) : Nat := if i < 4 * n then (if i % 4 = 0 then 0 else if i % 4 = 3 then 3 + 2 * (i / 4) else 2 + 2 * (i / 4)) else 3 + 2 * (P.getD (i - 4 * n) (0, 0)).1
def cv (i : Nat) : Nat := if i < 4 * n then (if i % 4 = 0 then 2 + 2 * (i / 4) else if i % 4 = 3 then 1 else 3 + 2 * (i / 4)) else 2 + 2 * (P.getD (i - 4 * n) (0, 0)).2
def cc (i : Nat) : Int := if i < 4 * n ∧ i % 4 = 1 then 1 else (n : Int) + 1
def cw (i : Nat) : Int := if i < 4 * n ∧ i % 4 = 1 then 1 else 0
def rmOf (f : Nat → Int) (a : Nat) : Int := if a % 2 = 0 then cc n (a / 2) - f (a / 2) else f (a / 2)
def cnet (rm : Nat → Int) : Net := ⟨2 * cM n P, 2 + 2 * n, fun a => if a % 2 = 0 then cu n P (a / 2) else cv n P (a / 2), fun a => if a % 2 = 0 then cv n P (a / 2) else cu n P (a / 2), rm, fun a => if a % 2 = 0 then cw n (a / 2) else 0 - cw n (a / 2)⟩
/-- pairs of elements, not too many -/
structure NOk : Prop where
  n40 : n ≤ 40
  len : P.length ≤ 1600
  lt : ∀ q ∈ P, q.1 < n ∧ q.2 < n
end
theorem nok_pairs {n : Nat} {T : Rel2} (h : n ≤ 40) : NOk n (pairsOf n T) :=
  ⟨h, Nat.le_trans pairsOf_sq (Nat.mul_le_mul h h), fun q hq => by
    obtain ⟨a, b, _⟩ := mem_pairsOf.mp (show (q.1, q.2) ∈ pairsOf n T from hq); exact ⟨a, b⟩⟩
theorem getD_lt {n : Nat} {P : List (Nat × Nat)} (h : NOk n P) {i : Nat} (hi : i < P.length) : (P.getD i (0, 0)).1 < n ∧ (P.getD i (0, 0)).2 < n := by
  rw [List.getD_eq_getElem?_getD, List.getElem?_eq_getElem hi]
  exact h.lt _ (List.getElem_mem hi)
theorem cuv_lt {n : Nat} {P : List (Nat × Nat)} (h : NOk n P) {i : Nat} (hi : i < cM n P) : cu n P i < 2 + 2 * n ∧ cv n P i < 2 + 2 * n := by
  unfold cM at hi
  unfold cu cv
  by_cases e : i < 4 * n
  · rw [if_pos e, if_pos e]
    constructor
    · split
      · omega
      · split <;> omega
    · split
      · omega
      · split <;> omega
  · rw [if_neg e, if_neg e]
    have := getD_lt h (i := i - 4 * n) (by omega)
    omega
theorem cnet_lt {n : Nat} {P : List (Nat × Nat)} (h : NOk n P) {rm : Nat → Int} {a : Nat} (ha : a < (cnet n P rm).m) : (cnet n P rm).tl a < (cnet n P rm).N ∧ (cnet n P rm).hd a < (cnet n P rm).N := by
  have ha' : a < 2 * cM n P := ha
  have := cuv_lt h (i := a / 2) (by omega)
  show (if a % 2 = 0 then cu n P (a / 2) else cv n P (a / 2)) < 2 + 2 * n ∧ (if a % 2 = 0 then cv n P (a / 2) else cu n P (a / 2)) < 2 + 2 * n
  split <;> omega
/-! the arcs one by one -/
section
variable {n e : Nat} {P : List (Nat × Nat)}
theorem cu0 (h : e < n) : cu n P (4 * e) = 0 := by unfold cu; rw [if_pos (by omega), if_pos (by omega)]
theorem cv0 (h : e < n) : cv n P (4 * e) = 2 + 2 * e := by unfold cv; rw [if_pos (by omega), if_pos (by omega)]; omega
theorem cu1 (h : e < n) : cu n P (4 * e + 1) = 2 + 2 * e := by unfold cu; rw [if_pos (by omega), if_neg (by omega), if_neg (by omega)]; omega
theorem cv1 (h : e < n) : cv n P (4 * e + 1) = 3 + 2 * e := by unfold cv; rw [if_pos (by omega), if_neg (by omega), if_neg (by omega)]; omega
theorem cu2 (h : e < n) : cu n P (4 * e + 2) = 2 + 2 * e := by unfold cu; rw [if_pos (by omega), if_neg (by omega), if_neg (by omega)]; omega
theorem cv2 (h : e < n) : cv n P (4 * e + 2) = 3 + 2 * e := by unfold cv; rw [if_pos (by omega), if_neg (by omega), if_neg (by omega)]; omega
theorem cu3 (h : e < n) : cu n P (4 * e + 3) = 3 + 2 * e := by unfold cu; rw [if_pos (by omega), if_neg (by omega), if_pos (by omega)]; omega
theorem cv3 (h : e < n) : cv n P (4 * e + 3) = 1 := by unfold cv; rw [if_pos (by omega), if_neg (by omega), if_pos (by omega)]
theorem cc_1 (h : e < n) : cc n (4 * e + 1) = 1 := by unfold cc; rw [if_pos (by omega)]
theorem cw_1 (h : e < n) : cw n (4 * e + 1) = 1 := by unfold cw; rw [if_pos (by omega)]
theorem cc_n {i : Nat} (h : i % 4 ≠ 1 ∨ 4 * n ≤ i) : cc n i = (n : Int) + 1 := by unfold cc; rw [if_neg (by omega)]
theorem cw_n {i : Nat} (h : i % 4 ≠ 1 ∨ 4 * n ≤ i) : cw n i = 0 := by unfold cw; rw [if_neg (by omega)]
theorem cuP {j : Nat} : cu n P (4 * n + j) = 3 + 2 * (P.getD j (0, 0)).1 := by unfold cu; rw [if_neg (by omega), Nat.add_sub_cancel_left]
theorem cvP {j : Nat} : cv n P (4 * n + j) = 2 + 2 * (P.getD j (0, 0)).2 := by unfold cv; rw [if_neg (by omega), Nat.add_sub_cancel_left]
variable {rm : Nat → Int} {i : Nat}
theorem tl_e : (cnet n P rm).tl (2 * i) = cu n P i := by show (if 2 * i % 2 = 0 then cu n P (2 * i / 2) else _) = _; rw [if_pos (by omega), show 2 * i / 2 = i by omega]
theorem tl_o : (cnet n P rm).tl (2 * i + 1) = cv n P i := by show (if (2 * i + 1) % 2 = 0 then _ else cv n P ((2 * i + 1) / 2)) = _; rw [if_neg (by omega), show (2 * i + 1) / 2 = i by omega]
theorem hd_e : (cnet n P rm).hd (2 * i) = cv n P i := by show (if 2 * i % 2 = 0 then cv n P (2 * i / 2) else _) = _; rw [if_pos (by omega), show 2 * i / 2 = i by omega]
theorem hd_o : (cnet n P rm).hd (2 * i + 1) = cu n P i := by show (if (2 * i + 1) % 2 = 0 then _ else cu n P ((2 * i + 1) / 2)) = _; rw [if_neg (by omega), show (2 * i + 1) / 2 = i by omega]
theorem gn_e : (cnet n P rm).gn (2 * i) = cw n i := by show (if 2 * i % 2 = 0 then cw n (2 * i / 2) else _) = _; rw [if_pos (by omega), show 2 * i / 2 = i by omega]
theorem gn_o : (cnet n P rm).gn (2 * i + 1) = 0 - cw n i := by show (if (2 * i + 1) % 2 = 0 then _ else 0 - cw n ((2 * i + 1) / 2)) = _; rw [if_neg (by omega), show (2 * i + 1) / 2 = i by omega]
theorem rm_e {f : Nat → Int} : rmOf n f (2 * i) = cc n i - f i := by unfold rmOf; rw [if_pos (by omega), show 2 * i / 2 = i by omega]
theorem rm_o {f : Nat → Int} : rmOf n f (2 * i + 1) = f i := by unfold rmOf; rw [if_neg (by omega), show (2 * i + 1) / 2 = i by omega]
end
/-! ### sums over arcs -/
def sumI : Nat → (Nat → Int) → Int
  | 0, _ => 0
  | n + 1, F => sumI n F + F n
/-- what flows down the prices p -/
def Bs (n : Nat) (P : List (Nat × Nat)) (p f : Nat → Int) : Int := sumI (cM n P) fun i => f i * (p (cu n P i) - p (cv n P i))
/-- k units on their way -/
structure FlowOk (n : Nat) (P : List (Nat × Nat)) (f : Nat → Int) (k : Nat) : Prop where
  lo : ∀ i, i < cM n P → 0 ≤ f i
  hi : ∀ i, i < cM n P → f i ≤ cc n i
  le : ∀ i, i < cM n P → f i ≤ k
  con : ∀ p : Nat → Int, Bs n P p f = k * (p 0 - p 1)
/-- between two units: g is left -/
structure CJ (n : Nat) (T : Rel2) (f g : Nat → Int) (rest : Nat) (un : Nat) (found : List (List Nat)) : Prop where
  g0 : ∀ i, i < cM n (pairsOf n T) → 0 ≤ g i
  con : ∀ p : Nat → Int, Bs n (pairsOf n T) p g = rest * (p 0 - p 1)
  len : found.length ≤ un
  ne : ∀ x ∈ found, x ≠ []
  cnt : ∀ e, e < n → (found.flatten.count e : Int) = f (4 * e + 1) - g (4 * e + 1)
  lt : ∀ e ∈ found.flatten, e < n
  ch : ∀ x ∈ found, ChainP T x
/-- a unit on its way, at cur -/
structure CI (n : Nat) (T : Rel2) (f g : Nat → Int) (rest : Nat) (un : Nat) (found : List (List Nat)) (cur : Nat) (chain : List Nat) : Prop where
  g0 : ∀ i, i < cM n (pairsOf n T) → 0 ≤ g i
  con : ∀ p : Nat → Int, Bs n (pairsOf n T) p g = p cur - p 1 + rest * (p 0 - p 1)
  len : found.length ≤ un
  ne : ∀ x ∈ found, x ≠ []
  cnt : ∀ e, e < n → (found.flatten.count e : Int) + chain.count e = f (4 * e + 1) - g (4 * e + 1)
  lt : ∀ e ∈ found.flatten, e < n
  clt : ∀ e ∈ chain, e < n
  ch : ∀ x ∈ found, ChainP T x
  cch : ChainP T chain
  c0 : cur = 0 → chain = []
  pos : ∀ x, chain.getLast? = some x → cur = 1 ∨ cur = 3 + 2 * x ∨ ∃ e, e < n ∧ T x e = true ∧ (cur = 2 + 2 * e ∨ cur = 3 + 2 * e)
  cN : cur < 2 + 2 * n
/-- chains that carry all that flows -/
structure ChainsOk (n : Nat) (T : Rel2) (f : Nat → Int) (k : Nat) (xss : List (List Nat)) : Prop where
  len : xss.length ≤ k
  ne : ∀ x ∈ xss, x ≠ []
  cnt : ∀ e, e < n → (xss.flatten.count e : Int) = f (4 * e + 1)
  lt : ∀ e ∈ xss.flatten, e < n
  ch : ∀ x ∈ xss, ChainP T x
/-! ### prices and sets -/
def priceF (b0 b1 : Nat → Option Int) (most : Int) (y : Nat) : Option Int := match b1 y with
  | none => b0 y
  | some z => match b0 y with
    | none => some (z + most)
    | some w => if w < z + most then some (z + most) else some w
def gainV : Option Int → Int
  | none => 0
  | some y => max 0 y
def levelOf (n : Nat) (p : Nat → Int) (j : Nat) : List Nat := (List.range n).filter fun e => decide (p (2 + 2 * e) < p (3 + 2 * e)) && decide (p (2 + 2 * e) = (j : Int))
def setsOf (n : Nat) (p : Nat → Int) (most : Nat) : List (List Nat) := ((List.range most).map (levelOf n p)).filter fun r => decide (0 < r.length)
def othersOf (n : Nat) (p : Nat → Int) : List Nat := (List.range n).filter fun e => !decide (p (2 + 2 * e) < p (3 + 2 * e))
/-! ### in the heap -/
structure CFb (K : Frg) (H : Hp) (x o : Addr) (n : Nat) (P : List (Nat × Nat)) (k : Nat) (rm : Nat → Int) (fl t h r g ga : Addr) : Prop where
  at_ : ∃ dx, H x = some (.ins (aC K) dx (fsC o fl ga k))
  flow : FlowAt K H fl t h r g (cnet n P rm)
  gl : H ga = some (.lst (nv ((List.range n).map fun e => 8 * e + 2)))
  n7 : ga ≠ r
section
variable {K : Frg} {H H' : Hp} {x o fl t h r g ga : Addr} {n k : Nat} {P : List (Nat × Nat)} {rm : Nat → Int} {S S' : List Addr}
theorem CFb.mono (c : CFb K H x o n P k rm fl t h r g ga) (e : ExB [] H H') : CFb K H' x o n P k rm fl t h r g ga := by
  obtain ⟨dx, q⟩ := c.at_
  exact ⟨⟨dx, e.nn q⟩, c.flow.mono e, e.nn c.gl, c.n7⟩
theorem FlowAt.grow {C : Net} {m : Nat} {u v : Nat} {a b : Int} (F : FlowAt K H fl t h r g (({ C with m := m } : Net).add u v a b)) (h1 : C.tl m = u) (h2 : C.tl (m + 1) = v) (h3 : C.hd m = v) (h4 : C.hd (m + 1) = u) (h5 : C.rm m = a) (h6 : C.rm (m + 1) = 0) (h7 : C.gn m = b) (h8 : C.gn (m + 1) = 0 - b) :
    FlowAt K H fl t h r g { C with m := m + 2 } := by
  have e : ∀ {α : Type} (F : Nat → α) (x y : α), F m = x → F (m + 1) = y → app2 m F x y = F := fun F x y e1 e2 => by
    funext i
    unfold app2
    by_cases q : i = m
    · rw [if_pos q, q, e1]
    · rw [if_neg q]
      by_cases q2 : i = m + 1
      · rw [if_pos q2, q2, e2]
      · rw [if_neg q2]
  unfold Net.add at F
  dsimp only at F
  rw [e C.tl u v h1 h2, e C.hd v u h3 h4, e C.rm a 0 h5 h6, e C.gn b (0 - b) h7 h8] at F
  exact F
theorem FlowAt.growC {i : Nat} (F : FlowAt K H fl t h r g (({ cnet n P (rmOf n fun _ => 0) with m := 2 * i } : Net).add (cu n P i) (cv n P i) (cc n i) (cw n i))) : FlowAt K H fl t h r g { cnet n P (rmOf n fun _ => 0) with m := 2 * (i + 1) } :=
  F.grow tl_e tl_o hd_e hd_o (by show rmOf n (fun _ => 0) (2 * i) = _; rw [rm_e]; omega) (by show rmOf n (fun _ => 0) (2 * i + 1) = _; rw [rm_o]) gn_e gn_o
/-- what is changed is new -/
theorem ExB.freeS (e : ExB S H H') {H2 : Hp} (e2 : ExB S' H' H2) (n : ∀ a ∈ S', H a = none ∨ a ∈ S) : ExB S H H2 := fun b w m q => by
  refine e2 b w (fun z => ?_) (e b w m q)
  rcases n b z with h | h
  · rw [h] at q; cases q
  · exact m h
theorem OrdAt.keepI {C dx : Addr} {T : Rel2} (hx : H x = some (.ins C dx [])) (h : OrdAt K H o n T) (e : ExB [x] H H') : OrdAt K H' o n T := by
  obtain ⟨up, ⟨dx2, dn, pr, g1, g2, vs, g3, g4⟩, le⟩ := h
  have nx : ∀ b w, H b = some w → (∀ C dx, w ≠ .ins C dx []) → b ≠ x := fun b w h1 h2 q => by
    rw [q, hx] at h1; cases h1; exact h2 _ _ rfl
  refine ⟨up, ⟨dx2, dn, pr, e.one g1 (nx _ _ g1 (fun C dx q => by cases q)), e.one g2 (nx _ _ g2 (fun C dx q => by cases q)), vs, e.one g3 (nx _ _ g3 (fun C dx q => by cases q)), pr_mono (fun v q ⟨b, e1, e2⟩ => ⟨b, e1, e.one e2 (nx _ _ e2 (fun C dx q => by cases q))⟩) g4⟩, le⟩
theorem putC (o f ga : Addr) : putF "units" (.int 0) (putF "_gaining" (.ref ga) (putF "_flow" (.ref f) (putF "_order" (.ref o) []))) = fsC o f ga 0 := by kernel_rfl
theorem putU (o f ga : Addr) (u : Nat) : putF "units" (.int ((u : Int) + 1)) (fsC o f ga u) = fsC o f ga (u + 1) := by kernel_rfl
theorem ov_non2 (o : Option Int) : (!decide (ov o = .non)) = o.isSome := by
  cases o with
  | none => rfl
  | some i => rw [ov_non]; rfl
end
/-! ### promises -/
def sp_c_init (K : Frg) : Sp := fun vs H Q _ => match vs with
  | [a, b] => ∃ x dx o n T, a = .ref x ∧ b = .ref o ∧ H x = some (.ins (aC K) dx []) ∧ OrdAt K H o n T ∧
      ∀ H' fl t h r g ga, (∀ y ∈ [fl, t, h, r, g, ga], H y = none) → ExB [x] H H' → CFb K H' x o n (pairsOf n T) 0 (rmOf n fun _ => 0) fl t h r g ga → Q .non H'
  | _ => False
def sp_c_next_gain (K : Frg) : Sp := fun vs H Q _ => match vs with
  | [a] => ∃ x o n P k rm fl t h r g ga, a = .ref x ∧ CFb K H x o n P k rm fl t h r g ga ∧ NOk n P ∧ ∀ H', ExB [] H H' → Q (.int (gainV ((bfRun (cnet n P rm) 0).b 1))) H'
  | _ => False
def sp_c_add_unit (K : Frg) : Sp := fun vs H Q _ => match vs with
  | [a] => ∃ x o n P k rm fl t h r g ga as, a = .ref x ∧ CFb K H x o n P k rm fl t h r g ga ∧ NOk n P ∧ Pt (cnet n P rm) (bfRun (cnet n P rm) 0).l 1 as ∧ (∀ i ∈ as, i < 2 * cM n P) ∧
      ∀ H', ExB [x, r] H H' → CFb K H' x o n P (k + 1) (pushR rm as) fl t h r g ga → Q .non H'
  | _ => False
def sp_c_chains (K : Frg) : Sp := fun vs H Q _ => match vs with
  | [a] => ∃ x o n T k f fl t h r g ga, a = .ref x ∧ CFb K H x o n (pairsOf n T) k (rmOf n f) fl t h r g ga ∧ OrdAt K H o n T ∧ Strict n T ∧ k ≤ 1000 ∧ FlowOk n (pairsOf n T) f k ∧
      ∀ l H' xss, H l = none → ExB [] H H' → LLf H H' l xss → ChainsOk n T f k xss → Q (.ref l) H'
  | _ => False
def sp_c_prices (K : Frg) : Sp := fun vs H Q _ => match vs with
  | [a, b] => ∃ x o n P k rm fl t h r g ga m, a = .ref x ∧ b = .int m ∧ CFb K H x o n P k rm fl t h r g ga ∧ NOk n P ∧
      ∀ l H', H l = none → ExB [] H H' → H' l = some (.lst (bV (2 + 2 * n) (priceF (bfRun (cnet n P rm) 0).b (bfRun (cnet n P rm) 1).b m))) → Q (.ref l) H'
  | _ => False
def sp_c_sets (K : Frg) : Sp := fun vs H Q _ => match vs with
  | [a, b] => ∃ x o n T k rm fl t h r g ga, ∃ (m : Nat) (p : Nat → Int), a = .ref x ∧ b = .int (m : Nat) ∧ CFb K H x o n (pairsOf n T) k rm fl t h r g ga ∧ OrdAt K H o n T ∧ m ≤ 1000 ∧
      (∀ y, y < 2 + 2 * n → priceF (bfRun (cnet n (pairsOf n T) rm) 0).b (bfRun (cnet n (pairsOf n T) rm) 1).b (m : Nat) y = some (p y)) ∧ (∀ e, e < n → 0 ≤ p (2 + 2 * e) ∧ (p (2 + 2 * e) < p (3 + 2 * e) → p (2 + 2 * e) < m)) ∧
      ∀ q ls lo H', H q = none → ExB [] H H' → H' q = some (.tup [.ref ls, .ref lo]) → LLf H H' ls (setsOf n p m) → H lo = none → H' lo = some (.lst (nv (othersOf n p))) → Q (.ref q) H'
  | _ => False
theorem cut12 {xs : List V} {v : V} (h : xs[1]? = some v) : cutV xs (some 1) (some 2) = [v] := by
  have hl := lt_of_get h
  unfold cutV
  rw [show (some (1 : Int)) = some ((1 : Nat) : Int) from rfl, show (some (2 : Int)) = some ((2 : Nat) : Int) from rfl, HT.sIx_nat, HT.sIx_nat, Nat.min_eq_left (by omega), Nat.min_eq_left (by omega)]
  match xs, h with
  | a :: b :: r, h => cases h; rfl
end Dr

/-! Sums over arcs; units on their way. -/
namespace Dr
open PySem PySem.Spec PyProof.Rows L2
theorem sumI_congr {F G : Nat → Int} : ∀ {n : Nat}, (∀ i, i < n → F i = G i) → sumI n F = sumI n G
  | 0, _ => rfl
  | n + 1, h => by unfold sumI; rw [sumI_congr (fun i hi => h i (by omega)), h n (by omega)]
theorem sumI_one {F G : Nat → Int} {i : Nat} : ∀ {n : Nat}, i < n → (∀ j, j < n → j ≠ i → F j = G j) → sumI n F = sumI n G + (F i - G i)
  | 0, h, _ => by omega
  | n + 1, h, e => by
    unfold sumI
    by_cases q : i = n
    · subst q
      rw [sumI_congr (F := F) (G := G) (fun j hj => e j (by omega) (by omega))]; omega
    · rw [sumI_one (n := n) (by omega) (fun j hj hne => e j (by omega) hne), e n (by omega) (fun z => q z.symm)]; omega
theorem sumI_nn {F : Nat → Int} : ∀ {n : Nat}, (∀ i, i < n → 0 ≤ F i) → 0 ≤ sumI n F
  | 0, _ => Int.le_refl _
  | n + 1, h => by
    unfold sumI
    have h1 := sumI_nn (F := F) (n := n) (fun i hi => h i (by omega))
    have h2 := h n (by omega)
    omega
theorem sumI_ge {F : Nat → Int} {i : Nat} : ∀ {n : Nat}, (∀ i, i < n → 0 ≤ F i) → i < n → F i ≤ sumI n F
  | 0, _, h => by omega
  | n + 1, h, hi => by
    unfold sumI
    have h1 := sumI_nn (F := F) (n := n) (fun i hi => h i (by omega))
    have h2 := h n (by omega)
    by_cases q : i = n
    · subst q; omega
    · have := sumI_ge (F := F) (n := n) (fun i hi => h i (by omega)) (show i < n by omega); omega
theorem sumI_pos {F : Nat → Int} : ∀ {n : Nat}, 0 < sumI n F → ∃ i, i < n ∧ 0 < F i
  | 0, h => by exact absurd h (Int.lt_irrefl _)
  | n + 1, h => by
    unfold sumI at h
    by_cases q : 0 < F n
    · exact ⟨n, by omega, q⟩
    · obtain ⟨i, hi, k⟩ := sumI_pos (F := F) (n := n) (by omega)
      exact ⟨i, by omega, k⟩
theorem sumI_le {F G : Nat → Int} : ∀ {n : Nat}, (∀ i, i < n → F i ≤ G i) → sumI n F ≤ sumI n G
  | 0, _ => Int.le_refl _
  | n + 1, h => by
    unfold sumI
    have h1 := sumI_le (F := F) (G := G) (n := n) (fun i hi => h i (by omega))
    have h2 := h n (by omega)
    omega
theorem arc_kind {n : Nat} {P : List (Nat × Nat)} {i : Nat} (h : i < cM n P) : (∃ e, e < n ∧ i = 4 * e) ∨ (∃ e, e < n ∧ i = 4 * e + 1) ∨ (∃ e, e < n ∧ i = 4 * e + 2) ∨ (∃ e, e < n ∧ i = 4 * e + 3) ∨ ∃ j, j < P.length ∧ i = 4 * n + j := by
  unfold cM at h
  by_cases q : i < 4 * n
  · have : i % 4 = 0 ∨ i % 4 = 1 ∨ i % 4 = 2 ∨ i % 4 = 3 := by omega
    rcases this with z | z | z | z
    · exact .inl ⟨i / 4, by omega, by omega⟩
    · exact .inr (.inl ⟨i / 4, by omega, by omega⟩)
    · exact .inr (.inr (.inl ⟨i / 4, by omega, by omega⟩))
    · exact .inr (.inr (.inr (.inl ⟨i / 4, by omega, by omega⟩)))
  · exact .inr (.inr (.inr (.inr ⟨i - 4 * n, by omega, by omega⟩)))
theorem cv_pos {n : Nat} {P : List (Nat × Nat)} {i : Nat} : cv n P i ≠ 0 := by
  unfold cv
  split
  · split
    · omega
    · split <;> omega
  · omega
theorem getD_pairs {n : Nat} {T : Rel2} {j : Nat} (h : j < (pairsOf n T).length) : ((pairsOf n T).getD j (0, 0)).1 < n ∧ ((pairsOf n T).getD j (0, 0)).2 < n ∧ T ((pairsOf n T).getD j (0, 0)).1 ((pairsOf n T).getD j (0, 0)).2 = true := by
  rw [List.getD_eq_getElem?_getD, List.getElem?_eq_getElem h]
  exact mem_pairsOf.mp (show (((pairsOf n T)[j]).1, ((pairsOf n T)[j]).2) ∈ pairsOf n T from List.getElem_mem h)
theorem pairs_getD {n : Nat} {T : Rel2} {a b : Nat} (ha : a < n) (hb : b < n) (h : T a b = true) : ∃ j, j < (pairsOf n T).length ∧ (pairsOf n T).getD j (0, 0) = (a, b) := by
  obtain ⟨j, hj, e⟩ := List.mem_iff_getElem.mp (mem_pairsOf.mpr ⟨ha, hb, h⟩)
  exact ⟨j, hj, by rw [List.getD_eq_getElem?_getD, List.getElem?_eq_getElem hj, e]; rfl⟩
section
variable {n : Nat} {T : Rel2} {f g : Nat → Int} {rest un k : Nat} {found : List (List Nat)} {cur : Nat} {chain : List Nat} {i : Nat}
theorem Bs_set {P : List (Nat × Nat)} {p : Nat → Int} {d : Int} (h : i < cM n P) : Bs n P p (setF g i (g i + d)) = Bs n P p g + d * (p (cu n P i) - p (cv n P i)) := by
  unfold Bs
  rw [sumI_one (F := fun j => setF g i (g i + d) j * (p (cu n P j) - p (cv n P j))) (G := fun j => g j * (p (cu n P j) - p (cv n P j))) h (fun j _ hne => by show setF g i (g i + d) j * _ = _; unfold setF; rw [if_neg hne])]
  show _ + (setF g i (g i + d) i * _ - _) = _
  have : setF g i (g i + d) i = g i + d := by unfold setF; rw [if_pos rfl]
  rw [this, Int.add_mul]; omega
theorem cj_init (h : FlowOk n (pairsOf n T) f k) : CJ n T f f k 0 [] :=
  ⟨h.lo, h.con, Nat.le_refl _, by simp, fun e he => by simp, by simp, by simp⟩
theorem ci_of (h : CJ n T f g (rest + 1) un found) : CI n T f g rest un found 0 [] :=
  ⟨h.g0, fun p => by rw [h.con p, Int.natCast_add, Int.add_mul]; omega, h.len, h.ne, fun e he => by have := h.cnt e he; simp; omega, h.lt, by simp, h.ch, fun k a b h1 h2 => by simp at h1, fun _ => rfl, fun x hx => by simp at hx, by omega⟩
theorem ci_ex (h : CI n T f g rest un found cur chain) (hc : cur ≠ 1) : ∃ i, i < cM n (pairsOf n T) ∧ cu n (pairsOf n T) i = cur ∧ 0 < g i := by
  have hp : Bs n (pairsOf n T) (fun x => if x = cur then 1 else 0) g = (if cur = cur then 1 else 0) - (if 1 = cur then 1 else 0) + rest * ((if 0 = cur then 1 else 0) - (if 1 = cur then 1 else 0)) := h.con fun x => if x = cur then 1 else 0
  rw [if_pos rfl, if_neg (fun z => hc z.symm)] at hp
  have h0 : 0 ≤ (rest : Int) * ((if 0 = cur then 1 else 0) - 0) := Int.mul_nonneg (by omega) (by split <;> omega)
  unfold Bs at hp
  obtain ⟨i, hi, k⟩ := sumI_pos (show 0 < sumI _ _ from by rw [hp]; omega)
  have hg := h.g0 i hi
  refine ⟨i, hi, ?_⟩
  by_cases q : cu n (pairsOf n T) i = cur
  · refine ⟨q, ?_⟩
    rcases Int.lt_or_eq_of_le hg with z | z
    · exact z
    · rw [← z, Int.zero_mul] at k; omega
  · exfalso
    dsimp only at k
    rw [if_neg q] at k
    have : g i * (0 - (if cv n (pairsOf n T) i = cur then 1 else 0)) ≤ 0 := Int.mul_nonpos_of_nonneg_of_nonpos hg (by split <;> omega)
    omega
theorem chain_snoc {xs : List Nat} {e : Nat} (h : ChainP T xs) (k : ∀ x, xs.getLast? = some x → T x e = true) : ChainP T (xs ++ [e]) := by
  intro m a b h1 h2
  by_cases q : m + 1 < xs.length
  · rw [List.getElem?_append_left (by omega)] at h1 h2
    exact h m a b h1 h2
  · have hb : m + 1 = xs.length := by
      have := lt_of_get h2
      rw [List.length_append, List.length_singleton] at this
      omega
    rw [List.getElem?_append_left (by omega)] at h1
    rw [List.getElem?_append_right (by omega), hb, Nat.sub_self] at h2
    cases h2
    refine k a ?_
    rw [List.getLast?_eq_getElem?, ← hb, Nat.add_sub_cancel]; exact h1
theorem ci_step (hT : Strict n T) (hn : n ≤ 40) (h : CI n T f g rest un found cur chain) (hi : i < cM n (pairsOf n T)) (hu : cu n (pairsOf n T) i = cur) (hg : 0 < g i) :
    CI n T f (setF g i (g i - 1)) rest un found (cv n (pairsOf n T) i) (if i < 4 * n ∧ i % 4 = 1 then chain ++ [i / 4] else chain) := by
  refine ⟨?_, ?_, h.len, h.ne, ?_, h.lt, ?_, h.ch, ?_, fun z => absurd z cv_pos, ?_, (cuv_lt (nok_pairs hn) hi).2⟩
  · intro j hj
    unfold setF
    split
    · omega
    · exact h.g0 j hj
  · intro p
    rw [show g i - 1 = g i + -1 by omega, Bs_set hi, h.con p, hu]; omega
  · intro e he
    have := h.cnt e he
    unfold setF
    by_cases q : i < 4 * n ∧ i % 4 = 1
    · rw [if_pos q, List.count_append]
      by_cases z : 4 * e + 1 = i
      · subst z
        rw [if_pos rfl, show (4 * e + 1) / 4 = e by omega]; simp; omega
      · rw [if_neg z]
        have : ¬ i / 4 = e := by omega
        simp [this]; omega
    · rw [if_neg q, if_neg (by omega)]; exact this
  · intro e he
    by_cases q : i < 4 * n ∧ i % 4 = 1
    · rw [if_pos q] at he
      rcases List.mem_append.mp he with z | z
      · exact h.clt e z
      · rw [List.mem_singleton] at z; omega
    · rw [if_neg q] at he; exact h.clt e he
  · by_cases q : i < 4 * n ∧ i % 4 = 1
    · rw [if_pos q]
      refine chain_snoc h.cch fun x hx => ?_
      have e1 : i = 4 * (i / 4) + 1 := by omega
      have hc : cur = 2 + 2 * (i / 4) := by rw [← hu, e1, cu1 (by omega)]; omega
      rcases h.pos x hx with z | z | ⟨e, he, ht, z | z⟩
      · omega
      · omega
      · have : e = i / 4 := by omega
        rw [← this]; exact ht
      · omega
    · rw [if_neg q]; exact h.cch
  · intro x hx
    rcases arc_kind hi with ⟨e, he, rfl⟩ | ⟨e, he, rfl⟩ | ⟨e, he, rfl⟩ | ⟨e, he, rfl⟩ | ⟨j, hj, rfl⟩
    · rw [if_neg (by omega)] at hx
      rw [cu0 he] at hu
      rw [h.c0 hu.symm] at hx; simp at hx
    · rw [if_pos (by omega), List.getLast?_append] at hx
      have : x = e := by simp at hx; omega
      subst this
      rw [cv1 he]; exact .inr (.inl rfl)
    · rw [if_neg (by omega)] at hx
      rw [cu2 he] at hu
      rw [cv2 he]
      rcases h.pos x hx with z | z | ⟨e', he', ht, z | z⟩
      · omega
      · omega
      · have : e' = e := by omega
        subst this
        exact .inr (.inr ⟨e', he', ht, .inr rfl⟩)
      · omega
    · rw [cv3 he]; exact .inl rfl
    · obtain ⟨q1, q2, q3⟩ := getD_pairs hj
      rw [if_neg (by omega)] at hx
      rw [cuP] at hu
      rw [cvP]
      have hxn : x < n := h.clt x (List.mem_of_getLast? hx)
      rcases h.pos x hx with z | z | ⟨e', he', ht, z | z⟩
      · omega
      · have : x = ((pairsOf n T).getD j (0, 0)).1 := by omega
        exact .inr (.inr ⟨_, q2, by rw [this]; exact q3, .inl rfl⟩)
      · omega
      · have : e' = ((pairsOf n T).getD j (0, 0)).1 := by omega
        exact .inr (.inr ⟨_, q2, hT.tr _ _ _ hxn q1 q2 (by rw [← this]; exact ht) q3, .inl rfl⟩)
theorem count_nodup {xs : List Nat} (h : ∀ e, xs.count e ≤ 1) : xs.Nodup := by
  rw [List.nodup_iff_count]; exact h
theorem ci_len (hF : FlowOk n (pairsOf n T) f k) (h : CI n T f g rest un found cur chain) : chain.length ≤ n := by
  refine nodup_le (count_nodup fun e => ?_) h.clt
  by_cases he : e < n
  · have h1 := h.cnt e he
    have hm : 4 * e + 1 < cM n (pairsOf n T) := by unfold cM; omega
    have h2 := hF.hi _ hm
    have h3 := h.g0 _ hm
    rw [cc_1 he] at h2
    omega
  · have : chain.count e = 0 := List.count_eq_zero.mpr fun z => he (h.clt e z)
    omega
theorem ci_end (h : CI n T f g rest un found 1 chain) : CJ n T f g rest (un + 1) (if chain = [] then found else found ++ [chain]) := by
  have hcon : ∀ p : Nat → Int, Bs n (pairsOf n T) p g = rest * (p 0 - p 1) := fun p => by rw [h.con p]; omega
  by_cases q : chain = []
  · rw [if_pos q]
    subst q
    exact ⟨h.g0, hcon, Nat.le_succ_of_le h.len, h.ne, fun e he => by have := h.cnt e he; simp at this; omega, h.lt, h.ch⟩
  · rw [if_neg q]
    refine ⟨h.g0, hcon, by rw [List.length_append, List.length_singleton]; have := h.len; omega, ?_, ?_, ?_, ?_⟩
    · intro x hx
      rcases List.mem_append.mp hx with z | z
      · exact h.ne x z
      · rw [List.mem_singleton] at z; subst z; exact q
    · intro e he
      rw [List.flatten_append, List.flatten_singleton, List.count_append, Int.natCast_add]; exact h.cnt e he
    · intro e he
      rw [List.flatten_append, List.flatten_singleton] at he
      rcases List.mem_append.mp he with z | z
      · exact h.lt e z
      · exact h.clt e z
    · intro x hx
      rcases List.mem_append.mp hx with z | z
      · exact h.ch x z
      · rw [List.mem_singleton] at z; subst z; exact h.cch
theorem bound_of_fn (r : Nat → Int) : ∀ n : Nat, ∃ B : Int, 0 ≤ B ∧ ∀ e, e < n → -B ≤ r e ∧ r e ≤ B
  | 0 => ⟨0, by omega, fun e h => by omega⟩
  | n + 1 => by
    obtain ⟨B, h0, h⟩ := bound_of_fn r n
    refine ⟨max B (max (r n) (-(r n))), by omega, fun e he => ?_⟩
    by_cases q : e = n
    · subst q; omega
    · have := h e (by omega); omega
/-- all arcs lead upward -/
theorem dag_rank (hT : Strict n T) : ∃ p : Nat → Int, ∀ i, i < cM n (pairsOf n T) → p (cu n (pairsOf n T) i) < p (cv n (pairsOf n T) i) := by
  obtain ⟨r, hr⟩ := hT.rank
  obtain ⟨B, hB0, hB⟩ := bound_of_fn r n
  refine ⟨fun x => if x = 0 then -2 * B - 3 else if x = 1 then 2 * B + 3 else if x % 2 = 0 then 2 * r ((x - 2) / 2) else 2 * r ((x - 3) / 2) + 1, fun i hi => ?_⟩
  have ev : ∀ e, (fun x => if x = 0 then -2 * B - 3 else if x = 1 then 2 * B + 3 else if x % 2 = 0 then 2 * r ((x - 2) / 2) else 2 * r ((x - 3) / 2) + 1) (2 + 2 * e) = 2 * r e := fun e => by
    dsimp only
    rw [if_neg (by omega), if_neg (by omega), if_pos (by omega), show (2 + 2 * e - 2) / 2 = e by omega]
  have od : ∀ e, (fun x => if x = 0 then -2 * B - 3 else if x = 1 then 2 * B + 3 else if x % 2 = 0 then 2 * r ((x - 2) / 2) else 2 * r ((x - 3) / 2) + 1) (3 + 2 * e) = 2 * r e + 1 := fun e => by
    dsimp only
    rw [if_neg (by omega), if_neg (by omega), if_neg (by omega), show (3 + 2 * e - 3) / 2 = e by omega]
  have z0 : (fun x => if x = 0 then -2 * B - 3 else if x = 1 then 2 * B + 3 else if x % 2 = 0 then 2 * r ((x - 2) / 2) else 2 * r ((x - 3) / 2) + 1) 0 = -2 * B - 3 := rfl
  have z1 : (fun x => if x = 0 then -2 * B - 3 else if x = 1 then 2 * B + 3 else if x % 2 = 0 then 2 * r ((x - 2) / 2) else 2 * r ((x - 3) / 2) + 1) 1 = 2 * B + 3 := rfl
  rcases arc_kind hi with ⟨e, he, rfl⟩ | ⟨e, he, rfl⟩ | ⟨e, he, rfl⟩ | ⟨e, he, rfl⟩ | ⟨j, hj, rfl⟩
  · rw [cu0 he, cv0 he, z0, ev]; have := hB e he; omega
  · rw [cu1 he, cv1 he, ev, od]; omega
  · rw [cu2 he, cv2 he, ev, od]; omega
  · rw [cu3 he, cv3 he, z1, od]; have := hB e he; omega
  · obtain ⟨q1, q2, q3⟩ := getD_pairs hj
    rw [cuP, cvP, od, ev]
    have := hr _ _ q1 q2 q3; omega
theorem no_ring (hT : Strict n T) (h0 : ∀ i, i < cM n (pairsOf n T) → 0 ≤ g i) (hc : ∀ p : Nat → Int, Bs n (pairsOf n T) p g = 0) : ∀ i, i < cM n (pairsOf n T) → g i = 0 := by
  obtain ⟨p, hp⟩ := dag_rank hT
  intro i hi
  have h1 := hc fun x => -(p x)
  unfold Bs at h1
  have hnn : ∀ i, i < cM n (pairsOf n T) → 0 ≤ g i * (-(p (cu n (pairsOf n T) i)) - -(p (cv n (pairsOf n T) i))) := fun i hi => Int.mul_nonneg (h0 i hi) (by have := hp i hi; omega)
  have h2 := sumI_ge (F := fun i => g i * (-(p (cu n (pairsOf n T) i)) - -(p (cv n (pairsOf n T) i)))) hnn hi
  rw [h1] at h2
  have h3 := hnn i hi
  have h4 : g i * (-(p (cu n (pairsOf n T) i)) - -(p (cv n (pairsOf n T) i))) = 0 := Int.le_antisymm h2 h3
  rcases Int.mul_eq_zero.mp h4 with z | z
  · exact z
  · have := hp i hi; omega
theorem cj_done (hT : Strict n T) (h : CJ n T f g 0 un found) : ChainsOk n T f un found := by
  have hz := no_ring hT h.g0 (fun p => by rw [h.con p]; omega)
  refine ⟨h.len, h.ne, fun e he => ?_, h.lt, h.ch⟩
  have h1 := h.cnt e he
  rw [hz (4 * e + 1) (by unfold cM; omega)] at h1
  omega
theorem sum_dec {m : Nat} (h0 : ∀ i, i < m → 0 ≤ g i) (hi : i < m) (hg : 0 < g i) : (sumI m (setF g i (g i - 1))).toNat < (sumI m g).toNat := by
  have h1 := sumI_one (F := setF g i (g i - 1)) (G := g) hi (fun j _ hne => by unfold setF; rw [if_neg hne])
  have h2 : setF g i (g i - 1) i = g i - 1 := by unfold setF; rw [if_pos rfl]
  have h3 := sumI_ge h0 hi
  rw [h2] at h1
  omega
end
end Dr

/-! Best gains from a start, in plain terms. -/
namespace Dr
open PySem PySem.Spec PyProof.Rows L2
def Pot (G : Net) (p : Nat → Int) : Prop := ∀ a, a < G.m → 0 < G.rm a → p (G.tl a) + G.gn a ≤ p (G.hd a)
inductive Ch (G : Net) (l : Nat → Option Nat) (s : Nat) : Nat → List Nat → Prop
  | base : Ch G l s s []
  | step {x a : Nat} {as : List Nat} : l x = some a → Ch G l s (G.tl a) as → Ch G l s x (a :: as)
structure BInv (G : Net) (s : Nat) (p : Nat → Int) (S : Bf) : Prop where
  s0 : S.b s = some 0
  ls : S.l s = none
  up : ∀ x y, S.b x = some y → y ≤ p x - p s
  pr : ∀ x a, S.l x = some a → a < G.m ∧ G.hd a = x ∧ 0 < G.rm a ∧ ∃ z y, S.b (G.tl a) = some z ∧ S.b x = some y ∧ y ≤ z + G.gn a
  ch : ∀ x y, S.b x = some y → ∃ as, Ch G S.l s x as
inductive Wk (G : Net) (s : Nat) : Nat → Nat → Int → Prop
  | base : Wk G s s 0 0
  | step {a k : Nat} {v : Int} : Wk G s (G.tl a) k v → a < G.m → 0 < G.rm a → Wk G s (G.hd a) (k + 1) (v + G.gn a)
def Jk (G : Net) (s : Nat) (S : Bf) (k : Nat) : Prop := ∀ x j v, Wk G s x j v → j ≤ k → ∃ y, S.b x = some y ∧ v ≤ y
def Fix (G : Net) (S : Bf) : Prop := ∀ a, a < G.m → 0 < G.rm a → ∀ z, S.b (G.tl a) = some z → ∃ y, S.b (G.hd a) = some y ∧ z + G.gn a ≤ y
section
variable {G : Net} {s : Nat} {p : Nat → Int} {S : Bf} {a x y : Nat}
theorem setF_same {α : Type} {f : Nat → α} {i : Nat} {v : α} : setF f i v i = v := by unfold setF; rw [if_pos rfl]
theorem setF_ne {α : Type} {f : Nat → α} {i j : Nat} {v : α} (h : j ≠ i) : setF f i v j = f j := by unfold setF; rw [if_neg h]
/-- an arc that is looked at: nothing comes of it, or its head is raised -/
theorem relax_or (G : Net) (S : Bf) (a : Nat) : (relax G S a = S ∧ (0 < G.rm a → ∀ z, S.b (G.tl a) = some z → ∃ y, S.b (G.hd a) = some y ∧ z + G.gn a ≤ y)) ∨
    (0 < G.rm a ∧ ∃ z, S.b (G.tl a) = some z ∧ (∀ y, S.b (G.hd a) = some y → y < z + G.gn a) ∧ relax G S a = ⟨setF S.b (G.hd a) (some (z + G.gn a)), setF S.l (G.hd a) (some a), true⟩) := by
  unfold relax
  by_cases h : 0 < G.rm a
  · rw [if_pos h]
    cases ht : S.b (G.tl a) with
    | none => exact .inl ⟨rfl, fun _ z q => (by cases q)⟩
    | some z =>
      dsimp only
      cases hh : S.b (G.hd a) with
      | none => exact .inr ⟨h, z, rfl, fun y q => (by cases q), rfl⟩
      | some y =>
        dsimp only
        by_cases q : y < z + G.gn a
        · rw [if_pos q]; exact .inr ⟨h, z, rfl, fun y' e => (by cases e; exact q), rfl⟩
        · rw [if_neg q]; exact .inl ⟨rfl, fun _ z' e => (by cases e; exact ⟨y, rfl, by omega⟩)⟩
  · rw [if_neg h]; exact .inl ⟨rfl, fun q => absurd q h⟩
theorem bi_s (s : Nat) : (bfInit s).b s = some 0 := (setF_same : setF (fun _ => none) s (some (0 : Int)) s = some 0)
theorem bi_n {s x : Nat} (h : x ≠ s) : (bfInit s).b x = none := (setF_ne h : setF (fun _ => none) s (some (0 : Int)) x = none)
theorem binit (s : Nat) : BInv G s p (bfInit s) := by
  refine ⟨bi_s s, rfl, fun x y h => ?_, fun x a h => ?_, fun x y h => ?_⟩
  · by_cases e : x = s
    · subst e
      rw [bi_s] at h
      cases h; omega
    · rw [bi_n e] at h; cases h
  · cases h
  · by_cases e : x = s
    · subst e; exact ⟨[], .base⟩
    · rw [bi_n e] at h; cases h
theorem relax_inv (hp : Pot G p) (h : BInv G s p S) (ha : a < G.m) : BInv G s p (relax G S a) := by
  rcases relax_or G S a with ⟨e, _⟩ | ⟨hr, z, hz, hlt, e⟩
  · rw [e]; exact h
  · rw [e]
    have hpa := hp a ha hr
    have hu := h.up _ _ hz
    have hxs : G.hd a ≠ s := fun q => by
      have := hlt 0 (by rw [q]; exact h.s0)
      rw [q] at hpa; omega
    have htx : G.tl a ≠ G.hd a := fun q => by
      have := hlt z (by rw [← q]; exact hz)
      rw [q] at hpa; omega
    have key : ∀ y as, Ch G S.l s y as → (∃ w, S.b y = some w ∧ ∀ z0, S.b (G.hd a) = some z0 → z0 - p (G.hd a) < w - p y) → Ch G (setF S.l (G.hd a) (some a)) s y as := by
      intro y as hc
      induction hc with
      | base => intro _; exact .base
      | @step y a' as' hl _ ih =>
        rintro ⟨w, hw, hw2⟩
        have hy : y ≠ G.hd a := fun q => by
          have := hw2 w (by rw [← q]; exact hw)
          rw [q] at this; omega
        obtain ⟨h1, h2, h3, z1, y1, h4, h5, h6⟩ := h.pr y a' hl
        rw [hw] at h5; cases h5
        have hpp := hp a' h1 h3
        rw [h2] at hpp
        refine .step (by rw [setF_ne hy]; exact hl) (ih ⟨z1, h4, fun z0 hz0 => ?_⟩)
        have := hw2 z0 hz0
        omega
    have cht : ∃ as, Ch G (setF S.l (G.hd a) (some a)) s (G.hd a) as := by
      obtain ⟨as, hc⟩ := h.ch _ _ hz
      exact ⟨a :: as, .step setF_same (key _ _ hc ⟨z, hz, fun z0 hz0 => by have := hlt z0 hz0; omega⟩)⟩
    have oth : ∀ y as, Ch G S.l s y as → ∃ as', Ch G (setF S.l (G.hd a) (some a)) s y as' := by
      intro y as hc
      induction hc with
      | base => exact ⟨[], .base⟩
      | @step y a' as' hl _ ih =>
        by_cases q : y = G.hd a
        · rw [q]; exact cht
        · obtain ⟨as2, h2⟩ := ih
          exact ⟨a' :: as2, .step (by rw [setF_ne q]; exact hl) h2⟩
    refine ⟨(setF_ne hxs.symm).trans h.s0, (setF_ne hxs.symm).trans h.ls, ?_, ?_, ?_⟩
    · intro x y hx
      dsimp only at hx
      by_cases q : x = G.hd a
      · subst q; rw [setF_same] at hx; cases hx; omega
      · rw [setF_ne q] at hx; exact h.up x y hx
    · intro x a' hx
      dsimp only at hx ⊢
      by_cases q : x = G.hd a
      · subst q
        rw [setF_same] at hx
        cases hx
        exact ⟨ha, rfl, hr, z, z + G.gn a, by rw [setF_ne htx]; exact hz, setF_same, Int.le_refl _⟩
      · rw [setF_ne q] at hx
        obtain ⟨h1, h2, h3, z1, y1, h4, h5, h6⟩ := h.pr x a' hx
        by_cases q2 : G.tl a' = G.hd a
        · have := hlt z1 (by rw [← q2]; exact h4)
          exact ⟨h1, h2, h3, z + G.gn a, y1, by rw [q2]; exact setF_same, by rw [setF_ne q]; exact h5, by omega⟩
        · exact ⟨h1, h2, h3, z1, y1, by rw [setF_ne q2]; exact h4, by rw [setF_ne q]; exact h5, h6⟩
    · intro x y hx
      dsimp only at hx ⊢
      by_cases q : x = G.hd a
      · rw [q]; exact cht
      · rw [setF_ne q] at hx
        obtain ⟨as, hc⟩ := h.ch x y hx
        exact oth x as hc
theorem relax_mono {v : Int} (h : S.b x = some v) : ∃ w, (relax G S a).b x = some w ∧ v ≤ w := by
  rcases relax_or G S a with ⟨e, _⟩ | ⟨hr, z, hz, hlt, e⟩
  · rw [e]; exact ⟨v, h, Int.le_refl _⟩
  · rw [e]
    by_cases q : x = G.hd a
    · subst q; exact ⟨_, setF_same, by have := hlt v h; omega⟩
    · exact ⟨v, by show setF S.b _ _ x = _; rw [setF_ne q]; exact h, Int.le_refl _⟩
theorem relax_hit {v : Int} (hr : 0 < G.rm a) (h : S.b (G.tl a) = some v) : ∃ w, (relax G S a).b (G.hd a) = some w ∧ v + G.gn a ≤ w := by
  rcases relax_or G S a with ⟨e, k⟩ | ⟨_, z, hz, hlt, e⟩
  · rw [e]; exact k hr v h
  · rw [h] at hz; cases hz
    rw [e]; exact ⟨_, setF_same, Int.le_refl _⟩
theorem fold_mono : ∀ (l : List Nat) (S : Bf) {v : Int}, S.b x = some v → ∃ w, (l.foldl (relax G) S).b x = some w ∧ v ≤ w
  | [], _, v, h => ⟨v, h, Int.le_refl _⟩
  | a :: l, S, v, h => by
    obtain ⟨w, h1, h2⟩ := relax_mono (G := G) (a := a) h
    obtain ⟨u, h3, h4⟩ := fold_mono l (relax G S a) h1
    exact ⟨u, h3, by omega⟩
theorem fold_inv (hp : Pot G p) : ∀ (l : List Nat) (S : Bf), (∀ a ∈ l, a < G.m) → BInv G s p S → BInv G s p (l.foldl (relax G) S)
  | [], _, _, h => h
  | a :: l, S, hl, h => fold_inv hp l _ (fun b hb => hl b (by simp [hb])) (relax_inv hp h (hl a (by simp)))
theorem binv_c {c : Bool} (h : BInv G s p S) : BInv G s p { S with c := c } := ⟨h.s0, h.ls, h.up, h.pr, h.ch⟩
theorem round_inv (hp : Pot G p) (h : BInv G s p S) : BInv G s p (bround G S) := fold_inv hp _ _ (fun a ha => List.mem_range.mp ha) (binv_c h)
theorem round_j {k : Nat} (h : BInv G s p S) (hp : Pot G p) (j : Jk G s S k) : Jk G s (bround G S) (k + 1) := by
  intro x i v w hi
  cases w with
  | base =>
    exact ⟨0, (round_inv hp h).s0, Int.le_refl _⟩
  | @step a i v w ha hr =>
    obtain ⟨y, hy, hvy⟩ := j _ _ _ w (by omega)
    have e : List.range G.m = List.range a ++ a :: (List.range' (a + 1) (G.m - (a + 1))) := by
      rw [List.range_eq_range', List.range_eq_range', show G.m = a + ((G.m - (a + 1)) + 1) by omega, ← List.range'_append_1, Nat.zero_add, List.range'_succ]
      congr 2
      rw [show a + (G.m - (a + 1) + 1) - (a + 1) = G.m - (a + 1) by omega]
    unfold bround
    rw [e, List.foldl_append, List.foldl_cons]
    obtain ⟨y1, h1, h2⟩ := fold_mono (G := G) (List.range a) { S with c := false } (x := G.tl a) hy
    obtain ⟨y2, h3, h4⟩ := relax_hit (G := G) hr h1
    obtain ⟨y3, h5, h6⟩ := fold_mono (G := G) (List.range' (a + 1) (G.m - (a + 1))) _ h3
    exact ⟨y3, h5, by omega⟩
theorem ch_det {l : Nat → Option Nat} (hl : l s = none) : ∀ {x : Nat} {as bs : List Nat}, Ch G l s x as → Ch G l s x bs → as = bs := by
  intro x as bs h
  induction h generalizing bs with
  | base =>
    intro k
    cases k with
    | base => rfl
    | step e _ => rw [hl] at e; cases e
  | step e _ ih =>
    intro k
    cases k with
    | base => rw [hl] at e; cases e
    | step e2 k => rw [e] at e2; cases e2; rw [ih k]
theorem ch_mem {x : Nat} {as : List Nat} (h : BInv G s p S) (c : Ch G S.l s x as) : ∀ a ∈ as, S.l (G.hd a) = some a ∧ ∃ bs, Ch G S.l s (G.hd a) (a :: bs) ∧ bs.length < as.length := by
  induction c with
  | base => intro a ha; cases ha
  | @step x a as e c ih =>
    obtain ⟨_, h2, _⟩ := h.pr x a e
    intro b hb
    rcases List.mem_cons.mp hb with q | q
    · subst q
      exact ⟨by rw [h2]; exact e, as, by rw [h2]; exact .step e c, by simp⟩
    · obtain ⟨k1, bs, k2, k3⟩ := ih b q
      exact ⟨k1, bs, k2, by rw [List.length_cons]; omega⟩
theorem ch_nodup {x : Nat} {as : List Nat} (h : BInv G s p S) (c : Ch G S.l s x as) : (as.map G.hd).Nodup := by
  induction c with
  | base => simp
  | @step x a as e c ih =>
    obtain ⟨_, h2, _⟩ := h.pr x a e
    rw [List.map_cons, List.nodup_cons]
    refine ⟨fun m => ?_, ih⟩
    obtain ⟨b, hb, hbe⟩ := List.mem_map.mp m
    obtain ⟨_, bs, k2, k3⟩ := ch_mem h c b hb
    rw [hbe, h2] at k2
    have := ch_det h.ls k2 (Ch.step e c)
    have := congrArg List.length this
    simp at this; omega
theorem ch_len {x : Nat} {as : List Nat} (hN : ∀ a, a < G.m → G.hd a < G.N) (hs : s < G.N) (h : BInv G s p S) (c : Ch G S.l s x as) : as.length + 1 ≤ G.N := by
  have := nodup_le (n := G.N) (xs := s :: as.map G.hd) (by
    rw [List.nodup_cons]
    refine ⟨fun m => ?_, ch_nodup h c⟩
    obtain ⟨b, hb, hbe⟩ := List.mem_map.mp m
    have := (ch_mem h c b hb).1
    rw [hbe, h.ls] at this; cases this) (by
    intro y hy
    rcases List.mem_cons.mp hy with q | q
    · rw [q]; exact hs
    · obtain ⟨b, hb, rfl⟩ := List.mem_map.mp q
      exact hN b (h.pr _ _ (ch_mem h c b hb).1).1)
  simpa using this
theorem ch_wk {x : Nat} {as : List Nat} (h : BInv G s p S) (c : Ch G S.l s x as) : ∃ v, Wk G s x as.length v ∧ ∀ y, S.b x = some y → y ≤ v := by
  induction c with
  | base => exact ⟨0, .base, fun y hy => by rw [h.s0] at hy; cases hy; exact Int.le_refl _⟩
  | @step x a as e c ih =>
    obtain ⟨h1, h2, h3, z, y, h4, h5, h6⟩ := h.pr x a e
    obtain ⟨v, w, hv⟩ := ih
    have := hv z h4
    refine ⟨v + G.gn a, ?_, fun y' hy' => ?_⟩
    · have := Wk.step w h1 h3
      rw [h2] at this; exact this
    · rw [h5] at hy'; cases hy'; omega
theorem fix_of (hp : Pot G p) (hN : ∀ a, a < G.m → G.hd a < G.N) (hs : s < G.N) (h : BInv G s p S) (j : Jk G s S (G.N - 1)) : Fix G S := by
  intro a ha hr z hz
  rcases relax_or G S a with ⟨_, k⟩ | ⟨_, z', hz', hlt, e⟩
  · exact k hr z hz
  · rw [hz] at hz'; cases hz'
    have h' := relax_inv hp h ha
    have hb : (relax G S a).b (G.hd a) = some (z + G.gn a) := by rw [e]; exact setF_same
    obtain ⟨as, c⟩ := h'.ch _ _ hb
    obtain ⟨v, w, hv⟩ := ch_wk h' c
    have hl := ch_len hN hs h' c
    obtain ⟨y, hy, hvy⟩ := j _ _ _ w (by omega)
    exact ⟨y, hy, by have := hv _ hb; omega⟩
theorem fold_ct : ∀ (l : List Nat) (S : Bf), S.c = true → (l.foldl (relax G) S).c = true
  | [], _, h => h
  | a :: l, S, h => by
    refine fold_ct l _ ?_
    rcases relax_or G S a with ⟨e, _⟩ | ⟨_, z, _, _, e⟩
    · rw [e]; exact h
    · rw [e]
theorem fold_same : ∀ (l : List Nat) (S : Bf), (l.foldl (relax G) S).c = false → l.foldl (relax G) S = S ∧ ∀ a ∈ l, 0 < G.rm a → ∀ z, S.b (G.tl a) = some z → ∃ y, S.b (G.hd a) = some y ∧ z + G.gn a ≤ y
  | [], _, _ => ⟨rfl, fun a h => by cases h⟩
  | a :: l, S, h => by
    rw [List.foldl_cons] at h ⊢
    rcases relax_or G S a with ⟨e, k⟩ | ⟨_, z, _, _, e⟩
    · rw [e] at h ⊢
      obtain ⟨h1, h2⟩ := fold_same l S h
      refine ⟨h1, fun b hb => ?_⟩
      rcases List.mem_cons.mp hb with q | q
      · rw [q]; exact k
      · exact h2 b q
    · rw [fold_ct l _ (by rw [e])] at h; cases h
theorem runs_ok (hp : Pot G p) (hN : ∀ a, a < G.m → G.hd a < G.N) (hs : s < G.N) : ∀ (k j : Nat) (S : Bf), BInv G s p S → Jk G s S j → G.N ≤ j + k → BInv G s p (bruns G k S) ∧ Fix G (bruns G k S)
  | 0, j, S, h, q, hj => ⟨h, fix_of hp hN hs h (fun x i v w hi => q x i v w (by omega))⟩
  | k + 1, j, S, h, q, hj => by
    unfold bruns
    have h1 := round_inv hp h
    by_cases c : (bround G S).c = true
    · rw [if_pos c]
      exact runs_ok hp hN hs k (j + 1) _ h1 (round_j h hp q) (by omega)
    · rw [if_neg c]
      refine ⟨h1, ?_⟩
      obtain ⟨e1, e2⟩ := fold_same (G := G) (List.range G.m) { S with c := false } (by
        cases hc : ((List.range G.m).foldl (relax G) { S with c := false }).c with
        | false => rfl
        | true => exact absurd hc c)
      have e1 : bround G S = { S with c := false } := e1
      rw [e1]
      exact fun a ha => e2 a (List.mem_range.mpr ha)
/-- what the search from s ends with -/
theorem bf_ok (hp : Pot G p) (hN : ∀ a, a < G.m → G.hd a < G.N) (hs : s < G.N) : BInv G s p (bfRun G s) ∧ Fix G (bfRun G s) :=
  runs_ok hp hN hs G.N 0 _ (binit s) (fun x j v w hj => by
    cases w with
    | base => exact ⟨0, (binit (G := G) (p := p) s).s0, Int.le_refl _⟩
    | step _ _ _ => omega) (by omega)
end
end Dr

/-! Chains against sets, in plain terms. -/
namespace Dr
open PySem PySem.Spec PyProof.Rows L2
section
variable {n : Nat} {T : Rel2}
theorem chain_up (hT : Strict n T) {xs : List Nat} (hx : ∀ x ∈ xs, x < n) (h : ChainP T xs) : ∀ (d i a b : Nat), xs[i]? = some a → xs[i + (d + 1)]? = some b → T a b = true
  | 0, i, a, b, h1, h2 => h i a b h1 h2
  | d + 1, i, a, b, h1, h2 => by
    have hl := lt_of_get h2
    obtain ⟨c, hc⟩ : ∃ c, xs[i + (d + 1)]? = some c := ⟨xs[i + (d + 1)], List.getElem?_eq_getElem (by omega)⟩
    exact hT.tr a c b (hx _ (List.mem_of_getElem? h1)) (hx _ (List.mem_of_getElem? hc)) (hx _ (List.mem_of_getElem? h2)) (chain_up hT hx h d i a c h1 hc) (h _ c b hc h2)
theorem chain_two (hT : Strict n T) {xs : List Nat} (hx : ∀ x ∈ xs, x < n) (h : ChainP T xs) {a b : Nat} (ha : a ∈ xs) (hb : b ∈ xs) (ne : a ≠ b) : T a b = true ∨ T b a = true := by
  obtain ⟨i, hi⟩ := List.mem_iff_getElem?.mp ha
  obtain ⟨j, hj⟩ := List.mem_iff_getElem?.mp hb
  have hij : i ≠ j := fun q => by rw [q, hj] at hi; cases hi; exact ne rfl
  by_cases q : i < j
  · exact .inl (chain_up hT hx h (j - i - 1) i a b hi (by rw [show i + (j - i - 1 + 1) = j by omega]; exact hj))
  · exact .inr (chain_up hT hx h (i - j - 1) j b a hj (by rw [show j + (i - j - 1 + 1) = i by omega]; exact hi))
theorem anti_two {xs : List Nat} (h : AntiP T xs) {a b : Nat} (ha : a ∈ xs) (hb : b ∈ xs) (ne : a ≠ b) : T a b = false ∧ T b a = false := by
  obtain ⟨i, hi⟩ := List.mem_iff_getElem?.mp ha
  obtain ⟨j, hj⟩ := List.mem_iff_getElem?.mp hb
  have hij : i ≠ j := fun q => by rw [q, hj] at hi; cases hi; exact ne rfl
  have ap : ∀ {x y : Nat}, apartB T x y = true → T x y = false ∧ T y x = false := fun {x y} q => by
    unfold apartB at q
    rw [Bool.and_eq_true, Bool.and_eq_true] at q
    exact ⟨by simpa using q.2.1, by simpa using q.2.2⟩
  by_cases q : i < j
  · have := ap (h j i b a q hj hi)
    exact ⟨this.2, this.1⟩
  · exact ap (h i j a b (by omega) hi hj)
theorem filter_split {α : Type} (p : α → Bool) : ∀ xs : List α, xs.length = (xs.filter p).length + (xs.filter fun x => !p x).length
  | [] => rfl
  | x :: xs => by
    rw [List.filter_cons, List.filter_cons]
    have := filter_split p xs
    cases p x <;> simp <;> omega
/-- no two in the same chain: no more than chains -/
theorem few_in : ∀ (cs : List (List Nat)) (ys : List Nat), ys.Nodup → (∀ y ∈ ys, ∃ c ∈ cs, y ∈ c) → (∀ c ∈ cs, ∀ a ∈ ys, ∀ b ∈ ys, a ∈ c → b ∈ c → a = b) → ys.length ≤ cs.length
  | [], ys, _, h, _ => by
    cases ys with
    | nil => exact Nat.le_refl _
    | cons y r => obtain ⟨c, hc, _⟩ := h y (by simp); cases hc
  | c :: cs, ys, nd, h, k => by
    rw [filter_split (fun y => decide (y ∈ c)) ys]
    have h1 : (ys.filter fun y => decide (y ∈ c)).length ≤ 1 := by
      have nd1 := nd.filter (fun y => decide (y ∈ c))
      have al : ∀ a ∈ ys.filter (fun y => decide (y ∈ c)), ∀ b ∈ ys.filter (fun y => decide (y ∈ c)), a = b := fun a ha b hb => by
        rw [List.mem_filter] at ha hb
        exact k c (by simp) a ha.1 b hb.1 (of_decide_eq_true ha.2) (of_decide_eq_true hb.2)
      generalize ys.filter (fun y => decide (y ∈ c)) = zs at *
      match zs, nd1, al with
      | [], _, _ => simp
      | [z], _, _ => simp
      | z :: w :: r, nd1, al =>
        exact absurd (al z (by simp) w (by simp)) ((List.pairwise_cons.mp nd1).1 w (by simp))
    have h2 := few_in cs (ys.filter fun y => !decide (y ∈ c)) (nd.filter _) (fun y hy => by
      rw [List.mem_filter] at hy
      obtain ⟨d, hd, hyd⟩ := h y hy.1
      rcases List.mem_cons.mp hd with q | q
      · subst q
        have := hy.2
        rw [decide_eq_true hyd] at this; cases this
      · exact ⟨d, q, hyd⟩) (fun d hd a ha b hb => k d (by simp [hd]) a (List.mem_filter.mp ha).1 b (List.mem_filter.mp hb).1)
    rw [List.length_cons]; omega
theorem bound_app (xs ys : List (List Nat)) (c : Nat) : boundOf (xs ++ ys) c = boundOf xs c + boundOf ys c := by unfold boundOf; rw [List.map_append, List.sum_append]
/-- no chains hold more than the sets allow -/
theorem weak (hT : Strict n T) {c : Nat} {cs ss : List (List Nat)} (few : cs.length ≤ c) (nd : cs.flatten.Nodup) (lt : ∀ x ∈ cs.flatten, x < n) (ch : ∀ x ∈ cs, ChainP T x) (part : ss.flatten.Perm (List.range n)) (an : ∀ x ∈ ss, AntiP T x) :
    cs.flatten.length ≤ boundOf ss c := by
  have e1 : cs.flatten.length = (ss.flatten.filter fun y => decide (y ∈ cs.flatten)).length := by
    refine List.Perm.length_eq ((List.perm_ext_iff_of_nodup nd ((part.nodup_iff.mpr List.nodup_range).filter _)).mpr fun a => ?_)
    rw [List.mem_filter]
    constructor
    · intro h; exact ⟨part.mem_iff.mpr (List.mem_range.mpr (lt a h)), decide_eq_true h⟩
    · intro h; exact of_decide_eq_true h.2
  rw [e1]
  have snd : ∀ s ∈ ss, s.Nodup := fun s hs => List.Sublist.nodup (List.sublist_flatten_of_mem hs) (part.nodup_iff.mpr List.nodup_range)
  have key : ∀ s ∈ ss, (s.filter fun y => decide (y ∈ cs.flatten)).length ≤ min s.length c := fun s hs => by
    refine Nat.le_min.mpr ⟨List.length_filter_le _ _, Nat.le_trans (few_in cs _ ((snd s hs).filter _) (fun y hy => ?_) (fun d hd a ha b hb had hbd => ?_)) few⟩
    · rw [List.mem_filter] at hy
      exact List.mem_flatten.mp (of_decide_eq_true hy.2)
    · by_cases q : a = b
      · exact q
      · obtain ⟨f1, f2⟩ := anti_two (an s hs) (List.mem_filter.mp ha).1 (List.mem_filter.mp hb).1 q
        have hd2 : ∀ x ∈ d, x < n := fun x hx => lt x (List.mem_flatten.mpr ⟨d, hd, hx⟩)
        rcases chain_two hT hd2 (ch d hd) had hbd q with z | z
        · rw [f1] at z; cases z
        · rw [f2] at z; cases z
  clear e1 snd part an
  induction ss with
  | nil => simp [boundOf]
  | cons s r ih =>
    rw [List.flatten_cons, List.filter_append, List.length_append]
    have h1 := key s (by simp)
    have h2 := ih (fun s hs => key s (by simp [hs]))
    unfold boundOf at h2 ⊢
    rw [List.map_cons, List.sum_cons]; omega
/-- two covers count the same -/
theorem cover_same (hT : Strict n T) {c a b : Nat} {cs ss cs' ss' : List (List Nat)} (h : Cover n T c a cs ss) (k : Cover n T c b cs' ss') : a = b := by
  have h1 := weak hT h.few h.nd h.lt h.ch k.part k.an
  have h2 := weak hT k.few k.nd k.lt k.ch h.part h.an
  rw [h.cnt, k.bd] at h1
  rw [k.cnt, h.bd] at h2
  omega
end
end Dr

/-! What the chain flow's state promises, in plain terms. -/
namespace Dr
open PySem PySem.Spec PyProof.Rows L2
def valF (n : Nat) (f : Nat → Int) : Int := sumI n fun e => f (4 * e + 1)
/-- prices that no arc with room beats -/
structure FState (n : Nat) (T : Rel2) (f : Nat → Int) (k : Nat) : Prop where
  ok : FlowOk n (pairsOf n T) f k
  pot : ∃ p, Pot (cnet n (pairsOf n T) (rmOf n f)) p
  vk : (k : Int) ≤ valF n f
abbrev bfO (n : Nat) (T : Rel2) (f : Nat → Int) : Bf := bfRun (cnet n (pairsOf n T) (rmOf n f)) 0
abbrev bfI (n : Nat) (T : Rel2) (f : Nat → Int) : Bf := bfRun (cnet n (pairsOf n T) (rmOf n f)) 1
/-! ### a unit is pushed -/
def sgn (a : Nat) : Int := if a % 2 = 0 then 1 else -1
def bump (f : Nat → Int) (a : Nat) : Nat → Int := setF f (a / 2) (f (a / 2) + sgn a)
section
variable {n : Nat} {T : Rel2} {f : Nat → Int} {k c : Nat} {P : List (Nat × Nat)} {rm : Nat → Int}
theorem step_bump (a : Nat) : stepR (rmOf n f) a = rmOf n (bump f a) := by
  funext i
  unfold stepR bump rmOf opp sgn setF
  dsimp only
  by_cases h : a % 2 = 0
  · rw [if_pos h, if_pos h]
    by_cases e1 : i = a
    · subst e1
      rw [if_neg (by omega), if_pos rfl, if_pos h, if_pos h, if_pos rfl]; omega
    · by_cases e2 : i = a + 1
      · subst e2
        rw [if_pos rfl, if_neg (by omega), if_neg (by omega), if_neg (by omega), show (a + 1) / 2 = a / 2 by omega, if_pos rfl, if_pos h]
      · rw [if_neg e2, if_neg e1]
        rw [if_neg (show ¬ i / 2 = a / 2 by omega)]
  · rw [if_neg h, if_neg h]
    by_cases e1 : i = a
    · subst e1
      rw [if_neg (by omega), if_pos rfl, if_neg h, if_neg h, if_pos rfl]; omega
    · by_cases e2 : i = a - 1
      · subst e2
        rw [if_pos rfl, if_neg (by omega), if_pos (by omega), if_pos (by omega), show (a - 1) / 2 = a / 2 by omega, if_pos rfl]; omega
      · rw [if_neg e2, if_neg e1]
        rw [if_neg (show ¬ i / 2 = a / 2 by omega)]
theorem push_bump : ∀ (as : List Nat) (f : Nat → Int), pushR (rmOf n f) as = rmOf n (as.foldl bump f)
  | [], _ => rfl
  | a :: as, f => by
    have := push_bump as (bump f a)
    unfold pushR at this ⊢
    rw [List.foldl_cons, step_bump, this]; rfl
theorem bump_Bs {p : Nat → Int} {a : Nat} (ha : a < 2 * cM n P) : Bs n P p (bump f a) = Bs n P p f + (p ((cnet n P rm).tl a) - p ((cnet n P rm).hd a)) := by
  unfold bump
  rw [Bs_set (by omega)]
  unfold sgn
  show _ = Bs n P p f + (p (if a % 2 = 0 then cu n P (a / 2) else cv n P (a / 2)) - p (if a % 2 = 0 then cv n P (a / 2) else cu n P (a / 2)))
  split <;> omega
theorem bump_val {a : Nat} (ha : a < 2 * cM n P) : valF n (bump f a) = valF n f + (cnet n P rm).gn a := by
  unfold valF
  show _ = _ + (if a % 2 = 0 then cw n (a / 2) else 0 - cw n (a / 2))
  by_cases h : a / 2 < 4 * n ∧ a / 2 % 4 = 1
  · rw [sumI_one (F := fun e => bump f a (4 * e + 1)) (G := fun e => f (4 * e + 1)) (i := a / 2 / 4) (by omega) (fun j hj hne => by unfold bump; exact setF_ne (by omega))]
    have e1 : 4 * (a / 2 / 4) + 1 = a / 2 := by omega
    show _ + (bump f a (4 * (a / 2 / 4) + 1) - f (4 * (a / 2 / 4) + 1)) = _
    rw [e1]
    have : bump f a (a / 2) = f (a / 2) + sgn a := setF_same
    rw [this]
    unfold cw sgn
    rw [if_pos h]
    split <;> omega
  · rw [sumI_congr (F := fun e => bump f a (4 * e + 1)) (G := fun e => f (4 * e + 1)) (fun i hi => by unfold bump; exact setF_ne (by omega))]
    unfold cw
    rw [if_neg h]
    split <;> omega
theorem fold_out : ∀ (as : List Nat) (f : Nat → Int) {i : Nat}, (∀ a ∈ as, a / 2 ≠ i) → as.foldl bump f i = f i
  | [], _, _, _ => rfl
  | a :: as, f, i, h => by
    rw [List.foldl_cons, fold_out as (bump f a) (fun b hb => h b (by simp [hb]))]
    unfold bump; exact setF_ne (fun q => h a (by simp) q.symm)
theorem fold_in : ∀ (as : List Nat) (f : Nat → Int), (as.map (· / 2)).Nodup → ∀ a ∈ as, as.foldl bump f (a / 2) = f (a / 2) + sgn a
  | [], _, _, a, h => by cases h
  | b :: as, f, nd, a, h => by
    rw [List.map_cons, List.nodup_cons] at nd
    rw [List.foldl_cons]
    rcases List.mem_cons.mp h with q | q
    · subst q
      rw [fold_out as _ (fun b hb z => nd.1 (by rw [← z]; exact List.mem_map.mpr ⟨b, hb, rfl⟩))]
      exact setF_same
    · rw [fold_in as _ nd.2 a q]
      have : bump f b (a / 2) = f (a / 2) := setF_ne (fun z => nd.1 (by rw [← z]; exact List.mem_map.mpr ⟨a, q, rfl⟩))
      rw [this]
end
section
variable {n : Nat} {T : Rel2} {f : Nat → Int} {k c : Nat} {P : List (Nat × Nat)} {rm : Nat → Int} {S : Bf} {p : Nat → Int} {s : Nat}
theorem hd_opp {a : Nat} : (cnet n P rm).hd (opp a) = (cnet n P rm).tl a ∧ (cnet n P rm).tl (opp a) = (cnet n P rm).hd a ∧ (cnet n P rm).gn (opp a) = 0 - (cnet n P rm).gn a := by
  show (if opp a % 2 = 0 then cv n P (opp a / 2) else cu n P (opp a / 2)) = (if a % 2 = 0 then cu n P (a / 2) else cv n P (a / 2)) ∧ (if opp a % 2 = 0 then cu n P (opp a / 2) else cv n P (opp a / 2)) = (if a % 2 = 0 then cv n P (a / 2) else cu n P (a / 2)) ∧ (if opp a % 2 = 0 then cw n (opp a / 2) else 0 - cw n (opp a / 2)) = 0 - (if a % 2 = 0 then cw n (a / 2) else 0 - cw n (a / 2))
  unfold opp
  by_cases h : a % 2 = 0
  · have h2 : ¬ (a + 1) % 2 = 0 := by omega
    have h3 : (a + 1) / 2 = a / 2 := by omega
    refine ⟨?_, ?_, ?_⟩ <;> simp only [if_pos h, if_neg h2, h3]
  · have h2 : (a - 1) % 2 = 0 := by omega
    have h3 : (a - 1) / 2 = a / 2 := by omega
    refine ⟨?_, ?_, ?_⟩ <;> simp only [if_neg h, if_pos h2, h3] <;> omega
theorem half_eq {a b : Nat} (h : a / 2 = b / 2) : a = b ∨ a = opp b := by unfold opp; split <;> omega
theorem ch_half {x : Nat} {as : List Nat} (h : BInv (cnet n P rm) s p S) (c : Ch (cnet n P rm) S.l s x as) : (as.map (· / 2)).Nodup := by
  induction c with
  | base => simp
  | @step x a as e c ih =>
    rw [List.map_cons, List.nodup_cons]
    refine ⟨fun m => ?_, ih⟩
    obtain ⟨b, hb, hbe⟩ := List.mem_map.mp m
    have nd := ch_nodup h (Ch.step e c)
    rw [List.map_cons, List.nodup_cons] at nd
    obtain ⟨_, h2, _⟩ := h.pr x a e
    rcases half_eq hbe with q | q
    · exact nd.1 (by rw [← q]; exact List.mem_map.mpr ⟨b, hb, rfl⟩)
    · obtain ⟨k1, bs, k2, k3⟩ := ch_mem h c b hb
      have h3 : (cnet n P rm).hd b = (cnet n P rm).tl a := by rw [q]; exact hd_opp.1
      have h4 : (cnet n P rm).tl b = (cnet n P rm).hd a := by rw [q]; exact hd_opp.2.1
      rw [h3] at k2
      have e3 := ch_det h.ls c k2
      rw [e3] at c
      cases c with
      | step e4 c4 =>
        rw [h4, h2] at c4
        have := ch_det h.ls c4 (Ch.step e (by rw [← e3] at k2; exact k2))
        have := congrArg List.length this
        have e3' := congrArg List.length e3
        simp at this e3'; omega
theorem ch_pt {l : Nat → Option Nat} {G : Net} (hl : l 0 = none) : ∀ {x : Nat} {as : List Nat}, Ch G l 0 x as → Pt G l x as := by
  intro x as c
  induction c with
  | base => exact .nil
  | @step x a as e c ih => exact .cons (fun q => by rw [q, hl] at e; cases e) e ih
theorem ch_lt {x : Nat} {as : List Nat} {G : Net} (h : BInv G s p S) (c : Ch G S.l s x as) : ∀ a ∈ as, a < G.m ∧ 0 < G.rm a ∧ S.l (G.hd a) = some a := fun a ha => by
  have := (ch_mem h c a ha).1
  obtain ⟨h1, _, h3, _⟩ := h.pr _ _ this
  exact ⟨h1, h3, this⟩
theorem ch_Bs {x : Nat} {as : List Nat} (h : BInv (cnet n P rm) s p S) (c : Ch (cnet n P rm) S.l s x as) : ∀ (f q : Nat → Int), Bs n P q (as.foldl bump f) = Bs n P q f + (q s - q x) := by
  induction c with
  | base => intro f q; show Bs n P q f = _; omega
  | @step x a as e c ih =>
    intro f q
    obtain ⟨h1, h2, _⟩ := h.pr x a e
    rw [List.foldl_cons, ih, bump_Bs (rm := rm) h1, h2]; omega
theorem ch_val {x : Nat} {as : List Nat} {D : Nat → Int} (h : BInv (cnet n P rm) s p S) (hD : ∀ y a, S.l y = some a → D y = D ((cnet n P rm).tl a) + (cnet n P rm).gn a) (c : Ch (cnet n P rm) S.l s x as) : ∀ f : Nat → Int, valF n (as.foldl bump f) = valF n f + (D x - D s) := by
  induction c with
  | base => intro f; show valF n f = _; omega
  | @step x a as e c ih =>
    intro f
    obtain ⟨h1, h2, _⟩ := h.pr x a e
    rw [List.foldl_cons, ih, bump_val (P := P) (rm := rm) h1, hD x a e]; omega
end
section
variable {n : Nat} {T : Rel2} {f : Nat → Int} {k c : Nat}
theorem cnet_hd (hn : n ≤ 40) : ∀ a, a < (cnet n (pairsOf n T) (rmOf n f)).m → (cnet n (pairsOf n T) (rmOf n f)).hd a < (cnet n (pairsOf n T) (rmOf n f)).N := fun a ha => (cnet_lt (nok_pairs hn) ha).2
theorem val_le (h : FlowOk n (pairsOf n T) f k) : valF n f ≤ n := by
  have : valF n f ≤ sumI n fun _ => 1 := sumI_le fun e he => by
    have := h.hi (4 * e + 1) (by unfold cM; omega)
    rw [cc_1 he] at this; exact this
  have h2 : ∀ m : Nat, (sumI m fun _ => 1) = (m : Int) := fun m => by
    induction m with
    | zero => rfl
    | succ m ih => unfold sumI; rw [ih]; show (m : Int) + 1 = ((m + 1 : Nat) : Int); omega
  rw [h2] at this; exact this
theorem fstate_le (h : FState n T f k) : k ≤ n := by
  have := val_le h.ok
  have := h.vk
  omega
theorem fstate0 (hT : Strict n T) : FState n T (fun _ => 0) 0 := by
  have z : ∀ (m : Nat) (F : Nat → Int), (∀ i, i < m → F i = 0) → sumI m F = 0 := fun m F h => by
    induction m with
    | zero => rfl
    | succ m ih => unfold sumI; rw [ih (fun i hi => h i (by omega)), h m (by omega)]; rfl
  refine ⟨⟨fun i _ => Int.le_refl _, fun i _ => ?_, fun i _ => Int.le_refl _, fun p => ?_⟩, ?_, ?_⟩
  · unfold cc; split <;> omega
  · unfold Bs
    rw [z _ _ (fun i _ => Int.zero_mul _)]; omega
  · obtain ⟨p, hp⟩ := dag_rank hT
    refine ⟨p, fun a ha hr => ?_⟩
    have ha : a < 2 * cM n (pairsOf n T) := ha
    have hr : 0 < rmOf n (fun _ => 0) a := hr
    unfold rmOf at hr
    show p (if a % 2 = 0 then cu n (pairsOf n T) (a / 2) else cv n (pairsOf n T) (a / 2)) + (if a % 2 = 0 then cw n (a / 2) else 0 - cw n (a / 2)) ≤ p (if a % 2 = 0 then cv n (pairsOf n T) (a / 2) else cu n (pairsOf n T) (a / 2))
    by_cases h : a % 2 = 0
    · rw [if_pos h, if_pos h, if_pos h]
      have h1 := hp (a / 2) (by omega)
      have h2 : cw n (a / 2) ≤ 1 := by unfold cw; split <;> omega
      omega
    · rw [if_neg h] at hr; exact absurd hr (Int.lt_irrefl _)
  · unfold valF
    rw [z _ _ (fun _ _ => rfl)]; exact Int.le_refl _
/-- arcs with much room always let through -/
theorem room_n (h : FlowOk n (pairsOf n T) f k) (hk : k ≤ n) {i : Nat} (hi : i < cM n (pairsOf n T)) (hc : i % 4 ≠ 1 ∨ 4 * n ≤ i) : 0 < rmOf n f (2 * i) := by
  rw [rm_e, cc_n hc]
  have := h.le i hi
  omega
theorem fix_n {S : Bf} (h : FlowOk n (pairsOf n T) f k) (hk : k ≤ n) (fx : Fix (cnet n (pairsOf n T) (rmOf n f)) S) {i : Nat} (hi : i < cM n (pairsOf n T)) (hc : i % 4 ≠ 1 ∨ 4 * n ≤ i) {z : Int} (hz : S.b (cu n (pairsOf n T) i) = some z) : ∃ y, S.b (cv n (pairsOf n T) i) = some y ∧ z ≤ y := by
  obtain ⟨y, h1, h2⟩ := fx (2 * i) (by show 2 * i < 2 * cM n _; omega) (room_n h hk hi hc) z (by rw [tl_e]; exact hz)
  rw [hd_e] at h1
  rw [gn_e, cw_n hc] at h2
  exact ⟨y, h1, by omega⟩
/-- from 0 all is reached -/
theorem reach (h : FState n T f k) (hn : 0 < n) {S : Bf} {p : Nat → Int} (b : BInv (cnet n (pairsOf n T) (rmOf n f)) 0 p S) (fx : Fix (cnet n (pairsOf n T) (rmOf n f)) S) : ∀ y, y < 2 + 2 * n → ∃ v, S.b y = some v := by
  have hk := fstate_le h
  have ev : ∀ e, e < n → ∃ v, S.b (2 + 2 * e) = some v := fun e he => by
    obtain ⟨y, h1, _⟩ := fix_n h.ok hk fx (i := 4 * e) (by unfold cM; omega) (by omega) (by rw [cu0 he]; exact b.s0)
    rw [cv0 he] at h1
    exact ⟨y, h1⟩
  have od : ∀ e, e < n → ∃ v, S.b (3 + 2 * e) = some v := fun e he => by
    obtain ⟨v, hv⟩ := ev e he
    obtain ⟨y, h1, _⟩ := fix_n h.ok hk fx (i := 4 * e + 2) (by unfold cM; omega) (by omega) (by rw [cu2 he]; exact hv)
    rw [cv2 he] at h1
    exact ⟨y, h1⟩
  intro y hy
  by_cases h0 : y = 0
  · subst h0; exact ⟨0, b.s0⟩
  · by_cases h1 : y = 1
    · subst h1
      obtain ⟨v, hv⟩ := od 0 hn
      obtain ⟨z, h1, _⟩ := fix_n h.ok hk fx (i := 4 * 0 + 3) (by unfold cM; omega) (by omega) (by rw [cu3 hn]; exact hv)
      rw [cv3 hn] at h1
      exact ⟨z, h1⟩
    · by_cases h2 : y % 2 = 0
      · obtain ⟨v, hv⟩ := ev ((y - 2) / 2) (by omega)
        rw [show 2 + 2 * ((y - 2) / 2) = y by omega] at hv
        exact ⟨v, hv⟩
      · obtain ⟨v, hv⟩ := od ((y - 3) / 2) (by omega)
        rw [show 3 + 2 * ((y - 3) / 2) = y by omega] at hv
        exact ⟨v, hv⟩
/-- with no elements the end is not reached -/
theorem none_n0 (h : n = 0) {S : Bf} {p : Nat → Int} (b : BInv (cnet n (pairsOf n T) (rmOf n f)) 0 p S) : S.b 1 = none := by
  subst h
  cases hb : S.b 1 with
  | none => rfl
  | some y =>
    obtain ⟨as, c⟩ := b.ch 1 y hb
    cases c with
    | step e _ =>
      have := (b.pr _ _ e).1
      exact absurd this (by show ¬ _ < 2 * cM 0 (pairsOf 0 T); unfold cM pairsOf; simp)
theorem fstate_step (hT : Strict n T) (hn : n ≤ 40) (h : FState n T f k) (hg : 0 < gainV ((bfO n T f).b 1)) :
    ∃ as f', Pt (cnet n (pairsOf n T) (rmOf n f)) (bfO n T f).l 1 as ∧ (∀ i ∈ as, i < 2 * cM n (pairsOf n T)) ∧ pushR (rmOf n f) as = rmOf n f' ∧ FState n T f' (k + 1) := by
  obtain ⟨p, hp⟩ := h.pot
  obtain ⟨b, fx⟩ := bf_ok (s := 0) hp (cnet_hd hn) (by show 0 < 2 + 2 * n; omega)
  change BInv _ _ _ (bfO n T f) at b
  change Fix _ (bfO n T f) at fx
  generalize hS : bfO n T f = S at *
  have hn0 : 0 < n := by
    rcases Nat.eq_zero_or_pos n with q | q
    · rw [none_n0 q b] at hg; exact absurd hg (Int.lt_irrefl _)
    · exact q
  have tot := reach h hn0 b fx
  obtain ⟨d1, hd1⟩ := tot 1 (by omega)
  obtain ⟨as, ch⟩ := b.ch 1 d1 hd1
  have hlt := ch_lt b ch
  have hD : ∀ y v, S.b y = some v → (S.b y).getD 0 = v := fun y v q => by rw [q]; rfl
  have tight : ∀ y a, S.l y = some a → (S.b y).getD 0 = (S.b ((cnet n (pairsOf n T) (rmOf n f)).tl a)).getD 0 + (cnet n (pairsOf n T) (rmOf n f)).gn a := fun y a e => by
    obtain ⟨h1, h2, h3, z, w, h4, h5, h6⟩ := b.pr y a e
    obtain ⟨w', h7, h8⟩ := fx a h1 h3 z h4
    rw [h2, h5] at h7; cases h7
    rw [hD _ _ h4, hD _ _ h5]; omega
  have hval := ch_val b (D := fun y => (S.b y).getD 0) tight ch f
  have nd := ch_half b ch
  have g1 : d1 ≥ 1 := by
    rw [hd1] at hg
    have : gainV (some d1) = max 0 d1 := rfl
    rw [this] at hg; omega
  have hchg : ∀ i, as.foldl bump f i = f i ∨ ∃ a ∈ as, a / 2 = i ∧ as.foldl bump f i = f i + sgn a := fun i => by
    by_cases q : ∃ a ∈ as, a / 2 = i
    · obtain ⟨a, ha, rfl⟩ := q
      exact .inr ⟨a, ha, rfl, fold_in as f nd a ha⟩
    · exact .inl (fold_out as f (fun a ha z => q ⟨a, ha, z⟩))
  have rmv : ∀ a, a ∈ as → (a % 2 = 0 → f (a / 2) < cc n (a / 2)) ∧ (a % 2 ≠ 0 → 0 < f (a / 2)) := fun a ha => by
    have hr : 0 < rmOf n f a := (hlt a ha).2.1
    unfold rmOf at hr
    constructor
    · intro q; rw [if_pos q] at hr; omega
    · intro q; rw [if_neg q] at hr; exact hr
  refine ⟨as, as.foldl bump f, ch_pt b.ls ch, fun i hi => (hlt i hi).1, push_bump as f, ⟨⟨fun i hi => ?_, fun i hi => ?_, fun i hi => ?_, fun q => ?_⟩, ⟨fun y => (S.b y).getD 0, fun a ha hr => ?_⟩, ?_⟩⟩
  · have h0 := h.ok.lo i hi
    rcases hchg i with q | ⟨a, ha, rfl, q⟩
    · rw [q]; exact h0
    · rw [q]
      obtain ⟨r1, r2⟩ := rmv a ha
      unfold sgn
      split
      · omega
      · rename_i z; have := r2 z; omega
  · have h0 := h.ok.hi i hi
    rcases hchg i with q | ⟨a, ha, rfl, q⟩
    · rw [q]; exact h0
    · rw [q]
      obtain ⟨r1, r2⟩ := rmv a ha
      unfold sgn
      split
      · rename_i z; have := r1 z; omega
      · omega
  · have h0 := h.ok.le i hi
    rcases hchg i with q | ⟨a, ha, rfl, q⟩
    · rw [q]; omega
    · rw [q]
      unfold sgn
      split <;> omega
  · rw [ch_Bs b ch, h.ok.con q, Int.natCast_add, Int.add_mul]; omega
  · have fixD : ∀ a, a < (cnet n (pairsOf n T) (rmOf n f)).m → 0 < rmOf n f a → (S.b ((cnet n (pairsOf n T) (rmOf n f)).tl a)).getD 0 + (cnet n (pairsOf n T) (rmOf n f)).gn a ≤ (S.b ((cnet n (pairsOf n T) (rmOf n f)).hd a)).getD 0 := fun a ha hr => by
      obtain ⟨z, hz⟩ := tot _ (cnet_lt (nok_pairs hn) ha).1
      obtain ⟨w, h1, h2⟩ := fx a ha hr z hz
      rw [hD _ _ hz, hD _ _ h1]; exact h2
    have ha : a < (cnet n (pairsOf n T) (rmOf n f)).m := ha
    have hr : 0 < rmOf n (as.foldl bump f) a := hr
    show (S.b ((cnet n (pairsOf n T) (rmOf n f)).tl a)).getD 0 + (cnet n (pairsOf n T) (rmOf n f)).gn a ≤ (S.b ((cnet n (pairsOf n T) (rmOf n f)).hd a)).getD 0
    rcases hchg (a / 2) with q | ⟨a', ha', he, q⟩
    · exact fixD a ha (by unfold rmOf at hr ⊢; rw [q] at hr; exact hr)
    · rcases half_eq he with z | z
      · rw [← z]; exact fixD a' (hlt a' ha').1 (hlt a' ha').2.1
      · have h1 := tight _ a' (hlt a' ha').2.2
        have ho : opp a = a' := z.symm
        obtain ⟨o1, o2, o3⟩ := hd_opp (n := n) (P := pairsOf n T) (rm := rmOf n f) (a := a)
        rw [ho] at o1 o2 o3
        rw [o1, o2, o3] at h1
        omega
  · rw [hval]
    show ((k + 1 : Nat) : Int) ≤ valF n f + ((S.b 1).getD 0 - (S.b 0).getD 0)
    rw [hD _ _ hd1, hD _ _ b.s0]
    have := h.vk
    omega
theorem sumI_sub {F G : Nat → Int} : ∀ n : Nat, sumI n (fun i => F i - G i) = sumI n F - sumI n G
  | 0 => rfl
  | n + 1 => by
    show sumI n (fun i => F i - G i) + (F n - G n) = (sumI n F + F n) - (sumI n G + G n)
    rw [sumI_sub n]; omega
theorem sum4a {F : Nat → Int} : ∀ n : Nat, (∀ i, i < 4 * n → i % 4 ≠ 1 → F i = 0) → sumI (4 * n) F = sumI n fun e => F (4 * e + 1)
  | 0, _ => rfl
  | n + 1, h => by
    rw [show 4 * (n + 1) = 4 * n + 1 + 1 + 1 + 1 by omega]
    show sumI (4 * n) F + F (4 * n) + F (4 * n + 1) + F (4 * n + 1 + 1) + F (4 * n + 1 + 1 + 1) = (sumI n fun e => F (4 * e + 1)) + F (4 * n + 1)
    rw [sum4a n (fun i hi => h i (by omega)), h (4 * n) (by omega) (by omega), h (4 * n + 1 + 1) (by omega) (by omega), h (4 * n + 1 + 1 + 1) (by omega) (by omega)]; omega
theorem sum4 {F : Nat → Int} (n : Nat) : ∀ L : Nat, (∀ i, i < 4 * n + L → (i % 4 ≠ 1 ∨ 4 * n ≤ i) → F i = 0) → sumI (4 * n + L) F = sumI n fun e => F (4 * e + 1)
  | 0, h => sum4a n fun i hi q => h i (by omega) (.inl q)
  | L + 1, h => by
    show sumI (4 * n + L) F + F (4 * n + L) = _
    rw [sum4 n L (fun i hi => h i (by omega)), h (4 * n + L) (by omega) (by omega)]; omega
theorem filt_sum (q : Nat → Bool) : ∀ n : Nat, (((List.range n).filter q).length : Int) = sumI n fun e => if q e = true then 1 else 0
  | 0 => rfl
  | n + 1 => by
    rw [List.range_succ, List.filter_append, List.length_append, Int.natCast_add, filt_sum q n]
    show _ = (sumI n fun e => if q e = true then 1 else 0) + (if q n = true then 1 else 0)
    cases h : q n <;> simp [h]
theorem count_sum {n : Nat} : ∀ xs : List Nat, (∀ x ∈ xs, x < n) → (xs.length : Int) = sumI n fun e => (xs.count e : Int)
  | [], _ => by
    have : ∀ m : Nat, (sumI m fun e => ((([] : List Nat).count e : Nat) : Int)) = 0 := fun m => by
      induction m with
      | zero => rfl
      | succ m ih => unfold sumI; rw [ih]; simp
    rw [this]; rfl
  | x :: xs, h => by
    have hx := h x (by simp)
    rw [sumI_one (F := fun e => (((x :: xs).count e : Nat) : Int)) (G := fun e => ((xs.count e : Nat) : Int)) hx (fun j _ hne => by
      show (((x :: xs).count j : Nat) : Int) = _
      rw [List.count_cons_of_ne (fun q => hne q.symm)])]
    rw [← count_sum xs (fun y hy => h y (by simp [hy]))]
    show _ = _ + ((((x :: xs).count x : Nat) : Int) - ((xs.count x : Nat) : Int))
    rw [List.count_cons_self, List.length_cons]; omega
theorem filt_flat : ∀ xs : List (List Nat), (xs.filter fun r => decide (0 < r.length)).flatten = xs.flatten
  | [] => rfl
  | x :: xs => by
    rw [List.filter_cons]
    cases x with
    | nil => simpa using filt_flat xs
    | cons a r => rw [if_pos (by simp), List.flatten_cons, List.flatten_cons, filt_flat xs]
theorem sing_flat : ∀ xs : List Nat, (xs.map fun e => [e]).flatten = xs
  | [] => rfl
  | x :: xs => by rw [List.map_cons, List.flatten_cons, sing_flat xs]; rfl
theorem bound_le1 (c : Nat) : ∀ xs : List (List Nat), boundOf xs c ≤ xs.length * c
  | [] => by simp [boundOf]
  | x :: xs => by
    have := bound_le1 c xs
    unfold boundOf at this ⊢
    rw [List.map_cons, List.sum_cons, List.length_cons, Nat.succ_mul]
    have := Nat.min_le_right x.length c
    omega
theorem bound_le2 (c : Nat) : ∀ xs : List (List Nat), boundOf xs c ≤ xs.flatten.length
  | [] => by simp [boundOf]
  | x :: xs => by
    have := bound_le2 c xs
    unfold boundOf at this ⊢
    rw [List.map_cons, List.sum_cons, List.flatten_cons, List.length_append]
    have := Nat.min_le_left x.length c
    omega
theorem mem_level {p : Nat → Int} {j a : Nat} : a ∈ levelOf n p j ↔ a < n ∧ p (2 + 2 * a) < p (3 + 2 * a) ∧ p (2 + 2 * a) = (j : Int) := by
  unfold levelOf
  rw [List.mem_filter, List.mem_range, Bool.and_eq_true, decide_eq_true_eq, decide_eq_true_eq]
theorem mem_levels {p : Nat → Int} {m a : Nat} : a ∈ ((List.range m).map (levelOf n p)).flatten ↔ ∃ j, j < m ∧ a ∈ levelOf n p j := by
  rw [List.mem_flatten]
  constructor
  · rintro ⟨l, hl, ha⟩
    obtain ⟨j, hj, rfl⟩ := List.mem_map.mp hl
    exact ⟨j, List.mem_range.mp hj, ha⟩
  · rintro ⟨j, hj, ha⟩
    exact ⟨_, List.mem_map.mpr ⟨j, List.mem_range.mpr hj, rfl⟩, ha⟩
theorem nodup_level {p : Nat → Int} {j : Nat} : (levelOf n p j).Nodup := List.nodup_range.filter _
theorem nodup_levels {p : Nat → Int} : ∀ m : Nat, (((List.range m).map (levelOf n p)).flatten).Nodup
  | 0 => by simp
  | m + 1 => by
    rw [List.range_succ, List.map_append, List.flatten_append, List.nodup_append]
    refine ⟨nodup_levels m, by simpa using nodup_level, fun a ha b hb q => ?_⟩
    subst q
    obtain ⟨j, hj, h1⟩ := mem_levels.mp ha
    have h2 := (mem_level.mp h1).2.2
    have h3 : a ∈ levelOf n p m := by simpa using hb
    have h4 := (mem_level.mp h3).2.2
    omega
/-- chains and sets of such prices show a cover -/
theorem cover_of (hT : Strict n T) (hF : FlowOk n (pairsOf n T) f k) (hk : k ≤ c) {m : Nat} (hm : m = 0 ∨ k = c) {p : Nat → Int} (a1 : ∀ e, e < n → 0 ≤ p (2 + 2 * e) ∧ p (2 + 2 * e) ≤ p (3 + 2 * e) ∧ p (3 + 2 * e) ≤ m)
    (a3 : ∀ a b, a < n → b < n → T a b = true → p (3 + 2 * a) ≤ p (2 + 2 * b)) (a4 : valF n f = k * m + ((othersOf n p).length : Nat)) {xss : List (List Nat)} (h : ChainsOk n T f k xss) :
    Cover n T c xss.flatten.length xss (setsOf n p m ++ (othersOf n p).map fun e => [e]) := by
  have few : xss.length ≤ c := Nat.le_trans h.len hk
  have nd : xss.flatten.Nodup := count_nodup fun e => by
    by_cases he : e < n
    · have h1 := h.cnt e he
      have h2 := hF.hi (4 * e + 1) (by unfold cM; omega)
      rw [cc_1 he] at h2
      omega
    · have : xss.flatten.count e = 0 := List.count_eq_zero.mpr fun z => he (h.lt e z)
      omega
  have eflat : (setsOf n p m ++ (othersOf n p).map fun e => [e]).flatten = ((List.range m).map (levelOf n p)).flatten ++ othersOf n p := by
    unfold setsOf
    rw [List.flatten_append, filt_flat, sing_flat]
  have part : (setsOf n p m ++ (othersOf n p).map fun e => [e]).flatten.Perm (List.range n) := by
    rw [eflat]
    refine (List.perm_ext_iff_of_nodup (List.nodup_append.mpr ⟨nodup_levels m, List.nodup_range.filter _, fun a ha b hb q => ?_⟩) List.nodup_range).mpr fun a => ?_
    · subst q
      obtain ⟨j, _, h1⟩ := mem_levels.mp ha
      have h2 := (mem_level.mp h1).2.1
      rw [List.mem_filter, decide_eq_true h2] at hb
      cases hb.2
    · rw [List.mem_append, List.mem_range, mem_levels]
      constructor
      · rintro (⟨j, _, q⟩ | q)
        · exact (mem_level.mp q).1
        · skip
          exact List.mem_range.mp (List.mem_filter.mp q).1
      · intro q
        obtain ⟨b1, b2, b3⟩ := a1 a q
        by_cases z : p (2 + 2 * a) < p (3 + 2 * a)
        · obtain ⟨j, hj⟩ := Int.eq_ofNat_of_zero_le b1
          exact .inl ⟨j, by omega, mem_level.mpr ⟨q, z, hj⟩⟩
        · refine .inr ?_
          rw [List.mem_filter, decide_eq_false z]
          exact ⟨List.mem_range.mpr q, rfl⟩
  have an : ∀ x ∈ setsOf n p m ++ (othersOf n p).map fun e => [e], AntiP T x := by
    intro x hx
    rcases List.mem_append.mp hx with q | q
    · unfold setsOf at q
      obtain ⟨j, hj, rfl⟩ := List.mem_map.mp (List.mem_filter.mp q).1
      intro i1 i2 a b hlt h1 h2
      obtain ⟨u1, u2, u3⟩ := mem_level.mp (List.mem_of_getElem? h1)
      obtain ⟨v1, v2, v3⟩ := mem_level.mp (List.mem_of_getElem? h2)
      have ne : a ≠ b := fun z => by
        subst z
        have := (List.getElem_inj (h₀ := lt_of_get h1) (h₁ := lt_of_get h2) (nodup_level (n := n) (p := p) (j := j))).mp (by rw [(List.getElem?_eq_some_iff.mp h1).2, (List.getElem?_eq_some_iff.mp h2).2])
        omega
      have f1 : T a b = false := by
        cases ht : T a b with
        | false => rfl
        | true => have := a3 a b u1 v1 ht; omega
      have f2 : T b a = false := by
        cases ht : T b a with
        | false => rfl
        | true => have := a3 b a v1 u1 ht; omega
      unfold apartB
      rw [f1, f2, decide_eq_true ne]; rfl
    · obtain ⟨e, _, rfl⟩ := List.mem_map.mp q
      intro i1 i2 a b hlt h1 h2
      have := lt_of_get h1
      simp at this; omega
  have hnum : (xss.flatten.length : Int) = valF n f := by
    rw [count_sum xss.flatten h.lt]
    exact sumI_congr fun e he => h.cnt e he
  refine ⟨few, h.ne, nd, h.lt, rfl, h.ch, ?_, part, an, ?_⟩
  · intro x hx
    rcases List.mem_append.mp hx with q | q
    · unfold setsOf at q
      have := (List.mem_filter.mp q).2
      intro z
      rw [z] at this; cases this
    · obtain ⟨e, _, rfl⟩ := List.mem_map.mp q
      simp
  · have lo := weak hT few nd h.lt h.ch part an
    have up : boundOf (setsOf n p m ++ (othersOf n p).map fun e => [e]) c ≤ m * c + (othersOf n p).length := by
      rw [bound_app]
      have h1 := bound_le1 c (setsOf n p m)
      have h2 := bound_le2 c ((othersOf n p).map fun e => [e])
      rw [sing_flat] at h2
      have h3 : (setsOf n p m).length ≤ m := by unfold setsOf; exact Nat.le_trans (List.length_filter_le _ _) (by rw [List.length_map, List.length_range]; exact Nat.le_refl _)
      have h4 : (setsOf n p m).length * c ≤ m * c := Nat.mul_le_mul_right _ h3
      omega
    have e : xss.flatten.length = k * m + (othersOf n p).length := by
      have h1 := hnum
      rw [a4] at h1
      have h2 : ((k * m : Nat) : Int) = (k : Int) * (m : Int) := Int.natCast_mul _ _
      omega
    rcases hm with z | z
    · subst z
      rw [Nat.zero_mul] at up
      rw [Nat.mul_zero] at e
      omega
    · subst z
      have : k * m = m * k := Nat.mul_comm _ _
      omega
theorem price_some {b0 b1 : Nat → Option Int} {m w : Int} {y : Nat} (h : b0 y = some w) : ∃ v, priceF b0 b1 m y = some v ∧ w ≤ v ∧ (∀ z, b1 y = some z → z + m ≤ v) ∧ (v = w ∨ ∃ z, b1 y = some z ∧ v = z + m) := by
  unfold priceF
  cases h1 : b1 y with
  | none => exact ⟨w, h, Int.le_refl _, fun z q => (by cases q), .inl rfl⟩
  | some z =>
    dsimp only
    rw [h]
    dsimp only
    by_cases q : w < z + m
    · rw [if_pos q]; exact ⟨_, rfl, by omega, fun z' e => (by cases e; exact Int.le_refl _), .inr ⟨z, rfl, rfl⟩⟩
    · rw [if_neg q]; exact ⟨_, rfl, Int.le_refl _, fun z' e => (by cases e; omega), .inl rfl⟩
theorem wk_le {x i : Nat} {v : Int} {P : List (Nat × Nat)} {rm : Nat → Int} {s : Nat} (h : Wk (cnet n P rm) s x i v) : v ≤ i := by
  induction h with
  | base => exact Int.le_refl _
  | @step a i v w ha hr ih =>
    have : (cnet n P rm).gn a ≤ 1 := by
      show (if a % 2 = 0 then cw n (a / 2) else 0 - cw n (a / 2)) ≤ 1
      unfold cw
      split <;> split <;> omega
    omega
theorem none_s {s : Nat} (h : n = 0) {S : Bf} {p : Nat → Int} (b : BInv (cnet n (pairsOf n T) (rmOf n f)) s p S) {y : Nat} (hy : y ≠ s) : S.b y = none := by
  subst h
  cases hb : S.b y with
  | none => rfl
  | some v =>
    obtain ⟨as, c⟩ := b.ch y v hb
    cases c with
    | base => exact absurd rfl hy
    | step e _ =>
      have := (b.pr _ _ e).1
      exact absurd this (by show ¬ _ < 2 * cM 0 (pairsOf 0 T); unfold cM pairsOf; simp)
theorem fstate_end (hT : Strict n T) (hn : n ≤ 40) (h : FState n T f k) (hk : k ≤ c) (he : k = c ∨ gainV ((bfO n T f).b 1) = 0) :
    ∃ (m : Nat) (p : Nat → Int), gainV ((bfO n T f).b 1) = (m : Int) ∧ m ≤ 1000 ∧ (∀ y, y < 2 + 2 * n → priceF (bfO n T f).b (bfI n T f).b (m : Nat) y = some (p y)) ∧ (∀ e, e < n → 0 ≤ p (2 + 2 * e) ∧ (p (2 + 2 * e) < p (3 + 2 * e) → p (2 + 2 * e) < m)) ∧
      ∀ xss, ChainsOk n T f k xss → Cover n T c xss.flatten.length xss (setsOf n p m ++ (othersOf n p).map fun e => [e]) := by
  obtain ⟨π, hp⟩ := h.pot
  have hkn := fstate_le h
  obtain ⟨b, fx⟩ := bf_ok (s := 0) hp (cnet_hd hn) (by show 0 < 2 + 2 * n; omega)
  change BInv _ _ _ (bfO n T f) at b
  change Fix _ (bfO n T f) at fx
  rcases Nat.eq_zero_or_pos n with hn0 | hn0
  · obtain ⟨b1, _⟩ := bf_ok (s := 1) hp (cnet_hd hn) (by show 1 < 2 + 2 * n; omega)
    change BInv _ _ _ (bfI n T f) at b1
    have e1 := none_s hn0 b (y := 1) (by omega)
    have e2 := none_s hn0 b1 (y := 0) (by omega)
    refine ⟨0, fun _ => 0, by rw [e1]; rfl, by omega, fun y hy => ?_, fun e he => by omega, fun xss hx => ?_⟩
    · have : y = 0 ∨ y = 1 := by omega
      rcases this with q | q
      · subst q; unfold priceF; rw [e2]; exact b.s0
      · subst q; unfold priceF; rw [b1.s0]; dsimp only; rw [e1]; rfl
    · refine cover_of hT h.ok hk (.inl rfl) (fun e he => by omega) (fun a b ha => by omega) ?_ hx
      subst hn0
      show (0 : Int) = _
      unfold othersOf
      simp
  · have tot := reach h hn0 b fx
    have hD : ∀ y v, (bfO n T f).b y = some v → ((bfO n T f).b y).getD 0 = v := fun y v q => by rw [q]; rfl
    have potD : Pot (cnet n (pairsOf n T) (rmOf n f)) fun y => ((bfO n T f).b y).getD 0 := fun a ha hr => by
      obtain ⟨z, hz⟩ := tot _ (cnet_lt (nok_pairs hn) ha).1
      obtain ⟨w, h1, h2⟩ := fx a ha hr z hz
      show ((bfO n T f).b _).getD 0 + _ ≤ ((bfO n T f).b _).getD 0
      rw [hD _ _ hz, hD _ _ h1]; exact h2
    obtain ⟨b1, fx1⟩ := bf_ok (s := 1) potD (cnet_hd hn) (by show 1 < 2 + 2 * n; omega)
    change BInv _ _ _ (bfI n T f) at b1
    change Fix _ (bfI n T f) at fx1
    obtain ⟨d1, hd1⟩ := tot 1 (by omega)
    have d1n : 0 ≤ d1 := by
      obtain ⟨y1, h1, h2⟩ := fix_n h.ok hkn fx (i := 4 * 0) (by unfold cM; omega) (by omega) (by rw [cu0 hn0]; exact b.s0)
      rw [cv0 hn0] at h1
      obtain ⟨y2, h3, h4⟩ := fix_n h.ok hkn fx (i := 4 * 0 + 2) (by unfold cM; omega) (by omega) (by rw [cu2 hn0]; exact h1)
      rw [cv2 hn0] at h3
      obtain ⟨y3, h5, h6⟩ := fix_n h.ok hkn fx (i := 4 * 0 + 3) (by unfold cM; omega) (by omega) (by rw [cu3 hn0]; exact h3)
      rw [cv3 hn0, hd1] at h5
      cases h5
      omega
    obtain ⟨m, rfl⟩ := Int.eq_ofNat_of_zero_le d1n
    have hgm : gainV ((bfO n T f).b 1) = (m : Int) := by rw [hd1]; show max 0 (m : Int) = m; omega
    have hm1000 : m ≤ 1000 := by
      obtain ⟨as, ch⟩ := b.ch 1 _ hd1
      obtain ⟨v, wk, hv⟩ := ch_wk b ch
      have h1 := wk_le wk
      have h2 := ch_len (cnet_hd hn) (by show 0 < 2 + 2 * n; omega) b ch
      have h3 := hv _ hd1
      have h4 : (cnet n (pairsOf n T) (rmOf n f)).N = 2 + 2 * n := rfl
      omega
    have hps : ∀ y, y < 2 + 2 * n → ∃ v w, (bfO n T f).b y = some w ∧ priceF (bfO n T f).b (bfI n T f).b (m : Nat) y = some v ∧ w ≤ v ∧ (∀ z, (bfI n T f).b y = some z → z + m ≤ v) ∧ (v = w ∨ ∃ z, (bfI n T f).b y = some z ∧ v = z + m) := fun y hy => by
      obtain ⟨w, hw⟩ := tot y hy
      obtain ⟨v, h1, h2, h3, h4⟩ := price_some (b1 := (bfI n T f).b) (m := (m : Int)) hw
      exact ⟨v, w, hw, h1, h2, h3, h4⟩
    have hpv : ∀ y v, priceF (bfO n T f).b (bfI n T f).b (m : Nat) y = some v → (priceF (bfO n T f).b (bfI n T f).b (m : Nat) y).getD 0 = v := fun y v q => by rw [q]; rfl
    have potP : Pot (cnet n (pairsOf n T) (rmOf n f)) fun y => (priceF (bfO n T f).b (bfI n T f).b (m : Nat) y).getD 0 := fun a ha hr => by
      obtain ⟨q1, q2⟩ := cnet_lt (nok_pairs hn) ha
      obtain ⟨v, w, h1, h2, h3, h4, h5⟩ := hps _ q1
      obtain ⟨v', w', h1', h2', h3', h4', h5'⟩ := hps _ q2
      show (priceF _ _ _ _).getD 0 + _ ≤ (priceF _ _ _ _).getD 0
      rw [hpv _ _ h2, hpv _ _ h2']
      rcases h5 with z | ⟨z, hz, z2⟩
      · obtain ⟨y, e1, e2⟩ := fx a ha hr w h1
        rw [h1'] at e1; cases e1
        omega
      · obtain ⟨y, e1, e2⟩ := fx1 a ha hr z hz
        have := h4' y e1
        omega
    have p0 : (priceF (bfO n T f).b (bfI n T f).b (m : Nat) 0).getD 0 = 0 := by
      obtain ⟨v, w, h1, h2, h3, h4, h5⟩ := hps 0 (by omega)
      rw [b.s0] at h1; cases h1
      rw [hpv _ _ h2]
      rcases h5 with z | ⟨z, hz, z2⟩
      · exact z
      · have := b1.up 0 z hz
        have : z ≤ ((bfO n T f).b 0).getD 0 - ((bfO n T f).b 1).getD 0 := this
        rw [hD _ _ b.s0, hD _ _ hd1] at this
        omega
    have p1 : (priceF (bfO n T f).b (bfI n T f).b (m : Nat) 1).getD 0 = m := by
      obtain ⟨v, w, h1, h2, h3, h4, h5⟩ := hps 1 (by omega)
      rw [hd1] at h1; cases h1
      rw [hpv _ _ h2]
      have := h4 0 b1.s0
      rcases h5 with z | ⟨z, hz, z2⟩
      · exact z
      · rw [b1.s0] at hz; cases hz; omega
    generalize hP : (fun y => (priceF (bfO n T f).b (bfI n T f).b (m : Nat) y).getD 0) = p at *
    have hpy : ∀ y, (priceF (bfO n T f).b (bfI n T f).b (m : Nat) y).getD 0 = p y := fun y => by rw [← hP]
    rw [hpy] at p0 p1
    have en : ∀ i, i < cM n (pairsOf n T) → (i % 4 ≠ 1 ∨ 4 * n ≤ i) → p (cu n (pairsOf n T) i) ≤ p (cv n (pairsOf n T) i) := fun i hi hc => by
      have := potP (2 * i) (by show 2 * i < 2 * cM n _; omega) (room_n h.ok hkn hi hc)
      rw [tl_e, hd_e, gn_e, cw_n hc] at this
      omega
    have eb : ∀ i, i < cM n (pairsOf n T) → 0 < f i → p (cv n (pairsOf n T) i) - cw n i ≤ p (cu n (pairsOf n T) i) := fun i hi hf => by
      have := potP (2 * i + 1) (by show 2 * i + 1 < 2 * cM n _; omega) (by show 0 < rmOf n f (2 * i + 1); rw [rm_o]; exact hf)
      rw [tl_o, hd_o, gn_o] at this
      omega
    have ee : ∀ e, e < n → 0 ≤ p (2 + 2 * e) ∧ p (2 + 2 * e) ≤ p (3 + 2 * e) ∧ p (3 + 2 * e) ≤ m := fun e he => by
      have h1 := en (4 * e) (by unfold cM; omega) (by omega)
      have h2 := en (4 * e + 2) (by unfold cM; omega) (by omega)
      have h3 := en (4 * e + 3) (by unfold cM; omega) (by omega)
      rw [cu0 he, cv0 he] at h1
      rw [cu2 he, cv2 he] at h2
      rw [cu3 he, cv3 he] at h3
      omega
    refine ⟨m, p, hgm, hm1000, fun y hy => ?_, fun e he => ?_, fun xss hx => cover_of hT h.ok hk ?_ ee ?_ ?_ hx⟩
    · obtain ⟨v, w, h1, h2, _⟩ := hps y hy
      rw [h2]
      have := hpv _ _ h2
      rw [hpy] at this
      rw [this]
    · have := ee e he
      exact ⟨this.1, fun q => by omega⟩
    · rcases he with q | q
      · exact .inr q
      · rw [hgm] at q; exact .inl (by omega)
    · intro a b' ha hb ht
      obtain ⟨j, hj, e⟩ := pairs_getD ha hb ht
      have := en (4 * n + j) (by unfold cM; omega) (by omega)
      rw [cuP, cvP, e] at this
      exact this
    · have hc := h.ok.con p
      rw [p0, p1] at hc
      unfold Bs cM at hc
      rw [sum4 n (pairsOf n T).length (fun i hi hq => by
        have hi : i < cM n (pairsOf n T) := hi
        have h1 := en i hi hq
        rcases Int.lt_or_eq_of_le (h.ok.lo i hi) with z | z
        · have h2 := eb i hi z
          rw [cw_n hq] at h2
          have : p (cu n (pairsOf n T) i) - p (cv n (pairsOf n T) i) = 0 := by omega
          rw [this, Int.mul_zero]
        · rw [← z, Int.zero_mul])] at hc
      have key : ∀ e, e < n → (if (!decide (p (2 + 2 * e) < p (3 + 2 * e))) = true then (1 : Int) else 0) - f (4 * e + 1) * (p (cu n (pairsOf n T) (4 * e + 1)) - p (cv n (pairsOf n T) (4 * e + 1))) = f (4 * e + 1) := fun e he => by
        have hi : 4 * e + 1 < cM n (pairsOf n T) := by unfold cM; omega
        have f0 := h.ok.lo _ hi
        have f1 := h.ok.hi _ hi
        rw [cc_1 he] at f1
        have e2 := ee e he
        have bk := eb _ hi
        have fw : f (4 * e + 1) < 1 → p (2 + 2 * e) + 1 ≤ p (3 + 2 * e) := fun q => by
          have := potP (2 * (4 * e + 1)) (by show 2 * (4 * e + 1) < 2 * cM n _; omega) (by show 0 < rmOf n f (2 * (4 * e + 1)); rw [rm_e, cc_1 he]; omega)
          rw [tl_e, hd_e, gn_e, cw_1 he, cu1 he, cv1 he] at this
          exact this
        rw [cu1 he, cv1 he] at bk ⊢
        rw [cw_1 he] at bk
        have : f (4 * e + 1) = 0 ∨ f (4 * e + 1) = 1 := by omega
        rcases this with z | z
        · have := fw (by omega)
          rw [z, decide_eq_true (by omega)]; simp
        · have := bk (by omega)
          by_cases q : p (2 + 2 * e) < p (3 + 2 * e)
          · rw [z, decide_eq_true q]; simp; omega
          · rw [z, decide_eq_false q]; simp; omega
      have h5 : valF n f = (sumI n fun e => if (!decide (p (2 + 2 * e) < p (3 + 2 * e))) = true then (1 : Int) else 0) - (sumI n fun e => f (4 * e + 1) * (p (cu n (pairsOf n T) (4 * e + 1)) - p (cv n (pairsOf n T) (4 * e + 1)))) := by
        rw [← sumI_sub]
        exact sumI_congr fun e he => (key e he).symm
      rw [hc, ← filt_sum (fun e => !decide (p (2 + 2 * e) < p (3 + 2 * e))) n] at h5
      rw [h5]
      show _ = _ + (((List.range n).filter fun e => !decide (p (2 + 2 * e) < p (3 + 2 * e))).length : Int)
      have : (k : Int) * (0 - m) = -(k * m) := by rw [Int.zero_sub, Int.mul_neg]
      omega
end
end Dr

/-! sum(rows, []). -/
namespace Dr
open PySem PySem.Spec PyProof.Rows L2
def catR {α : Type} (rows : Nat → List α) : Nat → Nat → List α
  | _, 0 => []
  | i, k + 1 => rows i ++ catR rows (i + 1) k
section
variable {prog : Program} {w : World} {A : Around} {R : Result → Shared → Prop} {I l S : Addr}
theorem sumL_loop (hh : A.handled = none) {items : Array Value} (hlI : l ≠ I) (hSI : S ≠ I) (hSl : S ≠ l) (rows : Nat → List Value) :
    ∀ (k i : Nat) (s : Shared) (c : Addr) (acc : List Value) (nc cc : Nat), items.size - i = k → i ≤ items.size → s.heap.IsListIter I l i → s.heap.IsList l items →
    s.heap.get? S = some { cls := .type "list", dict := none, data := .seq #[.ref c] cc, slots := #[] } → c ≠ I → c ≠ S → PySem.IsL s.heap c acc.toArray nc →
    (∀ j, i ≤ j → j < items.size → ∃ b nb, items[j]? = some (.ref b) ∧ b ≠ I ∧ b ≠ S ∧ PySem.IsL s.heap b (rows j).toArray nb) → acc.length + (catR rows i k).length ≤ sizeLine →
    (∀ h' tk c' n', (∀ b o, b ≠ I → b ≠ S → s.heap.get? b = some o → h'.get? b = some o) → PySem.IsL h' c' (acc ++ catR rows i k).toArray n' → (k = 0 → c' = c) → (0 < k → s.heap.objs.size ≤ c') → R (.ok (.ret (.ref c'))) { s with heap := h', toks := tk }) →
    codeAny (model prog w) A (.builtin "sum.loop" ⟨[.ref I, .ref S, rawInt 2, rawInt 0], []⟩) R s := by
  intro k
  induction k with
  | zero =>
    intro i s c acc nc cc hk hi hit hl hS hcI hcS hc hrows hsz hR
    refine codeAny_builtin F.entry_sum_loop ?_
    rw [Around.under_plainId F.plain_sum_loop _]
    show wpAny _ A.in1 (seqItems? (.ref S) >>= _) _ _ s
    refine wpAny_bind (wpAny_seqItems hS rfl ?_)
    show wpAny _ A.in1 (tryCatch (pyNext (.ref I)) _ >>= _) _ _ s
    refine wpAny_bind (wpAny_tryCatch (wpAny_pyNext_list_end (A := A.in1) hh hit hl (by simp; omega) fun h' he => ?_))
    exact wpAny_pure (hR h' s.toks c nc (fun b o hb _ e => he b o hb e) (by
      show PySem.IsL h' c (acc ++ []).toArray nc
      rw [List.append_nil]; exact he c _ hcI hc) (fun _ => rfl) (fun q => by omega))
  | succ k ih =>
    intro i s c acc nc cc hk hi hit hl hS hcI hcS hc hrows hsz hR
    have hlt : i < items.size := by omega
    obtain ⟨b, nb, hb, hbI, hbS, hbl⟩ := hrows i (Nat.le_refl _) hlt
    refine codeAny_builtin F.entry_sum_loop ?_
    rw [Around.under_plainId F.plain_sum_loop _]
    show wpAny _ A.in1 (seqItems? (.ref S) >>= _) _ _ s
    refine wpAny_bind (wpAny_seqItems hS rfl ?_)
    show wpAny _ A.in1 (tryCatch (pyNext (.ref I)) _ >>= _) _ _ s
    refine wpAny_bind (wpAny_tryCatch (wpAny_pyNext_list_item hit hl hb fun h1 hit1 hs1 => ?_))
    have hS1 := hs1.extBut S _ hSI hS
    have hc1 := hs1.extBut c _ hcI hc
    have hb1 := hs1.extBut b _ hbI hbl
    have hl1 := hl.extBut hs1.extBut hlI
    show wpAny _ A.in1 ((holding [Value.ref b] (binaryOp .Add (.ref c) (.ref b))).attempt >>= _) _ _ _
    have hsz1 : (acc.toArray).size + ((rows i).toArray).size ≤ sizeLine := by
      rw [List.size_toArray, List.size_toArray]
      have : (catR rows i (k + 1)).length = (rows i).length + (catR rows (i + 1) k).length := by show (rows i ++ _).length = _; rw [List.length_append]
      omega
    refine wpAny_bind (wpAny_attempt (wpAny_holding (PySem.P.add_list hc1 hb1 ?_ hsz1)))
    have ea : acc.toArray ++ (rows i).toArray = (acc ++ rows i).toArray := by simp
    rw [ea]
    have hsize : h1.objs.size = s.heap.objs.size := hs1.1
    have hSlt : S < h1.objs.size := Heap.lt_size hS1
    have hIlt : I < h1.objs.size := by obtain ⟨_, e, _⟩ := hit1; exact Heap.lt_size e
    have hllt : l < h1.objs.size := by obtain ⟨_, e, _⟩ := hl1; exact Heap.lt_size e
    have hS2 : (h1.push { cls := .type "list", data := .seq (acc ++ rows i).toArray }).get? S = _ := Heap.get?_push_of_some _ hS1
    show wpAny _ A.in1 (updateSeq S (fun _ => #[Value.ref h1.objs.size]) >>= _) _ _ _
    refine wpAny_bind (wpAny_updateSeq hS2 rfl ?_)
    have hS3 := Heap.get?_update_self (Obj.mapSeq fun _ => #[Value.ref h1.objs.size]) hS2 rfl
    refine wpAny_bind (wpAny_letGo ?_)
    have keep : ∀ x o, x ≠ I → x ≠ S → s.heap.get? x = some o → (((h1.push { cls := .type "list", data := .seq (acc ++ rows i).toArray }).update S (Obj.mapSeq fun _ => #[Value.ref h1.objs.size])).update S (Obj.mapSeq fun _ => #[Value.ref h1.objs.size])).get? x = some o := fun x o hxI hxS e =>
      (Heap.get?_update_other _ _ (Ne.symm hxS)).trans ((Heap.get?_update_other _ _ (Ne.symm hxS)).trans (Heap.get?_push_of_some _ (hs1.extBut x o hxI e)))
    have keepI : ∀ x o, x ≠ S → h1.get? x = some o → (((h1.push { cls := .type "list", data := .seq (acc ++ rows i).toArray }).update S (Obj.mapSeq fun _ => #[Value.ref h1.objs.size])).update S (Obj.mapSeq fun _ => #[Value.ref h1.objs.size])).get? x = some o := fun x o hxS e =>
      (Heap.get?_update_other _ _ (Ne.symm hxS)).trans ((Heap.get?_update_other _ _ (Ne.symm hxS)).trans (Heap.get?_push_of_some _ e))
    have hnew : PySem.IsL (((h1.push { cls := .type "list", data := .seq (acc ++ rows i).toArray }).update S (Obj.mapSeq fun _ => #[Value.ref h1.objs.size])).update S (Obj.mapSeq fun _ => #[Value.ref h1.objs.size])) h1.objs.size (acc ++ rows i).toArray 0 :=
      (Heap.get?_update_other _ _ (Nat.ne_of_lt hSlt)).trans ((Heap.get?_update_other _ _ (Nat.ne_of_lt hSlt)).trans (Heap.get?_push_size _ rfl))
    refine wpAny_bind (wpAny_updateSeq hS3 rfl (wpAny_pure ⟨plainId_quiet F.plain_sum_loop _, ih (i + 1) _ h1.objs.size (acc ++ rows i) 0 _ (by omega) hlt ?_ ?_ (Heap.get?_update_self _ hS3 rfl) (Nat.ne_of_lt hIlt).symm (Nat.ne_of_lt hSlt).symm hnew ?_ ?_ ?_⟩))
    · obtain ⟨o, e, r⟩ := hit1
      exact ⟨o, keepI I o hSI.symm e, r⟩
    · obtain ⟨o, e, r⟩ := hl1
      exact ⟨o, keepI l o hSl.symm e, r⟩
    · intro j hj hj2
      obtain ⟨b', nb', e1, e2, e3, e4⟩ := hrows j (by omega) hj2
      exact ⟨b', nb', e1, e2, e3, keep b' _ e2 e3 e4⟩
    · have : (catR rows i (k + 1)).length = (rows i).length + (catR rows (i + 1) k).length := by show (rows i ++ _).length = _; rw [List.length_append]
      rw [List.length_append]; omega
    · intro h' tk c' n' k1 k2 k3 k4
      refine hR h' tk c' n' (fun x o hxI hxS e => k1 x o hxI hxS (keep x o hxI hxS e)) ?_ (fun q => by omega) (fun _ => ?_)
      · rw [List.append_assoc] at k2
        exact k2
      · rcases Nat.eq_zero_or_pos k with q | q
        · rw [k3 q]; omega
        · have := k4 q
          have h5 : ((h1.push { cls := .type "list", data := .seq (acc ++ rows i).toArray }).update S (Obj.mapSeq fun _ => #[Value.ref h1.objs.size])).update S (Obj.mapSeq fun _ => #[Value.ref h1.objs.size]) = _ := rfl
          have h6 : s.heap.objs.size ≤ (((h1.push { cls := .type "list", data := .seq (acc ++ rows i).toArray }).update S (Obj.mapSeq fun _ => #[Value.ref h1.objs.size])).update S (Obj.mapSeq fun _ => #[Value.ref h1.objs.size])).objs.size := by
            rw [Heap.size_update, Heap.size_update, Heap.size_push]; omega
          exact Nat.le_trans h6 this
end
theorem args_sum2 (a b : Value) : argsOk "sum" ⟨[a, b], []⟩ := by unfold argsOk; kernel_rfl
theorem sub_list_ba : isSubtype (.type "list") (.type "bytearray") = pure false := by rw [isSubtype_type]; kernel_rfl
theorem sub_list_s : isSubtype (.type "list") (.type "str") = pure false := by rw [isSubtype_type]; kernel_rfl
theorem sub_list_b : isSubtype (.type "list") (.type "bytes") = pure false := by rw [isSubtype_type]; kernel_rfl
section
variable {prog : Program} {w : World} {A : Around} {E : Value → Shared → Prop} {s : Shared} {Q : Value → Shared → Prop} {l c : Addr}
theorem sum_lists (hh : A.handled = none) {items : Array Value} (hl : s.heap.IsList l items) {nc : Nat} (hc : PySem.IsL s.heap c #[] nc) (rows : Nat → List Value)
    (hrows : ∀ j, j < items.size → ∃ b nb, items[j]? = some (.ref b) ∧ PySem.IsL s.heap b (rows j).toArray nb) (hsz : (catR rows 0 items.size).length ≤ sizeLine)
    (h : ∀ h' tk c' n', (∀ b o, s.heap.get? b = some o → h'.get? b = some o) → PySem.IsL h' c' (catR rows 0 items.size).toArray n' → (items.size = 0 → c' = c) → (0 < items.size → s.heap.objs.size ≤ c') → Q (.ref c') { s with heap := h', toks := tk }) :
    wpAny (model prog w) A (call (.builtin "sum") [.ref l, .ref c]) Q E s := by
  have hlt : l < s.heap.objs.size := by obtain ⟨_, e, _⟩ := hl; exact Heap.lt_size e
  have hct : c < s.heap.objs.size := Heap.lt_size hc
  refine call_function_tree F.kind_sum F.plain_sum F.entry_sum (args_sum2 _ _) ?_
  unfold Builtin.«sum»
  simp only [List.length_cons, List.length_nil]
  rw [if_neg (by decide)]
  refine wpAny_bind (wpAny_of_eq (show Builtin.Builtins.bindParams "sum" ["start"] 0 ⟨[.ref c], []⟩ = pure [some (.ref c)] from rfl) ?_)
  refine wpAny_bind (wpAny_pyIter_list hl ?_)
  refine wpAny_bind (wpAny_pure ?_)
  simp only [List.forIn_cons, List.forIn_nil]
  have hc1 : PySem.IsL (s.heap.push { cls := .type "list_iterator", data := .fields #[.ref l, .int 0 0] }) c #[] nc := Heap.get?_push_of_some _ hc
  have ht : ∀ s2 : Shared, PySem.IsL s2.heap c #[] nc → s2.TypeIs (.ref c) "list" := fun s2 e => Heap.IsList.typeIs (items := #[]) ⟨_, e, rfl, nc, rfl⟩
  refine wpAny_bind (wpAny_bind (wpAny_bind (wpAny_isInstance (T := "list") (b := false) (ht _ hc1) sub_list_s ?_)))
  simp only [Bool.false_eq_true, if_false]
  refine wpAny_pure (wpAny_bind (wpAny_bind (wpAny_isInstance (T := "list") (b := false) (ht _ hc1) sub_list_b ?_)))
  simp only [Bool.false_eq_true, if_false]
  refine wpAny_pure (wpAny_bind (wpAny_bind (wpAny_isInstance (T := "list") (b := false) (ht _ hc1) sub_list_ba ?_)))
  simp only [Bool.false_eq_true, if_false]
  refine wpAny_pure (wpAny_pure ?_)
  refine wpAny_bind (wpAny_newObj_type ?_)
  have hsz1 : (s.heap.push { cls := .type "list_iterator", data := .fields #[.ref l, .int 0 0] }).objs.size = s.heap.objs.size + 1 := Heap.size_push ..
  refine wpAny_pure ⟨plainId_quiet F.plain_sum_loop _, sumL_loop (I := s.heap.objs.size) (l := l) (S := (s.heap.push { cls := .type "list_iterator", data := .fields #[.ref l, .int 0 0] }).objs.size) (items := items) hh (Nat.ne_of_lt hlt) (Nat.ne_of_gt (by rw [hsz1]; exact Nat.lt_succ_self _)) (Nat.ne_of_gt (by rw [hsz1]; exact Nat.lt_succ_of_lt hlt)) rows items.size 0 _ c [] nc 0 rfl (Nat.zero_le _) ?_ ?_ (Heap.get?_push_size _ rfl) (Nat.ne_of_lt hct) (Nat.ne_of_lt (by rw [hsz1]; exact Nat.lt_succ_of_lt hct)) ?_ ?_ (by simpa using hsz) ?_⟩
  · exact ⟨_, Heap.get?_push_of_some _ (Heap.get?_push_size _ rfl), rfl, rfl⟩
  · exact (hl.push _).push _
  · exact Heap.get?_push_of_some _ hc1
  · intro j _ hj
    obtain ⟨b, nb, e1, e2⟩ := hrows j hj
    have hb : b < s.heap.objs.size := Heap.lt_size e2
    exact ⟨b, nb, e1, Nat.ne_of_lt hb, Nat.ne_of_lt (by rw [hsz1]; exact Nat.lt_succ_of_lt hb), Heap.get?_push_of_some _ (Heap.get?_push_of_some _ e2)⟩
  · intro h' tk c' n' k1 k2 k3 k4
    refine h h' tk c' n' (fun b o e => ?_) (by simpa using k2) k3 (fun q => ?_)
    · have hb : b < s.heap.objs.size := Heap.lt_size e
      exact k1 b o (Nat.ne_of_lt hb) (Nat.ne_of_lt (by rw [hsz1]; exact Nat.lt_succ_of_lt hb)) (Heap.get?_push_of_some _ (Heap.get?_push_of_some _ e))
    · refine Nat.le_trans ?_ (k4 q)
      rw [Heap.size_push, hsz1]; omega
end
/-- sum(rows, []) -/
def rSumL (K : Frg) : List V → Hp → VK → Prop := fun vs H Q => ∃ (l c : Addr) (bs : List Addr) (xss : List (List V)), vs = [.ref l, .ref c] ∧ H l = some (.lst (bs.map V.ref)) ∧ H c = some (.lst []) ∧ Paired (fun b xs => H b = some (.lst xs)) bs xss ∧ xss.flatten.length ≤ sizeLine ∧
  (xss = [] → Q (.ref c) H) ∧ (xss ≠ [] → ∀ a, H a = none → Q (.ref a) (upd H a (.lst xss.flatten)))
theorem call_sumL {X : Cx} {K : Frg} (hK : X.K = K) (hc : X.calm = true) : CallR X (.builtin "sum") (rSumL K) := by
  intro pins s σ H vs us Q I r h
  obtain ⟨l, c, bs, xss, rfl, hl, hcc, hp, hz, q0, q1⟩ := h
  obtain ⟨ls, n, rl, el, _⟩ := I.lst hl
  obtain ⟨cs, nc, rc, ec, _⟩ := I.lst hcc
  have hcs : cs = [] := by cases rc; rfl
  subst hcs
  have hus : us = [.ref l, .ref c] := by
    cases r with
    | cons h1 t1 => cases t1 with
      | cons h2 t2 => cases t2; cases h1; cases h2; rfl
  subst hus
  have hlen : ls.length = xss.length := by
    have := rl.length
    rw [List.length_map, pr_len hp] at this; exact this.symm
  -- each row's values
  have hall : ∀ (j : Nat) b, bs[j]? = some b → ∃ vs nb, s.heap.get? b = some { cls := .type "list", data := .seq vs.toArray nb } ∧ ∃ xs, xss[j]? = some xs ∧ Vals xs vs := fun j b hb => by
    obtain ⟨xs, hxs, hr⟩ := pr_get hp hb
    obtain ⟨vs, nb, rv, ev, _⟩ := I.lst hr
    exact ⟨vs, nb, ev, xs, hxs, rv⟩
  have hrow : ∀ j : Nat, ∃ vs : List Value, ∀ b, bs[j]? = some b → ∃ nb, s.heap.get? b = some { cls := .type "list", data := .seq vs.toArray nb } ∧ ∃ xs, xss[j]? = some xs ∧ Vals xs vs := fun j => by
    cases hb : bs[j]? with
    | none => exact ⟨[], fun b q => by cases q⟩
    | some b =>
      obtain ⟨vs, nb, h1, h2⟩ := hall j b hb
      exact ⟨vs, fun b' q => by cases q; exact ⟨nb, h1, h2⟩⟩
  obtain ⟨rows, hrows⟩ : ∃ rows : Nat → List Value, ∀ j b, bs[j]? = some b → ∃ nb, s.heap.get? b = some { cls := .type "list", data := .seq (rows j).toArray nb } ∧ ∃ xs, xss[j]? = some xs ∧ Vals xs (rows j) := ⟨fun j => (hrow j).choose, fun j => (hrow j).choose_spec⟩
  have hbl := pr_len hp
  have hcat : ∀ (zs : List (List V)) (i : Nat), (∀ (j : Nat) z, zs[j]? = some z → Vals z (rows (i + j))) → Vals zs.flatten (catR rows i zs.length) := fun zs => by
    induction zs with
    | nil => intro i _; exact .nil
    | cons z zr ih =>
      intro i hz
      show Vals (z ++ zr.flatten) (rows i ++ catR rows (i + 1) zr.length)
      exact (hz 0 z rfl).append (ih (i + 1) (fun j y e => by rw [show i + 1 + j = i + (j + 1) by omega]; exact hz (j + 1) y e))
  have hv : Vals xss.flatten (catR rows 0 xss.length) := hcat xss 0 (fun j z e => by
    have hj := lt_of_get e
    obtain ⟨_, _, xs, h1, h2⟩ := hrows j bs[j] (List.getElem?_eq_getElem (by omega))
    rw [e] at h1; cases h1
    rw [Nat.zero_add]; exact h2)
  have hsz : ls.toArray.size = xss.length := by rw [List.size_toArray]; exact hlen
  refine sum_lists (I.ok.hd hc) ⟨_, el, rfl, n, rfl⟩ ec rows (fun j hj => ?_) ?_ (fun h' tk c' n' k1 k2 k3 k4 => ?_)
  · rw [hsz] at hj
    have hb : bs[j]? = some bs[j] := List.getElem?_eq_getElem (by omega)
    obtain ⟨nb, h1, _⟩ := hrows j _ hb
    obtain ⟨u, hu, ru⟩ := rl.get (i := j) (x := .ref bs[j]) (by rw [List.getElem?_map, hb]; rfl)
    cases ru
    exact ⟨bs[j], nb, by simpa using hu, h1⟩
  · rw [hsz, ← hv.length]; exact hz
  · rw [hsz] at k2 k3 k4
    cases hx : xss with
    | nil =>
      subst hx
      have := k3 rfl
      subst this
      exact ⟨.ref c', H, I.kept k1, rfl, q0 rfl⟩
    | cons z zr =>
      have hne : xss ≠ [] := by rw [hx]; simp
      have hle := k4 (by rw [hx]; simp)
      exact ⟨.ref c', _, I.laid (t' := tk) (o := .lst xss.flatten) k1 hle ⟨hz, _, n', hv, k2⟩, rfl, q1 hne c' (I.hok.fresh hle)⟩
end Dr

/-! Defs that are called where no repr is under way; repr of pairs. -/
namespace Dr
open PySem PySem.Spec PyProof.Rows L2
/-- a def's promise, given where nothing is guarded -/
structure FnG (P : Program) (w : World) (K : Frg) (mg : Str → Option Value) (base : Heap) (k : Nat) (f : Addr) (fd : FuncData) (ps : List Str) (sp : Sp) : Prop where
  arity : ∀ vs H Q E, sp vs H Q E → vs.length = ps.length
  go : ∀ (B : Around) (out : List Env) (t : Shared) (H : Hp) (args : Args) (us : List Value) (vs : List V) (Q : VK) (E : XK), B.guards = some [] → Room k B →
    Env0 P w K mg base B out t H → BindsTo t fd args (ps.zip us) → Vals vs us → sp vs H Q E →
    codeAny (model P w) B (.call (.ref f) args) (CR CX0 out P w H t Q E) t
/-- what a body has to show there -/
abbrev BodyG (P : Program) (w : World) (K : Frg) (mg : Str → Option Value) (base : Heap) (N : List Str) (qual : Str) (st : Stmt) (f : Addr) (k : Nat) (sp : Sp) : Prop :=
  ∀ (cv : Value) (B : Around) (out : List Env) (t : Shared) (H : Hp) (vs : List V) (Q : VK) (E : XK), B.guards = some [] →
    Room k (B.deeper (envOfC qual (defScope st) t.heap.objs.size f cv)) → sp vs H Q E →
    ∃ ts, PSs (cxOf CX0 P w K mg base N qual (defScope st) f cv B out t H E).nox (defBody st) ts ∧ ts { nx := fun _ H' => Q .non H', rt := Q } (start N vs) H
theorem deeper_guards {B : Around} {e : Env} (h : B.guards = some []) : (B.deeper e).guards = some [] := h
theorem fnG_by {P : Program} {w : World} {K : Frg} {mg : Str → Option Value} {base : Heap} {x qual : Str} {st : Stmt} {f : Addr} {fd : FuncData} {N ps : List Str} {k : Nat} {sp : Sp}
    (F : FunD K x qual (defArgs st) (defBody st) (defScope st) [] [] f fd) (S : FnScope N ps (defScope st)) (len : ∀ vs H Q E, sp vs H Q E → vs.length = ps.length) (hb : BodyG P w K mg base N qual st f k sp) :
    FnG P w K mg base (k + 1) f fd ps sp := by
  obtain ⟨co, oo, dV, kV, dc, pm, an, cv, ct, sl, rfl, look, hcode, _, _⟩ := F.ex
  refine ⟨len, fun B out t H args us vs Q E hgd room env binds rel hsp => ?_⟩
  have hlen := len vs H Q E hsp
  have KIn : K.In t.heap := env.mod.kin.keeps fun a u q => (env.bs a u q).1
  have noLim : t.heap.NoLimit := env.mod.nolimit.keeps fun a u q => (env.bs a u q).1
  have kinds : ∀ z ∈ ps.zip us, (defScope st).names.lookup z.1 = some .local ∨ ((defScope st).names.lookup z.1 = some .cell ∧
      ((cellsFrom (t.heap.objs.size + 1) (defScope st).names []).lookup z.1).isSome = true) := by
    rintro ⟨nm, u⟩ hz
    rcases S.par nm (List.of_mem_zip hz).1 with q | q
    · exact Or.inl q
    · exact Or.inr ⟨q, PySem.W.cellsFrom_some _ _ _ (Or.inl q)⟩
  refine codeAny_call_function room.depth (KIn _ _ look) rfl S.co S.gen rfl
    (PySem.W.codeRec_of KIn hcode) (binds _ _ _ _ ?_)
  refine wpAny_newFunctionEnv_cells S.kind kinds fun ev hev t1 ic => ?_
  subst hev
  refine ⟨noLim.keeps ic.toInCall.keep, codeAny_func ?_⟩
  obtain ⟨ts, h1, h2⟩ := hb cv B out t H vs Q E hgd (room.deeper _) hsp
  have J0 : Inv (cxOf CX0 P w K mg base N qual (defScope st) f cv B out t H E) [] (start N vs) H t1 :=
    inv_start S room.hd env hlen rel ic
  refine wpAny_mono (h1.nox.run [] t1 (start N vs) H _ J0 h2) (fun r t2 hr => ?_) fun _ _ z => z
  have done : ∀ {σ' : L2.St} {H' : Hp} {v : V} {u : Value}, Inv (cxOf CX0 P w K mg base N qual (defScope st) f cv B out t H E) [] σ' H' t2 →
      RelV v u → Q v H' → CE out P w H t Q u t2 := fun {σ' H' v u} J rv q => ⟨v, H', J.os, J.bare, J.base, J.hok, rv, q⟩
  cases r with
  | next =>
    obtain ⟨σ', H', J, q⟩ := hr
    exact done (v := V.non) (u := Value.none) J rfl q
  | ret u =>
    obtain ⟨v, σ', H', J, rv, q⟩ := hr
    exact done J rv q
  | brk => obtain ⟨_, _, _, q⟩ := hr; exact q.elim
  | cont => obtain ⟨_, _, _, q⟩ := hr; exact q.elim
/-- a def of the module, called where nothing is guarded -/
structure CalG (P : Program) (w : World) (K : Frg) (mg : Str → Option Value) (base : Heap) (k : Nat) (x : Str) (sp : Sp) : Prop where
  ex : ∃ (f : Addr) (fd : FuncData) (ps : List Str), FnG P w K mg base k f fd ps sp ∧ mg x = some (.ref f) ∧ PySem.W.keepIn K (.ref f) = true ∧ Binds K fd ps []
section
variable {X : Cx} {k j : Nat} {x : Str} {sp : Sp} {p pos : Pos} {e : Expr} {es : List Expr} {t : TA}
theorem peG_c (c : CalG X.prog X.w X.K X.mg X.base k x sp) (hgd : X.A.guards = some []) (hr : Room j X.A) (hk : k ≤ j) (hg : Gl X x) (ha : PA X (e :: es) t)
    (hdb : (x == ("__debug__" : Str)) = false := by decide) (he : starEach (e :: es) X.env = (false, eval e X.env) :: starEach es X.env := by rfl)
    (hpl : (backTo pos (starEach es X.env)).any (·.1) = false := by rfl) :
    PE X (.Call (.Name x p) (e :: es) [] pos) (tCall sp [] C8.E0 t) := by
  obtain ⟨f, fd, ps, F, hm, kp, bn⟩ := c.ex
  refine ⟨fun pins t0 σ H Q I h => ?_⟩
  refine wpAny_Call_Name_kw (ld_glob I hg hm ?_ hdb)
  refine PySem.W.callWith_K (h₀ := X.base) I.ok.mod.kin kp
    (thn (ha.run pos pins t0 σ H _ I h) fun us t1 ⟨vs, H1, I1, rv, q⟩ => ⟨I1.kIn, ?_⟩) he hpl
  have rv2 : Vals (vs ++ []) (us ++ []) := rv.append .nil
  have hl : (us ++ []).length = ps.length := by rw [← rv2.length]; exact F.arity _ _ _ _ q
  refine wpAny_call (codeAny_mono (F.go X.A X.stack t1 H1 ⟨us, []⟩ (us ++ []) (vs ++ []) Q C8.E0 hgd (hr.mono hk) I1.env0 (bn t1 us I1.kIn hl) rv2 q) fun r t2 hq => ?_)
  cases r with
  | error z => exact pass0 pins σ H1 t1 z t2 I1 hq
  | ok fl =>
    cases fl with
    | ret u => exact I1.after hq
    | next => exact hq.elim
    | brk => exact hq.elim
    | cont => exact hq.elim
end
/-! ### repr of pairs -/
def dP (ps : List (Nat × Nat)) : PyData := .list (ps.map fun q => .tuple [.int (q.1 : Int), .int (q.2 : Int)])
theorem dp_pairs {K : Frg} {H : Hp} : ∀ {vs : List V} {ps : List (Nat × Nat)}, Paired (IsPair H) vs ps → DpAll K H vs (ps.map fun q => PyData.tuple [.int (q.1 : Int), .int (q.2 : Int)])
  | [], [], _ => .nil
  | _ :: _, _ :: _, .cons ⟨b, e, h⟩ t => by
    subst e
    exact .cons (.tup (SqT.of h) (.cons (.int _) (.cons (.int _) .nil))) (dp_pairs t)
theorem dp_pl {K : Frg} {H : Hp} {a : Addr} {ps : List (Nat × Nat)} (h : PL H a ps) : Dp K H (.ref a) (dP ps) := by
  obtain ⟨vs, h1, h2⟩ := h
  exact .lst (SqL.of h1) (dp_pairs h2)
theorem dP_show : ∀ ps : List (Nat × Nat), (∀ q ∈ ps, q.1 < 100 ∧ q.2 < 100) → PyData.showableAll (ps.map fun q => PyData.tuple [.int (q.1 : Int), .int (q.2 : Int)]) = true
  | [], _ => by simp [PyData.showableAll]
  | q :: r, h => by
    obtain ⟨h1, h2⟩ := h q (by simp)
    have lg : ∀ n : Nat, n < 100 → PyData.showable (.int (n : Int)) = true := fun n hn => by
      have : n.log2 < 1920 := Nat.lt_of_le_of_lt (Nat.log2_le_self n) (by omega)
      simp only [PyData.showable, Int.natAbs_natCast, decide_eq_true_eq]; exact this
    simp only [List.map_cons, PyData.showableAll, PyData.showable, dP_show r (fun z hz => h z (by simp [hz])), Bool.and_true]
    have g1 := lg _ h1
    have g2 := lg _ h2
    simp only [PyData.showable] at g1 g2
    rw [g1, g2]; rfl
theorem dP_nodict : ∀ ps : List (Nat × Nat), PyData.hasDictAll (ps.map fun q => PyData.tuple [.int (q.1 : Int), .int (q.2 : Int)]) = false
  | [] => by simp [PyData.hasDictAll]
  | q :: r => by simp [PyData.hasDictAll, PyData.hasDict, dP_nodict r]
theorem dP_depth : ∀ ps : List (Nat × Nat), PyData.depthAll (ps.map fun q => PyData.tuple [.int (q.1 : Int), .int (q.2 : Int)]) ≤ 3
  | [] => by simp [PyData.depthAll]
  | q :: r => by
    have := dP_depth r
    simp only [List.map_cons, PyData.depthAll, PyData.depth]
    omega
theorem int_short : ∀ n : Nat, n < 100 → (PyData.shown (.int (n : Int))).length ≤ 2 := by
  have h : ((List.range 100).all fun n => decide ((PyData.shown (.int (n : Int))).length ≤ 2)) = true := by decide +kernel
  intro n hn
  exact of_decide_eq_true (List.all_eq_true.mp h n (List.mem_range.mpr hn))
theorem dP_len (ps : List (Nat × Nat)) (h : ∀ q ∈ ps, q.1 < 100 ∧ q.2 < 100) (hl : ps.length ≤ 2000) : (dP ps).shown.length ≤ sizeLine := by
  have h1 : ∀ ps : List (Nat × Nat), (∀ q ∈ ps, q.1 < 100 ∧ q.2 < 100) → ((PyData.shownAll (ps.map fun q => PyData.tuple [.int (q.1 : Int), .int (q.2 : Int)])).map (·.length)).sum ≤ 11 * ps.length ∧ (PyData.shownAll (ps.map fun q => PyData.tuple [.int (q.1 : Int), .int (q.2 : Int)])).length = ps.length := by
    intro ps
    induction ps with
    | nil => intro _; simp [PyData.shownAll]
    | cons q r ih =>
      intro h
      obtain ⟨a, b⟩ := ih (fun z hz => h z (by simp [hz]))
      obtain ⟨h1, h2⟩ := h q (by simp)
      have e1 := int_short _ h1
      have e2 := int_short _ h2
      have e3 := tupleText_len_le (PyData.shownAll [.int (q.1 : Int), .int (q.2 : Int)])
      have e4 : (PyData.shown (.tuple [.int (q.1 : Int), .int (q.2 : Int)])) = tupleText (PyData.shownAll [.int (q.1 : Int), .int (q.2 : Int)]) := by simp [PyData.shown]
      simp only [PyData.shownAll, List.map_cons, List.map_nil, List.sum_cons, List.sum_nil, List.length_cons, List.length_nil] at e3
      simp only [List.map_cons, PyData.shownAll, List.sum_cons, List.length_cons]
      rw [e4]
      simp only [PyData.shownAll] at e3 ⊢
      omega
  obtain ⟨a, b⟩ := h1 ps h
  have e := listText_len_le (PyData.shownAll (ps.map fun q => PyData.tuple [.int (q.1 : Int), .int (q.2 : Int)]))
  have e2 : (dP ps).shown = listText (PyData.shownAll (ps.map fun q => PyData.tuple [.int (q.1 : Int), .int (q.2 : Int)])) := by unfold dP; simp [PyData.shown]
  rw [e2]
  exact Nat.le_trans e (Nat.le_trans (show _ ≤ 30000 by omega) (by decide))
def rReprP (K : Frg) : List V → Hp → VK → Prop := fun vs H Q => ∃ (a : Addr) (ps : List (Nat × Nat)), vs = [.ref a] ∧ PL H a ps ∧ ps.length ≤ 2000 ∧ (∀ q ∈ ps, q.1 < 100 ∧ q.2 < 100) ∧ Q (.str (dP ps).shown) H
theorem call_reprP {X : Cx} (hgd : X.A.guards = some []) (hu : X.A.units + 64 < cLine) (K : Frg) : CallR X (.builtin "repr") (rReprP K) := by
  intro pins s σ H vs us Q I r h
  obtain ⟨a, ps, rfl, hp, hl, hlt, q⟩ := h
  obtain ⟨vs0, h1, h2⟩ := hp
  rw [Vals.ref1 r]
  obtain ⟨as, rd⟩ := Dp.reads I (dP ps) (.ref a) (.ref a) (dp_pl ⟨vs0, h1, h2⟩) rfl
  have hd := dP_depth ps
  have hdd : (dP ps).depth ≤ 5 := by unfold dP; simp only [PyData.depth]; omega
  refine repr_of_reads' rd (by unfold dP; simp only [PyData.showable]; exact dP_show ps hlt) (fun z => by unfold dP at z; simp only [PyData.hasDict] at z; rw [dP_nodict] at z; cases z) hgd (by omega) (fun _ _ e => e) (fun h' u tk hk => ⟨.str (dP ps).shown, H, I.kept hk, ⟨_, rfl⟩, q⟩) (dP_len ps hlt hl)
/-- the script stays -/
theorem sqL_up {K : Frg} {H H' : Hp} {a : Addr} {xs : List V} (h : SqL K H a xs) (e : ∀ o, H a = some o → H' a = some o) : SqL K H' a xs := by
  rcases h with (h | ⟨o, h⟩) | h
  · exact .inl (.inl (e _ h))
  · exact .inl (.inr ⟨o, e _ h⟩)
  · exact .inr h
theorem Str3.keep {H H' : Hp} {a b : Addr} (h : Str3 H a) (e : ExB [b] H H') (n : a ≠ b) : Str3 H' a := by
  obtain ⟨g, c, z, q⟩ := h
  exact ⟨g, c, z, e.one q n⟩
theorem z_sumL {K : Frg} {H : Hp} {Q : VK} {l c : Addr} {bs : List Addr} {xss : List (List Nat)} (h1 : H l = some (.lst (bs.map V.ref))) (h2 : H c = some (.lst [])) (h3 : Paired (fun b xs => H b = some (.lst (nv xs))) bs xss) (hl : xss.flatten.length ≤ 90000)
    (k : ∀ a H', ExB [] H H' → H' a = some (.lst (nv xss.flatten)) → Q (.ref a) H') : rSumL K [.ref l, .ref c] H Q := by
  have e : (xss.map nv).flatten = nv xss.flatten := by
    unfold nv
    rw [List.map_flatten]
  refine ⟨l, c, bs, xss.map nv, rfl, h1, h2, ?_, by rw [e, nv_length]; exact size_ok (by omega), fun q => ?_, fun _ a ha => ?_⟩
  · refine pr_of (by rw [List.length_map, pr_len h3]) fun i b xs hb hxs => ?_
    obtain ⟨ys, hy, hr⟩ := pr_get h3 hb
    rw [List.getElem?_map, hy] at hxs
    cases hxs
    exact hr
  · have : xss = [] := List.map_eq_nil_iff.mp q
    subst this
    exact k c H ExB.refl h2
  · rw [e]
    exact k a _ (ExB.new ha) upd_same
theorem TabB.tab {H : Hp} {a : Addr} {bs : List Addr} {n : Nat} {T : Rel2} (h : TabB H a bs n T) : Tab H a n T := ⟨bs, h⟩
end Dr

/-! The end: the law called by the claim, where nothing is guarded. -/
namespace Dr
open PySem PySem.Spec PyProof.Rows L2
section
variable {P : Program} {w : World} {K : Frg} {mg mb : Str → Option Value} {k : Nat} {fa a : Addr} {fd : FuncData} {x : Str} {sp : Sp} {t : Shared} {us : List Value} {zs : List Int}
/-- what the claim asks of the call's outcome -/
abbrev Out (t : Shared) (r : Result) (t' : Shared) : Prop := r = .ok (.ret (.bool true)) ∧ OldK t.heap t'.heap ∧ t'.os = t.os ∧ AllBare t'.gens
/-- from a heap in which at most the script is tracked -/
theorem law_from {H : Hp} (KIn : K.In t.heap) (gl : t.heap.Ns mainGlobals mg) (bi : t.heap.Ns builtinsNs mb) (bb : ∀ y : Str, y ≠ "__name__" → mb y = bootBuiltins y) (nol : t.heap.NoLimit) (gens : t.gens = #[])
    (scr : t.heap.get? a = some { cls := .type "list", data := .seq us.toArray }) (room : Room k callerA)
    (F : ∀ base : Heap, K.In base → base.Ns mainGlobals mg → FnG P w K mg base k fa fd [x] sp) (bind : ∀ (t : Shared) (u : Value), BindsTo t fd ⟨[u], []⟩ [(x, u)])
    (only : Only H) (pr : sp [.ref a] H (fun v _ => v = .bl true) fun _ _ _ => False) (ok0 : HOk P w H t.heap) (one : ∀ b, H b ≠ none → b = a) (own : H a ≠ none → K.lookup a = none) :
    codeAny (model P w) callerA (.call (.ref fa) ⟨[.ref a], []⟩) (Out t) t := by
  have see : ∀ {b : Addr} {u : Obj}, t.heap.get? b = some u → H b = none → (hidT t.heap H).get? b = some u := fun q n => hidT_get q n
  have free : ∀ {b : Addr} {u : Obj} {es : Array DictEntry} {ep : Nat}, t.heap.get? b = some u → u.data = .dict es ep → H b = none := by
    intro b u es ep q dq
    cases hb : H b with
    | none => rfl
    | some z =>
      have eb : b = a := one b (by rw [hb]; simp)
      rw [eb, scr] at q
      cases q
      cases (show Data.seq us.toArray _ = Data.dict es ep from dq)
  have names : ∀ {b : Addr} {m : Str → Option Value}, t.heap.Ns b m → (hidT t.heap H).Ns b m := by
    rintro b m ⟨u, es, ep, q, dq, rest⟩
    exact ⟨u, es, ep, see q (free q dq), dq, rest⟩
  have KB : K.In (hidT t.heap H) := by
    intro b u q
    refine see (KIn b u q) ?_
    cases hb : H b with
    | none => rfl
    | some z =>
      have eb : b = a := one b (by rw [hb]; simp)
      subst eb
      rw [own (by rw [hb]; simp)] at q
      cases q
  obtain ⟨mc, l1, l2⟩ := nol
  have md : Mod K mg (hidT t.heap H) := ⟨KB, names gl, ⟨mb, names bi, bb⟩, ⟨mc, names l1, l2⟩⟩
  have env : Env0 P w K mg (hidT t.heap H) callerA [] t H := by
    refine ⟨rfl, md, fun b u q => of_hidT q, Nat.le_of_eq (hidT_size _ _), trivial, fun b hb => ?_, ok0, .of_eq gens⟩
    exact absurd (show b ∈ ([] : List Addr) from hb) (by simp)
  have run := (F _ KB (names gl)).go callerA [] t H ⟨[.ref a], []⟩ [.ref a] [.ref a] _ _ rfl room env (bind t (.ref a)) (.cons rfl .nil) pr
  refine codeAny_mono run fun r t' hr => ?_
  match r, hr with
  | .error _, hr => exact hr.elim
  | .ok .next, hr => exact hr.elim
  | .ok .brk, hr => exact hr.elim
  | .ok .cont, hr => exact hr.elim
  | .ok (.ret u), hr =>
    obtain ⟨v, H', os, bare, un, ok1, rv, q⟩ := hr
    obtain rfl : v = .bl true := q
    obtain rfl : u = Value.bool true := rv
    refine ⟨rfl, OldK.of_keep fun b o e => ?_, os, bare⟩
    rcases only b with z | ⟨ob, xs, z⟩
    · exact un.keep b o e z (fun y => absurd (show b ∈ ([] : List Addr) from y) (by simp)) (by simp)
    · obtain ⟨q1, _⟩ := ok0 b _ z
      obtain ⟨q2, _⟩ := ok1 b _ (un.frzs b ob _ z)
      rw [e] at q1
      cases q1
      exact q2
theorem law_run (KIn : K.In t.heap) (gl : t.heap.Ns mainGlobals mg) (bi : t.heap.Ns builtinsNs mb) (bb : ∀ y : Str, y ≠ "__name__" → mb y = bootBuiltins y) (nol : t.heap.NoLimit) (gens : t.gens = #[])
    (scr : t.heap.get? a = some { cls := .type "list", data := .seq us.toArray }) (hi : IntsAre us zs) (hl : zs.length ≤ sizeLine) (room : Room k callerA)
    (F : ∀ base : Heap, K.In base → base.Ns mainGlobals mg → FnG P w K mg base k fa fd [x] sp) (bind : ∀ (t : Shared) (u : Value), BindsTo t fd ⟨[u], []⟩ [(x, u)])
    (pr : ∀ H : Hp, SqL K H a (zs.map V.int) → sp [.ref a] H (fun v _ => v = .bl true) fun _ _ _ => False) :
    codeAny (model P w) callerA (.call (.ref fa) ⟨[.ref a], []⟩) (Out t) t := by
  have rel := vals_ints hi
  have lu := hi.length
  cases hk : K.lookup a with
  | some o =>
    have e := KIn a o hk
    rw [scr] at e
    cases e
    have sq : SqL K (fun _ => none) a (zs.map V.int) := .inr ⟨_, us.toArray, _, hk, rfl, rfl, rfl, by rw [List.size_toArray, lu]; exact hl, by simpa using rel⟩
    refine law_from (H := fun _ => none) KIn gl bi bb nol gens scr room F bind (fun _ => .inl rfl) (pr _ sq) (fun b u z => ?_) (fun b z => absurd rfl z) (fun z => absurd rfl z)
    exact absurd (show (none : Option HO) = some u from z) (by simp)
  | none =>
    have at_ : (fun b => if b = a then some (HO.frz { cls := .type "list", data := .seq us.toArray } (.lst (zs.map V.int))) else none) a = some (HO.frz { cls := .type "list", data := .seq us.toArray } (.lst (zs.map V.int))) := if_pos rfl
    have off : ∀ b, b ≠ a → (fun b => if b = a then some (HO.frz { cls := .type "list", data := .seq us.toArray } (.lst (zs.map V.int))) else none) b = none := fun b h => if_neg h
    generalize (fun b => if b = a then some (HO.frz { cls := .type "list", data := .seq us.toArray } (.lst (zs.map V.int))) else none) = H at at_ off
    refine law_from (H := H) KIn gl bi bb nol gens scr room F bind (fun b => ?_) (pr H (.inl (.inr ⟨_, at_⟩))) (fun b u z => ?_) (fun b z => ?_) (fun _ => hk)
    · by_cases h : b = a
      · subst h; exact .inr ⟨_, _, at_⟩
      · exact .inl (off b h)
    · by_cases h : b = a
      · subst h
        rw [at_] at z
        cases z
        exact ⟨scr, by rw [List.length_map]; exact hl, us, _, rel, scr⟩
      · rw [off b h] at z; cases z
    · by_cases h : b = a
      · exact h
      · exact absurd (off b h) z
end
/-- the head's last case, by such a promise -/
theorem walk_G {l : PySem.W.OpenLaw} {n k : Nat} {q : Program} {loose : List Str} {XP : (Str → Option Value) → Heap → Prop} {YP : World → Heap → Prop} {d : DefRec} {x : Str}
    (hn : l.most = some n) (hn2 : n ≤ sizeLine) (hdf : d.params.defaults = []) (room : Room k callerA)
    (F : ∀ (w : World) (mg : Str → Option Value) (fa : Addr) (h : Heap), YP w h → h.Ns mainGlobals mg → mg d.name = some (.ref fa) →
      ∃ (K : Frg) (fd : FuncData) (sp : Sp), K.In h ∧ (∀ (t : Shared) (u : Value), BindsTo t fd ⟨[u], []⟩ [(x, u)]) ∧
        (∀ (H : Hp) (a : Addr) (zs : List Int), zs.length ≤ n → SqL K H a (zs.map V.int) → sp [.ref a] H (fun v _ => v = .bl true) fun _ _ _ => False) ∧
        ∀ base : Heap, K.In base → base.Ns mainGlobals mg → FnG l.prog w K mg base k fa fd [x] sp) :
    PySem.W.WalkO q loose XP YP l.row.toRowW d [] (fun f vs => PySem.call f vs) := by
  refine Att.attach_call hn hdf fun w t₀ t mg mb fa o pm cd doc a us zs G Y ho hd hcd hm hobj hints hlen hgens => ?_
  obtain ⟨K, fd, sp, KIn, bind, pr, hF⟩ := F w mg fa _ Y G.T.g hm
  exact law_run KIn G.T.g G.T.b G.T.builtins G.T.nolimit hgens hobj hints (Nat.le_trans hlen hn2) room hF bind fun H hS => pr H a zs hlen hS
end Dr

namespace Dr
open PySem PySem.Spec PyProof.Rows L2
local macro_rules | `(tactic| walk_at "sz") => `(tactic| first | assumption | omega | (simp only [List.length_map, nv_length, List.length_range, List.length_append, List.length_cons, List.length_nil, List.length_replicate]; omega))
local macro_rules | `(tactic| walk_at "lk") => `(tactic| first | assumption | (with_reducible exact lO_size) | (with_reducible exact lO_up) | (with_reducible exact lO_down) | (with_reducible exact lO_pairs) | (with_reducible exact nO_below) | (with_reducible exact nO_apart) | (with_reducible exact nO_pairs) | (with_reducible exact lF_nodes) | (with_reducible exact lF_tails) | (with_reducible exact lF_heads) | (with_reducible exact lF_rooms) | (with_reducible exact lF_gains) | (with_reducible exact nF_add_arc) | (with_reducible exact nF_flows) | (with_reducible exact nF_head) | (with_reducible exact nF_arcs_from) | (with_reducible exact nF_gains_from) | (with_reducible exact nF_push) | (with_reducible exact lC_order) | (with_reducible exact lC_flow) | (with_reducible exact lC_gaining) | (with_reducible exact lC_units) | (with_reducible exact nC_next_gain) | (with_reducible exact nC_add_unit) | (with_reducible exact nC_chains) | (with_reducible exact nC_prices) | (with_reducible exact nC_sets) | exact rfl)
local macro_rules | `(tactic| walk_at "cl") => `(tactic| first | exact Tx.clF (by assumption) | exact Tx.clO (by assumption) | exact Tx.clC (by assumption))
local macro_rules | `(tactic| walk_at "na") => `(tactic| first | exact Tx.na_nodes (by assumption) | exact Tx.na_tails (by assumption) | exact Tx.na_heads (by assumption) | exact Tx.na_rooms (by assumption) | exact Tx.na_gains (by assumption) | exact Tx.na_size (by assumption) | exact Tx.na_up (by assumption) | exact Tx.na_down (by assumption) | exact Tx.na_pairs (by assumption) | exact Tx.na_order (by assumption) | exact Tx.na_flow (by assumption) | exact Tx.na_gaining (by assumption) | exact Tx.na_units (by assumption))
local macro_rules | `(tactic| walk_at "hp") => `(tactic| first | assumption | exact upd_same | ((with_reducible refine upd_none (by assumption) ?_); walk_at "hp") | (with_reducible refine Eq.trans (upd_ne (by first | assumption | (apply Ne.symm; assumption))) ?_; walk_at "hp"))
local macro_rules | `(tactic| walk_at "g") => `(tactic| first
  | with_reducible refine z_seq ?_ | with_reducible refine z_asg ?_ | with_reducible refine z_op ?_ | with_reducible refine z_c ?_
  | ((with_reducible refine z_var (v := ?zv) ?zh ?_); (case zh => exact rfl))
  | ((with_reducible refine z_gname ?_); (try simp only [List.set_cons_zero, List.set_cons_succ]))
  | with_reducible refine z_I0 ?_ | with_reducible refine z_eqI ?_ | with_reducible refine z_neI ?_ | with_reducible refine z_eqS ?_ | with_reducible refine z_eqB ?_ | with_reducible refine z_U ?_ | with_reducible refine z_un ?_
  | ((with_reducible refine z_I ?zh ?_); (case zh => first | assumption | exact ⟨by decide, by decide⟩ | exact Or.inr ⟨by decide, by decide⟩ | exact Or.inl ⟨by decide, by decide⟩ | (simp only []; decide) | (unfold CMul; omega) | (unfold CDiv; omega) | (unfold CPow; omega) | omega))
  | with_reducible refine z_test ?_ | with_reducible refine z_B ?_ | with_reducible refine z_bl ?_ | with_reducible refine z_and ?_ | with_reducible refine z_or ?_ | with_reducible refine z_not ?_
  | with_reducible refine z_andV ?_ | with_reducible refine z_orV ?_ | with_reducible refine z_notV ?_ | with_reducible refine z_chain ?_
  | with_reducible refine z_next ?_ | with_reducible refine z_cont ?_ | with_reducible refine z_ret ?_ | with_reducible refine z_retN ?_ | with_reducible refine z_drop ?_ | with_reducible refine z_ifS ?_
  | ((with_reducible refine z_aug (x := ?zv) ?zh ?_); (case zh => exact rfl)) | with_reducible refine z_ipI ?_ | with_reducible refine z_gsub ?_
  | with_reducible refine z_nil ?_ | with_reducible refine z_cons ?_ | with_reducible refine z_call ?_ | with_reducible refine z_cb ?_ | with_reducible refine z_bm ?_ | with_reducible refine z_bm0 ?_
  | ((with_reducible refine z_tyL (xs := ?zv) ?zh ?_); (case zh => walk_at "hp")) | with_reducible refine z_lst ?_ | with_reducible refine z_tup ?_
  | ((with_reducible refine z_ixL (xs := ?zv) (v := ?zw) ?zh ?zi ?_); (case zh => walk_at "hp"); (case zi => first | assumption | exact rfl | exact at_nv (by assumption) | exact at_nat (by assumption) | exact atI_last _ _))
  | ((with_reducible refine z_ixT (xs := ?zv) (v := ?zw) ?zh ?zi ?_); (case zh => walk_at "hp"); (case zi => first | assumption | exact rfl))
  | ((with_reducible refine z_len (xs := ?zv) ?zh ?_); (case zh => walk_at "hp")) | ((with_reducible refine z_lenT (xs := ?zv) ?zh ?_); (case zh => walk_at "hp"))
  | with_reducible refine z_min2 ?_ | with_reducible refine z_max2 ?_ | with_reducible refine z_noneI ?_ | with_reducible refine z_noneN ?_ | with_reducible refine z_yes ?_ | with_reducible refine z_fld ?_ | with_reducible refine z_sfld ?_ | with_reducible refine z_meth ?_ | with_reducible refine z_make ?_ | with_reducible refine z_prop ?_
  | with_reducible refine z_sl ?_ | with_reducible refine z_noPart ?_ | with_reducible refine z_part ?_ | with_reducible refine z_pint ?_ | with_reducible refine z_for ?_ | with_reducible refine z_lc ?_
  | with_reducible refine z_iList ?_ | with_reducible refine z_iTup ?_ | with_reducible refine z_iR1 ?_ | with_reducible refine z_iR2 ?_ | with_reducible refine z_iR3 ?_ | with_reducible refine z_iEn ?_
  | ((with_reducible refine z_kL (xs := ?zv) ?zh ?_); (case zh => walk_at "hp")) | ((with_reducible refine z_kT (xs := ?zv) ?zh ?_); (case zh => walk_at "hp")) | ((with_reducible refine z_kEn (xs := ?zv) ?zh ?_); (case zh => walk_at "hp"))
  | ((with_reducible refine z_kR1n ?zh ?_); (case zh => walk_at "sz")) | ((with_reducible refine z_kR1 ?zh ?_); (case zh => walk_at "sz")) | ((with_reducible refine z_kR2 ?zh ?_); (case zh => walk_at "sz"))
  | ((with_reducible refine z_kfld (fs := ?zv) (v := ?zw) (C := ?zx) (dx := ?zy) ?zh ?zl ?zc ?zn ?_); (case zh => walk_at "hp"); (case zl => walk_at "lk"); (case zc => walk_at "cl"); (case zn => walk_at "na"))
  | ((with_reducible refine z_ksto (fs := ?zv) (C := ?zx) (dx := ?zy) ?zh ?zc ?zn ?zl ?_); (case zh => walk_at "hp"); (case zc => walk_at "cl"); (case zn => walk_at "na"); (case zl => first | (simp; done) | exact lt_putF (k := 999) (by simp) | exact lt_putF (k := 999) (lt_putF (k := 998) (by simp)) | exact lt_putF (k := 999) (lt_putF (k := 998) (lt_putF (k := 997) (by simp))) | exact lt_putF (k := 999) (lt_putF (k := 998) (lt_putF (k := 997) (lt_putF (k := 996) (by simp))))))
  | ((with_reducible refine z_kmeth (fs := ?zv) (dx := ?zy) ?zh ?zl ?_); (case zh => walk_at "hp"); (case zl => walk_at "lk"))
  | ((with_reducible refine z_kprop (fs := ?zv) (dx := ?zy) (v := ?zw) ?zh ?zl ?_); (case zh => walk_at "hp"); (case zl => walk_at "lk"))
  | with_reducible refine z_isiII ?_ | with_reducible refine z_isiIB ?_ | with_reducible refine z_isiBB ?_ | ((with_reducible refine z_isiL (xs := ?zv) ?zh ?_); (case zh => walk_at "hp")) | ((with_reducible refine z_isiT (xs := ?zv) ?zh ?_); (case zh => walk_at "hp"))
  | ((with_reducible refine z_sum (ns := ?zv) ?zh ?_); (case zh => walk_at "hp")) | ((with_reducible refine z_all (bs := ?zv) ?zh ?_); (case zh => walk_at "hp")) | ((with_reducible refine z_any (bs := ?zv) ?zh ?_); (case zh => walk_at "hp"))
  | ((with_reducible refine z_listOf (xs := ?zv) ?zh ?_); (case zh => walk_at "hp")) | ((with_reducible refine z_tupOf (xs := ?zv) ?zh ?_); (case zh => walk_at "hp"))
  | with_reducible refine z_lc2 ?_ | with_reducible refine z_lstRg ?_ | with_reducible refine z_rg1 ?_ | with_reducible refine z_nT ?_ | with_reducible refine z_nF ?_ | ((with_reducible refine z_slL (xs := ?zv) ?zh ?_); (case zh => walk_at "hp")) | ((with_reducible refine z_gt2 (x := ?zv) (y := ?zw) ?zh ?_); (case zh => walk_at "hp")) | ((with_reducible refine z_gt3 (x := ?zv) (y := ?zw) (z := ?zx) ?zh ?_); (case zh => walk_at "hp")) | with_reducible refine z_kw ?_ | with_reducible refine z_tt ?_ | with_reducible refine z_wp rfl ?_ | ((with_reducible refine z_accU ?zl ?_); (case zl => walk_at "sz"))
  | with_reducible refine z_true ?_ | with_reducible refine z_truI ?_
  | with_reducible refine z_int1 ?_ | with_reducible refine z_intB ?_
  | with_reducible refine iteT ?_ | with_reducible refine iteF ?_
  | ((with_reducible refine z_setL (xs := ?zv) (n := ?zw) ?zh ?zi ?_); (case zh => walk_at "hp"); (case zi => first | exact rfl | assumption))
  | ((with_reducible refine z_app (xs := ?zv) ?zh ?zl ?_); (case zh => walk_at "hp"); (case zl => first | assumption | (refine size_lt ?_; walk_at "sz")))
  )
local macro_rules | `(tactic| walk_at "gg") => `(tactic| ((try dsimp only); repeat walk_at "g"))
local macro_rules | `(tactic| walk_at "wp") => `(tactic| simp only [wipe, List.map_cons, List.map_nil, List.set_cons_zero, List.set_cons_succ])
local macro_rules | `(tactic| walk_at "g") => `(tactic| first
  | with_reducible refine z_augS ?_ | with_reducible refine z_fldaug ?_ | with_reducible refine z_dnew ?_ | with_reducible refine z_dget ?_ | with_reducible refine z_dput ?_ | with_reducible refine z_daug ?_ | with_reducible refine z_iZip ?_
  | ((with_reducible refine z_kFa2 (fs := ?zv) (v := ?zw) (C := ?zx) (dx := ?zy) ?zh ?zc ?zn ?zl ?_); (case zh => walk_at "hp"); (case zl => walk_at "lk"); (case zc => walk_at "cl"); (case zn => walk_at "na"))
  | with_reducible refine z_iR3 ?_ | with_reducible refine z_truB ?_
  | ((with_reducible refine z_rsetL (xs := ?zv) (n := ?zw) ?zh ?zi ?_); (case zh => walk_at "hp"); (case zi => first | exact rfl | assumption))
  )
abbrev n_w_stream : List Str := ["_law_cell_here"]
theorem sc_w_stream : FnScope n_w_stream ["_law_cell_here"] (defScope s_w_stream) := ⟨rfl, rfl, rfl, by decide +kernel, rfl, by decide +kernel, by decide +kernel⟩
theorem ok_w_stream {P : Program} {w : World} {K : Frg} {mg : Str → Option Value} {base : Heap} (T : Tx K mg) : C8.Cal P w K mg base 1 "_law_stream" sp_w_stream [] := by
  obtain ⟨fd, F⟩ := T.d_w_stream
  have bd : Binds K fd ["_law_cell_here"] [] := F.bindsN fun _ _ _ _ _ _ us hl => match us, hl with | [_], _ => rfl
  refine cal_by F T.g_w_stream bd sc_w_stream ?_ ?_
  · intro vs H Q E h
    match vs, h with
    | [_], _ => rfl
  · intro cdv A outer s H vs Q E hr h
    match vs, h with
    | [a0], h =>
    refine ⟨_, (pss_cons (ps_if (pt_cmpR op_ge (pv 0) (pe_op op_pow pe_int pe_int) (nomark _)) (pss_one (ps_ret (pe_lst (pa_cons (pv 0) (pa_cons pe_int (pa_cons (pe_op op_mod (pe_callTy cr_int (by rfl) T.int_ (by decide +kernel) (pa_cons (pv 0) pa_nil)) pe_int) pa_nil)))))) pss_nil)
  (pss_one (ps_ret (pe_lst (pa_cons pe_int (pa_cons pe_int (pa_cons (pe_op op_mod (pe_callTy cr_int (by rfl) T.int_ (by decide +kernel) (pa_cons (pv 0) pa_nil)) pe_int) pa_nil))))))), ?_⟩
    rw [show start n_w_stream [a0] = [some a0] from rfl]
    obtain ⟨i, rfl, k⟩ := h
    walk_at "gg"
    refine z_if (fun hg => ?_) (fun hg => ?_)
    · walk_at "gg"
      refine ⟨size_ok (by simp), fun p hp => ?_⟩
      exact k p _ hp (ExB.new hp) ⟨_, _, _, upd_same⟩
    · walk_at "gg"
      refine ⟨size_ok (by simp), fun p hp => ?_⟩
      exact k p _ hp (ExB.new hp) ⟨_, _, _, upd_same⟩

abbrev n_w_cell : List Str := ["_law_script", "_law_k"]
theorem sc_w_cell : FnScope n_w_cell ["_law_script", "_law_k"] (defScope s_w_cell) := ⟨rfl, rfl, rfl, by decide +kernel, rfl, by decide +kernel, by decide +kernel⟩
theorem ok_w_cell {P : Program} {w : World} {K : Frg} {mg : Str → Option Value} {base : Heap} (T : Tx K mg) : C8.Cal P w K mg base 1 "_law_cell" (sp_w_cell K) [] := by
  obtain ⟨fd, F⟩ := T.d_w_cell
  have bd : Binds K fd ["_law_script", "_law_k"] [] := F.bindsN fun _ _ _ _ _ _ us hl => match us, hl with | [_, _], _ => rfl
  refine cal_by F T.g_w_cell bd sc_w_cell ?_ ?_
  · intro vs H Q E h
    match vs, h with
    | [_, _], _ => rfl
  · intro cdv A outer s H vs Q E hr h
    match vs, h with
    | [a0, a1], h =>
    refine ⟨_, (pss_cons (ps_if (pt_cmpR op_lt (pv 1) (pe_callB (k_len (K := K) rfl) (by rfl) T.len_ (by decide +kernel) (pa_cons (pv 0) pa_nil)) (nomark _)) (pss_one (ps_ret (pe_ix (ixl (K := K) rfl) (pv 0) (pv 1) (fun _ _ => rfl)))) pss_nil)
  (pss_one (ps_ret pe_int))), ?_⟩
    rw [show start n_w_cell [a0, a1] = [some a0, some a1] from rfl]
    obtain ⟨p, ns, i, rfl, rfl, h0, hS, k⟩ := h
    walk_at "gg"
    refine z_lenS hS ?_
    walk_at "gg"
    refine z_if (fun hg => ?_) (fun hg => ?_)
    · walk_at "gg"
      obtain ⟨m, rfl⟩ := Int.eq_ofNat_of_zero_le h0
      have hm : m < ns.length := by rw [List.length_map] at hg; omega
      exact ⟨p, _, _, .int (ns[m]), rfl, rfl, hS, at_nat (by rw [List.getElem?_map, List.getElem?_eq_getElem hm]; rfl), k _⟩
    · walk_at "gg"
      exact k 0

abbrev n_w_draw : List Str := ["_law_stream_here", "_law_many", "_law_mixed_here", "_law_digit"]
theorem sc_w_draw : FnScope n_w_draw ["_law_stream_here", "_law_many"] (defScope s_w_draw) := ⟨rfl, rfl, rfl, by decide +kernel, rfl, by decide +kernel, by decide +kernel⟩
theorem ok_w_draw {P : Program} {w : World} {K : Frg} {mg : Str → Option Value} {base : Heap} (T : Tx K mg) : C8.Cal P w K mg base 1 "_law_draw" sp_w_draw [] := by
  obtain ⟨fd, F⟩ := T.d_w_draw
  have bd : Binds K fd ["_law_stream_here", "_law_many"] [] := F.bindsN fun _ _ _ _ _ _ us hl => match us, hl with | [_, _], _ => rfl
  refine cal_by F T.g_w_draw bd sc_w_draw ?_ ?_
  · intro vs H Q E h
    match vs, h with
    | [_, _], _ => rfl
  · intro cdv A outer s H vs Q E hr h
    match vs, h with
    | [a0, a1], h =>
    refine ⟨_, (pss_cons (ps_if (pt_cmpR op_gt (pe_ix (ixl (K := K) rfl) (pv 0) pe_int (fun _ _ => rfl)) pe_int (nomark _)) (pss_cons (ps_set (i := 3) sc_w_draw.nd rfl (by first | exact Or.inl rfl | exact Or.inr rfl) (pe_op op_mod (pe_callTy cr_int (by rfl) T.int_ (by decide +kernel) (pa_cons (pe_ix (ixl (K := K) rfl) (pv 0) pe_int (fun _ _ => rfl)) pa_nil)) (pv 1)))
  (pss_cons (ps_asg (pe_op op_fdiv (pe_ix (ixl (K := K) rfl) (pv 0) pe_int (fun _ _ => rfl)) (pv 1)) (pg_sub (pv 0) pe_int set_list))
  (pss_one (ps_ret (pv 3))))) pss_nil)
  (pss_cons (ps_asg (pe_op op_add (pe_ix (ixl (K := K) rfl) (pv 0) pe_int (fun _ _ => rfl)) pe_int) (pg_sub (pv 0) pe_int set_list))
  (pss_cons (ps_set (i := 2) sc_w_draw.nd rfl (by first | exact Or.inl rfl | exact Or.inr rfl) (pe_op op_mod (pe_callTy cr_int (by rfl) T.int_ (by decide +kernel) (pa_cons (pe_op op_add (pe_op op_mul (pe_ix (ixl (K := K) rfl) (pv 0) pe_int (fun _ _ => rfl)) pe_int) (pe_op op_mul (pe_ix (ixl (K := K) rfl) (pv 0) pe_int (fun _ _ => rfl)) pe_int)) pa_nil)) pe_int))
  (pss_cons (ps_set (i := 2) sc_w_draw.nd rfl (by first | exact Or.inl rfl | exact Or.inr rfl) (pe_op op_mod (pe_callTy cr_int (by rfl) T.int_ (by decide +kernel) (pa_cons (pe_op op_add (pe_op op_add (pe_op op_mul (pv 2) (pv 2)) (pe_op op_mul (pe_ix (ixl (K := K) rfl) (pv 0) pe_int (fun _ _ => rfl)) pe_int)) (pe_op op_fdiv (pv 2) pe_int)) pa_nil)) pe_int))
  (pss_cons (ps_set (i := 2) sc_w_draw.nd rfl (by first | exact Or.inl rfl | exact Or.inr rfl) (pe_op op_mod (pe_callTy cr_int (by rfl) T.int_ (by decide +kernel) (pa_cons (pe_op op_add (pe_op op_mul (pv 2) pe_int) (pe_ix (ixl (K := K) rfl) (pv 0) pe_int (fun _ _ => rfl))) pa_nil)) pe_int))
  (pss_one (ps_ret (pe_op op_mod (pe_callTy cr_int (by rfl) T.int_ (by decide +kernel) (pa_cons (pe_op op_fdiv (pv 2) pe_int) pa_nil)) (pv 1))))))))), ?_⟩
    rw [show start n_w_draw [a0, a1] = [some a0, some a1, none, none] from rfl]
    obtain ⟨p, n, rfl, rfl, h0, h1, ⟨g, c, z, hs⟩, k⟩ := h
    walk_at "gg"
    refine z_if (fun hg => ?_) (fun hg => ?_)
    · walk_at "gg"
      exact k _ _ (Int.emod_nonneg _ (by omega)) (Int.emod_lt_of_pos _ h0) (ExB.mut (by simp)) ⟨_, _, _, upd_same⟩
    · walk_at "gg"
      exact k _ _ (Int.emod_nonneg _ (by omega)) (Int.emod_lt_of_pos _ h0) (ExB.mut (by simp)) ⟨_, _, _, upd_same⟩

abbrev n_w_by_ranks : List Str := ["_law_ranks", "_law_size", "_law_found", "_law_low", "_law_high"]
theorem sc_w_by_ranks : FnScope n_w_by_ranks ["_law_ranks"] (defScope s_w_by_ranks) := ⟨rfl, rfl, rfl, by decide +kernel, rfl, by decide +kernel, by decide +kernel⟩
theorem ok_w_by_ranks {P : Program} {w : World} {K : Frg} {mg : Str → Option Value} {base : Heap} (T : Tx K mg) : C8.Cal P w K mg base 1 "_law_by_ranks" sp_w_by_ranks [] := by
  obtain ⟨fd, F⟩ := T.d_w_by_ranks
  have bd : Binds K fd ["_law_ranks"] [] := F.bindsN fun _ _ _ _ _ _ us hl => match us, hl with | [_], _ => rfl
  refine cal_by F T.g_w_by_ranks bd sc_w_by_ranks ?_ ?_
  · intro vs H Q E h
    match vs, h with
    | [_], _ => rfl
  · intro cdv A outer s H vs Q E hr h
    match vs, h with
    | [a0], h =>
    refine ⟨_, (pss_cons (ps_set (i := 1) sc_w_by_ranks.nd rfl (by first | exact Or.inl rfl | exact Or.inr rfl) (pe_callB (k_len (K := K) rfl) (by rfl) T.len_ (by decide +kernel) (pa_cons (pv 0) pa_nil)))
  (pss_cons (ps_set (i := 2) sc_w_by_ranks.nd rfl (by first | exact Or.inl rfl | exact Or.inr rfl) (pe_lst pa_nil))
  (pss_cons (ps_for PassesOwn.never rfl (pi_range1 (by rfl) T.range_ (pa_cons (pv 1) pa_nil)) (pg_name (i := 3) sc_w_by_ranks.nd rfl (by first | exact Or.inl rfl | exact Or.inr rfl))
  (pss_one (ps_set (i := 2) sc_w_by_ranks.nd rfl (by first | exact Or.inl rfl | exact Or.inr rfl) (pe_op op_cat (pv 2) (pe_lc (own := [("_law_high", 4)]) (by rfl) sc_w_by_ranks.nd (pi_range1 (by rfl) T.range_ (pa_cons (pv 1) pa_nil)) (blkOk_by (own := [("_law_high", 4)]) (N := n_w_by_ranks) (sc := defScope s_w_by_ranks) (by decide +kernel)) (fun _ _ _ _ _ => (pg_name (i := 4) sc_w_by_ranks.nd rfl (by first | exact Or.inl rfl | exact Or.inr rfl))) (fun _ _ _ _ _ => pts_one (pt_cmpR op_lt (pe_ix (ixl (K := K) rfl) (pv 0) (pv 3) (fun _ _ => rfl)) (pe_ix (ixl (K := K) rfl) (pv 0) (pv 4) (fun _ _ => rfl)) (nomark _))) (fun _ _ _ _ _ => (pe_tup (pa_cons (pv 3) (pa_cons (pv 4) pa_nil)))))))))
  (pss_one (ps_ret (pv 2)))))), ?_⟩
    rw [show start n_w_by_ranks [a0] = [some a0, none, none, none, none] from rfl]
    obtain ⟨p, rs, rfl, hp, hlen, k⟩ := h
    have hn : rs.length ≤ 40 := hlen
    walk_at "gg"
    refine ⟨size_ok (by simp), fun f hf => ?_⟩
    have hp0 := upd_old (w := .lst []) hp hf
    walk_at "gg"
    rw [List.length_map]
    refine f_range0 (fun i σ H' => ∃ q vs v1 v2, σ = [some (.ref p), some (.int (rs.length : Nat)), some (.ref q), v1, v2] ∧ ExB [] H H' ∧ H q = none ∧ H' q = some (.lst vs) ∧ Paired (IsPair H') vs ((List.range i).flatMap fun i => ((List.range rs.length).filter ((fun i j => decide (rs.getD i 0 < rs.getD j 0)) i)).map fun j => (i, j)) ∧ vs.length ≤ i * 40) ⟨f, [], none, none, rfl, ExB.new hf, hf, upd_same, by simp; exact .nil, by simp⟩ ?_ ?_
    · rintro i σ H' hi ⟨q, vs, v1, v2, rfl, ex, hq, h1, h2, h3⟩
      walk_at "gg"
      intro A hA
      skip
      refine l_pairs0 ((fun i j => decide (rs.getD i 0 < rs.getD j 0)) i) (fun j => (i, j)) hA (by omega) (fun j acc H2 Nx hj ex2 hacc hlen hF hT => ?_) (fun H2 ex2 hPL => ?_)
      · have hp2 := (ex.trans ex2).nn hp
        have e1 : atI (rs.map V.int) (i : Int) = some (.int (rs.getD i 0)) := atI_nat (by rw [List.getElem?_map, List.getD_eq_getElem?_getD, List.getElem?_eq_getElem hi]; rfl)
        have e2 : atI (rs.map V.int) (j : Int) = some (.int (rs.getD j 0)) := atI_nat (by rw [List.getElem?_map, List.getD_eq_getElem?_getD, List.getElem?_eq_getElem hj]; rfl)
        walk_at "wp"
        walk_at "gg"
        refine z_if (fun hb => ?_) (fun hb => ?_)
        · walk_at "gg"
          refine ⟨size_ok (by simp), fun t ht => ?_⟩
          exact ⟨acc, upd_old hacc ht, size_lt (by omega), hT (decide_eq_true hb) t ht⟩
        · exact hF (decide_eq_false hb)
      · obtain ⟨ws, g1, g2⟩ := hPL
        have hvl := pr_len g2
        rw [List.length_map] at hvl
        have hwl : ws.length ≤ 40 := by rw [hvl]; exact Nat.le_trans (List.length_filter_le _ _) (by rw [List.length_range]; omega)
        have him : i * 40 ≤ 40 * 40 := Nat.mul_le_mul_right _ (by omega)
        refine z_cat (ex2.nn h1) g1 (size_ok (by omega)) fun c hc => ?_
        walk_at "gg"
        have hHc : H c = none := (ex.trans ex2).fresh hc (by simp)
        refine ⟨c, vs ++ ws, _, _, rfl, (ex.trans ex2).trans (ExB.new hc), hHc, upd_same, ?_, ?_⟩
        · rw [List.range_succ, List.flatMap_append]
          have := pr_mono (fun v q h => IsPair.mono h (ExB.new (o := .lst (vs ++ ws)) hc)) (pr_app (pr_mono (fun v q h => IsPair.mono h ex2) h2) g2)
          simpa using this
        · rw [List.length_append, Nat.succ_mul]; omega
    · rintro σ H' ⟨q, vs, v1, v2, rfl, ex, hq, h1, h2, h3⟩
      walk_at "gg"
      exact k q H' (pairsOf rs.length (fun i j => decide (rs.getD i 0 < rs.getD j 0))) (acy_pairsOf (r := fun i => rs.getD i 0) fun i j _ _ h => of_decide_eq_true h) (pairsOf_len hn) hq ex ⟨vs, h1, h2⟩

abbrev n_w_by_parents : List Str := ["_law_parents", "_law_k"]
theorem sc_w_by_parents : FnScope n_w_by_parents ["_law_parents"] (defScope s_w_by_parents) := ⟨rfl, rfl, rfl, by decide +kernel, rfl, by decide +kernel, by decide +kernel⟩
theorem ok_w_by_parents {P : Program} {w : World} {K : Frg} {mg : Str → Option Value} {base : Heap} (T : Tx K mg) : C8.Cal P w K mg base 1 "_law_by_parents" sp_w_by_parents [] := by
  obtain ⟨fd, F⟩ := T.d_w_by_parents
  have bd : Binds K fd ["_law_parents"] [] := F.bindsN fun _ _ _ _ _ _ us hl => match us, hl with | [_], _ => rfl
  refine cal_by F T.g_w_by_parents bd sc_w_by_parents ?_ ?_
  · intro vs H Q E h
    match vs, h with
    | [_], _ => rfl
  · intro cdv A outer s H vs Q E hr h
    match vs, h with
    | [a0], h =>
    refine ⟨_, (pss_one (ps_ret (pe_lc (own := [("_law_k", 1)]) (by rfl) sc_w_by_parents.nd (pi_range1 (by rfl) T.range_ (pa_cons (pe_callB (k_len (K := K) rfl) (by rfl) T.len_ (by decide +kernel) (pa_cons (pv 0) pa_nil)) pa_nil)) (blkOk_by (own := [("_law_k", 1)]) (N := n_w_by_parents) (sc := defScope s_w_by_parents) (by decide +kernel)) (fun _ _ _ _ _ => (pg_name (i := 1) sc_w_by_parents.nd rfl (by first | exact Or.inl rfl | exact Or.inr rfl))) (fun _ _ _ _ _ => pts_one (pt_cmpR op_noneN (pe_ix (ixl (K := K) rfl) (pv 0) (pv 1) (fun _ _ => rfl)) pe_non (nomark _))) (fun _ _ _ _ _ => (pe_tup (pa_cons (pe_ix (ixl (K := K) rfl) (pv 0) (pv 1) (fun _ _ => rfl)) (pa_cons (pv 1) pa_nil))))))), ?_⟩
    rw [show start n_w_by_parents [a0] = [some a0, none] from rfl]
    obtain ⟨p, ps, n, rfl, hp, ⟨hl, r, hr2⟩, hn, k⟩ := h
    walk_at "gg"
    intro D hD
    rw [List.length_map, hl]
    refine l_pairs0 (fun i => (ps.getD i none).isSome) (fun i => ((ps.getD i none).getD 0, i)) hD (by omega) (fun j acc H2 Nx hj ex2 hacc hlen hF hT => ?_) (fun H2 ex2 hPL => ?_)
    · have hp2 := ex2.nn hp
      have hg : ps[j]? = some (ps.getD j none) := by rw [List.getD_eq_getElem?_getD, List.getElem?_eq_getElem (by omega)]; rfl
      have e1 : atI (ps.map onv) (j : Int) = some (onv (ps.getD j none)) := atI_nat (by rw [List.getElem?_map, hg]; rfl)
      generalize hq : ps.getD j none = q at *
      walk_at "wp"
      walk_at "gg"
      cases q with
      | none =>
        rw [show decide (onv none = V.non) = true from rfl]
        walk_at "gg"
        exact hF rfl
      | some m =>
        rw [show decide (onv (some m) = V.non) = false from rfl]
        walk_at "gg"
        refine ⟨size_ok (by simp), fun t ht => ?_⟩
        exact ⟨acc, upd_old hacc ht, size_lt (by omega), hT rfl t ht⟩
    · refine k D H2 _ ⟨r, ?_⟩ ?_ hD ex2 hPL
      · rintro ⟨a, b⟩ hm
        obtain ⟨i, hi, e⟩ := List.mem_map.mp hm
        try dsimp only at e
        try dsimp only at hi
        rw [List.mem_filter] at hi
        have hin := List.mem_range.mp hi.1
        have hg : ps[i]? = some (ps.getD i none) := by rw [List.getD_eq_getElem?_getD, List.getElem?_eq_getElem (by omega)]; rfl
        injection e with e1 e2
        subst e2
        rw [← e1]
        obtain ⟨m, hm2⟩ := Option.isSome_iff_exists.mp hi.2
        rw [hm2] at hg ⊢
        obtain ⟨g1, g2⟩ := hr2 i m hg
        exact ⟨g1, hin, g2⟩
      · rw [List.length_map]; exact Nat.le_trans (List.length_filter_le _ _) (by rw [List.length_range]; omega)

abbrev n_w_mixed : List Str := ["_law_stream_here", "_law_items", "_law_rest", "_law_found", "_law_k"]
theorem sc_w_mixed : FnScope n_w_mixed ["_law_stream_here", "_law_items"] (defScope s_w_mixed) := ⟨rfl, rfl, rfl, by decide +kernel, rfl, by decide +kernel, by decide +kernel⟩
theorem ok_w_mixed {P : Program} {w : World} {K : Frg} {mg : Str → Option Value} {base : Heap} (T : Tx K mg) (k_w_draw : C8.Cal P w K mg base 1 "_law_draw" sp_w_draw []) : C8.Cal P w K mg base 2 "_law_mixed" sp_w_mixed [] := by
  obtain ⟨fd, F⟩ := T.d_w_mixed
  have bd : Binds K fd ["_law_stream_here", "_law_items"] [] := F.bindsN fun _ _ _ _ _ _ us hl => match us, hl with | [_, _], _ => rfl
  refine cal_by F T.g_w_mixed bd sc_w_mixed ?_ ?_
  · intro vs H Q E h
    match vs, h with
    | [_, _], _ => rfl
  · intro cdv A outer s H vs Q E hr h
    match vs, h with
    | [a0, a1], h =>
    refine ⟨_, (pss_cons (ps_set (i := 2) sc_w_mixed.nd rfl (by first | exact Or.inl rfl | exact Or.inr rfl) (pe_callTy (k_list (K := K) rfl) (by rfl) T.list_ (by decide +kernel) (pa_cons (pv 1) pa_nil)))
  (pss_cons (ps_set (i := 3) sc_w_mixed.nd rfl (by first | exact Or.inl rfl | exact Or.inr rfl) (pe_lst pa_nil))
  (pss_cons (ps_for PassesOwn.never rfl (pi_range1 (by rfl) T.range_ (pa_cons (pe_callB (k_len (K := K) rfl) (by rfl) T.len_ (by decide +kernel) (pa_cons (pv 1) pa_nil)) pa_nil)) (pg_name (i := 4) sc_w_mixed.nd rfl (by first | exact Or.inl rfl | exact Or.inr rfl))
  (pss_one (ps_expr (kBm (K := K) rfl (pe_bm PySem.F.plainAttrs_list PySem.F.slot_list_append PySem.F.type_list_append mt_append (pv 3) (pa_cons (kBm (K := K) rfl (pe_bm PySem.F.plainAttrs_list PySem.F.slot_list_pop PySem.F.type_list_pop mt_popAt (pv 2) (pa_cons (C8.pe_c k_w_draw hr (by decide) rfl (pa_cons (pv 0) (pa_cons (pe_callB (k_len (K := K) rfl) (by rfl) T.len_ (by decide +kernel) (pa_cons (pv 2) pa_nil)) pa_nil))) pa_nil))) pa_nil))))))
  (pss_one (ps_ret (pv 3)))))), ?_⟩
    rw [show start n_w_mixed [a0, a1] = [some a0, some a1, none, none, none] from rfl]
    obtain ⟨p, q, us, rfl, rfl, hs, hq, hne, hl, k⟩ := h
    walk_at "gg"
    intro l hln
    walk_at "gg"
    refine ⟨size_ok (by simp), fun f hf => ?_⟩
    walk_at "gg"
    have hlf : l ≠ f := fun e => by rw [e, upd_same] at hf; cases hf
    have hHf : H f = none := none_old hf
    have hlp : l ≠ p := hs.ne hln
    have hfp : f ≠ p := hs.ne hHf
    refine f_range0 (fun i σ H' => ∃ v rest fnd, σ = [some (.ref p), some (.ref q), some (.ref l), some (.ref f), v] ∧ ExB [p] H H' ∧ Str3 H' p ∧ H' l = some (.lst rest) ∧ H' f = some (.lst fnd) ∧ rest.length = us.length - i ∧ fnd.length = i ∧ (fnd ++ rest).Perm us) ?_ ?_ ?_
    · exact ⟨_, us, [], rfl, (ExB.new hln).trans (ExB.new hf), (hs.old hln).old hf, upd_old upd_same hf, upd_same, by omega, rfl, List.Perm.refl _⟩
    · rintro i σ H' hi ⟨v, rest, fnd, rfl, ex, st, h1, h2, l1, l2, pm⟩
      walk_at "gg"
      refine ⟨p, _, rfl, rfl, by omega, by omega, st, fun d H2 d0 d1 ex2 st2 => ?_⟩
      obtain ⟨j, rfl⟩ := Int.eq_ofNat_of_zero_le d0
      obtain ⟨y, hy⟩ := get_of_lt (xs := rest) (i := j) (by omega)
      have h1' := ex2.one h1 hlp
      have h2' := ex2.one h2 hfp
      walk_at "gg"
      refine z_popAt h1' hy (by omega) ?_
      walk_at "gg"
      refine ⟨_, rest.eraseIdx j, fnd ++ [y], rfl, ?_, ?_, ?_, upd_same, ?_, ?_, ?_⟩
      · exact ((ex.trans ex2).free hln).free hHf
      · obtain ⟨g, c, z, e⟩ := st2
        exact ⟨g, c, z, by rw [upd_ne hfp.symm, upd_ne hlp.symm]; exact e⟩
      · rw [upd_ne hlf, upd_same]
      · rw [List.length_eraseIdx, if_pos (lt_of_get hy)]; omega
      · rw [List.length_append, l2]; rfl
      · rw [List.append_assoc]
        exact (List.Perm.append_left fnd (perm_erase hy)).trans pm
    · rintro σ H' ⟨v, rest, fnd, rfl, ex, st, h1, h2, l1, l2, pm⟩
      walk_at "gg"
      have e : rest = [] := List.length_eq_zero_iff.mp (by omega)
      subst e
      rw [List.append_nil] at pm
      exact k f H' fnd pm hHf ex st h2

abbrev n_w_any_parents : List Str := ["_law_stream_here", "_law_size", "_law_names", "_law_parents", "_law_k"]
theorem sc_w_any_parents : FnScope n_w_any_parents ["_law_stream_here", "_law_size"] (defScope s_w_any_parents) := ⟨rfl, rfl, rfl, by decide +kernel, rfl, by decide +kernel, by decide +kernel⟩
theorem ok_w_any_parents {P : Program} {w : World} {K : Frg} {mg : Str → Option Value} {base : Heap} (T : Tx K mg) (k_w_mixed : C8.Cal P w K mg base 2 "_law_mixed" sp_w_mixed []) (k_w_draw : C8.Cal P w K mg base 1 "_law_draw" sp_w_draw []) : C8.Cal P w K mg base 3 "_law_any_parents" sp_w_any_parents [] := by
  obtain ⟨fd, F⟩ := T.d_w_any_parents
  have bd : Binds K fd ["_law_stream_here", "_law_size"] [] := F.bindsN fun _ _ _ _ _ _ us hl => match us, hl with | [_, _], _ => rfl
  refine cal_by F T.g_w_any_parents bd sc_w_any_parents ?_ ?_
  · intro vs H Q E h
    match vs, h with
    | [_, _], _ => rfl
  · intro cdv A outer s H vs Q E hr h
    match vs, h with
    | [a0, a1], h =>
    refine ⟨_, (pss_cons (ps_set (i := 2) sc_w_any_parents.nd rfl (by first | exact Or.inl rfl | exact Or.inr rfl) (C8.pe_c k_w_mixed hr (by decide) rfl (pa_cons (pv 0) (pa_cons (pe_listRg rfl rfl T.list_ (prg_1 rfl T.range_ (pv 1))) pa_nil))))
  (pss_cons (ps_set (i := 3) sc_w_any_parents.nd rfl (by first | exact Or.inl rfl | exact Or.inr rfl) (pe_op op_rep (pe_lst (pa_cons pe_non pa_nil)) (pv 1)))
  (pss_cons (ps_for PassesOwn.never rfl (pi_range2 (by rfl) T.range_ (pa_cons pe_int (pa_cons (pv 1) pa_nil))) (pg_name (i := 4) sc_w_any_parents.nd rfl (by first | exact Or.inl rfl | exact Or.inr rfl))
  (pss_one (ps_if (pt_cmpR op_gt (C8.pe_c k_w_draw hr (by decide) rfl (pa_cons (pv 0) (pa_cons pe_int pa_nil))) pe_int (nomark _)) (pss_one (ps_asg (pe_ix (ixl (K := K) rfl) (pv 2) (C8.pe_c k_w_draw hr (by decide) rfl (pa_cons (pv 0) (pa_cons (pv 4) pa_nil))) (fun _ _ => rfl)) (pg_sub (pv 3) (pe_ix (ixl (K := K) rfl) (pv 2) (pv 4) (fun _ _ => rfl)) set_list))) pss_nil)))
  (pss_one (ps_ret (pv 3)))))), ?_⟩
    rw [show start n_w_any_parents [a0, a1] = [some a0, some a1, none, none, none] from rfl]
    obtain ⟨p, n, rfl, rfl, hn, hs, k⟩ := h
    walk_at "gg"
    refine ⟨rgOk0 (by omega), fun q hq => ?_⟩
    rw [rgV_nv]
    walk_at "gg"
    have hqp : q ≠ p := hs.ne hq
    refine ⟨p, q, nv (List.range n), rfl, rfl, hs.old hq, upd_same, hqp, by rw [nv_length, List.length_range]; omega, fun nm H1 ws pm hnm ex1 st1 hw => ?_⟩
    obtain ⟨xs, rfl, px⟩ := perm_nv pm
    have hlx := perm_len px
    have hnp : nm ≠ p := (hs.old hq).ne hnm
    have exa : ExB [p] H H1 := (ExB.new hq).trans ex1
    walk_at "gg"
    refine ⟨size_ok (by simp), fun t ht => ?_⟩
    walk_at "gg"
    refine ⟨t, n, [.non], rfl, rfl, upd_same, by omega, by omega, size_ok (by simp; omega), fun f hf => ?_⟩
    have e0 : (List.replicate ((n : Int)).toNat [V.non]).flatten = (List.replicate n (none : Option Nat)).map onv := by
      rw [Int.toNat_natCast]
      apply List.ext_getElem
      · simp
      · intro m h1 h2; simp [onv]
    rw [e0]
    have hfp : f ≠ p := (st1.old ht).ne hf
    have hf1 : H1 f = none := none_old hf
    have hf0 : H f = none := exa.fresh hf1 (by simp [hfp])
    have hnf : nm ≠ f := ne_of_none hw hf1
    obtain ⟨r, hr⟩ := ranks (perm_nd px)
    walk_at "gg"
    have e1 : ((n : Int) - 1).toNat = n - 1 := by omega
    rw [e1]
    refine f_range (fun i σ H' => (∃ a, σ = [some (.ref p), some (.int (n : Nat)), some (.ref nm), some (.ref f), a]) ∧ ExB [p] H H' ∧ Str3 H' p ∧ H' nm = some (.lst (nv xs)) ∧ ∃ ps, H' f = some (.lst (ps.map onv)) ∧ ps.length = n ∧ ∀ (i j : Nat), ps[i]? = some (some j) → j < n ∧ r j < r i) ⟨⟨_, rfl⟩, (exa.trans (ExB.new ht).up).trans (ExB.new hf), (st1.old ht).old hf, upd_old (upd_old hw ht) hf, List.replicate n none, upd_same, by simp, ?_⟩ ?_ ?_
    · intro i j h
      rw [List.getElem?_replicate] at h
      split at h <;> cases h
    · rintro i σ H' hi ⟨⟨a, rfl⟩, ex, st, hnm', ps, h1, h2, h3⟩
      walk_at "gg"
      refine ⟨p, _, rfl, rfl, by omega, by omega, st, fun d H2 d0 d1 ex2 st2 => ?_⟩
      walk_at "gg"
      refine z_if (fun hd => ?_) (fun hd => ?_)
      · walk_at "gg"
        refine ⟨p, _, rfl, rfl, by omega, by omega, st2, fun d' H3 e0 e1 ex3 st3 => ?_⟩
        obtain ⟨m, rfl⟩ := Int.eq_ofNat_of_zero_le e0
        have hw3 := (ex2.trans ex3).one hnm' hnp
        have h13 := (ex2.trans ex3).one h1 hfp
        obtain ⟨u, hu⟩ := get_of_lt (xs := xs) (i := m) (by omega)
        obtain ⟨z, hz⟩ := get_of_lt (xs := xs) (i := i + 1) (by omega)
        have a1 := at_nv hu
        have a2 : atI (nv xs) ((1 : Int) + (i : Nat)) = some (.int (z : Nat)) := by
          have := at_nv hz
          rwa [show (((i + 1 : Nat)) : Int) = (1 : Int) + (i : Nat) by omega] at this
        have hzn := perm_lt px hz
        have a3 : ixN (ps.map onv).length (z : Int) = some z := by rw [List.length_map]; exact ix_nat (by omega)
        walk_at "gg"
        refine ⟨⟨_, rfl⟩, ((ex.trans ex2).trans ex3).free hf0, st3.other hfp, ?_, ps.set z (some u), ?_, by rw [List.length_set]; exact h2, ?_⟩
        · rw [upd_ne hnf]; exact hw3
        · rw [upd_same, List.map_set]; rfl
        · intro i' j' hij
          by_cases e : z = i'
          · subst e
            rw [List.getElem?_set_self (by omega)] at hij
            cases hij
            refine ⟨perm_lt px hu, ?_⟩
            rw [hr m u hu, hr (i + 1) z hz]; omega
          · rw [List.getElem?_set_ne e] at hij
            exact h3 i' j' hij
      · walk_at "gg"
        exact ⟨⟨_, rfl⟩, ex.trans ex2, st2, ex2.one hnm' hnp, ps, ex2.one h1 hfp, h2, h3⟩
    · rintro σ H' ⟨⟨a, rfl⟩, ex, st, hnm', ps, h1, h2, h3⟩
      walk_at "gg"
      exact k f H' ps ⟨h2, r, h3⟩ hf0 ex st h1

theorem bs_w_tree_members (vs : List V) (H : Hp) (Q : VK) (E : XK) : ¬ sp_w_tree_members 0 vs H Q E := by
  intro h
  match vs, h with
  | [_], h =>
    obtain ⟨t, _, h, _⟩ := h
    omega
abbrev n_w_tree_members : List Str := ["_law_tree", "_law_found", "_law_branch"]
theorem sc_w_tree_members : FnScope n_w_tree_members ["_law_tree"] (defScope s_w_tree_members) := ⟨rfl, rfl, rfl, by decide +kernel, rfl, by decide +kernel, by decide +kernel⟩
theorem st_w_tree_members {P : Program} {w : World} {K : Frg} {mg : Str → Option Value} {base : Heap} (T : Tx K mg) (d : Nat) (k_w_tree_members : C8.Cal P w K mg base (1 + d) "_law_tree_members" (sp_w_tree_members d) []) : C8.Cal P w K mg base (1 + d + 1) "_law_tree_members" (sp_w_tree_members (d + 1)) [] := by
  obtain ⟨fd, F⟩ := T.d_w_tree_members
  have bd : Binds K fd ["_law_tree"] [] := F.bindsN fun _ _ _ _ _ _ us hl => match us, hl with | [_], _ => rfl
  refine cal_by F T.g_w_tree_members bd sc_w_tree_members ?_ ?_
  · intro vs H Q E h
    match vs, h with
    | [_], _ => rfl
  · intro cdv A outer s H vs Q E hr h
    match vs, h with
    | [a0], h =>
    refine ⟨_, (pss_cons (ps_if (pt_cmpR op_eq (pe_ix (ixt (K := K) rfl) (pv 0) pe_int (fun _ _ => rfl)) pe_str (nomark _)) (pss_one (ps_ret (pe_lst (pa_cons (pe_ix (ixt (K := K) rfl) (pv 0) pe_int (fun _ _ => rfl)) pa_nil)))) pss_nil)
  (pss_cons (ps_set (i := 1) sc_w_tree_members.nd rfl (by first | exact Or.inl rfl | exact Or.inr rfl) (pe_lst pa_nil))
  (pss_cons (ps_for PassesOwn.never rfl (kIt (K := K) rfl (pi_tup (pe_ix (ixt (K := K) rfl) (pv 0) pe_int (fun _ _ => rfl)))) (pg_name (i := 2) sc_w_tree_members.nd rfl (by first | exact Or.inl rfl | exact Or.inr rfl))
  (pss_one (ps_set (i := 1) sc_w_tree_members.nd rfl (by first | exact Or.inl rfl | exact Or.inr rfl) (pe_op op_cat (pv 1) (C8.pe_c k_w_tree_members hr (by omega) rfl (pa_cons (pv 2) pa_nil))))))
  (pss_one (ps_ret (pv 1)))))), ?_⟩
    rw [show start n_w_tree_members [a0] = [some a0, none, none] from rfl]
    obtain ⟨t, ta, hd, hl, k⟩ := h
    cases ta with
    | one hb =>
      rename_i b e
      walk_at "gg"
      rw [one_one]
      walk_at "gg"
      refine ⟨size_ok (by simp), fun q hq => ?_⟩
      refine k q _ hq (ExB.new hq) ?_
      rw [upd_same]; simp [Tree.mem, nv]
    | node hb hc hu =>
      rename_i b c w us ts
      walk_at "gg"
      rw [word_one]
      walk_at "gg"
      refine ⟨size_ok (by simp), fun f hf => ?_⟩
      have hb' := upd_old (w := .lst []) hb hf
      have hc' := upd_old (w := .lst []) hc hf
      walk_at "gg"
      have hul := hu.len
      unfold Tree.dep at hd
      unfold Tree.mem at hl k
      refine f_tup (xs := us) (fun i σ H' => ∃ o v, σ = [some (.ref b), some (.ref o), v] ∧ ExB [] H H' ∧ H o = none ∧ H' o = some (.lst (nv (Tree.mems (ts.take i))))) ⟨f, _, rfl, ExB.new hf, hf, by rw [upd_same]; simp [Tree.mems, nv]⟩ (fun i σ H' _ e => by obtain ⟨o, v, _, e, _⟩ := e; exact e.nn hc) ?_ ?_
      · rintro i y σ H' hy ⟨o, v, rfl, ex, ho, h1⟩
        obtain ⟨t, ht, hta⟩ := hu.get hy
        have h2 := deps_get ht
        have h3 := mems_take ts (i + 1)
        rw [take_snoc ht, mems_snoc, List.length_append] at h3
        walk_at "gg"
        refine ⟨t, hta.nn ex, by omega, by omega, fun l H2 hl2 ex2 hm => ?_⟩
        refine z_cat (ex2.nn h1) hm (size_ok (by rw [nv_length, nv_length]; omega)) fun c hc => ?_
        walk_at "gg"
        refine ⟨c, _, rfl, (ex.trans ex2).trans (ExB.new hc), (ex.trans ex2).fresh hc (by simp), ?_⟩
        rw [upd_same, take_snoc ht, mems_snoc, nv_app]
      · rintro σ H' ⟨o, v, rfl, ex, ho, h1⟩
        rw [hul, List.take_length] at h1
        walk_at "gg"
        exact k o H' ho ex h1
theorem al_w_tree_members {P : Program} {w : World} {K : Frg} {mg : Str → Option Value} {base : Heap} (T : Tx K mg) (d : Nat) : C8.Cal P w K mg base (1 + d) "_law_tree_members" (sp_w_tree_members d) [] := by
  induction d with
  | succ d ih => exact st_w_tree_members T  d ih
  | zero =>
    obtain ⟨fd, F⟩ := T.d_w_tree_members
    have bd : Binds K fd ["_law_tree"] [] := F.bindsN fun _ _ _ _ _ _ us hl => match us, hl with | [_], _ => rfl
    refine cal_by F T.g_w_tree_members bd sc_w_tree_members ?_ ?_
    · intro vs H Q E h
      match vs, h with
      | [_], _ => rfl
    · intro cdv A outer s H vs Q E hr h
      exact absurd h (bs_w_tree_members _ _ _ _)
theorem ok_w_tree_members {P : Program} {w : World} {K : Frg} {mg : Str → Option Value} {base : Heap} (T : Tx K mg) : C8.Cal P w K mg base (21) "_law_tree_members" (sp_w_tree_members 20) [] := al_w_tree_members T  20

theorem bs_w_by_tree (vs : List V) (H : Hp) (Q : VK) (E : XK) : ¬ sp_w_by_tree 0 vs H Q E := by
  intro h
  match vs, h with
  | [_], h =>
    obtain ⟨t, _, h, _⟩ := h
    omega
abbrev n_w_by_tree : List Str := ["_law_tree", "_law_found", "_law_lower", "_law_branch", "_law_members", "_law_low", "_law_high"]
theorem sc_w_by_tree : FnScope n_w_by_tree ["_law_tree"] (defScope s_w_by_tree) := ⟨rfl, rfl, rfl, by decide +kernel, rfl, by decide +kernel, by decide +kernel⟩
theorem st_w_by_tree {P : Program} {w : World} {K : Frg} {mg : Str → Option Value} {base : Heap} (T : Tx K mg) (k_w_tree_members : C8.Cal P w K mg base 21 "_law_tree_members" (sp_w_tree_members 20) []) (d : Nat) (k_w_by_tree : C8.Cal P w K mg base (22 + d) "_law_by_tree" (sp_w_by_tree d) []) : C8.Cal P w K mg base (22 + d + 1) "_law_by_tree" (sp_w_by_tree (d + 1)) [] := by
  obtain ⟨fd, F⟩ := T.d_w_by_tree
  have bd : Binds K fd ["_law_tree"] [] := F.bindsN fun _ _ _ _ _ _ us hl => match us, hl with | [_], _ => rfl
  refine cal_by F T.g_w_by_tree bd sc_w_by_tree ?_ ?_
  · intro vs H Q E h
    match vs, h with
    | [_], _ => rfl
  · intro cdv A outer s H vs Q E hr h
    match vs, h with
    | [a0], h =>
    refine ⟨_, (pss_cons (ps_if (pt_cmpR op_eq (pe_ix (ixt (K := K) rfl) (pv 0) pe_int (fun _ _ => rfl)) pe_str (nomark _)) (pss_one (ps_ret (pe_lst pa_nil))) pss_nil)
  (pss_cons (ps_set (i := 1) sc_w_by_tree.nd rfl (by first | exact Or.inl rfl | exact Or.inr rfl) (pe_lst pa_nil))
  (pss_cons (ps_set (i := 2) sc_w_by_tree.nd rfl (by first | exact Or.inl rfl | exact Or.inr rfl) (pe_lst pa_nil))
  (pss_cons (ps_for PassesOwn.never rfl (kIt (K := K) rfl (pi_tup (pe_ix (ixt (K := K) rfl) (pv 0) pe_int (fun _ _ => rfl)))) (pg_name (i := 3) sc_w_by_tree.nd rfl (by first | exact Or.inl rfl | exact Or.inr rfl))
  (pss_cons (ps_set (i := 1) sc_w_by_tree.nd rfl (by first | exact Or.inl rfl | exact Or.inr rfl) (pe_op op_cat (pv 1) (C8.pe_c k_w_by_tree hr (by omega) rfl (pa_cons (pv 3) pa_nil))))
  (pss_cons (ps_set (i := 4) sc_w_by_tree.nd rfl (by first | exact Or.inl rfl | exact Or.inr rfl) (C8.pe_c k_w_tree_members hr (by omega) rfl (pa_cons (pv 3) pa_nil)))
  (pss_one (ps_if (pt_cmpR op_eq (pe_ix (ixt (K := K) rfl) (pv 0) pe_int (fun _ _ => rfl)) pe_str (nomark _)) (pss_cons (ps_for PassesOwn.never rfl (kIl (K := K) rfl (pi_list (pv 2))) (pg_name (i := 5) sc_w_by_tree.nd rfl (by first | exact Or.inl rfl | exact Or.inr rfl))
  (pss_one (ps_set (i := 1) sc_w_by_tree.nd rfl (by first | exact Or.inl rfl | exact Or.inr rfl) (pe_op op_cat (pv 1) (pe_lc (own := [("_law_high", 6)]) (by rfl) sc_w_by_tree.nd (kIl (K := K) rfl (pi_list (pv 4))) (blkOk_by (own := [("_law_high", 6)]) (N := n_w_by_tree) (sc := defScope s_w_by_tree) (by decide +kernel)) (fun _ _ _ _ _ => (pg_name (i := 6) sc_w_by_tree.nd rfl (by first | exact Or.inl rfl | exact Or.inr rfl))) (fun _ _ _ _ _ => pts_nil) (fun _ _ _ _ _ => (pe_tup (pa_cons (pv 5) (pa_cons (pv 6) pa_nil)))))))))
  (pss_one (ps_set (i := 2) sc_w_by_tree.nd rfl (by first | exact Or.inl rfl | exact Or.inr rfl) (pe_op op_cat (pv 2) (pv 4))))) pss_nil)))))
  (pss_one (ps_ret (pv 1))))))), ?_⟩
    rw [show start n_w_by_tree [a0] = [some a0, none, none, none, none, none, none] from rfl]
    obtain ⟨t, ta, hd, hd20, hl, k⟩ := h
    cases ta with
    | one hb =>
      rename_i b e
      walk_at "gg"
      rw [one_one]
      walk_at "gg"
      refine ⟨size_ok (by simp), fun q hq => ?_⟩
      refine k q _ [] (fun p hp => by cases hp) (by simp) hq (ExB.new hq) ⟨[], upd_same, .nil⟩
    | node hb hc hu =>
      rename_i b c w us ts
      walk_at "gg"
      rw [word_one]
      walk_at "gg"
      refine ⟨size_ok (by simp), fun f hf => ?_⟩
      walk_at "gg"
      refine ⟨size_ok (by simp), fun g hg => ?_⟩
      have hg0 : H g = none := none_old hg
      have hb' := upd_old (w := .lst []) (upd_old (w := .lst []) hb hf) hg
      have hc' := upd_old (w := .lst []) (upd_old (w := .lst []) hc hf) hg
      walk_at "gg"
      have hul := hu.len
      unfold Tree.dep at hd
      unfold Tree.mem at hl k
      refine f_tup (xs := us) (fun i σ H' => ∃ o lo v1 v2 v3 v4 vs ps ls, σ = [some (.ref b), some (.ref o), some (.ref lo), v1, v2, v3, v4] ∧ ExB [] H H' ∧ H o = none ∧ H' o = some (.lst vs) ∧ Paired (IsPair H') vs ps ∧ Asc (Tree.mems (ts.take i)) ps ∧ ps.length ≤ (Tree.mems (ts.take i)).length * (Tree.mems (ts.take i)).length ∧ H' lo = some (.lst (nv ls)) ∧ (w = true → ls = Tree.mems (ts.take i))) ⟨f, g, _, _, _, _, [], [], [], rfl, (ExB.new hf).trans (ExB.new hg), hf, upd_old upd_same hg, .nil, (fun p hp => by cases hp), by simp, upd_same, fun _ => by simp [Tree.mems]⟩ (fun i σ H' _ e => by obtain ⟨o, lo, v1, v2, v3, v4, vs, ps, ls, _, e, _⟩ := e; exact e.nn hc) ?_ ?_
      · rintro i y σ H' hy ⟨o, lo, v1, v2, v3, v4, vs, ps, ls, rfl, ex, ho, h1, hp, has, hpl, hlo, hls⟩
        obtain ⟨t, ht, hta⟩ := hu.get hy
        have h2 := deps_get ht
        have h3 := mems_take ts (i + 1)
        rw [take_snoc ht, mems_snoc, List.length_append] at h3
        have hvl := pr_len hp
        generalize hM : Tree.mems (ts.take i) = M at *
        have hM2 : Tree.mems (ts.take (i + 1)) = M ++ t.mem := by rw [take_snoc ht, mems_snoc, hM]
        have q1 : M.length * M.length ≤ 40 * 40 := Nat.mul_le_mul (by omega) (by omega)
        have q2 : t.mem.length * t.mem.length ≤ 40 * 40 := Nat.mul_le_mul (by omega) (by omega)
        have q3 : M.length * t.mem.length ≤ 40 * 40 := Nat.mul_le_mul (by omega) (by omega)
        have q4 : (M.length + t.mem.length) * (M.length + t.mem.length) = M.length * M.length + t.mem.length * t.mem.length + 2 * (M.length * t.mem.length) := by
          rw [Nat.mul_add, Nat.add_mul, Nat.add_mul, Nat.mul_comm t.mem.length M.length]; omega
        walk_at "gg"
        refine ⟨t, hta.nn ex, by omega, by omega, by omega, fun l H2 ps2 has2 hpl2 hl2 ex2 hPL2 => ?_⟩
        obtain ⟨ws, g1, g2⟩ := hPL2
        have hwl := pr_len g2
        refine z_cat (ex2.nn h1) g1 (size_ok (by omega)) fun c1 hc1 => ?_
        have exc := (ex.trans ex2).trans (ExB.new (o := .lst (vs ++ ws)) hc1)
        have hc10 : H c1 = none := (ex.trans ex2).fresh hc1 (by simp)
        have hp2 : Paired (IsPair (upd H2 c1 (.lst (vs ++ ws)))) (vs ++ ws) (ps ++ ps2) := pr_mono (fun v q h => IsPair.mono h (ExB.new hc1)) (pr_app (pr_mono (fun v q h => IsPair.mono h ex2) hp) g2)
        have hlo2 := upd_old (w := .lst (vs ++ ws)) (ex2.nn hlo) hc1
        have hcc : upd H2 c1 (.lst (vs ++ ws)) c1 = some (.lst (vs ++ ws)) := upd_same
        generalize upd H2 c1 (.lst (vs ++ ws)) = H3 at *
        walk_at "gg"
        refine ⟨t, hta.nn exc, by omega, by omega, fun me H4 hme ex4 hm4 => ?_⟩
        have hlo4 := ex4.nn hlo2
        have hc14 := ex4.nn hcc
        have hp4 := pr_mono (fun v q h => IsPair.mono h ex4) hp2
        have exd := exc.trans ex4
        have hb4 := exd.nn hb
        walk_at "gg"
        rw [word_above]
        refine z_ifB (fun hw => ?_) (fun hw => ?_)
        · have hlsM := hls hw
          subst hlsM
          have hme3 : H me = none := exc.fresh hme (by simp)
          walk_at "gg"
          refine f_list (xs := nv ls) (fun j σ H' => ∃ o v3 v4 vs qs, σ = [some (.ref b), some (.ref o), some (.ref lo), some y, some (.ref me), v3, v4] ∧ ExB [] H4 H' ∧ H o = none ∧ H' o = some (.lst vs) ∧ Paired (IsPair H') vs qs ∧ Asc (ls ++ t.mem) qs ∧ qs.length ≤ (ps ++ ps2).length + j * t.mem.length) ⟨c1, _, _, vs ++ ws, ps ++ ps2, rfl, ExB.refl, hc10, hc14, hp4, has.left.app has2.right, by simp⟩ (fun j σ H' _ e => by obtain ⟨o, v3, v4, vs, qs, _, e, _⟩ := e; exact e.nn hlo4) ?_ ?_
          · rintro j z σ H5 hz ⟨o, v3, v4, vs, qs, rfl, ex5, ho, h1, hq, haq, hql⟩
            obtain ⟨m, hm, rfl⟩ := nv_inv hz
            have hjl := lt_of_get hm
            have hm5 := ex5.nn hm4
            have q5 : j * t.mem.length ≤ ls.length * t.mem.length := Nat.mul_le_mul_right _ (by omega)
            rw [List.length_append] at hql
            have hqv := pr_len hq
            walk_at "gg"
            intro A hA
            refine l_pairsL (xs := t.mem) (fun _ => true) (fun u => (m, u)) hm5 hA (by omega) (fun j' u acc H6 Nx hu' ex6 hacc hlen hF hT => ?_) (fun H6 ex6 hPL => ?_)
            · walk_at "wp"
              walk_at "gg"
              refine ⟨size_ok (by simp), fun t1 ht1 => ?_⟩
              exact ⟨acc, upd_old hacc ht1, size_lt (by have := lt_of_get hu'; omega), hT rfl t1 ht1⟩
            · obtain ⟨ws2, g3, g4⟩ := hPL
              rw [filt_tt] at g4
              have hw2 := pr_len g4
              rw [List.length_map] at hw2
              refine z_cat (ex6.nn h1) g3 (size_ok (by omega)) fun c2 hc2 => ?_
              walk_at "gg"
              refine ⟨c2, _, _, vs ++ ws2, qs ++ t.mem.map (fun u => (m, u)), rfl, (ex5.trans ex6).trans (ExB.new hc2), ((exd.trans ex5).trans ex6).fresh hc2 (by simp), upd_same, pr_mono (fun v q h => IsPair.mono h (ExB.new hc2)) (pr_app (pr_mono (fun v q h => IsPair.mono h ex6) hq) g4), haq.app (Asc.cross hm), ?_⟩
              rw [List.length_append, List.length_append, List.length_map, Nat.succ_mul]; omega
          · rintro σ H5 ⟨o, v3, v4, vs, qs, rfl, ex5, ho, h1, hq, haq, hql⟩
            rw [nv_length, List.length_append] at hql
            walk_at "gg"
            refine z_cat (ex5.nn hlo4) (ex5.nn hm4) (size_ok (by rw [nv_length, nv_length]; omega)) fun c2 hc2 => ?_
            walk_at "gg"
            refine ⟨o, c2, _, _, _, _, vs, qs, ls ++ t.mem, rfl, (exd.trans ex5).trans (ExB.new hc2), ho, upd_old h1 hc2, pr_mono (fun v q h => IsPair.mono h (ExB.new hc2)) hq, by rw [hM2]; exact haq, ?_, ?_, fun _ => hM2.symm⟩
            · rw [hM2, List.length_append, q4]; omega
            · rw [upd_same, nv_app]
        · walk_at "gg"
          refine ⟨c1, lo, _, _, _, _, vs ++ ws, ps ++ ps2, ls, rfl, exd, hc10, hc14, hp4, by rw [hM2]; exact has.left.app has2.right, ?_, hlo4, fun q => absurd q (by rw [hw]; simp)⟩
          rw [hM2, List.length_append, List.length_append, q4]; omega
      · rintro σ H' ⟨o, lo, v1, v2, v3, v4, vs, ps, ls, rfl, ex, ho, h1, hp, has, hpl, hlo, hls⟩
        rw [hul, List.take_length] at has hpl
        walk_at "gg"
        exact k o H' ps has hpl ho ex ⟨vs, h1, hp⟩
theorem al_w_by_tree {P : Program} {w : World} {K : Frg} {mg : Str → Option Value} {base : Heap} (T : Tx K mg) (k_w_tree_members : C8.Cal P w K mg base 21 "_law_tree_members" (sp_w_tree_members 20) []) (d : Nat) : C8.Cal P w K mg base (22 + d) "_law_by_tree" (sp_w_by_tree d) [] := by
  induction d with
  | succ d ih => exact st_w_by_tree T k_w_tree_members d ih
  | zero =>
    obtain ⟨fd, F⟩ := T.d_w_by_tree
    have bd : Binds K fd ["_law_tree"] [] := F.bindsN fun _ _ _ _ _ _ us hl => match us, hl with | [_], _ => rfl
    refine cal_by F T.g_w_by_tree bd sc_w_by_tree ?_ ?_
    · intro vs H Q E h
      match vs, h with
      | [_], _ => rfl
    · intro cdv A outer s H vs Q E hr h
      exact absurd h (bs_w_by_tree _ _ _ _)
theorem ok_w_by_tree {P : Program} {w : World} {K : Frg} {mg : Str → Option Value} {base : Heap} (T : Tx K mg) (k_w_tree_members : C8.Cal P w K mg base 21 "_law_tree_members" (sp_w_tree_members 20) []) : C8.Cal P w K mg base (42) "_law_by_tree" (sp_w_by_tree 20) [] := al_w_by_tree T k_w_tree_members 20

theorem bs_w_any_tree (vs : List V) (H : Hp) (Q : VK) (E : XK) : ¬ sp_w_any_tree 0 vs H Q E := by
  intro h
  match vs, h with
  | [_, _, _], h =>
    obtain ⟨p, q, xs, w, _, _, _, _, _, _, h1, h2, _⟩ := h
    omega
abbrev n_w_any_tree : List Str := ["_law_stream_here", "_law_members", "_law_word", "_law_parts", "_law_rest", "_law_k", "_law_following", "_law_many", "_law_branch"]
theorem sc_w_any_tree : FnScope n_w_any_tree ["_law_stream_here", "_law_members", "_law_word"] (defScope s_w_any_tree) := ⟨rfl, rfl, rfl, by decide +kernel, rfl, by decide +kernel, by decide +kernel⟩
theorem st_w_any_tree {P : Program} {w : World} {K : Frg} {mg : Str → Option Value} {base : Heap} (T : Tx K mg) (k_w_draw : C8.Cal P w K mg base 1 "_law_draw" sp_w_draw []) (d : Nat) (k_w_any_tree : C8.Cal P w K mg base (2 + d) "_law_any_tree" (sp_w_any_tree d) []) : C8.Cal P w K mg base (2 + d + 1) "_law_any_tree" (sp_w_any_tree (d + 1)) [] := by
  obtain ⟨fd, F⟩ := T.d_w_any_tree
  have bd : Binds K fd ["_law_stream_here", "_law_members", "_law_word"] [] := F.bindsN fun _ _ _ _ _ _ us hl => match us, hl with | [_, _, _], _ => rfl
  refine cal_by F T.g_w_any_tree bd sc_w_any_tree ?_ ?_
  · intro vs H Q E h
    match vs, h with
    | [_, _, _], _ => rfl
  · intro cdv A outer s H vs Q E hr h
    match vs, h with
    | [a0, a1, a2], h =>
    refine ⟨_, (pss_cons (ps_if (pt_cmpR op_eq (pe_callB (k_len (K := K) rfl) (by rfl) T.len_ (by decide +kernel) (pa_cons (pv 1) pa_nil)) pe_int (nomark _)) (pss_one (ps_ret (pe_tup (pa_cons pe_str (pa_cons (pe_ix (ixl (K := K) rfl) (pv 1) pe_int (fun _ _ => rfl)) pa_nil))))) pss_nil)
  (pss_cons (ps_set (i := 3) sc_w_any_tree.nd rfl (by first | exact Or.inl rfl | exact Or.inr rfl) (pe_lst pa_nil))
  (pss_cons (ps_set (i := 4) sc_w_any_tree.nd rfl (by first | exact Or.inl rfl | exact Or.inr rfl) (pe_callTy (k_list (K := K) rfl) (by rfl) T.list_ (by decide +kernel) (pa_cons (pv 1) pa_nil)))
  (pss_cons (ps_for PassesOwn.never rfl (pi_range1 (by rfl) T.range_ (pa_cons (pe_callB (k_len (K := K) rfl) (by rfl) T.len_ (by decide +kernel) (pa_cons (pv 1) pa_nil)) pa_nil)) (pg_name (i := 5) sc_w_any_tree.nd rfl (by first | exact Or.inl rfl | exact Or.inr rfl))
  (pss_one (ps_if (pt_cmpR op_gt (pe_callB (k_len (K := K) rfl) (by rfl) T.len_ (by decide +kernel) (pa_cons (pv 4) pa_nil)) pe_int (nomark _)) (pss_cons (ps_set (i := 7) sc_w_any_tree.nd rfl (by first | exact Or.inl rfl | exact Or.inr rfl) (pe_op op_add pe_int (C8.pe_c k_w_draw hr (by omega) rfl (pa_cons (pv 0) (pa_cons (pe_callB (k_len (K := K) rfl) (by rfl) T.len_ (by decide +kernel) (pa_cons (pv 4) pa_nil)) pa_nil)))))
  (C8.pss_cut (ps_if (PW.pt (pw_and (pt_cmpR op_eq (pv 5) pe_int (nomark _)) (pw_and1 (pt_cmpR op_eq (pv 7) (pe_callB (k_len (K := K) rfl) (by rfl) T.len_ (by decide +kernel) (pa_cons (pv 4) pa_nil)) (nomark _))))) (pss_one (ps_set (i := 7) sc_w_any_tree.nd rfl (by first | exact Or.inl rfl | exact Or.inr rfl) (pe_callB (cr_max2 rfl) (by rfl) T.max_ (by decide +kernel) (pa_cons pe_int (pa_cons (pe_op op_sub (pv 7) pe_int) pa_nil))))) pss_nil)
  (pss_cons (ps_expr (kBm (K := K) rfl (pe_bm PySem.F.plainAttrs_list PySem.F.slot_list_append PySem.F.type_list_append mt_append (pv 3) (pa_cons (pe_slice (k_sl (K := K) rfl) (pv 4) po_none (po_some (pv 7))) pa_nil))))
  (pss_one (ps_set (i := 4) sc_w_any_tree.nd rfl (by first | exact Or.inl rfl | exact Or.inr rfl) (pe_slice (k_sl (K := K) rfl) (pv 4) (po_some (pv 7)) po_none)))))) pss_nil)))
  (pss_cons (ps_set (i := 6) sc_w_any_tree.nd rfl (by first | exact Or.inl rfl | exact Or.inr rfl) (pe_ix (ixl (K := K) rfl) (pe_lst (pa_cons pe_str (pa_cons pe_str pa_nil))) (pe_callTy cr_int (by rfl) T.int_ (by decide +kernel) (pa_cons (pe_cmpR op_eq (pv 2) pe_str (nomark _)) pa_nil)) (fun _ _ => rfl)))
  (pss_one (ps_ret (pe_tup (pa_cons (pv 2) (pa_cons (pe_callTy (k_tuple (K := K) rfl) (by rfl) T.tuple_ (by decide +kernel) (pa_cons (pe_lc (own := [("_law_branch", 8)]) (by rfl) sc_w_any_tree.nd (kIl (K := K) rfl (pi_list (pv 3))) (blkOk_by (own := [("_law_branch", 8)]) (N := n_w_any_tree) (sc := defScope s_w_any_tree) (by decide +kernel)) (fun _ _ _ _ _ => (pg_name (i := 8) sc_w_any_tree.nd rfl (by first | exact Or.inl rfl | exact Or.inr rfl))) (fun _ _ _ _ _ => pts_nil) (fun _ _ _ _ _ => (C8.pe_c k_w_any_tree hr (by omega) rfl (pa_cons (pv 0) (pa_cons (pv 8) (pa_cons (pv 6) pa_nil)))))) pa_nil)) pa_nil)))))))))), ?_⟩
    rw [show start n_w_any_tree [a0, a1, a2] = [some a0, some a1, some a2, none, none, none, none, none, none] from rfl]
    obtain ⟨p, q, xs, w, rfl, rfl, rfl, hs, hq, hqp, hx0, hxd, hx40, k⟩ := h
    walk_at "gg"
    rw [nv_length]
    refine z_if (fun h1 => ?_) (fun h1 => ?_)
    · obtain ⟨e, rfl⟩ := List.length_eq_one_iff.mp (show xs.length = 1 by omega)
      walk_at "gg"
      refine ⟨size_ok (by simp), fun b hb => ?_⟩
      exact k _ _ (.one e) (TreeAt.one upd_same) rfl (by unfold Tree.dep; omega) (ExB.new hb) (hs.old hb)
    · walk_at "gg"
      refine ⟨size_ok (by simp), fun f hf => ?_⟩
      have hq' := upd_old (w := .lst []) hq hf
      have hfp : f ≠ p := hs.ne hf
      walk_at "gg"
      intro l hl
      have hl0 := none_old hl
      have hlp : l ≠ p := hs.ne hl0
      have hlf : f ≠ l := ne_of_none upd_same hl
      have hq'' := upd_old (w := .lst (nv xs)) hq' hl
      walk_at "gg"
      rw [nv_length]
      refine f_range0 (fun i σ H' => ∃ r a b c e bs pts rest, σ = [some (.ref p), some (.ref q), some (.str (wordS w)), some (.ref f), some (.ref r), a, b, c, e] ∧ ExB [p] H H' ∧ Str3 H' p ∧ H' r = some (.lst (nv rest)) ∧ r ≠ f ∧ r ≠ p ∧ LLb H' f bs pts ∧ (∀ b ∈ bs, b ≠ f ∧ b ≠ p) ∧ pts.flatten ++ rest = xs ∧ rest.length ≤ xs.length - i ∧ pts.length ≤ i ∧ (∀ y ∈ pts, y ≠ [] ∧ y.length < xs.length) ∧ (i = 0 → pts = [])) ⟨l, _, _, _, _, [], [], xs, rfl, ((ExB.new hf).trans (ExB.new hl)), (hs.old hf).old hl, upd_same, hlf.symm, hlp, ⟨upd_old upd_same hl, .nil⟩, by simp, by simp, by omega, by simp, by simp, fun _ => rfl⟩ ?_ ?_
      · rintro i σ H' hi ⟨r, a, b, c, e, bs, pts, rest, rfl, ex, st, hr, hrf, hrp, ⟨hp1, hp2⟩, hbf, hfl, hrl, hpl, hpn, h0⟩
        have hbl := pr_len hp2
        walk_at "gg"
        rw [nv_length]
        refine z_if (fun hpos => ?_) (fun hneg => ?_)
        · walk_at "gg"
          rw [nv_length]
          have hrx : rest.length ≤ xs.length := by rw [← hfl, List.length_append]; omega
          refine ⟨p, _, rfl, rfl, by omega, by omega, st, fun d0 H2 d1 d2 ex2 st2 => ?_⟩
          obtain ⟨m, rfl⟩ := Int.eq_ofNat_of_zero_le d1
          have hr2 := ex2.one hr hrp
          have hp12 := ex2.one hp1 hfp
          walk_at "gg"
          refine z_cut (fun σ H3 => ∃ mm : Nat, 1 ≤ mm ∧ mm ≤ rest.length ∧ mm < xs.length ∧ σ = [some (.ref p), some (.ref q), some (.str (wordS w)), some (.ref f), some (.ref r), some (.int (i : Nat)), b, some (.int (mm : Nat)), e] ∧ H3 = H2) ?_ ?_
          · walk_at "gg"
            refine z_if (fun hi0 => ?_) (fun hi0 => ?_)
            · walk_at "gg"
              rw [nv_length]
              have hi1 : i = 0 := by omega
              have := h0 hi1
              subst this
              rw [List.flatten_nil, List.nil_append] at hfl
              subst hfl
              refine z_if (fun he => ?_) (fun he => ?_)
              · walk_at "gg"
                refine ⟨m, by omega, by omega, by omega, ?_, by first | rfl | trivial⟩
                have e1 : (if (1 + (m : Int) - 1) > 1 then (1 + (m : Int) - 1) else 1) = (m : Int) := by split <;> omega
                exact congrArg (fun z => [some (.ref p), some (.ref q), some (.str (wordS w)), some (.ref f), some (.ref r), some (.int (i : Nat)), b, some (.int z), e]) e1
              · walk_at "gg"
                exact ⟨1 + m, by omega, by omega, by omega, by rw [Int.natCast_add]; rfl, rfl⟩
            · walk_at "gg"
              exact ⟨1 + m, by omega, by omega, by omega, by rw [Int.natCast_add]; rfl, rfl⟩
          · rintro σ H3 ⟨mm, g1, g2, g3, rfl, rfl⟩
            walk_at "gg"
            intro s1 hs1
            rw [cut_to (by rw [nv_length]; omega), nv_take]
            have hp13 := upd_old (w := .lst (nv (rest.take mm))) hp12 hs1
            have hr3 := upd_old (w := .lst (nv (rest.take mm))) hr2 hs1
            have hpl2 : bs.length ≤ 40 := by omega
            walk_at "gg"
            have hr4 : upd (upd H3 s1 (.lst (nv (rest.take mm)))) f (.lst (bs.map V.ref ++ [.ref s1])) r = some (.lst (nv rest)) := by rw [upd_ne hrf]; exact hr3
            walk_at "gg"
            intro s2 hs2
            rw [cut_from (by rw [nv_length]; omega), nv_drop]
            have hs1p : s1 ≠ p := st2.ne hs1
            have hs1f : s1 ≠ f := (ne_of_none hp12 hs1).symm
            have hs2f : s2 ≠ f := fun z => by rw [z, upd_same] at hs2; cases hs2
            have hs2H : upd H3 s1 (.lst (nv (rest.take mm))) s2 = none := none_old hs2
            have hs2p : s2 ≠ p := (st2.old hs1).ne hs2H
            have s12 : s1 ≠ s2 := ne_of_none upd_same hs2H
            walk_at "gg"
            refine ⟨s2, _, _, _, _, bs ++ [s1], pts ++ [rest.take mm], rest.drop mm, rfl, ?_, ?_, upd_same, hs2f, hs2p, ⟨?_, ?_⟩, ?_, ?_, ?_, ?_, ?_, ?_⟩
            · exact (((ex.trans ex2).trans (ExB.new hs1)).free hf).trans (ExB.new hs2)
            · exact ((st2.push hfp hs1)).old hs2
            · refine upd_old ?_ hs2
              rw [upd_same, List.map_append]; rfl
            · refine pr_snoc (pr_monoM (fun b y mb k => ?_) hp2) ?_
              · refine upd_old ?_ hs2
                rw [upd_ne (hbf b mb).1]
                exact upd_old (ex2.one k (hbf b mb).2) hs1
              · refine upd_old ?_ hs2
                rw [upd_ne hs1f, upd_same]
            · intro b hb
              rcases List.mem_append.mp hb with z | z
              · exact hbf b z
              · rw [List.mem_singleton] at z; subst z; exact ⟨hs1f, hs1p⟩
            · rw [List.flatten_append, List.flatten_singleton, List.append_assoc, List.take_append_drop]; exact hfl
            · rw [List.length_drop]; omega
            · rw [List.length_append, List.length_singleton]; omega
            · intro y hy
              rcases List.mem_append.mp hy with z | z
              · exact hpn y z
              · rw [List.mem_singleton] at z; subst z
                refine ⟨fun z => ?_, by rw [List.length_take]; omega⟩
                have := congrArg List.length z
                rw [List.length_take, List.length_nil] at this; omega
            · intro z; omega
        · walk_at "gg"
          exact ⟨r, _, _, _, _, bs, pts, rest, rfl, ex, st, hr, hrf, hrp, ⟨hp1, hp2⟩, hbf, hfl, by omega, by omega, hpn, fun q => by omega⟩
      · rintro σ H' ⟨r, a, b, c, e, bs, pts, rest, rfl, ex, st, hr, hrf, hrp, ⟨hp1, hp2⟩, hbf, hfl, hrl, hpl, hpn, h0⟩
        have hre : rest = [] := List.length_eq_zero_iff.mp (by omega)
        subst hre
        rw [List.append_nil] at hfl
        have hbl := pr_len hp2
        walk_at "gg"
        refine ⟨size_ok (by simp), fun wl hwl => ?_⟩
        walk_at "gg"
        rw [word_beside]
        have a1 : atI [V.str (Str.ofString "beside"), V.str (Str.ofString "above")] (if (!w) = true then 1 else 0) = some (.str (wordS !w)) := by cases w <;> rfl
        walk_at "gg"
        have hp1w := upd_old (w := .lst [V.str (Str.ofString "beside"), V.str (Str.ofString "above")]) hp1 hwl
        have stw : Str3 (upd H' wl (.lst [V.str (Str.ofString "beside"), V.str (Str.ofString "above")])) p := st.old hwl
        have exw : ExB [p] H (upd H' wl (.lst [V.str (Str.ofString "beside"), V.str (Str.ofString "above")])) := ex.trans (ExB.new hwl)
        have hpw : Paired (fun b xs => upd H' wl (.lst [V.str (Str.ofString "beside"), V.str (Str.ofString "above")]) b = some (.lst (nv xs))) bs pts := pr_mono (fun b xs k => upd_old k hwl) hp2
        generalize upd H' wl (.lst [V.str (Str.ofString "beside"), V.str (Str.ofString "above")]) = H4 at *
        walk_at "gg"
        intro A hA
        have hAp : A ≠ p := stw.ne hA
        refine l_list (K := K) (xs := bs.map V.ref) (fun i H' => ExB [p] H4 H' ∧ Str3 H' p ∧ ∃ acc ts, H' A = some (.lst acc) ∧ TreesAt H' acc ts ∧ Tree.mems ts = (pts.take i).flatten ∧ Tree.deps ts < d + 0 + (if ts = [] then 1 else 0) ∧ acc.length = i) ⟨ExB.new hA, stw.old hA, [], [], upd_same, .nil, by simp [Tree.mems], by simp [Tree.deps], rfl⟩ (fun i H' _ e => e.1.one hp1w hfp) (fun i x H5 hx ⟨ex5, st5, acc, ts, h1, h2, h3, h4, h5⟩ => ?_) (fun H5 ⟨ex5, st5, acc, ts, h1, h2, h3, h4, h5⟩ => ?_)
        · rw [List.getElem?_map] at hx
          obtain ⟨bq, hb, rfl⟩ := Option.map_eq_some_iff.mp hx
          obtain ⟨y, hy, hry⟩ := pr_get hpw hb
          obtain ⟨hb1, hb2⟩ := hbf bq (mem_of_get hb)
          obtain ⟨y1, y2⟩ := hpn y (mem_of_get hy)
          have hry5 := ex5.one hry hb2
          have hil : i < 40 := by have := lt_of_get hb; omega
          walk_at "wp"
          walk_at "gg"
          refine ⟨p, bq, y, !w, rfl, rfl, rfl, st5, hry5, hb2, List.length_pos_iff.mpr y1, by omega, by omega, fun v H6 t ht1 ht2 ht3 ex6 st6 => ?_⟩
          have h16 := ex6.one h1 hAp
          refine ⟨acc, h16, size_lt (by omega), (ex5.trans ex6).free hA, st6.other hAp, acc ++ [v], ts ++ [t], upd_same, ?_, ?_, ?_, by rw [List.length_append, h5]; rfl⟩
          · have hk : ∀ b xs, H6 b = some (.tup xs) → upd H6 A (.lst (acc ++ [v])) b = some (.tup xs) := fun b xs h => by rw [upd_ne (ne_of h h16 (by intro z; cases z))]; exact h
            exact TreesAt.snoc (ht1.keep hk) ((TreesAt.str st5 ex6 h2).keep hk)
          · rw [mems_snoc, h3, ht2, take_snoc hy, List.flatten_append, List.flatten_singleton]
          · rw [deps_snoc, if_neg (by simp)]
            by_cases z : ts = []
            · subst z
              have : Tree.deps [] = 0 := rfl
              omega
            · rw [if_neg z] at h4; omega
        · rw [List.length_map, hbl, List.take_length, hfl] at h3
          have hts : ts ≠ [] := fun z => by rw [z] at h3; have := congrArg List.length h3; simp [Tree.mems] at this; omega
          rw [if_neg hts] at h4
          walk_at "gg"
          intro c hc
          walk_at "gg"
          refine ⟨size_ok (by simp), fun b hb => ?_⟩
          refine k _ _ (.node w ts) (TreeAt.node upd_same (upd_old upd_same hb) (TreesAt.nn ((ExB.new hc).trans (ExB.new hb)) h2)) h3 (by unfold Tree.dep; omega) (((exw.trans ex5).trans (ExB.new hc)).trans (ExB.new hb)) ((st5.old hc).old hb)
theorem al_w_any_tree {P : Program} {w : World} {K : Frg} {mg : Str → Option Value} {base : Heap} (T : Tx K mg) (k_w_draw : C8.Cal P w K mg base 1 "_law_draw" sp_w_draw []) (d : Nat) : C8.Cal P w K mg base (2 + d) "_law_any_tree" (sp_w_any_tree d) [] := by
  induction d with
  | succ d ih => exact st_w_any_tree T k_w_draw d ih
  | zero =>
    obtain ⟨fd, F⟩ := T.d_w_any_tree
    have bd : Binds K fd ["_law_stream_here", "_law_members", "_law_word"] [] := F.bindsN fun _ _ _ _ _ _ us hl => match us, hl with | [_, _, _], _ => rfl
    refine cal_by F T.g_w_any_tree bd sc_w_any_tree ?_ ?_
    · intro vs H Q E h
      match vs, h with
      | [_, _, _], _ => rfl
    · intro cdv A outer s H vs Q E hr h
      exact absurd h (bs_w_any_tree _ _ _ _)
theorem ok_w_any_tree {P : Program} {w : World} {K : Frg} {mg : Str → Option Value} {base : Heap} (T : Tx K mg) (k_w_draw : C8.Cal P w K mg base 1 "_law_draw" sp_w_draw []) : C8.Cal P w K mg base (22) "_law_any_tree" (sp_w_any_tree 20) [] := al_w_any_tree T k_w_draw 20

abbrev n_w_by_arcs : List Str := ["_law_arcs", "_law_size", "_law_found", "_law_low", "_law_high"]
theorem sc_w_by_arcs : FnScope n_w_by_arcs ["_law_arcs"] (defScope s_w_by_arcs) := ⟨rfl, rfl, rfl, by decide +kernel, rfl, by decide +kernel, by decide +kernel⟩
theorem ok_w_by_arcs {P : Program} {w : World} {K : Frg} {mg : Str → Option Value} {base : Heap} (T : Tx K mg) : C8.Cal P w K mg base 1 "_law_by_arcs" sp_w_by_arcs [] := by
  obtain ⟨fd, F⟩ := T.d_w_by_arcs
  have bd : Binds K fd ["_law_arcs"] [] := F.bindsN fun _ _ _ _ _ _ us hl => match us, hl with | [_], _ => rfl
  refine cal_by F T.g_w_by_arcs bd sc_w_by_arcs ?_ ?_
  · intro vs H Q E h
    match vs, h with
    | [_], _ => rfl
  · intro cdv A outer s H vs Q E hr h
    match vs, h with
    | [a0], h =>
    refine ⟨_, (pss_cons (ps_set (i := 1) sc_w_by_arcs.nd rfl (by first | exact Or.inl rfl | exact Or.inr rfl) (pe_callB (k_len (K := K) rfl) (by rfl) T.len_ (by decide +kernel) (pa_cons (pv 0) pa_nil)))
  (pss_cons (ps_set (i := 2) sc_w_by_arcs.nd rfl (by first | exact Or.inl rfl | exact Or.inr rfl) (pe_lst pa_nil))
  (pss_cons (ps_for PassesOwn.never rfl (pi_range1 (by rfl) T.range_ (pa_cons (pv 1) pa_nil)) (pg_name (i := 3) sc_w_by_arcs.nd rfl (by first | exact Or.inl rfl | exact Or.inr rfl))
  (pss_one (ps_set (i := 2) sc_w_by_arcs.nd rfl (by first | exact Or.inl rfl | exact Or.inr rfl) (pe_op op_cat (pv 2) (pe_lc (own := [("_law_high", 4)]) (by rfl) sc_w_by_arcs.nd (pi_range1 (by rfl) T.range_ (pa_cons (pv 1) pa_nil)) (blkOk_by (own := [("_law_high", 4)]) (N := n_w_by_arcs) (sc := defScope s_w_by_arcs) (by decide +kernel)) (fun _ _ _ _ _ => (pg_name (i := 4) sc_w_by_arcs.nd rfl (by first | exact Or.inl rfl | exact Or.inr rfl))) (fun _ _ _ _ _ => pts_one (pt_cmpR op_eq (pe_ix (ixt (K := K) rfl) (pe_ix (ixl (K := K) rfl) (pv 0) (pv 3) (fun _ _ => rfl)) pe_int (fun _ _ => rfl)) (pe_ix (ixt (K := K) rfl) (pe_ix (ixl (K := K) rfl) (pv 0) (pv 4) (fun _ _ => rfl)) pe_int (fun _ _ => rfl)) (nomark _))) (fun _ _ _ _ _ => (pe_tup (pa_cons (pv 3) (pa_cons (pv 4) pa_nil)))))))))
  (pss_one (ps_ret (pv 2)))))), ?_⟩
    rw [show start n_w_by_arcs [a0] = [some a0, none, none, none, none] from rfl]
    obtain ⟨p, ss, rfl, hS, hlen, hle, k⟩ := h
    have hn : ss.length ≤ 40 := hlen
    obtain ⟨vs00, hv00, hp00⟩ := id hS
    have hvl00 := pr_len hp00
    walk_at "gg"
    refine ⟨size_ok (by simp), fun f hf => ?_⟩
    have hv0 := upd_old (w := .lst []) hv00 hf
    walk_at "gg"
    rw [hvl00]
    refine f_range0 (fun i σ H' => ∃ q vs v1 v2, σ = [some (.ref p), some (.int (ss.length : Nat)), some (.ref q), v1, v2] ∧ ExB [] H H' ∧ H q = none ∧ H' q = some (.lst vs) ∧ Paired (IsPair H') vs ((List.range i).flatMap fun i => ((List.range ss.length).filter ((fun i j => decide ((ss.getD i (0, 0)).2 = (ss.getD j (0, 0)).1)) i)).map fun j => (i, j)) ∧ vs.length ≤ i * 40) ⟨f, [], none, none, rfl, ExB.new hf, hf, upd_same, by simp; exact .nil, by simp⟩ ?_ ?_
    · rintro i σ H' hi ⟨q, vs, v1, v2, rfl, ex, hq, h1, h2, h3⟩
      walk_at "gg"
      intro A hA
      skip
      refine l_pairs0 ((fun i j => decide ((ss.getD i (0, 0)).2 = (ss.getD j (0, 0)).1)) i) (fun j => (i, j)) hA (by omega) (fun j acc H2 Nx hj ex2 hacc hlen hF hT => ?_) (fun H2 ex2 hPL => ?_)
      · obtain ⟨vs', hv1, hv2⟩ := (hS.mono (ex.trans ex2))
        have hi2 : i < ss.length := hi
        obtain ⟨a1, ha1, b1, rfl, hb1⟩ := pr_getR hv2 (List.getElem?_eq_getElem hi2)
        obtain ⟨a2, ha2, b2, rfl, hb2⟩ := pr_getR hv2 (List.getElem?_eq_getElem hj)
        have e1 := at_nat ha1
        have e2 := at_nat ha2
        walk_at "wp"
        walk_at "gg"
        refine z_if (fun hb => ?_) (fun hb => ?_)
        · walk_at "gg"
          refine ⟨size_ok (by simp), fun t ht => ?_⟩
          exact ⟨acc, upd_old hacc ht, size_lt (by omega), hT (by
            dsimp only; rw [List.getD_eq_getElem?_getD, List.getD_eq_getElem?_getD, List.getElem?_eq_getElem hi2, List.getElem?_eq_getElem hj]; exact decide_eq_true hb) t ht⟩
        · exact hF (by
            dsimp only; rw [List.getD_eq_getElem?_getD, List.getD_eq_getElem?_getD, List.getElem?_eq_getElem hi2, List.getElem?_eq_getElem hj]; exact decide_eq_false hb)
      · obtain ⟨ws, g1, g2⟩ := hPL
        have hvl := pr_len g2
        rw [List.length_map] at hvl
        have hwl : ws.length ≤ 40 := by rw [hvl]; exact Nat.le_trans (List.length_filter_le _ _) (by rw [List.length_range]; omega)
        have him : i * 40 ≤ 40 * 40 := Nat.mul_le_mul_right _ (by omega)
        refine z_cat (ex2.nn h1) g1 (size_ok (by omega)) fun c hc => ?_
        walk_at "gg"
        have hHc : H c = none := (ex.trans ex2).fresh hc (by simp)
        refine ⟨c, vs ++ ws, _, _, rfl, (ex.trans ex2).trans (ExB.new hc), hHc, upd_same, ?_, ?_⟩
        · rw [List.range_succ, List.flatMap_append]
          have := pr_mono (fun v q h => IsPair.mono h (ExB.new (o := .lst (vs ++ ws)) hc)) (pr_app (pr_mono (fun v q h => IsPair.mono h ex2) h2) g2)
          simpa using this
        · rw [List.length_append, Nat.succ_mul]; omega
    · rintro σ H' ⟨q, vs, v1, v2, rfl, ex, hq, h1, h2, h3⟩
      walk_at "gg"
      exact k q H' (pairsOf ss.length (fun i j => decide ((ss.getD i (0, 0)).2 = (ss.getD j (0, 0)).1))) (acy_pairsOf (r := fun i => (ss.getD i (0, 0)).1) fun i j hi hj h => by
        have h1 := of_decide_eq_true h
        have h2 := hle ss[i] (List.getElem_mem hi)
        rw [List.getD_eq_getElem?_getD, List.getD_eq_getElem?_getD, List.getElem?_eq_getElem hi, List.getElem?_eq_getElem hj] at h1
        show (ss.getD i (0, 0)).1 < (ss.getD j (0, 0)).1
        rw [List.getD_eq_getElem?_getD, List.getD_eq_getElem?_getD, List.getElem?_eq_getElem hi, List.getElem?_eq_getElem hj]
        simp only [Option.getD_some] at *
        omega) (pairsOf_len hn) hq ex ⟨vs, h1, h2⟩

abbrev n_w_any_arcs : List Str := ["_law_stream_here", "_law_size", "_law_nodes", "_law_arcs", "_law_k", "_law_tail"]
theorem sc_w_any_arcs : FnScope n_w_any_arcs ["_law_stream_here", "_law_size"] (defScope s_w_any_arcs) := ⟨rfl, rfl, rfl, by decide +kernel, rfl, by decide +kernel, by decide +kernel⟩
theorem ok_w_any_arcs {P : Program} {w : World} {K : Frg} {mg : Str → Option Value} {base : Heap} (T : Tx K mg) (k_w_draw : C8.Cal P w K mg base 1 "_law_draw" sp_w_draw []) : C8.Cal P w K mg base 2 "_law_any_arcs" sp_w_any_arcs [] := by
  obtain ⟨fd, F⟩ := T.d_w_any_arcs
  have bd : Binds K fd ["_law_stream_here", "_law_size"] [] := F.bindsN fun _ _ _ _ _ _ us hl => match us, hl with | [_, _], _ => rfl
  refine cal_by F T.g_w_any_arcs bd sc_w_any_arcs ?_ ?_
  · intro vs H Q E h
    match vs, h with
    | [_, _], _ => rfl
  · intro cdv A outer s H vs Q E hr h
    match vs, h with
    | [a0, a1], h =>
    refine ⟨_, (pss_cons (ps_set (i := 2) sc_w_any_arcs.nd rfl (by first | exact Or.inl rfl | exact Or.inr rfl) (pe_op op_add pe_int (C8.pe_c k_w_draw hr (by decide) rfl (pa_cons (pv 0) (pa_cons (pe_op op_add (pv 1) pe_int) pa_nil)))))
  (pss_cons (ps_set (i := 3) sc_w_any_arcs.nd rfl (by first | exact Or.inl rfl | exact Or.inr rfl) (pe_lst pa_nil))
  (pss_cons (ps_for PassesOwn.never rfl (pi_range1 (by rfl) T.range_ (pa_cons (pv 1) pa_nil)) (pg_name (i := 4) sc_w_any_arcs.nd rfl (by first | exact Or.inl rfl | exact Or.inr rfl))
  (pss_cons (ps_set (i := 5) sc_w_any_arcs.nd rfl (by first | exact Or.inl rfl | exact Or.inr rfl) (C8.pe_c k_w_draw hr (by decide) rfl (pa_cons (pv 0) (pa_cons (pe_op op_sub (pv 2) pe_int) pa_nil))))
  (pss_one (ps_expr (kBm (K := K) rfl (pe_bm PySem.F.plainAttrs_list PySem.F.slot_list_append PySem.F.type_list_append mt_append (pv 3) (pa_cons (pe_tup (pa_cons (pv 5) (pa_cons (pe_op op_add (pe_op op_add (pv 5) pe_int) (C8.pe_c k_w_draw hr (by decide) rfl (pa_cons (pv 0) (pa_cons (pe_op op_sub (pe_op op_sub (pv 2) pe_int) (pv 5)) pa_nil)))) pa_nil))) pa_nil)))))))
  (pss_one (ps_ret (pv 3)))))), ?_⟩
    rw [show start n_w_any_arcs [a0, a1] = [some a0, some a1, none, none, none, none] from rfl]
    obtain ⟨p, n, rfl, rfl, hn, hs, k⟩ := h
    walk_at "gg"
    refine ⟨p, _, rfl, rfl, by omega, by omega, hs, fun nd H1 nd0 nd1 ex1 st1 => ?_⟩
    walk_at "gg"
    refine ⟨size_ok (by simp), fun f hf => ?_⟩
    walk_at "gg"
    have hfp : f ≠ p := st1.ne hf
    have hf0 : H f = none := ex1.fresh hf (by simp [hfp])
    refine f_range0 (fun i σ H' => (∃ a b, σ = [some (.ref p), some (.int (n : Nat)), some (.int (2 + nd)), some (.ref f), a, b]) ∧ ExB [p] H H' ∧ Str3 H' p ∧ ∃ vs ss, H' f = some (.lst vs) ∧ Paired (IsSpan H') vs ss ∧ ss.length = i ∧ ∀ s ∈ ss, s.1 < s.2) ⟨⟨_, _, rfl⟩, ex1.trans (ExB.new hf), st1.old hf, [], [], upd_same, .nil, rfl, by simp⟩ ?_ ?_
    · rintro i σ H' hi ⟨⟨a, b, rfl⟩, ex, st, vs, ss, h1, h2, h3, h4⟩
      have hvl := pr_len h2
      walk_at "gg"
      refine ⟨p, _, rfl, rfl, by omega, by omega, st, fun d H2 d0 d1 ex2 st2 => ?_⟩
      have h1' := ex2.one h1 hfp
      have h2' : Paired (IsSpan H2) vs ss := pr_mono (fun v s h => IsSpan.str h st ex2) h2
      walk_at "gg"
      refine ⟨p, _, rfl, rfl, by omega, by omega, st2, fun d' H3 e0 e1 ex3 st3 => ?_⟩
      have h1'' := ex3.one h1' hfp
      have h2'' : Paired (IsSpan H3) vs ss := pr_mono (fun v s h => IsSpan.str h st2 ex3) h2'
      walk_at "gg"
      refine ⟨size_ok (by simp), fun t ht => ?_⟩
      have h1t := upd_old (w := .tup [.int d, .int (d + 1 + d')]) h1'' ht
      walk_at "gg"
      have nft : f ≠ t := ne_of_none h1'' ht
      refine ⟨⟨_, _, rfl⟩, (((ex.trans ex2).trans ex3).trans (ExB.new ht)).free hf0, ?_, vs ++ [.ref t], ss ++ [(d, d + 1 + d')], upd_same, ?_, ?_, ?_⟩
      · exact st3.push hfp ht
      · exact sp_push (q := (d, d + 1 + d')) h2'' h1'' ht
      · rw [List.length_append, h3]; rfl
      · intro s hs
        rcases List.mem_append.mp hs with q | q
        · exact h4 s q
        · rw [List.mem_singleton] at q; subst q; show d < d + 1 + d'; omega
    · rintro σ H' ⟨⟨a, b, rfl⟩, ex, st, vs, ss, h1, h2, h3, h4⟩
      walk_at "gg"
      exact k f H' ss h3 h4 hf0 ex st ⟨vs, h1, h2⟩

abbrev n_w_by_spans : List Str := ["_law_spans", "_law_size", "_law_found", "_law_low", "_law_high"]
theorem sc_w_by_spans : FnScope n_w_by_spans ["_law_spans"] (defScope s_w_by_spans) := ⟨rfl, rfl, rfl, by decide +kernel, rfl, by decide +kernel, by decide +kernel⟩
theorem ok_w_by_spans {P : Program} {w : World} {K : Frg} {mg : Str → Option Value} {base : Heap} (T : Tx K mg) : C8.Cal P w K mg base 1 "_law_by_spans" sp_w_by_spans [] := by
  obtain ⟨fd, F⟩ := T.d_w_by_spans
  have bd : Binds K fd ["_law_spans"] [] := F.bindsN fun _ _ _ _ _ _ us hl => match us, hl with | [_], _ => rfl
  refine cal_by F T.g_w_by_spans bd sc_w_by_spans ?_ ?_
  · intro vs H Q E h
    match vs, h with
    | [_], _ => rfl
  · intro cdv A outer s H vs Q E hr h
    match vs, h with
    | [a0], h =>
    refine ⟨_, (pss_cons (ps_set (i := 1) sc_w_by_spans.nd rfl (by first | exact Or.inl rfl | exact Or.inr rfl) (pe_callB (k_len (K := K) rfl) (by rfl) T.len_ (by decide +kernel) (pa_cons (pv 0) pa_nil)))
  (pss_cons (ps_set (i := 2) sc_w_by_spans.nd rfl (by first | exact Or.inl rfl | exact Or.inr rfl) (pe_lst pa_nil))
  (pss_cons (ps_for PassesOwn.never rfl (pi_range1 (by rfl) T.range_ (pa_cons (pv 1) pa_nil)) (pg_name (i := 3) sc_w_by_spans.nd rfl (by first | exact Or.inl rfl | exact Or.inr rfl))
  (pss_one (ps_set (i := 2) sc_w_by_spans.nd rfl (by first | exact Or.inl rfl | exact Or.inr rfl) (pe_op op_cat (pv 2) (pe_lc (own := [("_law_high", 4)]) (by rfl) sc_w_by_spans.nd (pi_range1 (by rfl) T.range_ (pa_cons (pv 1) pa_nil)) (blkOk_by (own := [("_law_high", 4)]) (N := n_w_by_spans) (sc := defScope s_w_by_spans) (by decide +kernel)) (fun _ _ _ _ _ => (pg_name (i := 4) sc_w_by_spans.nd rfl (by first | exact Or.inl rfl | exact Or.inr rfl))) (fun _ _ _ _ _ => pts_one (pt_cmpR op_lt (pe_ix (ixt (K := K) rfl) (pe_ix (ixl (K := K) rfl) (pv 0) (pv 3) (fun _ _ => rfl)) pe_int (fun _ _ => rfl)) (pe_ix (ixt (K := K) rfl) (pe_ix (ixl (K := K) rfl) (pv 0) (pv 4) (fun _ _ => rfl)) pe_int (fun _ _ => rfl)) (nomark _))) (fun _ _ _ _ _ => (pe_tup (pa_cons (pv 3) (pa_cons (pv 4) pa_nil)))))))))
  (pss_one (ps_ret (pv 2)))))), ?_⟩
    rw [show start n_w_by_spans [a0] = [some a0, none, none, none, none] from rfl]
    obtain ⟨p, ss, rfl, hS, hlen, hle, k⟩ := h
    have hn : ss.length ≤ 40 := hlen
    obtain ⟨vs00, hv00, hp00⟩ := id hS
    have hvl00 := pr_len hp00
    walk_at "gg"
    refine ⟨size_ok (by simp), fun f hf => ?_⟩
    have hv0 := upd_old (w := .lst []) hv00 hf
    walk_at "gg"
    rw [hvl00]
    refine f_range0 (fun i σ H' => ∃ q vs v1 v2, σ = [some (.ref p), some (.int (ss.length : Nat)), some (.ref q), v1, v2] ∧ ExB [] H H' ∧ H q = none ∧ H' q = some (.lst vs) ∧ Paired (IsPair H') vs ((List.range i).flatMap fun i => ((List.range ss.length).filter ((fun i j => decide ((ss.getD i (0, 0)).2 < (ss.getD j (0, 0)).1)) i)).map fun j => (i, j)) ∧ vs.length ≤ i * 40) ⟨f, [], none, none, rfl, ExB.new hf, hf, upd_same, by simp; exact .nil, by simp⟩ ?_ ?_
    · rintro i σ H' hi ⟨q, vs, v1, v2, rfl, ex, hq, h1, h2, h3⟩
      walk_at "gg"
      intro A hA
      skip
      refine l_pairs0 ((fun i j => decide ((ss.getD i (0, 0)).2 < (ss.getD j (0, 0)).1)) i) (fun j => (i, j)) hA (by omega) (fun j acc H2 Nx hj ex2 hacc hlen hF hT => ?_) (fun H2 ex2 hPL => ?_)
      · obtain ⟨vs', hv1, hv2⟩ := (hS.mono (ex.trans ex2))
        have hi2 : i < ss.length := hi
        obtain ⟨a1, ha1, b1, rfl, hb1⟩ := pr_getR hv2 (List.getElem?_eq_getElem hi2)
        obtain ⟨a2, ha2, b2, rfl, hb2⟩ := pr_getR hv2 (List.getElem?_eq_getElem hj)
        have e1 := at_nat ha1
        have e2 := at_nat ha2
        walk_at "wp"
        walk_at "gg"
        refine z_if (fun hb => ?_) (fun hb => ?_)
        · walk_at "gg"
          refine ⟨size_ok (by simp), fun t ht => ?_⟩
          exact ⟨acc, upd_old hacc ht, size_lt (by omega), hT (by
            dsimp only; rw [List.getD_eq_getElem?_getD, List.getD_eq_getElem?_getD, List.getElem?_eq_getElem hi2, List.getElem?_eq_getElem hj]; exact decide_eq_true hb) t ht⟩
        · exact hF (by
            dsimp only; rw [List.getD_eq_getElem?_getD, List.getD_eq_getElem?_getD, List.getElem?_eq_getElem hi2, List.getElem?_eq_getElem hj]; exact decide_eq_false hb)
      · obtain ⟨ws, g1, g2⟩ := hPL
        have hvl := pr_len g2
        rw [List.length_map] at hvl
        have hwl : ws.length ≤ 40 := by rw [hvl]; exact Nat.le_trans (List.length_filter_le _ _) (by rw [List.length_range]; omega)
        have him : i * 40 ≤ 40 * 40 := Nat.mul_le_mul_right _ (by omega)
        refine z_cat (ex2.nn h1) g1 (size_ok (by omega)) fun c hc => ?_
        walk_at "gg"
        have hHc : H c = none := (ex.trans ex2).fresh hc (by simp)
        refine ⟨c, vs ++ ws, _, _, rfl, (ex.trans ex2).trans (ExB.new hc), hHc, upd_same, ?_, ?_⟩
        · rw [List.range_succ, List.flatMap_append]
          have := pr_mono (fun v q h => IsPair.mono h (ExB.new (o := .lst (vs ++ ws)) hc)) (pr_app (pr_mono (fun v q h => IsPair.mono h ex2) h2) g2)
          simpa using this
        · rw [List.length_append, Nat.succ_mul]; omega
    · rintro σ H' ⟨q, vs, v1, v2, rfl, ex, hq, h1, h2, h3⟩
      walk_at "gg"
      exact k q H' (pairsOf ss.length (fun i j => decide ((ss.getD i (0, 0)).2 < (ss.getD j (0, 0)).1))) (acy_pairsOf (r := fun i => (ss.getD i (0, 0)).1) fun i j hi hj h => by
        have h1 := of_decide_eq_true h
        have h2 := hle ss[i] (List.getElem_mem hi)
        rw [List.getD_eq_getElem?_getD, List.getD_eq_getElem?_getD, List.getElem?_eq_getElem hi, List.getElem?_eq_getElem hj] at h1
        show (ss.getD i (0, 0)).1 < (ss.getD j (0, 0)).1
        rw [List.getD_eq_getElem?_getD, List.getD_eq_getElem?_getD, List.getElem?_eq_getElem hi, List.getElem?_eq_getElem hj]
        simp only [Option.getD_some] at *
        omega) (pairsOf_len hn) hq ex ⟨vs, h1, h2⟩

abbrev n_w_any_spans : List Str := ["_law_stream_here", "_law_size", "_law_most", "_law_length", "_law_spans", "_law_k", "_law_left", "_law_right"]
theorem sc_w_any_spans : FnScope n_w_any_spans ["_law_stream_here", "_law_size", "_law_most", "_law_length"] (defScope s_w_any_spans) := ⟨rfl, rfl, rfl, by decide +kernel, rfl, by decide +kernel, by decide +kernel⟩
theorem ok_w_any_spans {P : Program} {w : World} {K : Frg} {mg : Str → Option Value} {base : Heap} (T : Tx K mg) (k_w_draw : C8.Cal P w K mg base 1 "_law_draw" sp_w_draw []) : C8.Cal P w K mg base 2 "_law_any_spans" sp_w_any_spans [] := by
  obtain ⟨fd, F⟩ := T.d_w_any_spans
  have bd : Binds K fd ["_law_stream_here", "_law_size", "_law_most", "_law_length"] [] := F.bindsN fun _ _ _ _ _ _ us hl => match us, hl with | [_, _, _, _], _ => rfl
  refine cal_by F T.g_w_any_spans bd sc_w_any_spans ?_ ?_
  · intro vs H Q E h
    match vs, h with
    | [_, _, _, _], _ => rfl
  · intro cdv A outer s H vs Q E hr h
    match vs, h with
    | [a0, a1, a2, a3], h =>
    refine ⟨_, (pss_cons (ps_set (i := 4) sc_w_any_spans.nd rfl (by first | exact Or.inl rfl | exact Or.inr rfl) (pe_lst pa_nil))
  (pss_cons (ps_for PassesOwn.never rfl (pi_range1 (by rfl) T.range_ (pa_cons (pv 1) pa_nil)) (pg_name (i := 5) sc_w_any_spans.nd rfl (by first | exact Or.inl rfl | exact Or.inr rfl))
  (pss_cons (ps_set (i := 6) sc_w_any_spans.nd rfl (by first | exact Or.inl rfl | exact Or.inr rfl) (C8.pe_c k_w_draw hr (by decide) rfl (pa_cons (pv 0) (pa_cons (pv 2) pa_nil))))
  (pss_cons (ps_set (i := 7) sc_w_any_spans.nd rfl (by first | exact Or.inl rfl | exact Or.inr rfl) (pe_op op_add (pv 6) (pv 3)))
  (C8.pss_cut (ps_if (pt_cmpR op_lt (pv 3) pe_int (nomark _)) (pss_one (ps_set (i := 7) sc_w_any_spans.nd rfl (by first | exact Or.inl rfl | exact Or.inr rfl) (pe_op op_add (pv 6) (C8.pe_c k_w_draw hr (by decide) rfl (pa_cons (pv 0) (pa_cons (pv 2) pa_nil)))))) pss_nil)
  (pss_one (ps_expr (kBm (K := K) rfl (pe_bm PySem.F.plainAttrs_list PySem.F.slot_list_append PySem.F.type_list_append mt_append (pv 4) (pa_cons (pe_tup (pa_cons (pv 6) (pa_cons (pv 7) pa_nil))) pa_nil)))))))))
  (pss_one (ps_ret (pv 4))))), ?_⟩
    rw [show start n_w_any_spans [a0, a1, a2, a3] = [some a0, some a1, some a2, some a3, none, none, none, none] from rfl]
    obtain ⟨p, n, m, l, rfl, rfl, rfl, rfl, hn, hm, hm2, hs, k⟩ := h
    walk_at "gg"
    refine ⟨size_ok (by simp), fun f hf => ?_⟩
    walk_at "gg"
    have hfp : f ≠ p := hs.ne hf
    refine f_range0 (fun i σ H' => (∃ a b c, σ = [some (.ref p), some (.int (n : Nat)), some (.int m), some (.int l), some (.ref f), a, b, c]) ∧ ExB [p] H H' ∧ Str3 H' p ∧ ∃ vs ss, H' f = some (.lst vs) ∧ Paired (IsSpan H') vs ss ∧ ss.length = i ∧ ∀ s ∈ ss, s.1 ≤ s.2) ⟨⟨_, _, _, rfl⟩, (ExB.new hf), hs.old hf, [], [], upd_same, .nil, rfl, by simp⟩ ?_ ?_
    · rintro i σ H' hi ⟨⟨a, b, c, rfl⟩, ex, st, vs, ss, h1, h2, h3, h4⟩
      have hvl := pr_len h2
      walk_at "gg"
      refine ⟨p, m, rfl, rfl, hm, by omega, st, fun d H2 d0 d1 ex2 st2 => ?_⟩
      have h1' := ex2.one h1 hfp
      have h2' : Paired (IsSpan H2) vs ss := pr_mono (fun v s h => IsSpan.str h st ex2) h2
      walk_at "gg"
      refine z_cut (fun σ H3 => ∃ rr : Int, d ≤ rr ∧ σ = [some (.ref p), some (.int (n : Nat)), some (.int m), some (.int l), some (.ref f), some (.int (i : Nat)), some (.int d), some (.int rr)] ∧ ExB [p] H H3 ∧ Str3 H3 p ∧ H3 f = some (.lst vs) ∧ Paired (IsSpan H3) vs ss) ?_ ?_
      · walk_at "gg"
        refine z_if (fun hl => ?_) (fun hl => ?_)
        · walk_at "gg"
          refine ⟨p, m, rfl, rfl, hm, by omega, st2, fun d' H3 e0 e1 ex3 st3 => ?_⟩
          walk_at "gg"
          exact ⟨d + d', by omega, rfl, (ex.trans ex2).trans ex3, st3, ex3.one h1' hfp, pr_mono (fun v s h => IsSpan.str h st2 ex3) h2'⟩
        · walk_at "gg"
          exact ⟨d + l, by omega, rfl, ex.trans ex2, st2, h1', h2'⟩
      · rintro σ H3 ⟨rr, hrr, rfl, ex3, st3, h1'', h2''⟩
        walk_at "gg"
        refine ⟨size_ok (by simp), fun t ht => ?_⟩
        have h1t := upd_old (w := .tup [.int d, .int rr]) h1'' ht
        walk_at "gg"
        have nft : f ≠ t := ne_of_none h1'' ht
        refine ⟨⟨_, _, _, rfl⟩, (ex3.trans (ExB.new ht)).free hf, ?_, vs ++ [.ref t], ss ++ [(d, rr)], upd_same, ?_, ?_, ?_⟩
        · exact st3.push hfp ht
        · exact sp_push (q := (d, rr)) h2'' h1'' ht
        · rw [List.length_append, h3]; rfl
        · intro s hs
          rcases List.mem_append.mp hs with q | q
          · exact h4 s q
          · rw [List.mem_singleton] at q; subst q; exact hrr
    · rintro σ H' ⟨⟨a, b, c, rfl⟩, ex, st, vs, ss, h1, h2, h3, h4⟩
      walk_at "gg"
      exact k f H' ss h3 h4 hf ex st ⟨vs, h1, h2⟩

abbrev n_w_by_rows : List Str := ["_law_one", "_law_other", "_law_found", "_law_at", "_law_high"]
theorem sc_w_by_rows : FnScope n_w_by_rows ["_law_one", "_law_other"] (defScope s_w_by_rows) := ⟨rfl, rfl, rfl, by decide +kernel, rfl, by decide +kernel, by decide +kernel⟩
theorem ok_w_by_rows {P : Program} {w : World} {K : Frg} {mg : Str → Option Value} {base : Heap} (T : Tx K mg) : C8.Cal P w K mg base 1 "_law_by_rows" sp_w_by_rows [] := by
  obtain ⟨fd, F⟩ := T.d_w_by_rows
  have bd : Binds K fd ["_law_one", "_law_other"] [] := F.bindsN fun _ _ _ _ _ _ us hl => match us, hl with | [_, _], _ => rfl
  refine cal_by F T.g_w_by_rows bd sc_w_by_rows ?_ ?_
  · intro vs H Q E h
    match vs, h with
    | [_, _], _ => rfl
  · intro cdv A outer s H vs Q E hr h
    match vs, h with
    | [a0, a1], h =>
    refine ⟨_, (pss_cons (ps_set (i := 2) sc_w_by_rows.nd rfl (by first | exact Or.inl rfl | exact Or.inr rfl) (pe_lst pa_nil))
  (pss_cons (ps_for PassesOwn.never rfl (pi_range1 (by rfl) T.range_ (pa_cons (pe_callB (k_len (K := K) rfl) (by rfl) T.len_ (by decide +kernel) (pa_cons (pv 0) pa_nil)) pa_nil)) (pg_name (i := 3) sc_w_by_rows.nd rfl (by first | exact Or.inl rfl | exact Or.inr rfl))
  (pss_one (ps_set (i := 2) sc_w_by_rows.nd rfl (by first | exact Or.inl rfl | exact Or.inr rfl) (pe_op op_cat (pv 2) (pe_lc (own := [("_law_high", 4)]) (by rfl) sc_w_by_rows.nd (kIl (K := K) rfl (pi_list (pe_slice (k_sl (K := K) rfl) (pv 0) (po_some (pe_op op_add (pv 3) pe_int)) po_none))) (blkOk_by (own := [("_law_high", 4)]) (N := n_w_by_rows) (sc := defScope s_w_by_rows) (by decide +kernel)) (fun _ _ _ _ _ => (pg_name (i := 4) sc_w_by_rows.nd rfl (by first | exact Or.inl rfl | exact Or.inr rfl))) (fun _ _ _ _ _ => pts_one (pt_cmpR op_lt (kBm (K := K) rfl (pe_bm PySem.F.plainAttrs_list PySem.F.slot_list_index PySem.F.type_list_index (k_index (K := K) rfl) (pv 1) (pa_cons (pe_ix (ixl (K := K) rfl) (pv 0) (pv 3) (fun _ _ => rfl)) pa_nil))) (kBm (K := K) rfl (pe_bm PySem.F.plainAttrs_list PySem.F.slot_list_index PySem.F.type_list_index (k_index (K := K) rfl) (pv 1) (pa_cons (pv 4) pa_nil))) (nomark _))) (fun _ _ _ _ _ => (pe_tup (pa_cons (pe_ix (ixl (K := K) rfl) (pv 0) (pv 3) (fun _ _ => rfl)) (pa_cons (pv 4) pa_nil)))))))))
  (pss_one (ps_ret (pv 2))))), ?_⟩
    rw [show start n_w_by_rows [a0, a1] = [some a0, some a1, none, none, none] from rfl]
    obtain ⟨p, q, xs, ys, n, rfl, rfl, hx, hy, px, py, hn, k⟩ := h
    have hlx := perm_len px
    have hly := perm_len py
    walk_at "gg"
    refine ⟨size_ok (by simp), fun f hf => ?_⟩
    have hx' := upd_old (w := .lst []) hx hf
    walk_at "gg"
    rw [nv_length]
    refine f_range0 (fun i σ H' => ∃ o vs ps a b, σ = [some (.ref p), some (.ref q), some (.ref o), a, b] ∧ ExB [] H H' ∧ H o = none ∧ H' o = some (.lst vs) ∧ Paired (IsPair H') vs ps ∧ ps.length ≤ i * 40 ∧ Asc xs ps) ⟨f, [], [], _, _, rfl, ExB.new hf, hf, upd_same, .nil, by simp, fun p hp => by cases hp⟩ ?_ ?_
    · rintro i σ H' hi ⟨o, vs, ps, a, b, rfl, ex, ho, h1, h2, h3, h4⟩
      have hx1 := ex.nn hx
      have hy1 := ex.nn hy
      obtain ⟨u, hu⟩ := get_of_lt (xs := xs) (i := i) (by omega)
      have a1 := at_nv hu
      have hun := perm_lt px hu
      obtain ⟨ju, hju⟩ := List.mem_iff_getElem?.mp (py.mem_iff.mpr (List.mem_range.mpr hun))
      walk_at "gg"
      intro s hs
      have e1 : cutV (nv xs) (some ((i : Nat) + 1 : Int)) none = nv (xs.drop (i + 1)) := by
        have := cut_from (xs := nv xs) (i := i + 1) (by rw [nv_length]; omega)
        rw [show ((i + 1 : Nat) : Int) = (i : Nat) + 1 by omega] at this
        rw [this, nv_drop]
      rw [e1]
      walk_at "gg"
      intro A hA
      refine l_pairsL (xs := xs.drop (i + 1)) (fun m => decide ((ju : Int) < ((ys.idxOf m : Nat) : Int))) (fun m => (u, m)) upd_same hA (by rw [List.length_drop]; omega) (fun j m acc H2 Nx hm ex2 hacc hlen hF hT => ?_) (fun H2 ex2 hPL => ?_)
      · have ex3 := (ExB.new (o := .lst (nv (xs.drop (i + 1)))) hs).trans ex2
        have hx2 := ex3.nn hx1
        have hy2 := ex3.nn hy1
        rw [List.getElem?_drop] at hm
        have hmn := perm_lt px hm
        obtain ⟨jm, hjm⟩ := List.mem_iff_getElem?.mp (py.mem_iff.mpr (List.mem_range.mpr hmn))
        have hid : ys.idxOf m = jm := by
          have h1 := lt_of_get hjm
          have h2 : ys[jm] = m := (List.getElem?_eq_some_iff.mp hjm).2
          rw [← h2]
          exact (perm_nd py).idxOf_getElem jm h1
        rw [hid] at hF hT
        have hal : acc.length ≤ 40 := by have := lt_of_get hm; omega
        walk_at "wp"
        walk_at "gg"
        refine z_indexN hy2 hju (perm_nd py) ?_
        walk_at "gg"
        refine z_indexN hy2 hjm (perm_nd py) ?_
        walk_at "gg"
        refine z_if (fun hb => ?_) (fun hb => ?_)
        · walk_at "gg"
          refine ⟨size_ok (by simp), fun t ht => ?_⟩
          exact ⟨acc, upd_old hacc ht, size_lt (by omega), hT (decide_eq_true hb) t ht⟩
        · exact hF (decide_eq_false hb)
      · obtain ⟨ws, g1, g2⟩ := hPL
        have ex3 := (ExB.new (o := .lst (nv (xs.drop (i + 1)))) hs).trans ex2
        have hvl := pr_len g2
        have hvl2 := pr_len h2
        rw [List.length_map] at hvl
        have hwl : ws.length ≤ 40 := by rw [hvl]; exact Nat.le_trans (List.length_filter_le _ _) (by rw [List.length_drop]; omega)
        have him : i * 40 ≤ 40 * 40 := Nat.mul_le_mul_right _ (by omega)
        refine z_cat (ex3.nn h1) g1 (size_ok (by omega)) fun c hc => ?_
        have hH0 : H c = none := (ex.trans ex3).fresh hc (by simp)
        walk_at "gg"
        refine ⟨c, vs ++ ws, ps ++ _, _, _, rfl, (ex.trans ex3).trans (ExB.new hc), hH0, upd_same, pr_mono (fun v q h => IsPair.mono h (ExB.new hc)) (pr_app (pr_mono (fun v q h => IsPair.mono h ex3) h2) g2), ?_, h4.app ?_⟩
        · rw [List.length_append, ← pr_len g2, Nat.succ_mul]; omega
        · intro z hz
          obtain ⟨m, hm, rfl⟩ := List.mem_map.mp hz
          rw [List.mem_filter] at hm
          obtain ⟨j, hj⟩ := List.mem_iff_getElem?.mp hm.1
          rw [List.getElem?_drop] at hj
          exact ⟨i, i + 1 + j, by omega, hu, hj⟩
    · rintro σ H' ⟨o, vs, ps, a, b, rfl, ex, ho, h1, h2, h3, h4⟩
      walk_at "gg"
      have him : xs.length * 40 ≤ 40 * 40 := Nat.mul_le_mul_right _ (by omega)
      exact k o H' ps (acy_asc px h4) (by omega) ho ex ⟨vs, h1, h2⟩

abbrev n_w_crown : List Str := ["_law_stream_here", "_law_size", "_law_names", "_law_pairs_here", "_law_k", "_law_low", "_law_high", "_law_j"]
theorem sc_w_crown : FnScope n_w_crown ["_law_stream_here", "_law_size"] (defScope s_w_crown) := ⟨rfl, rfl, rfl, by decide +kernel, rfl, by decide +kernel, by decide +kernel⟩
theorem ok_w_crown {P : Program} {w : World} {K : Frg} {mg : Str → Option Value} {base : Heap} (T : Tx K mg) (k_w_mixed : C8.Cal P w K mg base 2 "_law_mixed" sp_w_mixed []) (k_w_draw : C8.Cal P w K mg base 1 "_law_draw" sp_w_draw []) : C8.Cal P w K mg base 3 "_law_crown" sp_w_crown [] := by
  obtain ⟨fd, F⟩ := T.d_w_crown
  have bd : Binds K fd ["_law_stream_here", "_law_size"] [] := F.bindsN fun _ _ _ _ _ _ us hl => match us, hl with | [_, _], _ => rfl
  refine cal_by F T.g_w_crown bd sc_w_crown ?_ ?_
  · intro vs H Q E h
    match vs, h with
    | [_, _], _ => rfl
  · intro cdv A outer s H vs Q E hr h
    match vs, h with
    | [a0, a1], h =>
    refine ⟨_, (pss_cons (ps_set (i := 2) sc_w_crown.nd rfl (by first | exact Or.inl rfl | exact Or.inr rfl) (C8.pe_c k_w_mixed hr (by decide) rfl (pa_cons (pv 0) (pa_cons (pe_listRg rfl rfl T.list_ (prg_1 rfl T.range_ (pv 1))) pa_nil))))
  (pss_cons (ps_set (i := 3) sc_w_crown.nd rfl (by first | exact Or.inl rfl | exact Or.inr rfl) (pe_lst pa_nil))
  (pss_cons (ps_for PassesOwn.never rfl (pi_range1 (by rfl) T.range_ (pa_cons pe_int pa_nil)) (pg_name (i := 4) sc_w_crown.nd rfl (by first | exact Or.inl rfl | exact Or.inr rfl))
  (pss_one (ps_set (i := 3) sc_w_crown.nd rfl (by first | exact Or.inl rfl | exact Or.inr rfl) (pe_op op_cat (pv 3) (pe_lc (own := [("_law_j", 7)]) (by rfl) sc_w_crown.nd (pi_range1 (by rfl) T.range_ (pa_cons pe_int pa_nil)) (blkOk_by (own := [("_law_j", 7)]) (N := n_w_crown) (sc := defScope s_w_crown) (by decide +kernel)) (fun _ _ _ _ _ => (pg_name (i := 7) sc_w_crown.nd rfl (by first | exact Or.inl rfl | exact Or.inr rfl))) (fun _ _ _ _ _ => pts_one (pt_cmpR op_ne (pv 7) (pv 4) (nomark _))) (fun _ _ _ _ _ => (pe_tup (pa_cons (pe_ix (ixl (K := K) rfl) (pv 2) (pv 4) (fun _ _ => rfl)) (pa_cons (pe_ix (ixl (K := K) rfl) (pv 2) (pe_op op_add pe_int (pv 7)) (fun _ _ => rfl)) pa_nil)))))))))
  (pss_cons (ps_for PassesOwn.never rfl (pi_range1 (by rfl) T.range_ (pa_cons pe_int pa_nil)) (pg_name (i := 5) sc_w_crown.nd rfl (by first | exact Or.inl rfl | exact Or.inr rfl))
  (pss_one (ps_for PassesOwn.never rfl (pi_range2 (by rfl) T.range_ (pa_cons pe_int (pa_cons (pv 1) pa_nil))) (pg_name (i := 6) sc_w_crown.nd rfl (by first | exact Or.inl rfl | exact Or.inr rfl))
  (pss_one (ps_if (pt_cmpR op_eq (C8.pe_c k_w_draw hr (by decide) rfl (pa_cons (pv 0) (pa_cons pe_int pa_nil))) pe_int (nomark _)) (pss_one (ps_expr (kBm (K := K) rfl (pe_bm PySem.F.plainAttrs_list PySem.F.slot_list_append PySem.F.type_list_append mt_append (pv 3) (pa_cons (pe_tup (pa_cons (pe_ix (ixl (K := K) rfl) (pv 2) (pv 5) (fun _ _ => rfl)) (pa_cons (pe_ix (ixl (K := K) rfl) (pv 2) (pv 6) (fun _ _ => rfl)) pa_nil))) pa_nil))))) pss_nil)))))
  (pss_one (ps_ret (pv 3))))))), ?_⟩
    rw [show start n_w_crown [a0, a1] = [some a0, some a1, none, none, none, none, none, none] from rfl]
    obtain ⟨p, n, rfl, rfl, h5, hn, hs, k⟩ := h
    walk_at "gg"
    refine ⟨rgOk0 (by omega), fun q hq => ?_⟩
    rw [rgV_nv]
    walk_at "gg"
    have hqp : q ≠ p := hs.ne hq
    refine ⟨p, q, nv (List.range n), rfl, rfl, hs.old hq, upd_same, hqp, by rw [nv_length, List.length_range]; omega, fun nm H1 ws pm hnm ex1 st1 hw => ?_⟩
    obtain ⟨xs, rfl, px⟩ := perm_nv pm
    have hlx := perm_len px
    have hnp : nm ≠ p := (hs.old hq).ne hnm
    have exa : ExB [p] H H1 := (ExB.new hq).trans ex1
    walk_at "gg"
    refine ⟨size_ok (by simp), fun f hf => ?_⟩
    have hfp : f ≠ p := st1.ne hf
    have hf0 : H f = none := exa.fresh hf (by simp [hfp])
    walk_at "gg"
    refine f_range0 (n := 3) (fun i σ H' => (∃ q vs ps a b c d, σ = [some (.ref p), some (.int (n : Nat)), some (.ref nm), some (.ref q), a, b, c, d] ∧ ExB [p] H H' ∧ Str3 H' p ∧ H' nm = some (.lst (nv xs)) ∧ H q = none ∧ q ≠ p ∧ q ≠ nm ∧ H' q = some (.lst vs) ∧ Paired (IsPair H') vs ps ∧ ps.length ≤ i * 3 ∧ Asc xs ps)) ⟨f, [], [], _, _, _, _, rfl, exa.trans (ExB.new hf), st1.old hf, upd_old hw hf, hf0, hfp, (ne_of_none hw hf).symm, upd_same, .nil, by simp, fun p hp => by cases hp⟩ ?_ ?_
    · rintro i σ H' hi ⟨q, vs, ps, a, b, c, d, rfl, ex, st, hnm', hq0, hqp, hqn, h1, h2, h3, h4⟩
      obtain ⟨u, hu⟩ := get_of_lt (xs := xs) (i := i) (by omega)
      have a1 := at_nv hu
      walk_at "gg"
      intro A hA
      refine l_pairs0 (n := 3) (fun j => decide (j ≠ i)) (fun j => (u, xs.getD (3 + j) 0)) hA (by omega) (fun j acc H2 Nx hj ex2 hacc hlen hF hT => ?_) (fun H2 ex2 hPL => ?_)
      · have hw2 := ex2.nn hnm'
        obtain ⟨z, hz⟩ := get_of_lt (xs := xs) (i := 3 + j) (by omega)
        have hzz : xs.getD (3 + j) 0 = z := by rw [List.getD_eq_getElem?_getD, hz]; rfl
        rw [hzz] at hT
        have a2 : atI (nv xs) ((3 : Int) + (j : Nat)) = some (.int (z : Nat)) := by
          have := at_nv hz
          rwa [show (((3 + j : Nat)) : Int) = (3 : Int) + (j : Nat) by omega] at this
        walk_at "wp"
        walk_at "gg"
        refine z_ifN (fun hb => ?_) (fun hb => ?_)
        · walk_at "gg"
          refine ⟨size_ok (by simp), fun t ht => ?_⟩
          exact ⟨acc, upd_old hacc ht, size_lt (by omega), hT (decide_eq_true (fun q => hb (by rw [q]))) t ht⟩
        · exact hF (decide_eq_false (fun q => q (by omega)))
      · obtain ⟨ws, g1, g2⟩ := hPL
        have hvl := pr_len g2
        have hvl2 := pr_len h2
        rw [List.length_map] at hvl
        have hwl : ws.length ≤ 3 := by rw [hvl]; exact Nat.le_trans (List.length_filter_le _ _) (by rw [List.length_range]; omega)
        refine z_cat (ex2.nn h1) g1 (size_ok (by omega)) fun c hc => ?_
        have exc : ExB [p] H (upd H2 c (.lst (vs ++ ws))) := (ex.trans ex2.up).trans (ExB.new hc)
        have hcp : c ≠ p := (st.mono ex2).ne hc
        have hH0 : H c = none := (ex.trans ex2.up).fresh hc (by simp [hcp])
        walk_at "gg"
        refine ⟨c, vs ++ ws, ps ++ _, _, _, _, _, rfl, exc, (st.mono ex2).old hc, upd_old (ex2.nn hnm') hc, hH0, hcp, (ne_of_none (ex2.nn hnm') hc).symm, upd_same, pr_mono (fun v q h => IsPair.mono h (ExB.new hc)) (pr_app (pr_mono (fun v q h => IsPair.mono h ex2) h2) g2), ?_, h4.app ?_⟩
        · rw [List.length_append, ← pr_len g2, Nat.succ_mul]; omega
        · intro q hq
          obtain ⟨j, hj, rfl⟩ := List.mem_map.mp hq
          rw [List.mem_filter] at hj
          have hj3 := List.mem_range.mp hj.1
          refine ⟨i, 3 + j, by omega, hu, ?_⟩
          show xs[3 + j]? = some (xs.getD (3 + j) 0)
          rw [List.getD_eq_getElem?_getD, List.getElem?_eq_getElem (by omega)]; rfl
    · rintro σ H' ⟨q, vs, ps, a, b, c, d, rfl, ex, st, hnm', hq0, hqp, hqn, h1, h2, h3, h4⟩
      walk_at "gg"
      refine f_range0 (n := 6) (fun i σ H' => (∃ a b c d, σ = [some (.ref p), some (.int (n : Nat)), some (.ref nm), some (.ref q), a, b, c, d]) ∧ ExB [p] H H' ∧ Str3 H' p ∧ H' nm = some (.lst (nv xs)) ∧ ∃ vs ps, H' q = some (.lst vs) ∧ Paired (IsPair H') vs ps ∧ ps.length ≤ 9 + i * 40 ∧ Asc xs ps) ⟨⟨_, _, _, _, rfl⟩, ex, st, hnm', vs, ps, h1, h2, by omega, h4⟩ ?_ ?_
      · rintro i σ H' hi ⟨⟨a, b, c, d, rfl⟩, ex, st, hnm', vs, ps, h1, h2, h3, h4⟩
        walk_at "gg"
        have e1 : ((n : Int) - 6).toNat = n - 6 := by omega
        rw [e1]
        refine f_range (fun j σ H' => (∃ a c d, σ = [some (.ref p), some (.int (n : Nat)), some (.ref nm), some (.ref q), a, some (.int (i : Nat)), c, d]) ∧ ExB [p] H H' ∧ Str3 H' p ∧ H' nm = some (.lst (nv xs)) ∧ ∃ vs ps, H' q = some (.lst vs) ∧ Paired (IsPair H') vs ps ∧ ps.length ≤ 9 + i * 40 + j ∧ Asc xs ps) ⟨⟨_, _, _, rfl⟩, ex, st, hnm', vs, ps, h1, h2, by omega, h4⟩ ?_ ?_
        · rintro j σ H' hj ⟨⟨a, c, d, rfl⟩, ex, st, hnm', vs, ps, h1, h2, h3, h4⟩
          walk_at "gg"
          refine ⟨p, _, rfl, rfl, by omega, by omega, st, fun d' H3 e0 e1 ex3 st3 => ?_⟩
          have hw3 := ex3.one hnm' hnp
          have h13 := ex3.one h1 hqp
          have h23 : Paired (IsPair H3) vs ps := pr_mono (fun v s h => IsPair.str h st ex3) h2
          walk_at "gg"
          refine z_if (fun hd => ?_) (fun hd => ?_)
          · obtain ⟨u, hu⟩ := get_of_lt (xs := xs) (i := i) (by omega)
            obtain ⟨z, hz⟩ := get_of_lt (xs := xs) (i := 6 + j) (by omega)
            have a1 := at_nv hu
            have a2 : atI (nv xs) ((6 : Int) + (j : Nat)) = some (.int (z : Nat)) := by
              have := at_nv hz
              rwa [show (((6 + j : Nat)) : Int) = (6 : Int) + (j : Nat) by omega] at this
            have hvl := pr_len h23
            have him : i * 40 ≤ 6 * 40 := Nat.mul_le_mul_right _ (by omega)
            walk_at "gg"
            refine ⟨size_ok (by simp), fun t ht => ?_⟩
            have h1t := upd_old (w := .tup [.int (u : Nat), .int (z : Nat)]) h13 ht
            walk_at "gg"
            refine ⟨⟨_, _, _, rfl⟩, ((ex.trans ex3).trans (ExB.new ht)).free hq0, st3.push hqp ht, ?_, vs ++ [.ref t], ps ++ [(u, z)], upd_same, pr_push (q := (u, z)) h23 h13 ht, ?_, h4.snoc (by omega : i < 6 + j) hu hz⟩
            · rw [upd_ne hqn.symm]; exact upd_old hw3 ht
            · rw [List.length_append, List.length_singleton]; omega
          · walk_at "gg"
            exact ⟨⟨_, _, _, rfl⟩, ex.trans ex3, st3, hw3, vs, ps, h13, h23, by omega, h4⟩
        · rintro σ H' ⟨⟨a, c, d, rfl⟩, ex, st, hnm', vs, ps, h1, h2, h3, h4⟩
          exact ⟨⟨_, _, _, _, rfl⟩, ex, st, hnm', vs, ps, h1, h2, by rw [Nat.succ_mul]; omega, h4⟩
      · rintro σ H' ⟨⟨a, b, c, d, rfl⟩, ex, st, hnm', vs, ps, h1, h2, h3, h4⟩
        walk_at "gg"
        exact k q H' ps (acy_asc px h4) (by omega) hq0 ex st ⟨vs, h1, h2⟩

abbrev n_w_any_pairs : List Str := ["_law_stream_here", "_law_size", "_law_names", "_law_often", "_law_pairs_here", "_law_low", "_law_high"]
theorem sc_w_any_pairs : FnScope n_w_any_pairs ["_law_stream_here", "_law_size"] (defScope s_w_any_pairs) := ⟨rfl, rfl, rfl, by decide +kernel, rfl, by decide +kernel, by decide +kernel⟩
theorem ok_w_any_pairs {P : Program} {w : World} {K : Frg} {mg : Str → Option Value} {base : Heap} (T : Tx K mg) (k_w_mixed : C8.Cal P w K mg base 2 "_law_mixed" sp_w_mixed []) (k_w_draw : C8.Cal P w K mg base 1 "_law_draw" sp_w_draw []) : C8.Cal P w K mg base 3 "_law_any_pairs" sp_w_any_pairs [] := by
  obtain ⟨fd, F⟩ := T.d_w_any_pairs
  have bd : Binds K fd ["_law_stream_here", "_law_size"] [] := F.bindsN fun _ _ _ _ _ _ us hl => match us, hl with | [_, _], _ => rfl
  refine cal_by F T.g_w_any_pairs bd sc_w_any_pairs ?_ ?_
  · intro vs H Q E h
    match vs, h with
    | [_, _], _ => rfl
  · intro cdv A outer s H vs Q E hr h
    match vs, h with
    | [a0, a1], h =>
    refine ⟨_, (pss_cons (ps_set (i := 2) sc_w_any_pairs.nd rfl (by first | exact Or.inl rfl | exact Or.inr rfl) (C8.pe_c k_w_mixed hr (by decide) rfl (pa_cons (pv 0) (pa_cons (pe_listRg rfl rfl T.list_ (prg_1 rfl T.range_ (pv 1))) pa_nil))))
  (pss_cons (ps_set (i := 3) sc_w_any_pairs.nd rfl (by first | exact Or.inl rfl | exact Or.inr rfl) (pe_ix (ixl (K := K) rfl) (pe_lst (pa_cons pe_int (pa_cons pe_int (pa_cons pe_int (pa_cons pe_int pa_nil))))) (C8.pe_c k_w_draw hr (by decide) rfl (pa_cons (pv 0) (pa_cons pe_int pa_nil))) (fun _ _ => rfl)))
  (pss_cons (ps_set (i := 4) sc_w_any_pairs.nd rfl (by first | exact Or.inl rfl | exact Or.inr rfl) (pe_lst pa_nil))
  (pss_cons (ps_for PassesOwn.never rfl (pi_range1 (by rfl) T.range_ (pa_cons (pv 1) pa_nil)) (pg_name (i := 5) sc_w_any_pairs.nd rfl (by first | exact Or.inl rfl | exact Or.inr rfl))
  (pss_one (ps_for PassesOwn.never rfl (pi_range2 (by rfl) T.range_ (pa_cons (pe_op op_add (pv 5) pe_int) (pa_cons (pv 1) pa_nil))) (pg_name (i := 6) sc_w_any_pairs.nd rfl (by first | exact Or.inl rfl | exact Or.inr rfl))
  (pss_one (ps_if (pt_cmpR op_eq (C8.pe_c k_w_draw hr (by decide) rfl (pa_cons (pv 0) (pa_cons (pv 3) pa_nil))) pe_int (nomark _)) (pss_one (ps_expr (kBm (K := K) rfl (pe_bm PySem.F.plainAttrs_list PySem.F.slot_list_append PySem.F.type_list_append mt_append (pv 4) (pa_cons (pe_tup (pa_cons (pe_ix (ixl (K := K) rfl) (pv 2) (pv 5) (fun _ _ => rfl)) (pa_cons (pe_ix (ixl (K := K) rfl) (pv 2) (pv 6) (fun _ _ => rfl)) pa_nil))) pa_nil))))) pss_nil)))))
  (pss_one (ps_ret (pv 4))))))), ?_⟩
    rw [show start n_w_any_pairs [a0, a1] = [some a0, some a1, none, none, none, none, none] from rfl]
    obtain ⟨p, n, rfl, rfl, hn, hs, k⟩ := h
    walk_at "gg"
    refine ⟨rgOk0 (by omega), fun q hq => ?_⟩
    rw [rgV_nv]
    walk_at "gg"
    have hqp : q ≠ p := hs.ne hq
    refine ⟨p, q, nv (List.range n), rfl, rfl, hs.old hq, upd_same, hqp, by rw [nv_length, List.length_range]; omega, fun nm H1 ws pm hnm ex1 st1 hw => ?_⟩
    obtain ⟨xs, rfl, px⟩ := perm_nv pm
    have hlx := perm_len px
    have hnp : nm ≠ p := (hs.old hq).ne hnm
    have exa : ExB [p] H H1 := (ExB.new hq).trans ex1
    walk_at "gg"
    refine ⟨size_ok (by simp), fun t ht => ?_⟩
    walk_at "gg"
    refine ⟨p, _, rfl, rfl, by omega, by omega, st1.old ht, fun d H2 d0 d1 ex2 st2 => ?_⟩
    have htp : t ≠ p := st1.ne ht
    have ht2 := ex2.one (upd_same (H := H1) (a := t) (o := .lst [.int 2, .int 3, .int 5, .int 9])) htp
    have hw2 := ex2.one (upd_old hw ht) hnp
    have exb : ExB [p] H H2 := (exa.trans (ExB.new ht)).trans ex2
    obtain ⟨oft, hof, ho1, ho2⟩ : ∃ oft : Int, atI [V.int 2, .int 3, .int 5, .int 9] d = some (.int oft) ∧ 0 < oft ∧ oft < 10 := by
      have : d = 0 ∨ d = 1 ∨ d = 2 ∨ d = 3 := by omega
      rcases this with rfl | rfl | rfl | rfl
      · exact ⟨2, rfl, by omega, by omega⟩
      · exact ⟨3, rfl, by omega, by omega⟩
      · exact ⟨5, rfl, by omega, by omega⟩
      · exact ⟨9, rfl, by omega, by omega⟩
    walk_at "gg"
    refine ⟨size_ok (by simp), fun f hf => ?_⟩
    have hfp : f ≠ p := st2.ne hf
    have hf0 : H f = none := exb.fresh hf (by simp [hfp])
    have hnf : nm ≠ f := ne_of_none hw2 hf
    walk_at "gg"
    refine f_range0 (fun i σ H' => (∃ a b, σ = [some (.ref p), some (.int (n : Nat)), some (.ref nm), some (.int oft), some (.ref f), a, b]) ∧ ExB [p] H H' ∧ Str3 H' p ∧ H' nm = some (.lst (nv xs)) ∧ ∃ vs ps, H' f = some (.lst vs) ∧ Paired (IsPair H') vs ps ∧ ps.length ≤ i * 40 ∧ Asc xs ps) ⟨⟨_, _, rfl⟩, exb.trans (ExB.new hf), st2.old hf, upd_old hw2 hf, [], [], upd_same, .nil, by simp, fun p hp => by cases hp⟩ ?_ ?_
    · rintro i σ H' hi ⟨⟨a, b, rfl⟩, ex, st, hnm', vs, ps, h1, h2, h3, h4⟩
      walk_at "gg"
      have e1 : ((n : Int) - ((i : Nat) + 1)).toNat = n - (i + 1) := by omega
      rw [e1]
      refine f_range (fun j σ H' => (∃ b, σ = [some (.ref p), some (.int (n : Nat)), some (.ref nm), some (.int oft), some (.ref f), some (.int (i : Nat)), b]) ∧ ExB [p] H H' ∧ Str3 H' p ∧ H' nm = some (.lst (nv xs)) ∧ ∃ vs ps, H' f = some (.lst vs) ∧ Paired (IsPair H') vs ps ∧ ps.length ≤ i * 40 + j ∧ Asc xs ps) ⟨⟨_, rfl⟩, ex, st, hnm', vs, ps, h1, h2, by omega, h4⟩ ?_ ?_
      · rintro j σ H' hj ⟨⟨b, rfl⟩, ex, st, hnm', vs, ps, h1, h2, h3, h4⟩
        walk_at "gg"
        refine ⟨p, _, rfl, rfl, ho1, by omega, st, fun d' H3 e0 e1 ex3 st3 => ?_⟩
        have hw3 := ex3.one hnm' hnp
        have h13 := ex3.one h1 hfp
        have h23 : Paired (IsPair H3) vs ps := pr_mono (fun v s h => IsPair.str h st ex3) h2
        walk_at "gg"
        refine z_if (fun hd => ?_) (fun hd => ?_)
        · obtain ⟨u, hu⟩ := get_of_lt (xs := xs) (i := i) (by omega)
          obtain ⟨z, hz⟩ := get_of_lt (xs := xs) (i := i + 1 + j) (by omega)
          have a1 := at_nv hu
          have a2 : atI (nv xs) (((i : Nat) : Int) + 1 + (j : Nat)) = some (.int (z : Nat)) := by
            have := at_nv hz
            rwa [show (((i + 1 + j : Nat)) : Int) = ((i : Nat) : Int) + 1 + (j : Nat) by omega] at this
          have hvl := pr_len h23
          have him : i * 40 ≤ 40 * 40 := Nat.mul_le_mul_right _ (by omega)
          walk_at "gg"
          refine ⟨size_ok (by simp), fun t ht => ?_⟩
          have h1t := upd_old (w := .tup [.int (u : Nat), .int (z : Nat)]) h13 ht
          walk_at "gg"
          refine ⟨⟨_, rfl⟩, ((ex.trans ex3).trans (ExB.new ht)).free hf0, st3.push hfp ht, ?_, vs ++ [.ref t], ps ++ [(u, z)], upd_same, pr_push (q := (u, z)) h23 h13 ht, ?_, h4.snoc (by omega : i < i + 1 + j) hu hz⟩
          · rw [upd_ne hnf]; exact upd_old hw3 ht
          · rw [List.length_append, List.length_singleton]; omega
        · walk_at "gg"
          exact ⟨⟨_, rfl⟩, ex.trans ex3, st3, hw3, vs, ps, h13, h23, by omega, h4⟩
      · rintro σ H' ⟨⟨b, rfl⟩, ex, st, hnm', vs, ps, h1, h2, h3, h4⟩
        exact ⟨⟨_, _, rfl⟩, ex, st, hnm', vs, ps, h1, h2, by rw [Nat.succ_mul]; omega, h4⟩
    · rintro σ H' ⟨⟨a, b, rfl⟩, ex, st, hnm', vs, ps, h1, h2, h3, h4⟩
      walk_at "gg"
      have him : n * 40 ≤ 40 * 40 := Nat.mul_le_mul_right _ (by omega)
      exact k f H' ps (acy_asc px h4) (by omega) hf0 ex st ⟨vs, h1, h2⟩

abbrev n_w_family : List Str := ["_law_stream_here", "_law_size", "_law_family_here", "_law_k"]
theorem sc_w_family : FnScope n_w_family ["_law_stream_here", "_law_size", "_law_family_here"] (defScope s_w_family) := ⟨rfl, rfl, rfl, by decide +kernel, rfl, by decide +kernel, by decide +kernel⟩
theorem ok_w_family {P : Program} {w : World} {K : Frg} {mg : Str → Option Value} {base : Heap} (T : Tx K mg) (k_w_by_ranks : C8.Cal P w K mg base 1 "_law_by_ranks" sp_w_by_ranks []) (k_w_draw : C8.Cal P w K mg base 1 "_law_draw" sp_w_draw []) (k_w_by_parents : C8.Cal P w K mg base 1 "_law_by_parents" sp_w_by_parents []) (k_w_any_parents : C8.Cal P w K mg base 3 "_law_any_parents" sp_w_any_parents []) (k_w_by_tree : C8.Cal P w K mg base 42 "_law_by_tree" (sp_w_by_tree 20) []) (k_w_any_tree : C8.Cal P w K mg base 22 "_law_any_tree" (sp_w_any_tree 20) []) (k_w_mixed : C8.Cal P w K mg base 2 "_law_mixed" sp_w_mixed []) (k_w_by_arcs : C8.Cal P w K mg base 1 "_law_by_arcs" sp_w_by_arcs []) (k_w_any_arcs : C8.Cal P w K mg base 2 "_law_any_arcs" sp_w_any_arcs []) (k_w_by_spans : C8.Cal P w K mg base 1 "_law_by_spans" sp_w_by_spans []) (k_w_any_spans : C8.Cal P w K mg base 2 "_law_any_spans" sp_w_any_spans []) (k_w_by_rows : C8.Cal P w K mg base 1 "_law_by_rows" sp_w_by_rows []) (k_w_crown : C8.Cal P w K mg base 3 "_law_crown" sp_w_crown []) (k_w_any_pairs : C8.Cal P w K mg base 3 "_law_any_pairs" sp_w_any_pairs []) : C8.Cal P w K mg base 43 "_law_family" sp_w_family [] := by
  obtain ⟨fd, F⟩ := T.d_w_family
  have bd : Binds K fd ["_law_stream_here", "_law_size", "_law_family_here"] [] := F.bindsN fun _ _ _ _ _ _ us hl => match us, hl with | [_, _, _], _ => rfl
  refine cal_by F T.g_w_family bd sc_w_family ?_ ?_
  · intro vs H Q E h
    match vs, h with
    | [_, _, _], _ => rfl
  · intro cdv A outer s H vs Q E hr h
    match vs, h with
    | [a0, a1, a2], h =>
    refine ⟨_, (pss_cons (ps_if (pt_cmpR op_eq (pv 1) pe_int (nomark _)) (pss_one (ps_ret (pe_lst pa_nil))) pss_nil)
  (pss_cons (ps_if (pt_cmpR op_eq (pv 2) pe_int (nomark _)) (pss_one (ps_ret (C8.pe_c k_w_by_ranks hr (by decide) rfl (pa_cons (pe_lc (own := [("_law_k", 3)]) (by rfl) sc_w_family.nd (pi_range1 (by rfl) T.range_ (pa_cons (pv 1) pa_nil)) (blkOk_by (own := [("_law_k", 3)]) (N := n_w_family) (sc := defScope s_w_family) (by decide +kernel)) (fun _ _ _ _ _ => (pg_name (i := 3) sc_w_family.nd rfl (by first | exact Or.inl rfl | exact Or.inr rfl))) (fun _ _ _ _ _ => pts_nil) (fun _ _ _ _ _ => (C8.pe_c k_w_draw hr (by decide) rfl (pa_cons (pv 0) (pa_cons pe_int pa_nil))))) pa_nil)))) pss_nil)
  (pss_cons (ps_if (pt_cmpR op_eq (pv 2) pe_int (nomark _)) (pss_one (ps_ret (C8.pe_c k_w_by_parents hr (by decide) rfl (pa_cons (C8.pe_c k_w_any_parents hr (by decide) rfl (pa_cons (pv 0) (pa_cons (pv 1) pa_nil))) pa_nil)))) pss_nil)
  (pss_cons (ps_if (pt_cmpR op_eq (pv 2) pe_int (nomark _)) (pss_one (ps_ret (C8.pe_c k_w_by_tree hr (by decide) rfl (pa_cons (C8.pe_c k_w_any_tree hr (by decide) rfl (pa_cons (pv 0) (pa_cons (C8.pe_c k_w_mixed hr (by decide) rfl (pa_cons (pv 0) (pa_cons (pe_listRg rfl rfl T.list_ (prg_1 rfl T.range_ (pv 1))) pa_nil))) (pa_cons (pe_ix (ixl (K := K) rfl) (pe_lst (pa_cons pe_str (pa_cons pe_str pa_nil))) (C8.pe_c k_w_draw hr (by decide) rfl (pa_cons (pv 0) (pa_cons pe_int pa_nil))) (fun _ _ => rfl)) pa_nil)))) pa_nil)))) pss_nil)
  (pss_cons (ps_if (pt_cmpR op_eq (pv 2) pe_int (nomark _)) (pss_one (ps_ret (C8.pe_c k_w_by_arcs hr (by decide) rfl (pa_cons (C8.pe_c k_w_any_arcs hr (by decide) rfl (pa_cons (pv 0) (pa_cons (pv 1) pa_nil))) pa_nil)))) pss_nil)
  (pss_cons (ps_if (pt_cmpR op_eq (pv 2) pe_int (nomark _)) (pss_one (ps_ret (C8.pe_c k_w_by_spans hr (by decide) rfl (pa_cons (C8.pe_c k_w_any_spans hr (by decide) rfl (pa_cons (pv 0) (pa_cons (pv 1) (pa_cons (pe_op op_add pe_int (C8.pe_c k_w_draw hr (by decide) rfl (pa_cons (pv 0) (pa_cons pe_int pa_nil)))) (pa_cons (pe_un un_neg pe_int) pa_nil))))) pa_nil)))) pss_nil)
  (pss_cons (ps_if (pt_cmpR op_eq (pv 2) pe_int (nomark _)) (pss_one (ps_ret (C8.pe_c k_w_by_spans hr (by decide) rfl (pa_cons (C8.pe_c k_w_any_spans hr (by decide) rfl (pa_cons (pv 0) (pa_cons (pv 1) (pa_cons (pe_op op_add pe_int (C8.pe_c k_w_draw hr (by decide) rfl (pa_cons (pv 0) (pa_cons pe_int pa_nil)))) (pa_cons (C8.pe_c k_w_draw hr (by decide) rfl (pa_cons (pv 0) (pa_cons pe_int pa_nil))) pa_nil))))) pa_nil)))) pss_nil)
  (pss_cons (ps_if (pt_cmpR op_eq (pv 2) pe_int (nomark _)) (pss_one (ps_ret (C8.pe_c k_w_by_rows hr (by decide) rfl (pa_cons (C8.pe_c k_w_mixed hr (by decide) rfl (pa_cons (pv 0) (pa_cons (pe_listRg rfl rfl T.list_ (prg_1 rfl T.range_ (pv 1))) pa_nil))) (pa_cons (C8.pe_c k_w_mixed hr (by decide) rfl (pa_cons (pv 0) (pa_cons (pe_listRg rfl rfl T.list_ (prg_1 rfl T.range_ (pv 1))) pa_nil))) pa_nil))))) pss_nil)
  (pss_cons (ps_if (PW.pt (pw_and (pt_cmpR op_eq (pv 2) pe_int (nomark _)) (pw_and1 (pt_cmpR op_gt (pv 1) pe_int (nomark _))))) (pss_one (ps_ret (C8.pe_c k_w_crown hr (by decide) rfl (pa_cons (pv 0) (pa_cons (pv 1) pa_nil))))) pss_nil)
  (pss_one (ps_ret (C8.pe_c k_w_any_pairs hr (by decide) rfl (pa_cons (pv 0) (pa_cons (pv 1) pa_nil)))))))))))))), ?_⟩
    rw [show start n_w_family [a0, a1, a2] = [some a0, some a1, some a2, none] from rfl]
    obtain ⟨p, n, f, rfl, rfl, rfl, hn, hs, k⟩ := h
    walk_at "gg"
    refine z_if (fun h0 => ?_) (fun h0 => ?_)
    · walk_at "gg"
      refine ⟨size_ok (by simp), fun q hq => ?_⟩
      exact k q _ [] ⟨fun _ => 0, fun p hp => by cases hp⟩ (by simp) hq (ExB.new hq) (hs.old hq) ⟨[], upd_same, .nil⟩
    walk_at "gg"
    refine z_if (fun h1 => ?_) (fun h1 => ?_)
    · walk_at "gg"
      intro A hA
      have hAp : A ≠ p := hs.ne hA
      refine l_range0 (fun i H' => ExB [p] H H' ∧ Str3 H' p ∧ ∃ rs : List Int, H' A = some (.lst (rs.map V.int)) ∧ rs.length = i) ⟨ExB.new hA, hs.old hA, [], upd_same, rfl⟩ (fun i H' hi ⟨ex, st, rs, h1, h2⟩ => ?_) (fun H' ⟨ex, st, rs, h1, h2⟩ => ?_)
      · walk_at "wp"
        walk_at "gg"
        refine ⟨p, 4, rfl, rfl, by omega, by omega, st, fun d H2 d0 d1 ex2 st2 => ?_⟩
        refine ⟨_, ex2.one h1 hAp, size_lt (by rw [List.length_map]; omega), (ex.trans ex2).free hA, st2.other hAp, rs ++ [d], by rw [upd_same, List.map_append]; rfl, by rw [List.length_append, h2]; rfl⟩
      · walk_at "gg"
        refine ⟨A, rs, rfl, h1, by omega, fun l H2 ps a1 a2 a3 ex2 pl => ?_⟩
        rw [h2] at a1
        have hlp : l ≠ p := st.ne a3
        exact k l H2 ps a1 a2 (ex.fresh a3 (by simp [hlp])) (ex.trans ex2.up) (st.mono ex2) pl
    walk_at "gg"
    refine z_if (fun h2 => ?_) (fun h2 => ?_)
    · walk_at "gg"
      refine ⟨p, n, rfl, rfl, by omega, hs, fun q H1 ps po hq ex1 st1 hqq => ?_⟩
      walk_at "gg"
      refine ⟨q, ps, n, rfl, hqq, po, by omega, fun l H2 qs a1 a2 a3 ex2 pl => ?_⟩
      have hlp : l ≠ p := st1.ne a3
      exact k l H2 qs a1 a2 (ex1.fresh a3 (by simp [hlp])) (ex1.trans ex2.up) (st1.mono ex2) pl
    walk_at "gg"
    refine z_if (fun h3 => ?_) (fun h3 => ?_)
    · walk_at "gg"
      refine ⟨rgOk0 (by omega), fun q hq => ?_⟩
      rw [rgV_nv]
      have hqp : q ≠ p := hs.ne hq
      walk_at "gg"
      refine ⟨p, q, nv (List.range n), rfl, rfl, hs.old hq, upd_same, hqp, by rw [nv_length, List.length_range]; omega, fun nm H1 ws pm hnm ex1 st1 hw => ?_⟩
      obtain ⟨xs, rfl, px⟩ := perm_nv pm
      have hlx := perm_len px
      have hnp : nm ≠ p := (hs.old hq).ne hnm
      have exa : ExB [p] H H1 := (ExB.new hq).trans ex1
      walk_at "gg"
      refine ⟨size_ok (by simp), fun wl hwl => ?_⟩
      have st1' := st1.old (o := .lst [V.str (Str.ofString "beside"), V.str (Str.ofString "above")]) hwl
      have hw' := upd_old (w := .lst [V.str (Str.ofString "beside"), V.str (Str.ofString "above")]) hw hwl
      have hwlp : wl ≠ p := st1.ne hwl
      walk_at "gg"
      refine ⟨p, 2, rfl, rfl, by omega, by omega, st1', fun d H2 d0 d1 ex2 st2 => ?_⟩
      have a1 : atI [V.str (Str.ofString "beside"), V.str (Str.ofString "above")] d = some (.str (wordS (decide (d = 1)))) := by
        have : d = 0 ∨ d = 1 := by omega
        rcases this with z | z <;> subst z <;> rfl
      have hwl2 := ex2.one (upd_same (H := H1) (a := wl) (o := .lst [V.str (Str.ofString "beside"), V.str (Str.ofString "above")])) hwlp
      walk_at "gg"
      refine ⟨p, nm, xs, decide (d = 1), rfl, rfl, rfl, st2, ex2.one hw' hnp, hnp, by omega, by omega, by omega, fun v H3 t t1 t2 t3 ex3 st3 => ?_⟩
      walk_at "gg"
      refine ⟨t, t1, t3, by omega, by rw [t2]; omega, fun l H4 ps as asl hl ex4 pl => ?_⟩
      have exb : ExB [p] H H3 := (((exa.trans (ExB.new hwl)).trans ex2).trans ex3)
      have hlp : l ≠ p := st3.ne hl
      rw [t2] at as asl
      rw [hlx] at asl
      have := Nat.mul_le_mul hn hn
      exact k l H4 ps (acy_asc px as) (by omega) (exb.fresh hl (by simp [hlp])) (exb.trans ex4.up) (st3.mono ex4) pl
    walk_at "gg"
    refine z_if (fun h4 => ?_) (fun h4 => ?_)
    · walk_at "gg"
      refine ⟨p, n, rfl, rfl, by omega, hs, fun q H1 ps hpl po hq ex1 st1 hqq => ?_⟩
      walk_at "gg"
      refine ⟨q, ps, rfl, hqq, by omega, po, fun l H2 qs a1 a2 a3 ex2 pl => ?_⟩
      rw [hpl] at a1
      have hlp : l ≠ p := st1.ne a3
      exact k l H2 qs a1 a2 (ex1.fresh a3 (by simp [hlp])) (ex1.trans ex2.up) (st1.mono ex2) pl
    walk_at "gg"
    refine z_if (fun h5 => ?_) (fun h5 => ?_)
    · walk_at "gg"
      refine ⟨p, 8, rfl, rfl, by omega, by omega, hs, fun d H0 d0 d1 ex0 st0 => ?_⟩
      walk_at "gg"
      refine ⟨p, n, _, _, rfl, rfl, rfl, rfl, by omega, by omega, by omega, st0, fun q H1 ps hpl po hq ex1 st1 hqq => ?_⟩
      walk_at "gg"
      refine ⟨q, ps, rfl, hqq, by omega, po, fun l H2 qs a1 a2 a3 ex2 pl => ?_⟩
      rw [hpl] at a1
      have hlp : l ≠ p := st1.ne a3
      exact k l H2 qs a1 a2 ((ex0.trans ex1).fresh a3 (by simp [hlp])) ((ex0.trans ex1).trans ex2.up) (st1.mono ex2) pl
    walk_at "gg"
    refine z_if (fun h6 => ?_) (fun h6 => ?_)
    · walk_at "gg"
      refine ⟨p, 12, rfl, rfl, by omega, by omega, hs, fun d H0 d0 d1 ex0 st0 => ?_⟩
      walk_at "gg"
      refine ⟨p, 5, rfl, rfl, by omega, by omega, st0, fun d' H0' e0 e1 ex0' st0' => ?_⟩
      walk_at "gg"
      refine ⟨p, n, _, _, rfl, rfl, rfl, rfl, by omega, by omega, by omega, st0', fun q H1 ps hpl po hq ex1 st1 hqq => ?_⟩
      walk_at "gg"
      refine ⟨q, ps, rfl, hqq, by omega, po, fun l H2 qs a1 a2 a3 ex2 pl => ?_⟩
      rw [hpl] at a1
      have hlp : l ≠ p := st1.ne a3
      exact k l H2 qs a1 a2 (((ex0.trans ex0').trans ex1).fresh a3 (by simp [hlp])) (((ex0.trans ex0').trans ex1).trans ex2.up) (st1.mono ex2) pl
    walk_at "gg"
    refine z_if (fun h7 => ?_) (fun h7 => ?_)
    · walk_at "gg"
      refine ⟨rgOk0 (by omega), fun q hq => ?_⟩
      rw [rgV_nv]
      have hqp : q ≠ p := hs.ne hq
      walk_at "gg"
      refine ⟨p, q, nv (List.range n), rfl, rfl, hs.old hq, upd_same, hqp, by rw [nv_length, List.length_range]; omega, fun nm H1 ws pm hnm ex1 st1 hw => ?_⟩
      obtain ⟨xs, rfl, px⟩ := perm_nv pm
      have hnp : nm ≠ p := (hs.old hq).ne hnm
      have exa : ExB [p] H H1 := (ExB.new hq).trans ex1
      walk_at "gg"
      refine ⟨rgOk0 (by omega), fun q2 hq2 => ?_⟩
      rw [rgV_nv]
      have hqp2 : q2 ≠ p := st1.ne hq2
      walk_at "gg"
      refine ⟨p, q2, nv (List.range n), rfl, rfl, st1.old hq2, upd_same, hqp2, by rw [nv_length, List.length_range]; omega, fun nm2 H2 ws2 pm2 hnm2 ex2 st2 hw2 => ?_⟩
      obtain ⟨ys, rfl, py⟩ := perm_nv pm2
      have exb : ExB [p] H H2 := (exa.trans (ExB.new hq2)).trans ex2
      walk_at "gg"
      refine ⟨nm, nm2, xs, ys, n, rfl, rfl, ex2.one (upd_old hw hq2) hnp, hw2, px, py, by omega, fun l H4 qs a1 a2 a3 ex4 pl => ?_⟩
      have hlp : l ≠ p := st2.ne a3
      exact k l H4 qs a1 a2 (exb.fresh a3 (by simp [hlp])) (exb.trans ex4.up) (st2.mono ex4) pl
    walk_at "gg"
    have any : sp_w_any_pairs [.ref p, .int (n : Nat)] H Q E := ⟨p, n, rfl, rfl, by omega, hs, k⟩
    refine z_if (fun h8 => ?_) (fun h8 => ?_)
    · walk_at "gg"
      refine z_if (fun h9 => ?_) (fun h9 => ?_)
      · walk_at "gg"
        exact ⟨p, n, rfl, rfl, by omega, by omega, hs, k⟩
      · walk_at "gg"
        exact ⟨p, n, rfl, rfl, by omega, hs, k⟩
    · walk_at "gg"
      exact ⟨p, n, rfl, rfl, by omega, hs, k⟩

abbrev n_w_closed : List Str := ["_law_size", "_law_pairs_here", "_law_table", "_law_through", "_law_low", "_law_high", "_law_k"]
theorem sc_w_closed : FnScope n_w_closed ["_law_size", "_law_pairs_here"] (defScope s_w_closed) := ⟨rfl, rfl, rfl, by decide +kernel, rfl, by decide +kernel, by decide +kernel⟩
theorem ok_w_closed {P : Program} {w : World} {K : Frg} {mg : Str → Option Value} {base : Heap} (T : Tx K mg) : C8.Cal P w K mg base 1 "_law_closed" sp_w_closed [] := by
  obtain ⟨fd, F⟩ := T.d_w_closed
  have bd : Binds K fd ["_law_size", "_law_pairs_here"] [] := F.bindsN fun _ _ _ _ _ _ us hl => match us, hl with | [_, _], _ => rfl
  refine cal_by F T.g_w_closed bd sc_w_closed ?_ ?_
  · intro vs H Q E h
    match vs, h with
    | [_, _], _ => rfl
  · intro cdv A outer s H vs Q E hr h
    match vs, h with
    | [a0, a1], h =>
    refine ⟨_, (pss_cons (ps_setLc (i := 2) (own := [("_law_k", 6)]) (by rfl) sc_w_closed.nd rfl rfl (sw_true rfl rfl rfl (by decide +kernel)) (pi_range1 (by rfl) T.range_ (pa_cons (pv 0) pa_nil)) (blkOk_by (own := [("_law_k", 6)]) (N := n_w_closed) (sc := defScope s_w_closed) (by decide +kernel)) (fun _ _ _ _ _ => (pg_name (i := 6) sc_w_closed.nd rfl (by first | exact Or.inl rfl | exact Or.inr rfl))) (fun _ _ _ _ _ => pts_nil) (fun _ _ _ _ _ => (pe_op op_rep (pe_lst (pa_cons pe_bl pa_nil)) (pv 0))))
  (pss_cons (ps_for PassesOwn.never rfl (kIl (K := K) rfl (pi_list (pv 1))) (kGt (K := K) rfl (pg_tup (n := 2) rfl (pgs_cons (pg_name (i := 4) sc_w_closed.nd rfl (by first | exact Or.inl rfl | exact Or.inr rfl)) (pgs_cons (pg_name (i := 5) sc_w_closed.nd rfl (by first | exact Or.inl rfl | exact Or.inr rfl)) pgs_nil))))
  (pss_one (ps_asg pe_bl (pg_sub (pe_ix (ixl (K := K) rfl) (pv 2) (pv 4) (fun _ _ => rfl)) (pv 5) set_list))))
  (pss_cons (ps_for PassesOwn.never rfl (pi_range1 (by rfl) T.range_ (pa_cons (pv 0) pa_nil)) (pg_name (i := 3) sc_w_closed.nd rfl (by first | exact Or.inl rfl | exact Or.inr rfl))
  (pss_one (ps_for PassesOwn.never rfl (pi_range1 (by rfl) T.range_ (pa_cons (pv 0) pa_nil)) (pg_name (i := 4) sc_w_closed.nd rfl (by first | exact Or.inl rfl | exact Or.inr rfl))
  (pss_one (ps_if (pt_val (pe_ix (ixl (K := K) rfl) (pe_ix (ixl (K := K) rfl) (pv 2) (pv 4) (fun _ _ => rfl)) (pv 3) (fun _ _ => rfl))) (pss_one (ps_for PassesOwn.never rfl (pi_range1 (by rfl) T.range_ (pa_cons (pv 0) pa_nil)) (pg_name (i := 5) sc_w_closed.nd rfl (by first | exact Or.inl rfl | exact Or.inr rfl))
  (pss_one (ps_if (pt_val (pe_ix (ixl (K := K) rfl) (pe_ix (ixl (K := K) rfl) (pv 2) (pv 3) (fun _ _ => rfl)) (pv 5) (fun _ _ => rfl))) (pss_one (ps_asg pe_bl (pg_sub (pe_ix (ixl (K := K) rfl) (pv 2) (pv 4) (fun _ _ => rfl)) (pv 5) set_list))) pss_nil)))) pss_nil)))))
  (pss_one (ps_ret (pv 2)))))), ?_⟩
    rw [show start n_w_closed [a0, a1] = [some a0, some a1, none, none, none, none, none] from rfl]
    obtain ⟨n, p, ps, rfl, rfl, hn, ⟨vs0, hp1, hp2⟩, hlt, k⟩ := h
    walk_at "gg"
    intro D hD
    refine l_range0 (fun i H' => ExB [] H H' ∧ ∃ bs : List Addr, H' D = some (.lst (bs.map V.ref)) ∧ bs.length = i ∧ bs.Nodup ∧ (∀ b ∈ bs, H b = none) ∧ ∀ b ∈ bs, H' b = some (.lst (rowV n (fun _ _ => false) 0))) ⟨ExB.new hD, [], upd_same, rfl, List.nodup_nil, by simp, by simp⟩ (fun i H' hi ⟨ex, bs, h1, h2, h3, h4, h5⟩ => ?_) (fun H' ⟨ex, bs, h1, h2, h3, h4, h5⟩ => ?_)
    · walk_at "wp"
      walk_at "gg"
      refine ⟨size_ok (by simp), fun t ht => ?_⟩
      walk_at "gg"
      refine ⟨t, n, [.bl false], rfl, rfl, upd_same, by omega, by omega, size_ok (by simp; omega), fun q hq => ?_⟩
      have hD1 := upd_old (w := .lst [.bl false]) h1 ht
      have hD2 := upd_old (w := .lst (List.replicate ((n : Int)).toNat [V.bl false]).flatten) hD1 hq
      have nDq : D ≠ q := ne_of_none hD1 hq
      have hqH' : H' q = none := none_old hq
      have hqH : H q = none := ex.fresh hqH' (by simp)
      refine ⟨_, hD2, size_lt (by rw [List.length_map]; omega), ((ex.trans (ExB.new ht)).trans (ExB.new hq)).free hD, bs ++ [q], ?_, ?_, ?_, ?_, ?_⟩
      · rw [upd_same, List.map_append]; rfl
      · rw [List.length_append, h2]; rfl
      · rw [List.nodup_append]
        refine ⟨h3, by simp, fun a ha b hb => ?_⟩
        rw [List.mem_singleton] at hb
        subst hb
        exact ne_of_none (h5 a ha) hqH'
      · intro b hb
        rcases List.mem_append.mp hb with q1 | q1
        · exact h4 b q1
        · rw [List.mem_singleton] at q1; subst q1; exact hqH
      · intro b hb
        rcases List.mem_append.mp hb with q1 | q1
        · have e1 := h5 b q1
          have nb : b ≠ D := by
            intro q2
            subst q2
            rw [h1] at e1
            cases bs with
            | nil => cases q1
            | cons c r =>
              have e2 := Option.some.inj e1
              injection e2 with e3
              unfold rowV at e3
              cases n with
              | zero => cases e3
              | succ n => rw [List.range_succ_eq_map] at e3; cases e3
          rw [upd_ne nb]
          exact upd_old (upd_old e1 ht) hq
        · rw [List.mem_singleton] at q1; subst q1
          rw [upd_ne nDq.symm, upd_same]
          congr 2
          unfold rowV
          rw [Int.toNat_natCast]
          apply List.ext_getElem
          · simp
          · intro m h1 h2; simp
    · have tb0 : TabB H' D bs n (fun _ _ => false) := ⟨h1, h2, fun i b hb => h5 b (mem_of_get hb)⟩
      walk_at "gg"
      have hp1' := ex.nn hp1
      -- the pairs
      walk_at "gg"
      refine f_list (xs := vs0) (fun i σ H2 => (∃ a b c, σ = [some (.int (n : Nat)), some (.ref p), some (.ref D), a, b, c, none]) ∧ ExB [] H H2 ∧ TabB H2 D bs n (fun a b => decide ((a, b) ∈ ps.take i))) ⟨⟨none, none, none, rfl⟩, ex, by simpa using tb0⟩ (fun i σ H2 _ e => e.2.1.nn hp1) ?_ ?_
      · rintro i x σ H2 hx ⟨⟨a, b, c, rfl⟩, ex2, tb⟩
        obtain ⟨q, hq, cell, rfl, hc⟩ := pr_get hp2 hx
        have hc' := ex2.nn hc
        have hqlt := hlt q (mem_of_get hq)
        obtain ⟨rb, hrb⟩ := get_of_lt (xs := bs) (i := q.1) (by omega)
        have g0 := tb.at_
        have gr := tb.row _ _ hrb
        have e1 := at_refs hrb
        have e2 : ixN (rowV n (fun a b => decide ((a, b) ∈ ps.take i)) q.1).length (q.2 : Int) = some q.2 := by rw [rowV_length]; exact ix_nat hqlt.2
        walk_at "gg"
        refine ⟨⟨_, _, _, rfl⟩, ex2.free (h4 rb (mem_of_get hrb)), (tb.set h3 hrb hqlt.2).congr (fun a b _ _ => ?_)⟩
        unfold setT
        have eq : ((a, b) = q) ↔ (a = q.1 ∧ b = q.2) := by
          obtain ⟨q1, q2⟩ := q
          simp
        rw [take_snoc hq, Bool.eq_iff_iff]
        simp only [Bool.or_eq_true, Bool.and_eq_true, decide_eq_true_eq, List.mem_append, List.mem_singleton, eq]
      · rintro σ H2 ⟨⟨a, b, c, rfl⟩, ex2, tb⟩
        rw [pr_len hp2, List.take_length] at tb
        walk_at "gg"
        -- Warshall's rounds
        refine f_range0 (fun kk σ H2 => (∃ a b c, σ = [some (.int (n : Nat)), some (.ref p), some (.ref D), a, b, c, none]) ∧ ExB [] H H2 ∧ TabB H2 D bs n (wars (fun a b => decide ((a, b) ∈ ps)) kk)) ⟨⟨_, _, _, rfl⟩, ex2, tb⟩ ?_ ?_
        · rintro kk σ H2 hkk ⟨⟨a, b, c, rfl⟩, ex2, tb⟩
          generalize hTT : wars (fun a b => decide ((a, b) ∈ ps)) kk = TT at tb
          walk_at "gg"
          refine f_range0 (fun i σ H2 => (∃ b c, σ = [some (.int (n : Nat)), some (.ref p), some (.ref D), some (.int (kk : Nat)), b, c, none]) ∧ ExB [] H H2 ∧ TabB H2 D bs n (midT TT kk i)) ⟨⟨_, _, rfl⟩, ex2, tb.congr fun _ _ _ _ => mid_0.symm⟩ ?_ ?_
          · rintro i σ H2 hi ⟨⟨b, c, rfl⟩, ex2, tb⟩
            obtain ⟨rb, hrb⟩ := get_of_lt (xs := bs) (i := i) (by omega)
            obtain ⟨rk, hrk⟩ := get_of_lt (xs := bs) (i := kk) (by omega)
            have g0 := tb.at_
            have gr := tb.row _ _ hrb
            have e1 := at_refs hrb
            have e2 := at_row (T := midT TT kk i) (i := i) hkk
            rw [midT_at] at e2
            walk_at "gg"
            refine z_ifB (fun ht => ?_) (fun ht => ?_)
            · walk_at "gg"
              refine f_range0 (fun j σ H2 => (∃ c, σ = [some (.int (n : Nat)), some (.ref p), some (.ref D), some (.int (kk : Nat)), some (.int (i : Nat)), c, none]) ∧ ExB [] H H2 ∧ TabB H2 D bs n (inT TT kk i j)) ⟨⟨_, rfl⟩, ex2, tb.congr fun _ _ _ _ => inT_0.symm⟩ ?_ ?_
              · rintro j σ H2 hj ⟨⟨c, rfl⟩, ex2, tb⟩
                have g0 := tb.at_
                have gr := tb.row _ _ hrb
                have gk := tb.row _ _ hrk
                have e1 := at_refs hrb
                have e1k := at_refs hrk
                have e2 := at_row (T := inT TT kk i j) (i := kk) hj
                have e3 : ixN (rowV n (inT TT kk i j) i).length (j : Int) = some j := by rw [rowV_length]; exact ix_nat hj
                rw [inT_k] at e2
                walk_at "gg"
                refine z_ifB (fun ht2 => ?_) (fun ht2 => ?_)
                · walk_at "gg"
                  exact ⟨⟨_, rfl⟩, ex2.free (h4 rb (mem_of_get hrb)), (tb.set h3 hrb hj).congr fun _ _ _ _ => inT_set ht ht2⟩
                · walk_at "gg"
                  exact ⟨⟨_, rfl⟩, ex2, tb.congr fun _ _ _ _ => inT_skip ht2⟩
              · rintro σ H2 ⟨⟨c, rfl⟩, ex2, tb⟩
                exact ⟨⟨_, _, rfl⟩, ex2, tb.congr fun _ _ _ hb => inT_n hb⟩
            · walk_at "gg"
              exact ⟨⟨_, _, rfl⟩, ex2, tb.congr fun _ _ _ _ => mid_skip ht⟩
          · rintro σ H2 ⟨⟨b, c, rfl⟩, ex2, tb⟩
            refine ⟨⟨_, _, _, rfl⟩, ex2, ?_⟩
            rw [wars_succ, hTT]
            exact tb.congr fun _ _ ha _ => mid_n ha
        · rintro σ H2 ⟨⟨a, b, c, rfl⟩, ex2, tb⟩
          walk_at "gg"
          exact k D H2 hD ex2 ⟨bs, tb⟩

abbrev n_w_any_order : List Str := ["_law_stream_here", "_law_most", "_law_size", "_law_pairs_here", "_law_table", "_law_kept", "_law_low", "_law_high"]
theorem sc_w_any_order : FnScope n_w_any_order ["_law_stream_here", "_law_most"] (defScope s_w_any_order) := ⟨rfl, rfl, rfl, by decide +kernel, rfl, by decide +kernel, by decide +kernel⟩
theorem ok_w_any_order {P : Program} {w : World} {K : Frg} {mg : Str → Option Value} {base : Heap} (T : Tx K mg) (k_w_draw : C8.Cal P w K mg base 1 "_law_draw" sp_w_draw []) (k_w_family : C8.Cal P w K mg base 43 "_law_family" sp_w_family []) (k_w_closed : C8.Cal P w K mg base 1 "_law_closed" sp_w_closed []) : C8.Cal P w K mg base 44 "_law_any_order" sp_w_any_order [] := by
  obtain ⟨fd, F⟩ := T.d_w_any_order
  have bd : Binds K fd ["_law_stream_here", "_law_most"] [] := F.bindsN fun _ _ _ _ _ _ us hl => match us, hl with | [_, _], _ => rfl
  refine cal_by F T.g_w_any_order bd sc_w_any_order ?_ ?_
  · intro vs H Q E h
    match vs, h with
    | [_, _], _ => rfl
  · intro cdv A outer s H vs Q E hr h
    match vs, h with
    | [a0, a1], h =>
    refine ⟨_, (pss_cons (ps_set (i := 2) sc_w_any_order.nd rfl (by first | exact Or.inl rfl | exact Or.inr rfl) (C8.pe_c k_w_draw hr (by decide) rfl (pa_cons (pv 0) (pa_cons (pe_op op_add (pv 1) pe_int) pa_nil))))
  (C8.pss_cut (ps_if (pt_cmpR op_eq (C8.pe_c k_w_draw hr (by decide) rfl (pa_cons (pv 0) (pa_cons pe_int pa_nil))) pe_int (nomark _)) (pss_one (ps_set (i := 2) sc_w_any_order.nd rfl (by first | exact Or.inl rfl | exact Or.inr rfl) (pv 1))) pss_nil)
  (pss_cons (ps_set (i := 3) sc_w_any_order.nd rfl (by first | exact Or.inl rfl | exact Or.inr rfl) (C8.pe_c k_w_family hr (by decide) rfl (pa_cons (pv 0) (pa_cons (pv 2) (pa_cons (C8.pe_c k_w_draw hr (by decide) rfl (pa_cons (pv 0) (pa_cons pe_int pa_nil))) pa_nil)))))
  (pss_cons (ps_set (i := 4) sc_w_any_order.nd rfl (by first | exact Or.inl rfl | exact Or.inr rfl) (C8.pe_c k_w_closed hr (by decide) rfl (pa_cons (pv 2) (pa_cons (pv 3) pa_nil))))
  (C8.pss_cut (ps_if (pt_cmpR op_eq (C8.pe_c k_w_draw hr (by decide) rfl (pa_cons (pv 0) (pa_cons pe_int pa_nil))) pe_int (nomark _)) (pss_cons (ps_set (i := 5) sc_w_any_order.nd rfl (by first | exact Or.inl rfl | exact Or.inr rfl) (pe_lst pa_nil))
  (pss_cons (ps_for PassesOwn.never rfl (kIl (K := K) rfl (pi_list (pv 3))) (kGt (K := K) rfl (pg_tup (n := 2) rfl (pgs_cons (pg_name (i := 6) sc_w_any_order.nd rfl (by first | exact Or.inl rfl | exact Or.inr rfl)) (pgs_cons (pg_name (i := 7) sc_w_any_order.nd rfl (by first | exact Or.inl rfl | exact Or.inr rfl)) pgs_nil))))
  (pss_one (ps_if (pt_cmpR op_gt (C8.pe_c k_w_draw hr (by decide) rfl (pa_cons (pv 0) (pa_cons pe_int pa_nil))) pe_int (nomark _)) (pss_one (ps_expr (kBm (K := K) rfl (pe_bm PySem.F.plainAttrs_list PySem.F.slot_list_append PySem.F.type_list_append mt_append (pv 5) (pa_cons (pe_tup (pa_cons (pv 6) (pa_cons (pv 7) pa_nil))) pa_nil))))) pss_nil)))
  (pss_one (ps_set (i := 4) sc_w_any_order.nd rfl (by first | exact Or.inl rfl | exact Or.inr rfl) (C8.pe_c k_w_closed hr (by decide) rfl (pa_cons (pv 2) (pa_cons (pv 5) pa_nil))))))) pss_nil)
  (pss_one (ps_ret (pv 4)))))))), ?_⟩
    rw [show start n_w_any_order [a0, a1] = [some a0, some a1, none, none, none, none, none, none] from rfl]
    obtain ⟨p, rfl, rfl, hs, k⟩ := h
    walk_at "gg"
    refine ⟨p, 9, rfl, rfl, by omega, by omega, hs, fun d H1 d0 d1 ex1 st1 => ?_⟩
    obtain ⟨m, rfl⟩ := Int.eq_ofNat_of_zero_le d0
    walk_at "gg"
    refine z_cut (fun σ H2 => ∃ n : Nat, n ≤ 8 ∧ σ = [some (.ref p), some (.int 8), some (.int (n : Nat)), none, none, none, none, none] ∧ ExB [p] H H2 ∧ Str3 H2 p) ?_ ?_
    · walk_at "gg"
      refine ⟨p, 3, rfl, rfl, by omega, by omega, st1, fun d H2 e0 e1 ex2 st2 => ?_⟩
      walk_at "gg"
      refine z_if (fun _ => ?_) (fun _ => ?_)
      · walk_at "gg"
        exact ⟨8, by omega, rfl, ex1.trans ex2, st2⟩
      · walk_at "gg"
        exact ⟨m, by omega, rfl, ex1.trans ex2, st2⟩
    · rintro σ H2 ⟨n, hn, rfl, ex2, st2⟩
      walk_at "gg"
      refine ⟨p, 11, rfl, rfl, by omega, by omega, st2, fun d H3 e0 e1 ex3 st3 => ?_⟩
      walk_at "gg"
      refine ⟨p, n, d, rfl, rfl, rfl, by omega, st3, fun l H4 ps hac hpl hl4 ex4 st4 hps => ?_⟩
      walk_at "gg"
      have hlt : ∀ q ∈ ps, q.1 < n ∧ q.2 < n := by
        obtain ⟨r, hr⟩ := hac
        exact fun q hq => ⟨(hr q hq).1, (hr q hq).2.1⟩
      refine ⟨n, l, ps, rfl, rfl, by omega, hps, hlt, fun t H5 ht ex5 tb => ?_⟩
      have exa : ExB [p] H H4 := (ex2.trans ex3).trans ex4
      have htp : t ≠ p := st4.ne ht
      have ht0 : H t = none := exa.fresh ht (by simp [htp])
      walk_at "gg"
      refine z_cut (fun σ H6 => ∃ t T a b c, σ = [some (.ref p), some (.int 8), some (.int (n : Nat)), some (.ref l), some (.ref t), a, b, c] ∧ Strict n T ∧ H t = none ∧ ExB [p] H H6 ∧ Str3 H6 p ∧ Tab H6 t n T) ?_ ?_
      · walk_at "gg"
        have st5 := st4.mono ex5
        have ps5 := hps.mono ex5
        refine ⟨p, 4, rfl, rfl, by omega, by omega, st5, fun d H6 e0 e1 ex6 st6 => ?_⟩
        have exb : ExB [p] H H6 := (exa.trans ex5.up).trans ex6
        have ps6 := ps5.str st5 ex6
        walk_at "gg"
        refine z_if (fun _ => ?_) (fun _ => ?_)
        · walk_at "gg"
          refine ⟨size_ok (by simp), fun f hf => ?_⟩
          have hfp : f ≠ p := st6.ne hf
          have hf0 : H f = none := exb.fresh hf (by simp [hfp])
          obtain ⟨vs0, hp1, hp2⟩ := ps6
          have hp1' := upd_old (w := .lst []) hp1 hf
          have nlf : l ≠ f := ne_of_none hp1 hf
          walk_at "gg"
          refine f_list (xs := vs0) (fun i σ H' => (∃ a b, σ = [some (.ref p), some (.int 8), some (.int (n : Nat)), some (.ref l), some (.ref t), some (.ref f), a, b]) ∧ ExB [p] H6 H' ∧ Str3 H' p ∧ ∃ vs qs, H' f = some (.lst vs) ∧ Paired (IsPair H') vs qs ∧ qs.length ≤ i ∧ ∀ q ∈ qs, q ∈ ps) ⟨⟨_, _, rfl⟩, ExB.new hf, st6.old hf, [], [], upd_same, .nil, Nat.le_refl _, by simp⟩ (fun i σ H' _ e => e.2.1.one hp1 (st6.not hp1 (fun i j k => PL.noStr hp2 i j k))) ?_ ?_
          · rintro i y σ H' hy ⟨⟨a, b, rfl⟩, ex7, st7, vs, qs, h1, h2, h3, h4⟩
            obtain ⟨q, hq, cell, rfl, hc⟩ := pr_get hp2 hy
            have hc7 := ex7.one hc (st6.notT hc)
            have hil : i < 2000 := by have h1 := lt_of_get hq; omega
            have hvl := pr_len h2
            walk_at "gg"
            refine ⟨p, 6, rfl, rfl, by omega, by omega, st7, fun d H8 e0 e1 ex8 st8 => ?_⟩
            have h18 := ex8.one h1 hfp
            have h28 : Paired (IsPair H8) vs qs := pr_mono (fun v s h => IsPair.str h st7 ex8) h2
            walk_at "gg"
            refine z_if (fun _ => ?_) (fun _ => ?_)
            · walk_at "gg"
              refine ⟨size_ok (by simp), fun t1 ht1 => ?_⟩
              have h1t := upd_old (w := .tup [.int (q.1 : Nat), .int (q.2 : Nat)]) h18 ht1
              walk_at "gg"
              refine ⟨⟨_, _, rfl⟩, ?_, st8.push hfp ht1, vs ++ [.ref t1], qs ++ [q], upd_same, pr_push h28 h18 ht1, by rw [List.length_append, List.length_singleton]; omega, ?_⟩
              · exact ((ex7.trans ex8).trans (ExB.new ht1)).free hf
              · intro z hz
                rcases List.mem_append.mp hz with e | e
                · exact h4 z e
                · rw [List.mem_singleton] at e; subst e; exact mem_of_get hq
            · walk_at "gg"
              exact ⟨⟨_, _, rfl⟩, ex7.trans ex8, st8, vs, qs, h18, h28, by omega, h4⟩
          · rintro σ H' ⟨⟨a, b, rfl⟩, ex7, st7, vs, qs, h1, h2, h3, h4⟩
            walk_at "gg"
            refine ⟨n, f, qs, rfl, rfl, by omega, ⟨vs, h1, h2⟩, fun q hq => hlt q (h4 q hq), fun t2 H8 ht2 ex8 tb2 => ?_⟩
            walk_at "gg"
            have exc : ExB [p] H H' := exb.trans ex7
            have ht2p : t2 ≠ p := st7.ne ht2
            refine ⟨t2, _, _, _, _, rfl, acy_strict (hac.sub h4), exc.fresh ht2 (by simp [ht2p]), exc.trans ex8.up, st7.mono ex8, tb2⟩
        · walk_at "gg"
          exact ⟨t, _, _, _, _, rfl, acy_strict hac, ht0, exb, st6, tb.str st5 ex6⟩
      · rintro σ H6 ⟨t, T, a, b, c, rfl, sT, ht0, ex6, st6, tb6⟩
        walk_at "gg"
        exact k t H6 n T hn sT ht0 ex6 st6 tb6

abbrev n_found_ring : List Str := ["direct", "state", "first", "way", "left", "following"]
theorem sc_found_ring : FnScope n_found_ring ["direct"] (defScope s_found_ring) := ⟨rfl, rfl, rfl, by decide +kernel, rfl, by decide +kernel, by decide +kernel⟩
theorem ok_found_ring {P : Program} {w : World} {K : Frg} {mg : Str → Option Value} {base : Heap} (T : Tx K mg) : C8.Cal P w K mg base 1 "found_ring" sp_found_ring [] := by
  obtain ⟨fd, F⟩ := T.d_found_ring
  have bd : Binds K fd ["direct"] [] := F.bindsN fun _ _ _ _ _ _ us hl => match us, hl with | [_], _ => rfl
  refine cal_by F T.g_found_ring bd sc_found_ring ?_ ?_
  · intro vs H Q E h
    match vs, h with
    | [_], _ => rfl
  · intro cdv A outer s H vs Q E hr h
    match vs, h with
    | [a0], h =>
    refine ⟨_, (pss_cons (ps_set (i := 1) sc_found_ring.nd rfl (by first | exact Or.inl rfl | exact Or.inr rfl) (pe_op op_rep (pe_lst (pa_cons pe_str pa_nil)) (pe_callB (k_len (K := K) rfl) (by rfl) T.len_ (by decide +kernel) (pa_cons (pv 0) pa_nil))))
  (pss_cons (ps_for PassesOwn.never rfl (pi_range1 (by rfl) T.range_ (pa_cons (pe_callB (k_len (K := K) rfl) (by rfl) T.len_ (by decide +kernel) (pa_cons (pv 0) pa_nil)) pa_nil)) (pg_name (i := 2) sc_found_ring.nd rfl (by first | exact Or.inl rfl | exact Or.inr rfl))
  (pss_cons (ps_set (i := 3) sc_found_ring.nd rfl (by first | exact Or.inl rfl | exact Or.inr rfl) (pe_lst pa_nil))
  (pss_cons (ps_set (i := 4) sc_found_ring.nd rfl (by first | exact Or.inl rfl | exact Or.inr rfl) (pe_lst pa_nil))
  (C8.pss_cut (ps_if (pt_cmpR op_eq (pe_ix (ixl (K := K) rfl) (pv 1) (pv 2) (fun _ _ => rfl)) pe_str (nomark _)) (pss_cons (ps_asg pe_str (pg_sub (pv 1) (pv 2) set_list))
  (pss_cons (ps_expr (kBm (K := K) rfl (pe_bm PySem.F.plainAttrs_list PySem.F.slot_list_append PySem.F.type_list_append mt_append (pv 3) (pa_cons (pv 2) pa_nil))))
  (pss_one (ps_expr (kBm (K := K) rfl (pe_bm PySem.F.plainAttrs_list PySem.F.slot_list_append PySem.F.type_list_append mt_append (pv 4) (pa_cons (pe_callTy (k_list (K := K) rfl) (by rfl) T.list_ (by decide +kernel) (pa_cons (pe_ix (ixl (K := K) rfl) (pv 0) (pv 2) (fun _ _ => rfl)) pa_nil)) pa_nil))))))) pss_nil)
  (pss_one (ps_while PassesOwn.never (pt_cmpR op_gt (pe_callB (k_len (K := K) rfl) (by rfl) T.len_ (by decide +kernel) (pa_cons (pv 3) pa_nil)) pe_int (nomark _))
  (pss_cons (ps_if (pt_cmpR op_eq (pe_callB (k_len (K := K) rfl) (by rfl) T.len_ (by decide +kernel) (pa_cons (pe_ix (ixl (K := K) rfl) (pv 4) (pe_un un_neg pe_int) (fun _ _ => rfl)) pa_nil)) pe_int (nomark _)) (pss_cons (ps_asg pe_str (pg_sub (pv 1) (pe_ix (ixl (K := K) rfl) (pv 3) (pe_un un_neg pe_int) (fun _ _ => rfl)) set_list))
  (pss_cons (ps_expr (kBm0 (K := K) rfl (pe_bm0 PySem.F.plainAttrs_list PySem.F.slot_list_pop PySem.F.type_list_pop mt_pop (pv 3))))
  (pss_cons (ps_expr (kBm0 (K := K) rfl (pe_bm0 PySem.F.plainAttrs_list PySem.F.slot_list_pop PySem.F.type_list_pop mt_pop (pv 4))))
  (pss_one ps_continue)))) pss_nil)
  (pss_cons (ps_set (i := 5) sc_found_ring.nd rfl (by first | exact Or.inl rfl | exact Or.inr rfl) (kBm0 (K := K) rfl (pe_bm0 PySem.F.plainAttrs_list PySem.F.slot_list_pop PySem.F.type_list_pop mt_pop (pe_ix (ixl (K := K) rfl) (pv 4) (pe_un un_neg pe_int) (fun _ _ => rfl)))))
  (pss_cons (ps_if (pt_cmpR op_eq (pe_ix (ixl (K := K) rfl) (pv 1) (pv 5) (fun _ _ => rfl)) pe_str (nomark _)) (pss_one ps_never) pss_nil)
  (pss_one (ps_if (pt_cmpR op_eq (pe_ix (ixl (K := K) rfl) (pv 1) (pv 5) (fun _ _ => rfl)) pe_str (nomark _)) (pss_cons (ps_asg pe_str (pg_sub (pv 1) (pv 5) set_list))
  (pss_cons (ps_expr (kBm (K := K) rfl (pe_bm PySem.F.plainAttrs_list PySem.F.slot_list_append PySem.F.type_list_append mt_append (pv 3) (pa_cons (pv 5) pa_nil))))
  (pss_one (ps_expr (kBm (K := K) rfl (pe_bm PySem.F.plainAttrs_list PySem.F.slot_list_append PySem.F.type_list_append mt_append (pv 4) (pa_cons (pe_callTy (k_list (K := K) rfl) (by rfl) T.list_ (by decide +kernel) (pa_cons (pe_ix (ixl (K := K) rfl) (pv 0) (pv 5) (fun _ _ => rfl)) pa_nil)) pa_nil))))))) pss_nil)))))))))))
  (pss_one (ps_ret pe_non)))), ?_⟩
    rw [show start n_found_ring [a0] = [some a0, none, none, none, none, none] from rfl]
    obtain ⟨p, xss, rfl, ⟨bs, h1, h2⟩, hl, hle, ⟨r, hr2⟩, k⟩ := h
    have hbl := pr_len h2
    walk_at "gg"
    refine ⟨size_ok (by simp), fun t ht => ?_⟩
    have h1' := upd_old (w := .lst [.str "new"]) h1 ht
    walk_at "gg"
    refine ⟨t, xss.length, [.str "new"], rfl, by rw [List.length_map, hbl], upd_same, by omega, by omega, size_ok (by simp; omega), fun st hst => ?_⟩
    have h1'' := upd_old (w := HO.lst (List.replicate ((xss.length : Int)).toNat [V.str "new"]).flatten) h1' hst
    have hst0 : H st = none := none_old hst
    walk_at "gg"
    generalize hn : xss.length = n at hl hle hr2 hbl hst0 h1''
    have hlen : (bs.map V.ref).length = n := by rw [List.length_map, hbl]
    rw [hlen]
    have e0 : (List.replicate ((n : Int)).toNat [V.str "new"]).flatten = stL n (fun _ => .new) := by
      unfold stL
      rw [Int.toNat_natCast]
      apply List.ext_getElem
      · simp
      · intro m h1 h2; simp; rfl
    refine f_range0 (fun i σ H2 => ∃ c v1 v2 v3 v4, σ = [some (.ref p), some (.ref st), v1, v2, v3, v4] ∧ ExB [] H H2 ∧ H2 st = some (.lst (stL n c)) ∧ ∀ j, j < n → c j ≠ .opn) ⟨fun _ => .new, none, none, none, none, rfl, (ExB.new ht).trans (ExB.new hst), by rw [← e0]; exact upd_same, by simp⟩ ?_ ?_
    · rintro i σ H2 hi ⟨c, v1, v2, v3, v4, rfl, ex, h3, h4⟩
      walk_at "gg"
      refine ⟨size_ok (by simp), fun wy hwy => ?_⟩
      have h3' := upd_old (w := .lst []) h3 hwy
      walk_at "gg"
      refine ⟨size_ok (by simp), fun lf hlf => ?_⟩
      have h3'' := upd_old (w := .lst []) h3' hlf
      have hwy2 : upd (upd H2 wy (.lst [])) lf (.lst []) wy = some (.lst []) := upd_old upd_same hlf
      have hwy0 : H wy = none := ex.fresh hwy (by simp)
      have hlf0 : H lf = none := ex.fresh (none_old hlf) (by simp)
      have n1 : st ≠ wy := ne_of_none h3 hwy
      have n2 : st ≠ lf := ne_of_none h3' hlf
      have n3 : wy ≠ lf := ne_of_none upd_same hlf
      have ex2 : ExB [] H (upd (upd H2 wy (.lst [])) lf (.lst [])) := (ex.trans (ExB.new hwy)).trans (ExB.new hlf)
      obtain ⟨bi, hbi⟩ := get_of_lt (xs := bs) (i := i) (by omega)
      obtain ⟨xi, hxi, hri⟩ := pr_get h2 hbi
      walk_at "gg"
      refine z_cut (fun σ H3 => ∃ c w lbs ls v, σ = [some (.ref p), some (.ref st), some (.int (i : Nat)), some (.ref wy), some (.ref lf), v] ∧ FR H H3 n r st wy lf c w lbs ls) ?_ ?_
      · have g1 := stL_at (c := c) hi
        have g2 := stL_ix (c := c) hi
        walk_at "gg"
        rw [C3.is_new]
        refine z_if (fun hnew => ?_) (fun _ => ?_)
        · walk_at "gg"
          have g3 : upd (upd (upd (upd H2 wy (.lst [])) lf (.lst [])) st (.lst ((stL n c).set i (.str "open")))) wy (.lst ([] ++ [.int (i : Nat)])) p = some (.lst (bs.map V.ref)) := by
            rw [upd_ne (ne_of_none h1 hwy0), upd_ne (ne_of_none h1 hst0)]
            exact ex2.nn h1
          have g4 := at_refs hbi
          have g5 : upd (upd (upd (upd H2 wy (.lst [])) lf (.lst [])) st (.lst ((stL n c).set i (.str "open")))) wy (.lst ([] ++ [.int (i : Nat)])) bi = some (.lst (nv xi)) := by
            rw [upd_ne (ne_of_none hri hwy0), upd_ne (ne_of_none hri hst0)]
            exact ex2.nn hri
          walk_at "gg"
          intro nb hnb
          have nbst : upd (upd H2 wy (.lst [])) lf (.lst []) nb = none := none_old (none_old hnb)
          have nlf : lf ≠ nb := ne_of_none upd_same nbst
          have g6 : upd (upd (upd (upd (upd H2 wy (.lst [])) lf (.lst [])) st (.lst ((stL n c).set i (.str "open")))) wy (.lst ([] ++ [.int (i : Nat)]))) nb (.lst (nv xi)) lf = some (.lst []) := by
            rw [upd_ne nlf, upd_ne n3.symm, upd_ne n2.symm, upd_same]
          walk_at "gg"
          have fr0 : FR H (upd (upd H2 wy (.lst [])) lf (.lst [])) n r st wy lf c [] [] [] := ⟨ex2, hst0, hwy0, hlf0, n1, n2, n3, h3'', hwy2, upd_same, List.nodup_nil, by simp, .nil, .nil, List.Pairwise.nil, fun j hj q => absurd q (h4 j hj)⟩
          have fr1 := fr0.openF (f := i) (nb := nb) (xf := xi) hi (by simp) nbst (fun y hy => hr2 i xi hxi y hy)
          refine ⟨setC c i .opn, [i], [nb], [xi], _, rfl, ?_⟩
          have es : (stL n c).set i (.str "open") = stL n (setC c i .opn) := stL_set .opn hi
          rw [es]
          exact fr1
        · walk_at "gg"
          exact ⟨c, [], [], [], _, rfl, ⟨ex2, hst0, hwy0, hlf0, n1, n2, n3, h3'', hwy2, upd_same, List.nodup_nil, by simp, .nil, .nil, List.Pairwise.nil, fun j hj q => absurd q (h4 j hj)⟩⟩
      · rintro σ H3 ⟨c, w, lbs, ls, v, rfl, fr⟩
        refine z_while (fun m σ H3 => ∃ c w lbs ls v, σ = [some (.ref p), some (.ref st), some (.int (i : Nat)), some (.ref wy), some (.ref lf), v] ∧ FR H H3 n r st wy lf c w lbs ls ∧ m = newW (fun i => 2 + (xss.getD i []).length) c n + (ls.map List.length).sum + w.length) _ ⟨c, w, lbs, ls, v, rfl, fr, rfl⟩ ?_
        rintro m σ H3 ⟨c, w, lbs, ls, v, rfl, fr, rfl⟩
        have g0 := fr.hw
        walk_at "gg"
        refine z_if (fun hpos => ?_) (fun hneg => ?_)
        · rw [nv_length] at hpos
          obtain ⟨w, t, rfl⟩ := snoc_of (xs := w) (by omega)
          obtain ⟨ls', xs, e1, hup1, htn, hxs⟩ := pr_snocI fr.up
          have hll := pr_len fr.rows
          have hlu := pr_len fr.up
          obtain ⟨lb, b, rfl⟩ := snoc_of (xs := lbs) (by rw [hll, ← hlu]; simp)
          subst e1
          obtain ⟨ls2, z2, e2, hrow1, hrowb⟩ := pr_snocI fr.rows
          obtain ⟨rfl, e3⟩ := List.append_inj' e2 rfl
          cases e3
          have g1 := fr.hl
          rw [List.map_append, List.map_cons, List.map_nil] at g1
          rw [nv_app] at g0
          have g00 : H3 wy = some (.lst (nv w ++ [.int (t : Nat)])) := g0
          obtain ⟨f0, f1, f2, f3⟩ := fr.fr b (by simp)
          have hs := fr.hs
          walk_at "gg"
          rw [nv_length]
          refine z_if (fun h0 => ?_) (fun h0 => ?_)
          · have e4 : xs = [] := List.length_eq_zero_iff.mp (by omega)
            subst e4
            have i1 := stL_ix (c := c) htn
            walk_at "gg"
            have g2 : upd H3 st (.lst ((stL n c).set t (.str "done"))) wy = some (.lst (nv w ++ [.int (t : Nat)])) := by rw [upd_ne fr.n1.symm]; exact g00
            walk_at "gg"
            refine z_popL g2 ?_
            have g3 : upd (upd H3 st (.lst ((stL n c).set t (.str "done")))) wy (.lst (nv w)) lf = some (.lst (lb.map V.ref ++ [.ref b])) := by rw [upd_ne fr.n3.symm, upd_ne fr.n2.symm]; exact g1
            walk_at "gg"
            refine z_popL g3 ?_
            walk_at "gg"
            have es : (stL n c).set t (.str "done") = stL n (setC c t .don) := stL_set .don htn
            rw [es]
            refine ⟨_, ?_, setC c t .don, w, lb, ls', _, rfl, fr.close, rfl⟩
            have := newW_le (w := fun i => 2 + (xss.getD i []).length) (c := c) (i := t) (v := .don) (by intro q; cases q) (n := n)
            simp only [List.map_append, List.sum_append, List.length_append, List.map_cons, List.map_nil, List.sum_cons, List.sum_nil, List.length_cons, List.length_nil]
            omega
          · obtain ⟨xs, f, rfl⟩ := snoc_of (xs := xs) (by omega)
            obtain ⟨hfn, hrf⟩ := hxs f (by simp)
            rw [nv_app] at hrowb
            have hrb : H3 b = some (.lst (nv xs ++ [.int (f : Nat)])) := hrowb
            walk_at "gg"
            refine z_popL hrb ?_
            have fr1 := fr.popRow
            obtain ⟨hwl, hlb⟩ := fr1.wlen
            rw [List.length_append, List.length_singleton] at hwl hlb
            have hs1 := fr1.hs
            have i1 := stL_at (c := c) hfn
            have i2 := stL_ix (c := c) hfn
            walk_at "gg"
            rw [C3.is_opn]
            refine z_if (fun hop => ?_) (fun hop => ?_)
            · exfalso
              have hm := fr.op f hfn hop
              have pw := List.pairwise_append.mp fr.pw
              rcases List.mem_append.mp hm with q | q
              · have := pw.2.2 f q t (by simp); omega
              · rw [List.mem_singleton] at q; subst q; omega
            · walk_at "gg"
              rw [C3.is_new]
              obtain ⟨bf, hbf⟩ := get_of_lt (xs := bs) (i := f) (by omega)
              obtain ⟨xf, hxf, hrowf⟩ := pr_get h2 hbf
              refine z_if (fun hnew => ?_) (fun hnew => ?_)
              · walk_at "gg"
                have es : (stL n c).set f (.str "open") = stL n (setC c f .opn) := stL_set .opn hfn
                rw [es]
                have g2 : upd (upd H3 b (.lst (nv xs))) st (.lst (stL n (setC c f .opn))) wy = some (.lst (nv w ++ [.int (t : Nat)])) := by rw [upd_ne fr.n1.symm, ← show nv (w ++ [t]) = nv w ++ [.int (t : Nat)] from nv_app w [t]]; exact fr1.hw
                walk_at "gg"
                have q1 := fr1.ex.nn h1
                have q2 := fr1.ex.nn hrowf
                have g3 : upd (upd (upd H3 b (.lst (nv xs))) st (.lst (stL n (setC c f .opn)))) wy (.lst (nv w ++ [.int (t : Nat)] ++ [.int (f : Nat)])) p = some (.lst (bs.map V.ref)) := by
                  rw [upd_ne (ne_of_none h1 fr.wy0), upd_ne (ne_of_none h1 fr.st0)]; exact q1
                have g4 := at_refs hbf
                have g5 : upd (upd (upd H3 b (.lst (nv xs))) st (.lst (stL n (setC c f .opn)))) wy (.lst (nv w ++ [.int (t : Nat)] ++ [.int (f : Nat)])) bf = some (.lst (nv xf)) := by
                  rw [upd_ne (ne_of_none hrowf fr.wy0), upd_ne (ne_of_none hrowf fr.st0)]; exact q2
                walk_at "gg"
                intro nb hnb
                have hnb1 : upd H3 b (.lst (nv xs)) nb = none := none_old (none_old hnb)
                have nlf : lf ≠ nb := ne_of_none fr1.hl hnb1
                have g6 : upd (upd (upd (upd H3 b (.lst (nv xs))) st (.lst (stL n (setC c f .opn)))) wy (.lst (nv w ++ [.int (t : Nat)] ++ [.int (f : Nat)]))) nb (.lst (nv xf)) lf = some (.lst ((lb ++ [b]).map V.ref)) := by
                  rw [upd_ne nlf, upd_ne fr.n3.symm, upd_ne fr.n2.symm]; exact fr1.hl
                walk_at "gg"
                have pw := List.pairwise_append.mp fr.pw
                have fr2 := fr1.openF (f := f) (nb := nb) (xf := xf) hfn (fun y hy => by
                  rcases List.mem_append.mp hy with q | q
                  · have := pw.2.2 y q t (by simp); omega
                  · rw [List.mem_singleton] at q; subst q; exact hrf) hnb1 (fun y hy => hr2 f xf hxf y hy)
                have hd : xss.getD f [] = xf := by rw [List.getD_eq_getElem?_getD, hxf]; rfl
                refine ⟨_, ?_, setC c f .opn, w ++ [t] ++ [f], lb ++ [b] ++ [nb], ls' ++ [xs] ++ [xf], _, rfl, ?_, rfl⟩
                · have := newW_open (w := fun i => 2 + (xss.getD i []).length) (c := c) (i := f) (v := .opn) (by intro q; cases q) hnew (n := n) hfn
                  simp only [hd] at this
                  simp only [List.map_append, List.sum_append, List.length_append, List.map_cons, List.map_nil, List.sum_cons, List.sum_nil, List.length_cons, List.length_nil]
                  omega
                · rw [nv_app (w ++ [t]), nv_app w] at fr2
                  rw [List.map_append (l₁ := lb ++ [b])] at fr2
                  exact fr2
              · walk_at "gg"
                refine ⟨_, ?_, c, w ++ [t], lb ++ [b], ls' ++ [xs], _, rfl, fr1, rfl⟩
                simp only [List.map_append, List.sum_append, List.length_append, List.map_cons, List.map_nil, List.sum_cons, List.sum_nil, List.length_cons, List.length_nil]
                omega
        · walk_at "gg"
          rw [nv_length] at hneg
          have e4 : w = [] := List.length_eq_zero_iff.mp (by omega)
          subst e4
          exact ⟨c, _, _, _, _, rfl, fr.ex, fr.hs, fun j hj q => by have := fr.op j hj q; cases this⟩
    · rintro σ H2 ⟨c, v1, v2, v3, v4, rfl, ex, h3, h4⟩
      walk_at "gg"
      exact k _ ex

abbrev n_mask_of : List Str := ["members", "mask", "element"]
theorem sc_mask_of : FnScope n_mask_of ["members"] (defScope s_mask_of) := ⟨rfl, rfl, rfl, by decide +kernel, rfl, by decide +kernel, by decide +kernel⟩
theorem ok_mask_of {P : Program} {w : World} {K : Frg} {mg : Str → Option Value} {base : Heap} (T : Tx K mg) : C8.Cal P w K mg base 1 "mask_of" sp_mask_of [] := by
  obtain ⟨fd, F⟩ := T.d_mask_of
  have bd : Binds K fd ["members"] [] := F.bindsN fun _ _ _ _ _ _ us hl => match us, hl with | [_], _ => rfl
  refine cal_by F T.g_mask_of bd sc_mask_of ?_ ?_
  · intro vs H Q E h
    match vs, h with
    | [_], _ => rfl
  · intro cdv A outer s H vs Q E hr h
    match vs, h with
    | [a0], h =>
    refine ⟨_, (pss_cons (ps_set (i := 1) sc_mask_of.nd rfl (by first | exact Or.inl rfl | exact Or.inr rfl) pe_int)
  (pss_cons (ps_for PassesOwn.never rfl (kIl (K := K) rfl (pi_list (pv 0))) (pg_name (i := 2) sc_mask_of.nd rfl (by first | exact Or.inl rfl | exact Or.inr rfl))
  (pss_one (ps_set (i := 1) sc_mask_of.nd rfl (by first | exact Or.inl rfl | exact Or.inr rfl) (pe_op op_or (pv 1) (pe_op op_shl pe_int (pv 2))))))
  (pss_one (ps_ret (pv 1))))), ?_⟩
    rw [show start n_mask_of [a0] = [some a0, none, none] from rfl]
    obtain ⟨p, xs, rfl, h1, hlt, k⟩ := h
    walk_at "gg"
    refine f_list (xs := nv xs) (fun i σ H' => H' = H ∧ ∃ v, σ = [some (.ref p), some (.int (maskL (xs.take i) : Nat)), v]) ⟨rfl, none, rfl⟩ (fun i σ H' _ e => e.1 ▸ h1) ?_ ?_
    · rintro i y σ H' hy ⟨rfl, v, rfl⟩
      obtain ⟨a, ha, rfl⟩ := nv_inv hy
      have hal := hlt a (mem_of_get ha)
      walk_at "gg"
      refine ⟨some (.int (a : Int)), ?_⟩
      rw [mask_or, take_snoc ha, maskL_snoc]
    · rintro σ H' ⟨rfl, v, rfl⟩
      walk_at "gg"
      rw [nv_length, List.take_length]
      exact k

abbrev n_closed_masks : List Str := ["direct", "masks", "through", "element", "row"]
theorem sc_closed_masks : FnScope n_closed_masks ["direct"] (defScope s_closed_masks) := ⟨rfl, rfl, rfl, by decide +kernel, rfl, by decide +kernel, by decide +kernel⟩
theorem ok_closed_masks {P : Program} {w : World} {K : Frg} {mg : Str → Option Value} {base : Heap} (T : Tx K mg) (k_mask_of : C8.Cal P w K mg base 1 "mask_of" sp_mask_of []) : C8.Cal P w K mg base 2 "closed_masks" sp_closed_masks [] := by
  obtain ⟨fd, F⟩ := T.d_closed_masks
  have bd : Binds K fd ["direct"] [] := F.bindsN fun _ _ _ _ _ _ us hl => match us, hl with | [_], _ => rfl
  refine cal_by F T.g_closed_masks bd sc_closed_masks ?_ ?_
  · intro vs H Q E h
    match vs, h with
    | [_], _ => rfl
  · intro cdv A outer s H vs Q E hr h
    match vs, h with
    | [a0], h =>
    refine ⟨_, (pss_cons (ps_setLc (i := 1) (own := [("row", 4)]) (by rfl) sc_closed_masks.nd rfl rfl (sw_true rfl rfl rfl (by decide +kernel)) (kIl (K := K) rfl (pi_list (pv 0))) (blkOk_by (own := [("row", 4)]) (N := n_closed_masks) (sc := defScope s_closed_masks) (by decide +kernel)) (fun _ _ _ _ _ => (pg_name (i := 4) sc_closed_masks.nd rfl (by first | exact Or.inl rfl | exact Or.inr rfl))) (fun _ _ _ _ _ => pts_nil) (fun _ _ _ _ _ => (C8.pe_c k_mask_of hr (by decide) rfl (pa_cons (pv 4) pa_nil))))
  (pss_cons (ps_for PassesOwn.never rfl (pi_range1 (by rfl) T.range_ (pa_cons (pe_callB (k_len (K := K) rfl) (by rfl) T.len_ (by decide +kernel) (pa_cons (pv 1) pa_nil)) pa_nil)) (pg_name (i := 2) sc_closed_masks.nd rfl (by first | exact Or.inl rfl | exact Or.inr rfl))
  (pss_one (ps_for PassesOwn.never rfl (pi_range1 (by rfl) T.range_ (pa_cons (pe_callB (k_len (K := K) rfl) (by rfl) T.len_ (by decide +kernel) (pa_cons (pv 1) pa_nil)) pa_nil)) (pg_name (i := 3) sc_closed_masks.nd rfl (by first | exact Or.inl rfl | exact Or.inr rfl))
  (pss_one (ps_if (kTr (K := K) rfl (pt_truth (pe_op op_and (pe_op op_shr (pe_ix (ixl (K := K) rfl) (pv 1) (pv 3) (fun _ _ => rfl)) (pv 2)) pe_int) (by intro _; rfl))) (pss_one (ps_asg (pe_op op_or (pe_ix (ixl (K := K) rfl) (pv 1) (pv 3) (fun _ _ => rfl)) (pe_ix (ixl (K := K) rfl) (pv 1) (pv 2) (fun _ _ => rfl))) (pg_sub (pv 1) (pv 3) set_list))) pss_nil)))))
  (pss_one (ps_ret (pv 1))))), ?_⟩
    rw [show start n_closed_masks [a0] = [some a0, none, none, none, none] from rfl]
    obtain ⟨p, xss, rfl, ⟨bs, h1, h2⟩, hl, hlt, k⟩ := h
    have hbl := pr_len h2
    walk_at "gg"
    intro D hD
    refine l_list (K := K) (xs := bs.map V.ref) (fun i H' => H' = upd H D (.lst (nv ((xss.take i).map maskL)))) (by simp [nv]) (fun i H' _ e => by rw [e]; exact upd_old h1 hD) (fun i x H' hx e => ?_) (fun H' e => ?_)
    · subst e
      rw [List.getElem?_map] at hx
      obtain ⟨b, hb, rfl⟩ := Option.map_eq_some_iff.mp hx
      obtain ⟨xs, hxs, hr⟩ := pr_get h2 hb
      walk_at "wp"
      walk_at "gg"
      refine ⟨b, xs, rfl, upd_old hr hD, fun y hy => by have := hlt xs (mem_of_get hxs) y hy; omega, ?_⟩
      refine ⟨_, upd_same, size_lt ?_, ?_⟩
      · rw [nv_length, List.length_map, List.length_take]; omega
      rw [upd_upd, take_snoc hxs, List.map_append, nv_app]
      rfl
    · have hx : (List.map V.ref bs).length = xss.length := by rw [List.length_map, hbl]
      rw [hx, List.take_length] at e
      have e2 : H' D = some (.lst (nv ((List.range xss.length).map (maskRow xss.length (wars (relOf xss) 0))))) := by
        rw [e, upd_same]
        congr 3
        apply List.ext_getElem?
        intro m
        rw [List.getElem?_map, List.getElem?_map]
        by_cases hm : m < xss.length
        · rw [rng_get hm, List.getElem?_eq_getElem hm]
          show some _ = some _
          congr 1
          apply maskRow_eq
          intro j
          rw [mask_bit]
          have e3 : wars (relOf xss) 0 m j = decide (j ∈ xss[m]) := by
            show relOf xss m j = _
            unfold relOf
            rw [List.getD_eq_getElem?_getD, List.getElem?_eq_getElem hm]; rfl
          rw [e3, Bool.eq_iff_iff]
          simp only [Bool.and_eq_true, decide_eq_true_eq]
          exact ⟨fun h => ⟨hlt _ (List.getElem_mem hm) j h, h⟩, fun h => h.2⟩
        · rw [List.getElem?_eq_none (by omega), List.getElem?_eq_none (by rw [List.length_range]; omega)]; rfl
      have ex : ExB [] H H' := by rw [e]; exact ExB.new hD
      clear e
      generalize hn : xss.length = n at e2 hl hlt hbl hx
      walk_at "gg"
      rw [nv_length, List.length_map, List.length_range]
      refine f_range0 (fun kk σ H2 => (∃ a b, σ = [some (.ref p), some (.ref D), a, b, none]) ∧ ExB [] H H2 ∧ H2 D = some (.lst (nv ((List.range n).map (maskRow n (wars (relOf xss) kk)))))) ⟨⟨_, _, rfl⟩, ex, e2⟩ ?_ ?_
      · rintro kk σ H2 hkk ⟨⟨a, b, rfl⟩, ex2, h3⟩
        generalize hTT : wars (relOf xss) kk = TT at h3
        walk_at "gg"
        rw [nv_length, List.length_map, List.length_range]
        refine f_range0 (fun i σ H2 => (∃ b, σ = [some (.ref p), some (.ref D), some (.int (kk : Nat)), b, none]) ∧ ExB [] H H2 ∧ H2 D = some (.lst (nv ((List.range n).map (maskRow n (midT TT kk i)))))) ⟨⟨_, rfl⟩, ex2, ?_⟩ ?_ ?_
        · rw [h3, show midT TT kk 0 = TT from funext fun a => funext fun b => mid_0]
        · rintro i σ H2 hi ⟨⟨b, rfl⟩, ex2, h3⟩
          have g1 := at_nv (map_get (maskRow n (midT TT kk i)) hi)
          have g2 := at_nv (map_get (maskRow n (midT TT kk i)) hkk)
          have g3 : ixN (nv ((List.range n).map (maskRow n (midT TT kk i)))).length (i : Int) = some i := by rw [nv_length, List.length_map, List.length_range]; exact ix_nat hi
          walk_at "gg"
          rw [bit_ne, maskRow_bit, decide_eq_true hkk, Bool.true_and, midT_at]
          refine z_ifB (fun ht => ?_) (fun ht => ?_)
          · walk_at "gg"
            refine ⟨⟨_, rfl⟩, ex2.free hD, ?_⟩
            rw [upd_same, or_nat, nv_set, mapset hi (g := maskRow n (midT TT kk (i + 1)))]
            · apply maskRow_eq
              intro j
              rw [Nat.testBit_or, maskRow_bit, maskRow_bit, midT_at, midT_k]
              have : midT TT kk (i + 1) i j = (TT i j || (TT i kk && TT kk j)) := by unfold midT; rw [if_pos (by omega)]; rfl
              rw [this, ht]
              cases decide (j < n) <;> simp
            · intro j hj hji
              apply maskRow_eq
              intro m
              rw [maskRow_bit]
              have : midT TT kk i j m = midT TT kk (i + 1) j m := by
                unfold midT
                by_cases q : j < i
                · rw [if_pos q, if_pos (by omega)]
                · rw [if_neg q, if_neg (by omega)]
              rw [this]
          · walk_at "gg"
            refine ⟨⟨_, rfl⟩, ex2, ?_⟩
            rw [h3, show midT TT kk i = midT TT kk (i + 1) from funext fun a => funext fun b => mid_skip ht]
        · rintro σ H2 ⟨⟨b, rfl⟩, ex2, h3⟩
          refine ⟨⟨_, _, rfl⟩, ex2, ?_⟩
          rw [h3, wars_succ, hTT]
          congr 3
          apply List.map_congr_left
          intro a ha
          apply maskRow_eq
          intro j
          rw [maskRow_bit, mid_n (List.mem_range.mp ha)]
      · rintro σ H2 ⟨⟨a, b, rfl⟩, ex2, h3⟩
        walk_at "gg"
        exact k D H2 hD ex2 (by rw [hn]; exact h3)

abbrev n_elements_of : List Str := ["mask", "found", "at"]
theorem sc_elements_of : FnScope n_elements_of ["mask"] (defScope s_elements_of) := ⟨rfl, rfl, rfl, by decide +kernel, rfl, by decide +kernel, by decide +kernel⟩
theorem ok_elements_of {P : Program} {w : World} {K : Frg} {mg : Str → Option Value} {base : Heap} (T : Tx K mg) : C8.Cal P w K mg base 1 "elements_of" sp_elements_of [] := by
  obtain ⟨fd, F⟩ := T.d_elements_of
  have bd : Binds K fd ["mask"] [] := F.bindsN fun _ _ _ _ _ _ us hl => match us, hl with | [_], _ => rfl
  refine cal_by F T.g_elements_of bd sc_elements_of ?_ ?_
  · intro vs H Q E h
    match vs, h with
    | [_], _ => rfl
  · intro cdv A outer s H vs Q E hr h
    match vs, h with
    | [a0], h =>
    refine ⟨_, (pss_cons (ps_set (i := 1) sc_elements_of.nd rfl (by first | exact Or.inl rfl | exact Or.inr rfl) (pe_lst pa_nil))
  (pss_cons (ps_set (i := 2) sc_elements_of.nd rfl (by first | exact Or.inl rfl | exact Or.inr rfl) pe_int)
  (pss_cons (ps_while PassesOwn.never (pt_cmpR op_gt (pv 0) pe_int (nomark _))
  (pss_cons (ps_if (kTr (K := K) rfl (pt_truth (pe_op op_and (pv 0) pe_int) (by intro _; rfl))) (pss_one (ps_expr (kBm (K := K) rfl (pe_bm PySem.F.plainAttrs_list PySem.F.slot_list_append PySem.F.type_list_append mt_append (pv 1) (pa_cons (pv 2) pa_nil))))) pss_nil)
  (pss_cons (ps_set (i := 0) sc_elements_of.nd rfl (by first | exact Or.inl rfl | exact Or.inr rfl) (pe_op op_shr (pv 0) pe_int))
  (pss_one (ps_aug (i := 2) sc_elements_of.nd rfl (by first | exact Or.inl rfl | exact Or.inr rfl) pe_int ip_add)))))
  (pss_one (ps_ret (pv 1)))))), ?_⟩
    rw [show start n_elements_of [a0] = [some a0, none, none] from rfl]
    obtain ⟨m, rfl, hm, k⟩ := h
    walk_at "gg"
    refine ⟨size_ok (by simp), fun f hf => ?_⟩
    walk_at "gg"
    refine z_while (fun c σ H' => ∃ at_ : Nat, at_ ≤ 40 ∧ c = m / 2 ^ at_ ∧ σ = [some (.int ((m / 2 ^ at_ : Nat) : Int)), some (.ref f), some (.int (at_ : Int))] ∧ ExB [] H H' ∧ H' f = some (.lst (nv ((List.range at_).filter m.testBit)))) m ⟨0, by omega, by simp, by simp, ExB.new hf, upd_same⟩ ?_
    rintro c σ H' ⟨at_, hat, rfl, rfl, ex, hf2⟩
    walk_at "gg"
    refine z_if (fun h0 => ?_) (fun h0 => ?_)
    · have h40 : at_ < 40 := by
        by_cases q : at_ < 40
        · exact q
        · have e : at_ = 40 := by omega
          subst e
          rw [Nat.div_eq_of_lt hm] at h0
          omega
      have hdec : m / 2 ^ (at_ + 1) < m / 2 ^ at_ := by
        rw [Nat.pow_succ, ← Nat.div_div_eq_div_mul]
        omega
      have hsh : ((m / 2 ^ at_ : Nat) : Int) / 2 ^ Int.toNat 1 = ((m / 2 ^ (at_ + 1) : Nat) : Int) := by
        rw [Nat.pow_succ, ← Nat.div_div_eq_div_mul]
        show ((m / 2 ^ at_ : Nat) : Int) / 2 = _
        rw [Int.natCast_ediv]; rfl
      have hbit : (Builtin.bitAnd ((m / 2 ^ at_ : Nat) : Int) 1 != 0) = m.testBit at_ := by
        rw [bitAnd_m1, Nat.testBit_eq_decide_div_mod_eq]
        have e : ((m / 2 ^ at_ : Nat) : Int) % 2 = ((m / 2 ^ at_ % 2 : Nat) : Int) := by omega
        rw [e]
        have : m / 2 ^ at_ % 2 = 0 ∨ m / 2 ^ at_ % 2 = 1 := by omega
        rcases this with q | q <;> rw [q] <;> decide
      have hlen : ((List.range at_).filter m.testBit).length ≤ 40 := Nat.le_trans (List.length_filter_le _ _) (by rw [List.length_range]; omega)
      have hr : (List.range (at_ + 1)).filter m.testBit = (List.range at_).filter m.testBit ++ (if m.testBit at_ then [at_] else []) := by
        rw [List.range_succ, List.filter_append]
        congr 1
        cases hb : m.testBit at_ <;> simp [hb]
      walk_at "gg"
      rw [hbit]
      refine z_ifB (fun hb => ?_) (fun hb => ?_)
      · walk_at "gg"
        refine ⟨_, hdec, at_ + 1, by omega, rfl, ?_, ex.free hf, ?_⟩
        · rw [hsh]; rfl
        · rw [upd_same, hr, hb, if_pos rfl, nv_app]; rfl
      · walk_at "gg"
        refine ⟨_, hdec, at_ + 1, by omega, rfl, ?_, ex, ?_⟩
        · rw [hsh]; rfl
        · rw [hf2, hr, hb, if_neg (by simp), List.append_nil]
    · walk_at "gg"
      refine k f H' hf ex ?_
      rw [hf2]
      have h1 : m / 2 ^ at_ = 0 := by
        generalize m / 2 ^ at_ = c at h0
        omega
      have hlt : m < 2 ^ at_ := by
        rcases Nat.div_eq_zero_iff.mp h1 with q | q
        · exact absurd q (by have := Nat.two_pow_pos at_; omega)
        · exact q
      have e : (List.range 40).filter m.testBit = (List.range at_).filter m.testBit := by
        have : (List.range 40) = List.range at_ ++ (List.range (40 - at_)).map (at_ + ·) := by
          rw [← List.range_add, Nat.add_sub_cancel' hat]
        rw [this, List.filter_append]
        have z : ((List.range (40 - at_)).map (at_ + ·)).filter m.testBit = [] := by
          rw [List.filter_eq_nil_iff]
          intro a ha
          obtain ⟨b, _, rfl⟩ := List.mem_map.mp ha
          have : m < 2 ^ (at_ + b) := Nat.lt_of_lt_of_le hlt (Nat.pow_le_pow_right (by omega) (by omega))
          simp [Nat.testBit_lt_two_pow this]
        rw [z, List.append_nil]
      rw [e]

abbrev n_o_init : List Str := ["self", "size", "pairs", "direct", "ring", "low", "index", "high", "element"]
theorem sc_o_init : FnScope n_o_init ["self", "size", "pairs"] (defScope s_o_init) := ⟨rfl, rfl, rfl, by decide +kernel, rfl, by decide +kernel, by decide +kernel⟩
theorem ok_o_init {P : Program} {w : World} {K : Frg} {mg : Str → Option Value} {base : Heap} (T : Tx K mg) (k_found_ring : C8.Cal P w K mg base 1 "found_ring" sp_found_ring []) (k_closed_masks : C8.Cal P w K mg base 2 "closed_masks" sp_closed_masks []) (k_elements_of : C8.Cal P w K mg base 1 "elements_of" sp_elements_of []) : C8.Mak P w K mg base 3 "Order" (aO K) (sp_o_init K) [] := by
  obtain ⟨fd, F⟩ := T.d_o_init
  have bd : Binds K fd ["self", "size", "pairs"] [] := F.bindsN fun _ _ _ _ _ _ us hl => match us, hl with | [_, _, _], _ => rfl
  refine mak_by F T.mkO T.g_Order bd sc_o_init ?_ ?_
  · intro vs H Q E h
    match vs, h with
    | [_, _, _], _ => rfl
  · intro cdv A outer s H vs Q E hr h
    match vs, h with
    | [a0, a1, a2], h =>
    refine ⟨_, (pss_cons (ps_if (pt_not (pt_chain op_le op_le pe_int (pv 1) (C8.pe_gc rfl T.most))) (pss_one ps_never) pss_nil)
  (pss_cons (ps_setLc (i := 3) (own := [("element", 8)]) (by rfl) sc_o_init.nd rfl rfl (sw_true rfl rfl rfl (by decide +kernel)) (pi_range1 (by rfl) T.range_ (pa_cons (pv 1) pa_nil)) (blkOk_by (own := [("element", 8)]) (N := n_o_init) (sc := defScope s_o_init) (by decide +kernel)) (fun _ _ _ _ _ => (pg_name (i := 8) sc_o_init.nd rfl (by first | exact Or.inl rfl | exact Or.inr rfl))) (fun _ _ _ _ _ => pts_nil) (fun _ _ _ _ _ => (pe_lst pa_nil)))
  (pss_cons (ps_for PassesOwn.never rfl (kIe (K := K) rfl (pi_enum (by rfl) T.enumerate_ (pa_cons (pv 2) pa_nil))) (kGt (K := K) rfl (pg_tup (n := 2) rfl (pgs_cons (pg_name (i := 6) sc_o_init.nd rfl (by first | exact Or.inl rfl | exact Or.inr rfl)) (pgs_cons (kGt (K := K) rfl (pg_tup (n := 2) rfl (pgs_cons (pg_name (i := 5) sc_o_init.nd rfl (by first | exact Or.inl rfl | exact Or.inr rfl)) (pgs_cons (pg_name (i := 7) sc_o_init.nd rfl (by first | exact Or.inl rfl | exact Or.inr rfl)) pgs_nil)))) pgs_nil))))
  (pss_cons (ps_if (PW.pt (pw_or (pt_not (pt_chain op_le op_lt pe_int (pv 5) (pv 1))) (pw_or1 (pt_not (pt_chain op_le op_lt pe_int (pv 7) (pv 1)))))) (pss_one ps_never) pss_nil)
  (pss_one (ps_expr (kBm (K := K) rfl (pe_bm PySem.F.plainAttrs_list PySem.F.slot_list_append PySem.F.type_list_append mt_append (pe_ix (ixl (K := K) rfl) (pv 3) (pv 5) (fun _ _ => rfl)) (pa_cons (pv 7) pa_nil)))))))
  (pss_cons (ps_set (i := 4) sc_o_init.nd rfl (by first | exact Or.inl rfl | exact Or.inr rfl) (C8.pe_c k_found_ring hr (by decide) rfl (pa_cons (pv 3) pa_nil)))
  (pss_cons (ps_if (pt_cmpR op_noneN (pv 4) pe_non (nomark _)) (pss_one ps_never) pss_nil)
  (pss_cons (kSt (K := K) rfl (ps_fld (pv 0) (pv 1) rfl))
  (pss_cons (kSt (K := K) rfl (ps_fld (pv 0) (C8.pe_c k_closed_masks hr (by decide) rfl (pa_cons (pv 3) pa_nil)) rfl))
  (pss_cons (kSt (K := K) rfl (ps_fld (pv 0) (pe_op op_rep (pe_lst (pa_cons pe_int pa_nil)) (pv 1)) rfl))
  (pss_cons (kSt (K := K) rfl (ps_fld (pv 0) (pe_lst pa_nil) rfl))
  (pss_one (ps_for PassesOwn.never rfl (pi_range1 (by rfl) T.range_ (pa_cons (pv 1) pa_nil)) (pg_name (i := 5) sc_o_init.nd rfl (by first | exact Or.inl rfl | exact Or.inr rfl))
  (pss_one (ps_for PassesOwn.never rfl (kIl (K := K) rfl (pi_list (C8.pe_c k_elements_of hr (by decide) rfl (pa_cons (pe_ix (ixl (K := K) rfl) (kFl (K := K) rfl (pe_fld (pv 0) rfl)) (pv 5) (fun _ _ => rfl)) pa_nil)))) (pg_name (i := 7) sc_o_init.nd rfl (by first | exact Or.inl rfl | exact Or.inr rfl))
  (pss_cons (ps_asg (pe_op op_or (pe_ix (ixl (K := K) rfl) (kFl (K := K) rfl (pe_fld (pv 0) rfl)) (pv 7) (fun _ _ => rfl)) (pe_op op_shl pe_int (pv 5))) (pg_sub (kFl (K := K) rfl (pe_fld (pv 0) rfl)) (pv 7) set_list))
  (pss_one (ps_expr (kBm (K := K) rfl (pe_bm PySem.F.plainAttrs_list PySem.F.slot_list_append PySem.F.type_list_append mt_append (kFl (K := K) rfl (pe_fld (pv 0) rfl)) (pa_cons (pe_tup (pa_cons (pv 5) (pa_cons (pv 7) pa_nil))) pa_nil))))))))))))))))))), ?_⟩
    rw [show start n_o_init [a0, a1, a2] = [some a0, some a1, some a2, none, none, none, none, none, none] from rfl]
    obtain ⟨x, dx, p, n, ps, rfl, rfl, rfl, hx, hn, ⟨vs0, hp1, hp2⟩, hl, ⟨r, hr2⟩, k⟩ := h
    walk_at "gg"
    refine z_if (fun _ => ?_) (fun q => absurd (by omega) q)
    walk_at "gg"
    have e40 : decide ((n : Int) ≤ 40) = true := decide_eq_true (by omega)
    rw [e40]
    walk_at "gg"
    intro D hD
    refine l_range0 (fun i H' => ExB [] H H' ∧ ∃ bs : List Addr, H' D = some (.lst (bs.map V.ref)) ∧ bs.length = i ∧ bs.Nodup ∧ (∀ b ∈ bs, H b = none ∧ b ≠ D) ∧ ∀ b ∈ bs, H' b = some (.lst (nv []))) ⟨ExB.new hD, [], upd_same, rfl, List.nodup_nil, by simp, by simp⟩ (fun i H' hi ⟨ex, bs, h1, h2, h3, h4, h5⟩ => ?_) (fun H' ⟨ex, bs, h1, h2, h3, h4, h5⟩ => ?_)
    · walk_at "wp"
      walk_at "gg"
      refine ⟨size_ok (by simp), fun q hq => ?_⟩
      have hqH : H q = none := ex.fresh hq (by simp)
      have nDq : D ≠ q := ne_of_none h1 hq
      refine ⟨_, upd_old h1 hq, size_lt (by rw [List.length_map]; omega), (ex.trans (ExB.new hq)).free hD, bs ++ [q], ?_, ?_, ?_, ?_, ?_⟩
      · rw [upd_same, List.map_append]; rfl
      · rw [List.length_append, h2]; rfl
      · rw [List.nodup_append]
        refine ⟨h3, by simp, fun a ha b hb => ?_⟩
        rw [List.mem_singleton] at hb
        subst hb
        exact ne_of_none (h5 a ha) hq
      · intro b hb
        rcases List.mem_append.mp hb with q1 | q1
        · exact h4 b q1
        · rw [List.mem_singleton] at q1; subst q1; exact ⟨hqH, nDq.symm⟩
      · intro b hb
        rcases List.mem_append.mp hb with q1 | q1
        · rw [upd_ne (h4 b q1).2]; exact upd_old (h5 b q1) hq
        · rw [List.mem_singleton] at q1; subst q1; rw [upd_ne nDq.symm, upd_same]; rfl
    · walk_at "gg"
      have hp1' := ex.nn hp1
      walk_at "gg"
      have hx' := ex.nn hx
      refine f_enum (xs := vs0) (fun i σ H2 => (∃ a b c, σ = [some (.ref x), some (.int (n : Nat)), some (.ref p), some (.ref D), none, a, b, c, none]) ∧ ExB [] H H2 ∧ H2 D = some (.lst (bs.map V.ref)) ∧ Paired (fun b xs => H2 b = some (.lst (nv xs))) bs (rowsOf n (ps.take i))) ⟨⟨_, _, _, rfl⟩, ex, h1, ?_⟩ (fun i σ H2 _ e => e.2.1.nn hp1) ?_ ?_
      · refine pr_of (by rw [h2, rowsOf_len]) fun i b xs hb hxs => ?_
        have hi : i < n := by have := lt_of_get hb; omega
        rw [List.take_zero, rowsOf_get hi] at hxs
        cases hxs
        exact h5 b (mem_of_get hb)
      · rintro i y σ H2 t hy ⟨⟨a, b, c, rfl⟩, ex2, hDD, hrows⟩ ht
        obtain ⟨q, hq, cell, rfl, hc⟩ := pr_get hp2 hy
        have hc' := ex2.nn hc
        obtain ⟨q1, q2, q3⟩ := hr2 q (mem_of_get hq)
        walk_at "gg"
        refine z_if (fun _ => ?_) (fun q => absurd (by omega) q)
        walk_at "gg"
        rw [decide_eq_true (show ((q.1 : Nat) : Int) < (n : Int) by omega)]
        walk_at "gg"
        refine z_if (fun _ => ?_) (fun q => absurd (by omega) q)
        walk_at "gg"
        rw [decide_eq_true (show ((q.2 : Nat) : Int) < (n : Int) by omega)]
        walk_at "gg"
        obtain ⟨rb, hrb⟩ := get_of_lt (xs := bs) (i := q.1) (by omega)
        obtain ⟨row, hrow, hrr⟩ := pr_get hrows hrb
        have hrow2 := hrow
        rw [rowsOf_get q1] at hrow2
        have e1 := at_refs hrb
        have hDD' := upd_old (w := .tup [.int (i : Nat), .ref cell]) hDD ht
        have hrr' := upd_old (w := .tup [.int (i : Nat), .ref cell]) hrr ht
        have hrl : row.length ≤ 2000 := by
          have h1 := rowsOf_le (mem_of_get hrow)
          rw [List.length_take] at h1; omega
        walk_at "gg"
        obtain ⟨f0, f1⟩ := h4 rb (mem_of_get hrb)
        refine ⟨⟨_, _, _, rfl⟩, (ex2.trans (ExB.new ht)).free f0, ?_, ?_⟩
        · rw [upd_ne f1.symm]; exact hDD'
        · rw [take_snoc hq, rowsOf_snoc q1]
          rw [Option.some.inj hrow2]
          have hrows2 : Paired (fun b xs => upd H2 t (.tup [.int (i : Nat), .ref cell]) b = some (.lst (nv xs))) bs (rowsOf n (ps.take i)) := pr_mono (fun b xs h => upd_old h ht) hrows
          rcases rows_set (b' := rb) (ys := row ++ [q.2]) hrows2 h3 hrb with h | h
          · rw [nv_app] at h; exact h
          · exact absurd rfl h
      · rintro σ H2 ⟨⟨a, b, c, rfl⟩, ex2, hDD, hrows⟩
        rw [pr_len hp2, List.take_length] at hrows
        walk_at "gg"
        have hlt : ∀ xs ∈ rowsOf n ps, ∀ y ∈ xs, y < n := fun xs hxs y hy => by
          obtain ⟨i, hi, e⟩ := List.mem_iff_getElem.mp hxs
          exact (hr2 _ (rowsOf_mem (List.getElem?_eq_getElem hi) (e ▸ hy))).2.1
        refine ⟨D, rowsOf n ps, rfl, ⟨bs, hDD, hrows⟩, by rw [rowsOf_len]; exact hn, fun xs hxs => Nat.le_trans (rowsOf_le hxs) hl, ⟨r, fun i xs hxs y hy => ?_⟩, fun H3 ex3 => ?_⟩
        · rw [rowsOf_len]
          have := hr2 _ (rowsOf_mem hxs hy)
          exact this.2
        walk_at "gg"
        rw [show decide ((V.non : V) = V.non) = true from rfl]
        have hx3 := ex3.nn (ex2.nn hx)
        have ex4 := ex2.trans ex3
        walk_at "gg"
        have hDx : D ≠ x := ne_of (ex3.nn hDD) hx3 (by intro z; cases z)
        have hbx : ∀ b ∈ bs, b ≠ x := fun b hb q => by
          obtain ⟨y, _, hy⟩ := pr_mem hrows hb
          have := ex3.nn hy
          rw [q, hx3] at this; cases this
        have hcl : closR (rowsOf n ps).length (relOf (rowsOf n ps)) = clos n ps := by
          rw [rowsOf_len, relOf_rows (fun q hq => ⟨(hr2 q hq).1, (hr2 q hq).2.1⟩)]; rfl
        refine ⟨D, rowsOf n ps, rfl, ⟨bs, by rw [upd_ne hDx]; exact ex3.nn hDD, pr_monoM (fun b xs mb k => by rw [upd_ne (hbx b mb)]; exact ex3.nn k) hrows⟩, by rw [rowsOf_len]; exact hn, fun xs hxs y hy => by rw [rowsOf_len]; exact hlt xs hxs y hy, fun up H5 hup ex5 hm => ?_⟩
        rw [hcl, rowsOf_len] at hm
        have hup3 : H3 up = none := none_old hup
        have hup0 : H up = none := ex4.fresh hup3 (by simp)
        have hx5 := ex5.nn (upd_same (H := H3) (a := x) (o := .ins (aO K) dx (putF "_size" (.int (n : Nat)) [])))
        have exx : ExB [x] H H5 := (ex4.up.trans (ExB.mut (by simp))).trans ex5.up
        generalize hT : clos n ps = CT at hm k
        clear hrows hDD h5 hcl
        walk_at "gg"
        refine ⟨size_ok (by simp), fun t1 ht1 => ?_⟩
        walk_at "gg"
        refine ⟨t1, n, [.int 0], rfl, rfl, upd_same, by omega, by omega, size_ok (by simp; omega), fun dn hdn => ?_⟩
        have e0 : (List.replicate ((n : Int)).toNat [V.int 0]).flatten = nv (List.replicate n 0) := by
          unfold nv
          rw [Int.toNat_natCast]
          apply List.ext_getElem
          · simp
          · intro m h1 h2; simp
        rw [e0]
        have hnx1 : t1 ≠ x := fun q => by rw [q, upd_same] at ht1; cases ht1
        have hdx : dn ≠ x := fun q => by
          rw [q, upd_ne hnx1.symm, upd_same] at hdn; cases hdn
        have hdn5 : H5 dn = none := none_old (none_old hdn)
        have hdn0 : H dn = none := exx.fresh hdn5 (by simp [hdx])
        have g1 : upd (upd (upd H5 x (.ins (aO K) dx (putF "_up" (.ref up) (putF "_size" (.int (n : Nat)) [])))) t1 (.lst [.int 0])) dn (.lst (nv (List.replicate n 0))) x = some (.ins (aO K) dx (putF "_up" (.ref up) (putF "_size" (.int (n : Nat)) []))) := by
          rw [upd_ne hdx.symm, upd_ne hnx1.symm, upd_same]
        walk_at "gg"
        refine ⟨size_ok (by simp), fun pr hpr => ?_⟩
        have hprx : pr ≠ x := fun q => by rw [q, upd_same] at hpr; cases hpr
        have hpr5 : H5 pr = none := none_old (none_old (none_old (none_old hpr)))
        have hpr0 : H pr = none := exx.fresh hpr5 (by simp [hprx])
        have hdp : dn ≠ pr := fun q => by
          rw [← q, upd_ne hdx, upd_same] at hpr; cases hpr
        have hupdn : up ≠ dn := ne_of_none hm hdn5
        have huppr : up ≠ pr := ne_of_none hm hpr5
        have hupt1 : up ≠ t1 := ne_of_none hm (none_old ht1)
        have hupx : up ≠ x := fun q => by rw [q, hx5] at hm; cases hm
        have g2 : ∀ A B : HO, upd (upd (upd (upd (upd H5 x A) t1 (.lst [.int 0])) dn (.lst (nv (List.replicate n 0)))) x B) pr (.lst []) x = some B := fun A B => by
          rw [upd_ne hprx.symm, upd_same]
        walk_at "gg"
        rw [putO]
        refine f_range0 (fun i σ H' => (∃ b c d, σ = [some (.ref x), some (.int (n : Nat)), some (.ref p), some (.ref D), some .non, b, c, d, none]) ∧ ExB [x] H H' ∧ H' x = some (.ins (aO K) dx (fsO n up dn pr)) ∧ H' up = some (.lst (nv ((List.range n).map (maskRow n CT)))) ∧ (∃ ds : List Nat, H' dn = some (.lst (nv ds)) ∧ ds.length = n) ∧
          ∃ vs, H' pr = some (.lst vs) ∧ Paired (IsPair H') vs ((List.range i).flatMap fun i => ((List.range n).filter (CT i)).map fun j => (i, j)) ∧ vs.length ≤ i * 40) ⟨⟨_, _, _, rfl⟩, ?_, upd_same, ?_, ⟨List.replicate n 0, ?_, by simp⟩, [], ?_, by simp; exact .nil, by simp⟩ ?_ ?_
        · have mx : x ∈ [x] := List.mem_singleton.mpr rfl
          exact ((((((exx.trans (ExB.mut mx)).trans (ExB.new ht1).up).trans (ExB.new hdn).up).trans (ExB.mut mx)).trans (ExB.new hpr).up).trans (ExB.mut mx))
        · rw [upd_ne hupx, upd_ne huppr, upd_ne hupx, upd_ne hupdn, upd_ne hupt1, upd_ne hupx]; exact hm
        · rw [upd_ne hdx, upd_ne hdp, upd_ne hdx, upd_same]
        · rw [upd_ne hprx, upd_same]
        · rintro i σ H' hi ⟨⟨b, c, d, rfl⟩, ex6, hx6, hu6, ⟨ds, hd6, hdl⟩, vs, hv6, hp6, hvl⟩
          have e1 := at_nv (map_get (maskRow n CT) hi)
          walk_at "gg"
          refine ⟨maskRow n CT i, rfl, maskRow_lt hn, fun el H7 hel ex7 he7 => ?_⟩
          rw [maskRow_elems hn] at he7
          have hx7 := ex7.nn hx6
          have hu7 := ex7.nn hu6
          have hd7 := ex7.nn hd6
          have hv7 := ex7.nn hv6
          have hp7 := pr_mono (fun v q h => IsPair.mono h ex7) hp6
          have hed : el ≠ dn := (ne_of_none hd6 hel).symm
          have hep : el ≠ pr := (ne_of_none hv6 hel).symm
          walk_at "gg"
          generalize hxs : (List.range n).filter (CT i) = xs at he7
          have hxlt : ∀ y ∈ xs, y < n := fun y hy => by
            rw [← hxs] at hy
            exact List.mem_range.mp (List.mem_filter.mp hy).1
          have hxl : xs.length ≤ 40 := by rw [← hxs]; exact Nat.le_trans (List.length_filter_le _ _) (by rw [List.length_range]; omega)
          refine f_list (xs := nv xs) (fun j σ H' => (∃ d, σ = [some (.ref x), some (.int (n : Nat)), some (.ref p), some (.ref D), some .non, some (.int (i : Nat)), c, d, none]) ∧ ExB [x] H H' ∧ H' el = some (.lst (nv xs)) ∧ H' x = some (.ins (aO K) dx (fsO n up dn pr)) ∧ H' up = some (.lst (nv ((List.range n).map (maskRow n CT)))) ∧ (∃ ds : List Nat, H' dn = some (.lst (nv ds)) ∧ ds.length = n) ∧
            ∃ vs, H' pr = some (.lst vs) ∧ Paired (IsPair H') vs (((List.range i).flatMap fun i => ((List.range n).filter (CT i)).map fun j => (i, j)) ++ (xs.take j).map fun j => (i, j)) ∧ vs.length ≤ i * 40 + j) ⟨⟨_, rfl⟩, ex6.trans ex7.up, he7, hx7, hu7, ⟨ds, hd7, hdl⟩, vs, hv7, by simpa using hp7, by omega⟩ (fun j σ H' _ e => e.2.2.1) ?_ ?_
          · rintro j y σ H8 hy ⟨⟨d, rfl⟩, ex8, he8, hx8, hu8, ⟨ds, hd8, hdl⟩, vs, hv8, hp8, hvl8⟩
            obtain ⟨m, hm1, rfl⟩ := nv_inv hy
            have hmn := hxlt m (mem_of_get hm1)
            obtain ⟨dv, hdv⟩ := get_of_lt (xs := ds) (i := m) (by omega)
            have a1 := at_nv hdv
            have a2 : ixN (nv ds).length (m : Int) = some m := by rw [nv_length]; exact ix_nat (by omega)
            walk_at "gg"
            rw [mask_or, nv_set]
            have hx9 : upd H8 dn (.lst (nv (ds.set m (dv ||| 1 <<< i)))) x = some (.ins (aO K) dx (fsO n up dn pr)) := by rw [upd_ne hdx.symm]; exact hx8
            have hv9 : upd H8 dn (.lst (nv (ds.set m (dv ||| 1 <<< i)))) pr = some (.lst vs) := by rw [upd_ne hdp.symm]; exact hv8
            walk_at "gg"
            refine ⟨size_ok (by simp), fun T hT1 => ?_⟩
            have hTx : upd H8 dn (.lst (nv (ds.set m (dv ||| 1 <<< i)))) T = none := hT1
            have hv10 := upd_old (w := .tup [.int (i : Nat), .int (m : Nat)]) hv9 hT1
            have him : i * 40 ≤ 40 * 40 := Nat.mul_le_mul_right _ (by omega)
            have hjl : j < 40 := by have := lt_of_get hm1; omega
            have hvs : vs.length ≤ 2000 := by omega
            walk_at "gg"
            have nTp : pr ≠ T := ne_of_none hv9 hT1
            refine ⟨⟨_, rfl⟩, ?_, ?_, ?_, ?_, ⟨ds.set m (dv ||| 1 <<< i), ?_, by rw [List.length_set]; exact hdl⟩, vs ++ [.ref T], upd_same, ?_, ?_⟩
            · refine (((ex8.free hdn0)).trans (ExB.new hT1)).free hpr0
            · rw [upd_ne hep]; refine upd_old ?_ hT1; rw [upd_ne hed]; exact he8
            · rw [upd_ne hprx.symm]; exact upd_old hx9 hT1
            · rw [upd_ne huppr]; refine upd_old ?_ hT1; rw [upd_ne hupdn]; exact hu8
            · rw [upd_ne hdp]; exact upd_old upd_same hT1
            · rw [take_snoc hm1, List.map_append, ← List.append_assoc]
              refine pr_snoc (pr_mono (fun v q ⟨b, e1, e2⟩ => ⟨b, e1, ?_⟩) hp8) ⟨T, rfl, by rw [upd_ne nTp.symm, upd_same]⟩
              rw [upd_ne (ne_of e2 hv8 (by intro z; cases z))]
              refine upd_old ?_ hT1
              rw [upd_ne (ne_of e2 hd8 (by intro z; cases z))]
              exact e2
            · rw [List.length_append, List.length_singleton]; omega
          · rintro σ H8 ⟨⟨d, rfl⟩, ex8, he8, hx8, hu8, hd8, vs, hv8, hp8, hvl8⟩
            rw [nv_length, List.take_length] at hp8
            rw [nv_length] at hvl8
            refine ⟨⟨_, _, _, rfl⟩, ex8, hx8, hu8, hd8, vs, hv8, ?_, by rw [Nat.succ_mul]; omega⟩
            rw [List.range_succ, List.flatMap_append]
            simpa [hxs] using hp8
        · rintro σ H' ⟨⟨b, c, d, rfl⟩, ex6, hx6, hu6, hd6, vs, hv6, hp6, hvl⟩
          exact k H' up hup0 ex6 ⟨⟨dx, dn, pr, hx6, hu6, vs, hv6, hp6⟩, hn⟩

abbrev n_w_pairs : List Str := ["_law_table", "_law_found", "_law_low", "_law_high"]
theorem sc_w_pairs : FnScope n_w_pairs ["_law_table"] (defScope s_w_pairs) := ⟨rfl, rfl, rfl, by decide +kernel, rfl, by decide +kernel, by decide +kernel⟩
theorem ok_w_pairs {P : Program} {w : World} {K : Frg} {mg : Str → Option Value} {base : Heap} (T : Tx K mg) : C8.Cal P w K mg base 1 "_law_pairs" sp_w_pairs [] := by
  obtain ⟨fd, F⟩ := T.d_w_pairs
  have bd : Binds K fd ["_law_table"] [] := F.bindsN fun _ _ _ _ _ _ us hl => match us, hl with | [_], _ => rfl
  refine cal_by F T.g_w_pairs bd sc_w_pairs ?_ ?_
  · intro vs H Q E h
    match vs, h with
    | [_], _ => rfl
  · intro cdv A outer s H vs Q E hr h
    match vs, h with
    | [a0], h =>
    refine ⟨_, (pss_cons (ps_set (i := 1) sc_w_pairs.nd rfl (by first | exact Or.inl rfl | exact Or.inr rfl) (pe_lst pa_nil))
  (pss_cons (ps_for PassesOwn.never rfl (pi_range1 (by rfl) T.range_ (pa_cons (pe_callB (k_len (K := K) rfl) (by rfl) T.len_ (by decide +kernel) (pa_cons (pv 0) pa_nil)) pa_nil)) (pg_name (i := 2) sc_w_pairs.nd rfl (by first | exact Or.inl rfl | exact Or.inr rfl))
  (pss_one (ps_set (i := 1) sc_w_pairs.nd rfl (by first | exact Or.inl rfl | exact Or.inr rfl) (pe_op op_cat (pv 1) (pe_lc (own := [("_law_high", 3)]) (by rfl) sc_w_pairs.nd (pi_range1 (by rfl) T.range_ (pa_cons (pe_callB (k_len (K := K) rfl) (by rfl) T.len_ (by decide +kernel) (pa_cons (pv 0) pa_nil)) pa_nil)) (blkOk_by (own := [("_law_high", 3)]) (N := n_w_pairs) (sc := defScope s_w_pairs) (by decide +kernel)) (fun _ _ _ _ _ => (pg_name (i := 3) sc_w_pairs.nd rfl (by first | exact Or.inl rfl | exact Or.inr rfl))) (fun _ _ _ _ _ => pts_one (pt_val (pe_ix (ixl (K := K) rfl) (pe_ix (ixl (K := K) rfl) (pv 0) (pv 2) (fun _ _ => rfl)) (pv 3) (fun _ _ => rfl)))) (fun _ _ _ _ _ => (pe_tup (pa_cons (pv 2) (pa_cons (pv 3) pa_nil)))))))))
  (pss_one (ps_ret (pv 1))))), ?_⟩
    rw [show start n_w_pairs [a0] = [some a0, none, none, none] from rfl]
    obtain ⟨p, n, T, rfl, hn, tb, k⟩ := h
    walk_at "gg"
    refine ⟨size_ok (by simp), fun f hf => ?_⟩
    obtain ⟨bs, tbb⟩ := id (tb.mono (ExB.new (o := .lst []) hf))
    have h0 := tbb.at_
    have hl := tbb.len
    walk_at "gg"
    rw [List.length_map, hl]
    refine f_range0 (fun i σ H' => ∃ q vs v1 v2, σ = [some (.ref p), some (.ref q), v1, v2] ∧ ExB [] (upd H f (.lst [])) H' ∧ H q = none ∧ H' q = some (.lst vs) ∧ Paired (IsPair H') vs ((List.range i).flatMap fun i => ((List.range n).filter (T i)).map fun j => (i, j)) ∧ vs.length ≤ i * 40) ⟨f, [], none, none, rfl, ExB.refl, hf, upd_same, by simp; exact .nil, by simp⟩ ?_ ?_
    · rintro i σ H' hi ⟨q, vs, v1, v2, rfl, ex, hq, h1, h2, h3⟩
      have tb' := tbb.mono ex
      have g0 := tb'.at_
      obtain ⟨b, hb⟩ := get_of_lt (xs := bs) (i := i) (by omega)
      walk_at "gg"
      intro A hA
      rw [List.length_map, hl]
      refine l_pairs0 (T i) (fun j => (i, j)) hA (by omega) (fun j acc H2 Nx hj ex2 hacc hlen hF hT => ?_) (fun H2 ex2 hPL => ?_)
      · have tb2 := tb'.mono ex2
        have g0 := tb2.at_
        have gr := tb2.row _ _ hb
        have e1 := at_refs hb
        have e2 := at_row (T := T) (i := i) hj
        walk_at "wp"
        walk_at "gg"
        refine z_ifB (fun hb => ?_) (fun hb => ?_)
        · walk_at "gg"
          refine ⟨size_ok (by simp), fun t ht => ?_⟩
          exact ⟨acc, upd_old hacc ht, size_lt (by omega), hT hb t ht⟩
        · exact hF hb
      · obtain ⟨ws, g1, g2⟩ := hPL
        have hvl := pr_len g2
        rw [List.length_map] at hvl
        have hwl : ws.length ≤ 40 := by rw [hvl]; exact Nat.le_trans (List.length_filter_le _ _) (by rw [List.length_range]; omega)
        have him : i * 40 ≤ 40 * 40 := Nat.mul_le_mul_right _ (by omega)
        refine z_cat (ex2.nn h1) g1 (size_ok (by omega)) fun c hc => ?_
        walk_at "gg"
        have hHc : H c = none := by
          have e := (ex.trans ex2)
          have : (upd H f (.lst [])) c = none := e.fresh hc (by simp)
          exact none_old this
        refine ⟨c, vs ++ ws, _, _, rfl, (ex.trans ex2).trans (ExB.new hc), hHc, upd_same, ?_, ?_⟩
        · rw [List.range_succ, List.flatMap_append]
          have := pr_mono (fun v q h => IsPair.mono h (ExB.new (o := .lst (vs ++ ws)) hc)) (pr_app (pr_mono (fun v q h => IsPair.mono h ex2) h2) g2)
          simpa using this
        · rw [List.length_append, Nat.succ_mul]; omega
    · rintro σ H' ⟨q, vs, v1, v2, rfl, ex, hq, h1, h2, h3⟩
      walk_at "gg"
      exact k q H' hq ((ExB.new hf).trans ex) ⟨vs, h1, h2⟩

abbrev n_w_covers : List Str := ["_law_table", "_law_low", "_law_high", "_law_k"]
theorem sc_w_covers : FnScope n_w_covers ["_law_table", "_law_low", "_law_high"] (defScope s_w_covers) := ⟨rfl, rfl, rfl, by decide +kernel, rfl, by decide +kernel, by decide +kernel⟩
theorem ok_w_covers {P : Program} {w : World} {K : Frg} {mg : Str → Option Value} {base : Heap} (T : Tx K mg) : C8.Cal P w K mg base 1 "_law_covers" sp_w_covers [] := by
  obtain ⟨fd, F⟩ := T.d_w_covers
  have bd : Binds K fd ["_law_table", "_law_low", "_law_high"] [] := F.bindsN fun _ _ _ _ _ _ us hl => match us, hl with | [_, _, _], _ => rfl
  refine cal_by F T.g_w_covers bd sc_w_covers ?_ ?_
  · intro vs H Q E h
    match vs, h with
    | [_, _, _], _ => rfl
  · intro cdv A outer s H vs Q E hr h
    match vs, h with
    | [a0, a1, a2], h =>
    refine ⟨_, (pss_cons (ps_if (pt_not (pt_val (pe_ix (ixl (K := K) rfl) (pe_ix (ixl (K := K) rfl) (pv 0) (pv 1) (fun _ _ => rfl)) (pv 2) (fun _ _ => rfl)))) (pss_one (ps_ret pe_bl)) pss_nil)
  (pss_one (ps_ret (pe_not (pe_callB (k_any (K := K) rfl rfl) (by rfl) T.any_ (by decide +kernel) (pa_cons (pe_lc (own := [("_law_k", 3)]) (by rfl) sc_w_covers.nd (pi_range1 (by rfl) T.range_ (pa_cons (pe_callB (k_len (K := K) rfl) (by rfl) T.len_ (by decide +kernel) (pa_cons (pv 0) pa_nil)) pa_nil)) (blkOk_by (own := [("_law_k", 3)]) (N := n_w_covers) (sc := defScope s_w_covers) (by decide +kernel)) (fun _ _ _ _ _ => (pg_name (i := 3) sc_w_covers.nd rfl (by first | exact Or.inl rfl | exact Or.inr rfl))) (fun _ _ _ _ _ => pts_nil) (fun _ _ _ _ _ => (pe_and (pe_ix (ixl (K := K) rfl) (pe_ix (ixl (K := K) rfl) (pv 0) (pv 1) (fun _ _ => rfl)) (pv 3) (fun _ _ => rfl)) (pe_one (pe_ix (ixl (K := K) rfl) (pe_ix (ixl (K := K) rfl) (pv 0) (pv 3) (fun _ _ => rfl)) (pv 2) (fun _ _ => rfl)))))) pa_nil)))))), ?_⟩
    rw [show start n_w_covers [a0, a1, a2] = [some a0, some a1, some a2, none] from rfl]
    obtain ⟨p, n, T, i, j, rfl, rfl, rfl, hn, ⟨bs, tb⟩, hi, hj, k⟩ := h
    obtain ⟨b, hb⟩ := get_of_lt (xs := bs) (i := i) (by rw [tb.len]; exact hi)
    have h0 := tb.at_
    have hl := tb.len
    have hr1 := tb.row _ _ hb
    have e1 := at_refs hb
    have e3 := at_row (T := T) (i := i) hj
    walk_at "gg"
    refine z_ifNB (fun h1 => ?_) (fun h1 => ?_)
    · walk_at "gg"
      have e : covB n T i j = false := by unfold covB; rw [h1]; rfl
      rw [← e]; exact k _ ExB.refl
    · walk_at "gg"
      intro D hD
      rw [List.length_map, hl]
      refine l_pure0 (fun m => .bl (T i m && T m j)) (by omega) (fun m acc Nx hm hac hN => ?_) ?_
      · obtain ⟨c, hc⟩ := get_of_lt (xs := bs) (i := m) (by rw [hl]; exact hm)
        have hr2 := tb.row _ _ hc
        have f1 := at_refs hc
        have f2 := at_row (T := T) (i := i) hm
        have f3 := at_row (T := T) (i := m) hj
        walk_at "wp"
        walk_at "gg"
        refine z_ifB (fun h2 => ?_) (fun h2 => ?_)
        · walk_at "gg"
          rw [h2] at hN; exact hN
        · walk_at "gg"
          rw [h2] at hN; exact hN
      · walk_at "gg"
        rw [bls_map]
        walk_at "gg"
        have e : covB n T i j = !((List.range n).map fun m => T i m && T m j).any id := by unfold covB; rw [h1, Bool.true_and, List.any_map]; rfl
        rw [← e]; exact k _ (ExB.new hD)

abbrev n_w_told : List Str := ["_law_stream_here", "_law_table", "_law_pairs_here", "_law_low", "_law_high"]
theorem sc_w_told : FnScope n_w_told ["_law_stream_here", "_law_table"] (defScope s_w_told) := ⟨rfl, rfl, rfl, by decide +kernel, rfl, by decide +kernel, by decide +kernel⟩
theorem ok_w_told {P : Program} {w : World} {K : Frg} {mg : Str → Option Value} {base : Heap} (T : Tx K mg) (k_w_pairs : C8.Cal P w K mg base 1 "_law_pairs" sp_w_pairs []) (k_w_draw : C8.Cal P w K mg base 1 "_law_draw" sp_w_draw []) (k_w_covers : C8.Cal P w K mg base 1 "_law_covers" sp_w_covers []) (k_w_mixed : C8.Cal P w K mg base 2 "_law_mixed" sp_w_mixed []) : C8.Cal P w K mg base 3 "_law_told" sp_w_told [] := by
  obtain ⟨fd, F⟩ := T.d_w_told
  have bd : Binds K fd ["_law_stream_here", "_law_table"] [] := F.bindsN fun _ _ _ _ _ _ us hl => match us, hl with | [_, _], _ => rfl
  refine cal_by F T.g_w_told bd sc_w_told ?_ ?_
  · intro vs H Q E h
    match vs, h with
    | [_, _], _ => rfl
  · intro cdv A outer s H vs Q E hr h
    match vs, h with
    | [a0, a1], h =>
    refine ⟨_, (pss_cons (ps_set (i := 2) sc_w_told.nd rfl (by first | exact Or.inl rfl | exact Or.inr rfl) (pe_lst pa_nil))
  (pss_cons (ps_for PassesOwn.never rfl (kIl (K := K) rfl (pi_list (C8.pe_c k_w_pairs hr (by decide) rfl (pa_cons (pv 1) pa_nil)))) (kGt (K := K) rfl (pg_tup (n := 2) rfl (pgs_cons (pg_name (i := 3) sc_w_told.nd rfl (by first | exact Or.inl rfl | exact Or.inr rfl)) (pgs_cons (pg_name (i := 4) sc_w_told.nd rfl (by first | exact Or.inl rfl | exact Or.inr rfl)) pgs_nil))))
  (C8.pss_cut (ps_if (PW.pt (pw_or (pt_val (C8.pe_c k_w_covers hr (by decide) rfl (pa_cons (pv 1) (pa_cons (pv 3) (pa_cons (pv 4) pa_nil))))) (pw_or1 (pt_cmpR op_eq (C8.pe_c k_w_draw hr (by decide) rfl (pa_cons (pv 0) (pa_cons pe_int pa_nil))) pe_int (nomark _))))) (pss_one (ps_expr (kBm (K := K) rfl (pe_bm PySem.F.plainAttrs_list PySem.F.slot_list_append PySem.F.type_list_append mt_append (pv 2) (pa_cons (pe_tup (pa_cons (pv 3) (pa_cons (pv 4) pa_nil))) pa_nil))))) pss_nil)
  (pss_one (ps_if (pt_cmpR op_eq (C8.pe_c k_w_draw hr (by decide) rfl (pa_cons (pv 0) (pa_cons pe_int pa_nil))) pe_int (nomark _)) (pss_one (ps_expr (kBm (K := K) rfl (pe_bm PySem.F.plainAttrs_list PySem.F.slot_list_append PySem.F.type_list_append mt_append (pv 2) (pa_cons (pe_tup (pa_cons (pv 3) (pa_cons (pv 4) pa_nil))) pa_nil))))) pss_nil))))
  (pss_one (ps_ret (C8.pe_c k_w_mixed hr (by decide) rfl (pa_cons (pv 0) (pa_cons (pv 2) pa_nil))))))), ?_⟩
    rw [show start n_w_told [a0, a1] = [some a0, some a1, none, none, none] from rfl]
    obtain ⟨p, q, n, T, rfl, rfl, hn, hs, ht, k⟩ := h
    walk_at "gg"
    refine ⟨size_ok (by simp), fun f hf => ?_⟩
    have hfp : f ≠ p := hs.ne hf
    have ht1 := ht.mono (ExB.new (o := .lst []) hf)
    walk_at "gg"
    refine ⟨q, n, T, rfl, by omega, ht1, fun l H1 hl ex1 hpl => ?_⟩
    have exa : ExB [] H H1 := (ExB.new hf).trans ex1
    have hfl : H1 f = some (.lst []) := ex1.nn upd_same
    have st1 := hs.mono exa
    have tb1 := ht.mono exa
    obtain ⟨vs0, hp1, hp2⟩ := hpl
    have hlp : l ≠ p := st1.not hp1 (fun i j k => PL.noStr hp2 i j k)
    have hlf : l ≠ f := fun e => by rw [e, upd_same] at hl; cases hl
    have hpn := pairsOf_sq (n := n) (T := T)
    have hnn : n * n ≤ 30 * 30 := Nat.mul_le_mul hn hn
    have hvl0 := pr_len hp2
    walk_at "gg"
    refine f_list (xs := vs0) (fun i σ H' => (∃ a b, σ = [some (.ref p), some (.ref q), some (.ref f), a, b]) ∧ ExB [p] H H' ∧ ExB [p, f] H1 H' ∧ Str3 H' p ∧ ∃ vs qs, H' f = some (.lst vs) ∧ Paired (IsPair H') vs qs ∧ qs.length ≤ 2 * i ∧ (∀ q ∈ qs, q ∈ pairsOf n T) ∧ ∀ q ∈ (pairsOf n T).take i, covB n T q.1 q.2 = true → q ∈ qs) ⟨⟨_, _, rfl⟩, exa.up, ExB.refl, st1, [], [], hfl, .nil, by simp, by simp, by simp⟩ (fun i σ H' _ e => e.2.2.1.get hp1 (by simp [hlp, hlf])) ?_ ?_
    · rintro i y σ H' hy ⟨⟨a, b, rfl⟩, ex7, ex9, st7, vs, qs, h1, h2, h3, h4, h5⟩
      obtain ⟨z, hz, cell, rfl, hc⟩ := pr_get hp2 hy
      have hzm := mem_of_get hz
      obtain ⟨z1, z2, z3⟩ := mem_pairsOf.mp (show (z.1, z.2) ∈ pairsOf n T from hzm)
      have hcf : cell ≠ f := ne_of hc hfl (by intro e; cases e)
      have hc7 := ex9.get hc (by simp [st1.notT hc, hcf])
      have hil : i < 900 := by have h1 := lt_of_get hz; omega
      have hvl := pr_len h2
      have tb7 := ht.str hs ex7
      walk_at "gg"
      refine z_cut (fun σ H8 => σ = [some (.ref p), some (.ref q), some (.ref f), some (.int (z.1 : Nat)), some (.int (z.2 : Nat))] ∧ ExB [p, f] H' H8 ∧ ExB [p] H H8 ∧ Str3 H8 p ∧ ∃ vs qs, H8 f = some (.lst vs) ∧ Paired (IsPair H8) vs qs ∧ qs.length ≤ 2 * i + 1 ∧ (∀ q ∈ qs, q ∈ pairsOf n T) ∧ ∀ q ∈ (pairsOf n T).take (i + 1), covB n T q.1 q.2 = true → q ∈ qs) ?_ ?_
      · walk_at "gg"
        refine ⟨q, n, T, z.1, z.2, rfl, rfl, rfl, by omega, tb7, z1, z2, fun H8 ex8 => ?_⟩
        have st8 := st7.mono ex8
        have h18 := ex8.nn h1
        have h28 : Paired (IsPair H8) vs qs := pr_mono (fun v s h => IsPair.mono h ex8) h2
        have push : ∀ (H9 : Hp), ExB [p] H8 H9 → Str3 H9 p → ∀ t, H9 t = none → ∀ (R : Prop), (∀ vs2 qs2, (upd (upd H9 t (.tup [.int (z.1 : Nat), .int (z.2 : Nat)])) f (.lst vs2)) f = some (.lst vs2) → Paired (IsPair (upd (upd H9 t (.tup [.int (z.1 : Nat), .int (z.2 : Nat)])) f (.lst vs2))) vs2 qs2 → qs2.length ≤ 2 * i + 1 → (∀ q ∈ qs2, q ∈ pairsOf n T) → (∀ q ∈ (pairsOf n T).take (i + 1), covB n T q.1 q.2 = true → q ∈ qs2) → vs2 = vs ++ [.ref t] → R) → R := by
          intro H9 ex st t ht R kk
          have h19 := ex.one h18 hfp
          have h29 : Paired (IsPair H9) vs qs := pr_mono (fun v s h => IsPair.str h st8 ex) h28
          refine kk (vs ++ [.ref t]) (qs ++ [z]) upd_same (pr_push h29 h19 ht) (by rw [List.length_append, List.length_singleton]; omega) ?_ ?_ rfl
          · intro w hw
            rcases List.mem_append.mp hw with e | e
            · exact h4 w e
            · rw [List.mem_singleton] at e; subst e; exact hzm
          · intro w hw hcov
            rw [take_snoc hz] at hw
            rcases List.mem_append.mp hw with e | e
            · exact List.mem_append_left _ (h5 w e hcov)
            · exact List.mem_append_right _ e
        walk_at "gg"
        refine z_ifB (fun hcv => ?_) (fun hcv => ?_)
        · walk_at "gg"
          refine ⟨size_ok (by simp), fun t ht => ?_⟩
          have h1t := upd_old (w := .tup [.int (z.1 : Nat), .int (z.2 : Nat)]) h18 ht
          walk_at "gg"
          refine push H8 ExB.refl st8 t ht _ (fun vs2 qs2 g1 g2 g3 g4 g5 e => ?_)
          subst e
          exact ⟨rfl, ((ex8.up.trans (ExB.new ht)).trans (ExB.mut (by simp))), ((ex7.trans ex8.up).trans (ExB.new ht)).free hf, st8.push hfp ht, _, qs2, g1, g2, g3, g4, g5⟩
        · walk_at "gg"
          refine ⟨p, 3, rfl, rfl, by omega, by omega, st8, fun d H9 e0 e1 ex10 st9 => ?_⟩
          have exn : ExB [p, f] H8 H9 := ex10.mono (by simp)
          have h19 := ex10.one h18 hfp
          have h29 : Paired (IsPair H9) vs qs := pr_mono (fun v s h => IsPair.str h st8 ex10) h28
          walk_at "gg"
          refine z_if (fun _ => ?_) (fun _ => ?_)
          · walk_at "gg"
            refine ⟨size_ok (by simp), fun t ht => ?_⟩
            have h1t := upd_old (w := .tup [.int (z.1 : Nat), .int (z.2 : Nat)]) h19 ht
            walk_at "gg"
            refine push H9 ex10 st9 t ht _ (fun vs2 qs2 g1 g2 g3 g4 g5 e => ?_)
            subst e
            exact ⟨rfl, ((ex8.up.trans exn).trans (ExB.new ht)).trans (ExB.mut (by simp)), (((ex7.trans ex8.up).trans ex10).trans (ExB.new ht)).free hf, st9.push hfp ht, _, qs2, g1, g2, g3, g4, g5⟩
          · walk_at "gg"
            refine ⟨rfl, ex8.up.trans exn, (ex7.trans ex8.up).trans ex10, st9, vs, qs, h19, h29, by omega, h4, ?_⟩
            intro w hw hcov
            rw [take_snoc hz] at hw
            rcases List.mem_append.mp hw with e | e
            · exact h5 w e hcov
            · rw [List.mem_singleton] at e; subst e; rw [hcv] at hcov; cases hcov
      · rintro σ H8 ⟨rfl, ex8, exH, st8, vs, qs, h1, h2, h3, h4, h5⟩
        have hvl := pr_len h2
        walk_at "gg"
        refine ⟨p, 8, rfl, rfl, by omega, by omega, st8, fun d H9 e0 e1 ex10 st9 => ?_⟩
        have exn : ExB [p, f] H8 H9 := ex10.mono (by simp)
        have h19 := ex10.one h1 hfp
        have h29 : Paired (IsPair H9) vs qs := pr_mono (fun v s h => IsPair.str h st8 ex10) h2
        walk_at "gg"
        refine z_if (fun _ => ?_) (fun _ => ?_)
        · walk_at "gg"
          refine ⟨size_ok (by simp), fun t ht => ?_⟩
          have h1t := upd_old (w := .tup [.int (z.1 : Nat), .int (z.2 : Nat)]) h19 ht
          walk_at "gg"
          refine ⟨⟨_, _, rfl⟩, ((exH.trans ex10).trans (ExB.new ht)).free hf, (((ex9.trans ex8).trans exn).trans (ExB.new ht)).trans (ExB.mut (by simp)), st9.push hfp ht, vs ++ [.ref t], qs ++ [z], upd_same, pr_push h29 h19 ht, by rw [List.length_append, List.length_singleton]; omega, ?_, ?_⟩
          · intro w hw
            rcases List.mem_append.mp hw with e | e
            · exact h4 w e
            · rw [List.mem_singleton] at e; subst e; exact hzm
          · intro w hw hcov
            exact List.mem_append_left _ (h5 w hw hcov)
        · walk_at "gg"
          exact ⟨⟨_, _, rfl⟩, exH.trans ex10, (ex9.trans ex8).trans exn, st9, vs, qs, h19, h29, by omega, h4, h5⟩
    · rintro σ H' ⟨⟨a, b, rfl⟩, ex7, ex9, st7, vs, qs, h1, h2, h3, h4, h5⟩
      have hvl := pr_len h2
      walk_at "gg"
      refine ⟨p, f, vs, rfl, rfl, st7, h1, hfp, by omega, fun l2 H2 ws pm hl2 ex2 st2 hw => ?_⟩
      obtain ⟨ps2, g1, g2⟩ := pr_perm pm h2
      have hlp2 : l2 ≠ p := st7.ne hl2
      rw [hvl0, List.take_length] at h5
      refine k l2 H2 ps2 ⟨fun w hw => mem_pairsOf.mp (h4 w (g2.mem_iff.mp hw)), fun i j hi hj hcov => g2.mem_iff.mpr (h5 (i, j) (mem_pairsOf.mpr ⟨hi, hj, ?_⟩) hcov)⟩ (by rw [g2.length_eq]; omega) (ex7.fresh hl2 (by simp [hlp2])) (ex7.trans ex2) st2 ⟨ws, hw, pr_mono (fun v s h => IsPair.str h st7 ex2) g1⟩
      unfold covB at hcov
      rw [Bool.and_eq_true] at hcov
      exact hcov.1

abbrev n_f_init : List Str := ["self", "nodes"]
theorem sc_f_init : FnScope n_f_init ["self", "nodes"] (defScope s_f_init) := ⟨rfl, rfl, rfl, by decide +kernel, rfl, by decide +kernel, by decide +kernel⟩
theorem ok_f_init {P : Program} {w : World} {K : Frg} {mg : Str → Option Value} {base : Heap} (T : Tx K mg) : C8.Mak P w K mg base 1 "Flow" (aF K) (sp_f_init K) [] := by
  obtain ⟨fd, F⟩ := T.d_f_init
  have bd : Binds K fd ["self", "nodes"] [] := F.bindsN fun _ _ _ _ _ _ us hl => match us, hl with | [_, _], _ => rfl
  refine mak_by F T.mkF T.g_Flow bd sc_f_init ?_ ?_
  · intro vs H Q E h
    match vs, h with
    | [_, _], _ => rfl
  · intro cdv A outer s H vs Q E hr h
    match vs, h with
    | [a0, a1], h =>
    refine ⟨_, (pss_cons (kSt (K := K) rfl (ps_fld (pv 0) (pv 1) rfl))
  (pss_cons (kSt (K := K) rfl (ps_fld (pv 0) (pe_lst pa_nil) rfl))
  (pss_cons (kSt (K := K) rfl (ps_fld (pv 0) (pe_lst pa_nil) rfl))
  (pss_cons (kSt (K := K) rfl (ps_fld (pv 0) (pe_lst pa_nil) rfl))
  (pss_one (kSt (K := K) rfl (ps_fld (pv 0) (pe_lst pa_nil) rfl))))))), ?_⟩
    rw [show start n_f_init [a0, a1] = [some a0, some a1] from rfl]
    obtain ⟨x, dx, N, rfl, rfl, hx, k⟩ := h
    walk_at "gg"
    refine ⟨size_ok (by simp), fun t ht => ?_⟩
    have htx : t ≠ x := fun q => by rw [q, upd_same] at ht; cases ht
    have g1 : ∀ A B : HO, upd (upd H x A) t B x = some A := fun A B => by rw [upd_ne htx.symm, upd_same]
    walk_at "gg"
    refine ⟨size_ok (by simp), fun h hh => ?_⟩
    have hhx : h ≠ x := fun q => by rw [q, upd_same] at hh; cases hh
    walk_at "gg"
    refine ⟨size_ok (by simp), fun r hr => ?_⟩
    have hrx : r ≠ x := fun q => by rw [q, upd_same] at hr; cases hr
    walk_at "gg"
    refine ⟨size_ok (by simp), fun g hg => ?_⟩
    have hgx : g ≠ x := fun q => by rw [q, upd_same] at hg; cases hg
    walk_at "gg"
    rw [putFl]
    have t0 : H t = none := none_old ht
    have h0 : H h = none := none_old (none_old (none_old hh))
    have r0 : H r = none := none_old (none_old (none_old (none_old (none_old hr))))
    have g0 : H g = none := none_old (none_old (none_old (none_old (none_old (none_old (none_old hg))))))
    have th : t ≠ h := fun q => by rw [← q, upd_ne htx, upd_same] at hh; cases hh
    have tr : t ≠ r := fun q => by rw [← q, upd_ne htx, upd_ne th, upd_ne htx, upd_same] at hr; cases hr
    have hr' : h ≠ r := fun q => by rw [← q, upd_ne hhx, upd_same] at hr; cases hr
    have tg : t ≠ g := fun q => by rw [← q, upd_ne htx, upd_ne tr, upd_ne htx, upd_ne th, upd_ne htx, upd_same] at hg; cases hg
    have hg' : h ≠ g := fun q => by rw [← q, upd_ne hhx, upd_ne hr', upd_ne hhx, upd_same] at hg; cases hg
    have rg : r ≠ g := fun q => by rw [← q, upd_ne hrx, upd_same] at hg; cases hg
    refine k _ t h r g t0 h0 r0 g0 ?_ ⟨⟨dx, upd_same⟩, ?_, ?_, ?_, ?_, th, tr, tg, hr', hg', rg⟩
    · intro b o hb e
      have hbx : b ≠ x := by simpa using hb
      rw [upd_ne hbx, upd_ne (ne_of_none e g0), upd_ne hbx, upd_ne (ne_of_none e r0), upd_ne hbx, upd_ne (ne_of_none e h0), upd_ne hbx, upd_ne (ne_of_none e t0), upd_ne hbx]; exact e
    · rw [upd_ne htx, upd_ne tg, upd_ne htx, upd_ne tr, upd_ne htx, upd_ne th, upd_ne htx, upd_same]; rfl
    · rw [upd_ne hhx, upd_ne hg', upd_ne hhx, upd_ne hr', upd_ne hhx, upd_same]; rfl
    · rw [upd_ne hrx, upd_ne rg, upd_ne hrx, upd_same]; rfl
    · rw [upd_ne hgx, upd_same]; rfl

abbrev n_f_add_arc : List Str := ["self", "tail", "head", "room", "gain"]
theorem sc_f_add_arc : FnScope n_f_add_arc ["self", "tail", "head", "room", "gain"] (defScope s_f_add_arc) := ⟨rfl, rfl, rfl, by decide +kernel, rfl, by decide +kernel, by decide +kernel⟩
theorem ok_f_add_arc {P : Program} {w : World} {K : Frg} {mg : Str → Option Value} {base : Heap} (T : Tx K mg) : C8.Met P w K mg base 1 (aF K) "add_arc" (sp_f_add_arc K) [] := by
  obtain ⟨fd, F⟩ := T.d_f_add_arc
  have bd : Binds K fd ["self", "tail", "head", "room", "gain"] [] := F.bindsN fun _ _ _ _ _ _ us hl => match us, hl with | [_, _, _, _, _], _ => rfl
  refine met_by F T.clF T.me_add_arc bd sc_f_add_arc ?_ ?_
  · intro vs H Q E h
    match vs, h with
    | [_, _, _, _, _], _ => rfl
  · intro cdv A outer s H vs Q E hr h
    match vs, h with
    | [a0, a1, a2, a3, a4], h =>
    refine ⟨_, (pss_cons (ps_expr (kBm (K := K) rfl (pe_bm PySem.F.plainAttrs_list PySem.F.slot_list_extend PySem.F.type_list_extend mt_extend (kFl (K := K) rfl (pe_fld (pv 0) rfl)) (pa_cons (pe_lst (pa_cons (pv 1) (pa_cons (pv 2) pa_nil))) pa_nil))))
  (pss_cons (ps_expr (kBm (K := K) rfl (pe_bm PySem.F.plainAttrs_list PySem.F.slot_list_extend PySem.F.type_list_extend mt_extend (kFl (K := K) rfl (pe_fld (pv 0) rfl)) (pa_cons (pe_lst (pa_cons (pv 2) (pa_cons (pv 1) pa_nil))) pa_nil))))
  (pss_cons (ps_expr (kBm (K := K) rfl (pe_bm PySem.F.plainAttrs_list PySem.F.slot_list_extend PySem.F.type_list_extend mt_extend (kFl (K := K) rfl (pe_fld (pv 0) rfl)) (pa_cons (pe_lst (pa_cons (pv 3) (pa_cons pe_int pa_nil))) pa_nil))))
  (pss_cons (ps_expr (kBm (K := K) rfl (pe_bm PySem.F.plainAttrs_list PySem.F.slot_list_extend PySem.F.type_list_extend mt_extend (kFl (K := K) rfl (pe_fld (pv 0) rfl)) (pa_cons (pe_lst (pa_cons (pv 4) (pa_cons (pe_op op_sub pe_int (pv 4)) pa_nil))) pa_nil))))
  (pss_one (ps_ret (pe_op op_sub (pe_callB (k_len (K := K) rfl) (by rfl) T.len_ (by decide +kernel) (pa_cons (kFl (K := K) rfl (pe_fld (pv 0) rfl)) pa_nil)) pe_int))))))), ?_⟩
    rw [show start n_f_add_arc [a0, a1, a2, a3, a4] = [some a0, some a1, some a2, some a3, some a4] from rfl]
    obtain ⟨x, t, h, r, g, G, u, v, rr, gg, rfl, rfl, rfl, rfl, rfl, F, hm, k⟩ := h
    obtain ⟨⟨dx, f1⟩, f2, f3, f4, f5, n1, n2, n3, n4, n5, n6⟩ := F
    have xt : x ≠ t := ne_of f1 f2 (by intro q; cases q)
    have xh : x ≠ h := ne_of f1 f3 (by intro q; cases q)
    have xr : x ≠ r := ne_of f1 f4 (by intro q; cases q)
    have xg : x ≠ g := ne_of f1 f5 (by intro q; cases q)
    walk_at "gg"
    refine ⟨size_ok (by simp), fun a ha => ?_⟩
    walk_at "gg"
    refine z_ext (zs := [.int (u : Int), .int (v : Int)]) (upd_old f2 ha) upd_same (size_ok (by simp only [tV_len, rV_len, List.length_cons, List.length_nil]; omega)) ?_
    rw [tV_app2]
    have f1a : upd (upd H a (.lst [.int (u : Int), .int (v : Int)])) t (.lst (tV (G.m + 2) (app2 G.m G.tl u v))) x = some (.ins (aF K) dx (fsF G.N t h r g)) := by rw [upd_ne xt]; exact upd_old f1 ha
    have f3a : upd (upd H a (.lst [.int (u : Int), .int (v : Int)])) t (.lst (tV (G.m + 2) (app2 G.m G.tl u v))) h = some (.lst (tV G.m G.hd)) := by rw [upd_ne n1.symm]; exact upd_old f3 ha
    have f4a : upd (upd H a (.lst [.int (u : Int), .int (v : Int)])) t (.lst (tV (G.m + 2) (app2 G.m G.tl u v))) r = some (.lst (rV G.m G.rm)) := by rw [upd_ne n2.symm]; exact upd_old f4 ha
    have f5a : upd (upd H a (.lst [.int (u : Int), .int (v : Int)])) t (.lst (tV (G.m + 2) (app2 G.m G.tl u v))) g = some (.lst (rV G.m G.gn)) := by rw [upd_ne n3.symm]; exact upd_old f5 ha
    have f2a : upd (upd H a (.lst [.int (u : Int), .int (v : Int)])) t (.lst (tV (G.m + 2) (app2 G.m G.tl u v))) t = some (.lst (tV (G.m + 2) (app2 G.m G.tl u v))) := upd_same
    have exa : ExB [t, h, r, g] H (upd (upd H a (.lst [.int (u : Int), .int (v : Int)])) t (.lst (tV (G.m + 2) (app2 G.m G.tl u v)))) := (ExB.new ha).trans (ExB.mut (by simp))
    generalize upd (upd H a (.lst [.int (u : Int), .int (v : Int)])) t (.lst (tV (G.m + 2) (app2 G.m G.tl u v))) = H1 at *
    walk_at "gg"
    refine ⟨size_ok (by simp), fun b hb => ?_⟩
    walk_at "gg"
    refine z_ext (zs := [.int (v : Int), .int (u : Int)]) (upd_old f3a hb) upd_same (size_ok (by simp only [tV_len, rV_len, List.length_cons, List.length_nil]; omega)) ?_
    rw [tV_app2]
    have f1b : upd (upd H1 b (.lst [.int (v : Int), .int (u : Int)])) h (.lst (tV (G.m + 2) (app2 G.m G.hd v u))) x = some (.ins (aF K) dx (fsF G.N t h r g)) := by rw [upd_ne xh]; exact upd_old f1a hb
    have f2b : upd (upd H1 b (.lst [.int (v : Int), .int (u : Int)])) h (.lst (tV (G.m + 2) (app2 G.m G.hd v u))) t = some (.lst (tV (G.m + 2) (app2 G.m G.tl u v))) := by rw [upd_ne n1]; exact upd_old f2a hb
    have f3b : upd (upd H1 b (.lst [.int (v : Int), .int (u : Int)])) h (.lst (tV (G.m + 2) (app2 G.m G.hd v u))) h = some (.lst (tV (G.m + 2) (app2 G.m G.hd v u))) := upd_same
    have f4b : upd (upd H1 b (.lst [.int (v : Int), .int (u : Int)])) h (.lst (tV (G.m + 2) (app2 G.m G.hd v u))) r = some (.lst (rV G.m G.rm)) := by rw [upd_ne n4.symm]; exact upd_old f4a hb
    have f5b : upd (upd H1 b (.lst [.int (v : Int), .int (u : Int)])) h (.lst (tV (G.m + 2) (app2 G.m G.hd v u))) g = some (.lst (rV G.m G.gn)) := by rw [upd_ne n5.symm]; exact upd_old f5a hb
    have exb : ExB [t, h, r, g] H (upd (upd H1 b (.lst [.int (v : Int), .int (u : Int)])) h (.lst (tV (G.m + 2) (app2 G.m G.hd v u)))) := (exa.trans (ExB.new hb)).trans (ExB.mut (by simp))
    generalize upd (upd H1 b (.lst [.int (v : Int), .int (u : Int)])) h (.lst (tV (G.m + 2) (app2 G.m G.hd v u))) = H2 at *
    walk_at "gg"
    refine ⟨size_ok (by simp), fun c hc => ?_⟩
    walk_at "gg"
    refine z_ext (zs := [.int rr, .int 0]) (upd_old f4b hc) upd_same (size_ok (by simp only [tV_len, rV_len, List.length_cons, List.length_nil]; omega)) ?_
    rw [rV_app2]
    have f1c : upd (upd H2 c (.lst [.int rr, .int 0])) r (.lst (rV (G.m + 2) (app2 G.m G.rm rr 0))) x = some (.ins (aF K) dx (fsF G.N t h r g)) := by rw [upd_ne xr]; exact upd_old f1b hc
    have f2c : upd (upd H2 c (.lst [.int rr, .int 0])) r (.lst (rV (G.m + 2) (app2 G.m G.rm rr 0))) t = some (.lst (tV (G.m + 2) (app2 G.m G.tl u v))) := by rw [upd_ne n2]; exact upd_old f2b hc
    have f3c : upd (upd H2 c (.lst [.int rr, .int 0])) r (.lst (rV (G.m + 2) (app2 G.m G.rm rr 0))) h = some (.lst (tV (G.m + 2) (app2 G.m G.hd v u))) := by rw [upd_ne n4]; exact upd_old f3b hc
    have f4c : upd (upd H2 c (.lst [.int rr, .int 0])) r (.lst (rV (G.m + 2) (app2 G.m G.rm rr 0))) r = some (.lst (rV (G.m + 2) (app2 G.m G.rm rr 0))) := upd_same
    have f5c : upd (upd H2 c (.lst [.int rr, .int 0])) r (.lst (rV (G.m + 2) (app2 G.m G.rm rr 0))) g = some (.lst (rV G.m G.gn)) := by rw [upd_ne n6.symm]; exact upd_old f5b hc
    have exc : ExB [t, h, r, g] H (upd (upd H2 c (.lst [.int rr, .int 0])) r (.lst (rV (G.m + 2) (app2 G.m G.rm rr 0)))) := (exb.trans (ExB.new hc)).trans (ExB.mut (by simp))
    generalize upd (upd H2 c (.lst [.int rr, .int 0])) r (.lst (rV (G.m + 2) (app2 G.m G.rm rr 0))) = H3 at *
    walk_at "gg"
    refine ⟨size_ok (by simp), fun d hd => ?_⟩
    walk_at "gg"
    refine z_ext (zs := [.int gg, .int (0 - gg)]) (upd_old f5c hd) upd_same (size_ok (by simp only [tV_len, rV_len, List.length_cons, List.length_nil]; omega)) ?_
    rw [rV_app2]
    have f1d : upd (upd H3 d (.lst [.int gg, .int (0 - gg)])) g (.lst (rV (G.m + 2) (app2 G.m G.gn gg (0 - gg)))) x = some (.ins (aF K) dx (fsF G.N t h r g)) := by rw [upd_ne xg]; exact upd_old f1c hd
    have f2d : upd (upd H3 d (.lst [.int gg, .int (0 - gg)])) g (.lst (rV (G.m + 2) (app2 G.m G.gn gg (0 - gg)))) t = some (.lst (tV (G.m + 2) (app2 G.m G.tl u v))) := by rw [upd_ne n3]; exact upd_old f2c hd
    walk_at "gg"
    rw [tV_len, show (((G.m + 2 : Nat) : Int) - 2) = (G.m : Nat) by omega]
    refine k _ ((exc.trans (ExB.new hd)).trans (ExB.mut (by simp))) ⟨⟨dx, f1d⟩, f2d, ?_, ?_, upd_same, n1, n2, n3, n4, n5, n6⟩
    · rw [upd_ne n5]; exact upd_old f3c hd
    · rw [upd_ne n6]; exact upd_old f4c hd

abbrev n_o_pairs : List Str := ["self"]
theorem sc_o_pairs : FnScope n_o_pairs ["self"] (defScope s_o_pairs) := ⟨rfl, rfl, rfl, by decide +kernel, rfl, by decide +kernel, by decide +kernel⟩
theorem ok_o_pairs {P : Program} {w : World} {K : Frg} {mg : Str → Option Value} {base : Heap} (T : Tx K mg) : C8.Met P w K mg base 1 (aO K) "pairs" (sp_o_pairs K) [] := by
  obtain ⟨fd, F⟩ := T.d_o_pairs
  have bd : Binds K fd ["self"] [] := F.bindsN fun _ _ _ _ _ _ us hl => match us, hl with | [_], _ => rfl
  refine met_by F T.clO T.me_pairs bd sc_o_pairs ?_ ?_
  · intro vs H Q E h
    match vs, h with
    | [_], _ => rfl
  · intro cdv A outer s H vs Q E hr h
    match vs, h with
    | [a0], h =>
    refine ⟨_, (pss_one (ps_ret (pe_callTy (k_list (K := K) rfl) (by rfl) T.list_ (by decide +kernel) (pa_cons (kFl (K := K) rfl (pe_fld (pv 0) rfl)) pa_nil)))), ?_⟩
    rw [show start n_o_pairs [a0] = [some a0] from rfl]
    obtain ⟨x, n, T, rfl, ho, k⟩ := h
    obtain ⟨up, ⟨dx, dn, pr, h1, h2, vs', h3, h4⟩, le⟩ := id ho
    walk_at "gg"
    intro l hl
    exact k l _ hl (ExB.new hl) ⟨_, upd_same, pr_mono (fun x y q => IsPair.mono q (ExB.new hl)) h4⟩

abbrev n_c_init : List Str := ["self", "order", "room", "element", "low", "high"]
theorem sc_c_init : FnScope n_c_init ["self", "order"] (defScope s_c_init) := ⟨rfl, rfl, rfl, by decide +kernel, rfl, by decide +kernel, by decide +kernel⟩
theorem ok_c_init {P : Program} {w : World} {K : Frg} {mg : Str → Option Value} {base : Heap} (T : Tx K mg) (k_f_init : C8.Mak P w K mg base 1 "Flow" (aF K) (sp_f_init K) []) (k_f_add_arc : C8.Met P w K mg base 1 (aF K) "add_arc" (sp_f_add_arc K) []) (k_o_pairs : C8.Met P w K mg base 1 (aO K) "pairs" (sp_o_pairs K) []) : C8.Mak P w K mg base 3 "ChainFlow" (aC K) (sp_c_init K) [] := by
  obtain ⟨fd, F⟩ := T.d_c_init
  have bd : Binds K fd ["self", "order"] [] := F.bindsN fun _ _ _ _ _ _ us hl => match us, hl with | [_, _], _ => rfl
  refine mak_by F T.mkC T.g_ChainFlow bd sc_c_init ?_ ?_
  · intro vs H Q E h
    match vs, h with
    | [_, _], _ => rfl
  · intro cdv A outer s H vs Q E hr h
    match vs, h with
    | [a0, a1], h =>
    obtain ⟨fdg, g_size, bind_size⟩ := getter_ok (P := P) (w := w) (base := base) T
    refine ⟨_, (pss_cons (kSt (K := K) rfl (ps_fld (pv 0) (pv 1) rfl))
  (pss_cons (ps_set (i := 2) sc_c_init.nd rfl (by first | exact Or.inl rfl | exact Or.inr rfl) (pe_op op_add (pe_prop (pv 1) T.clO T.prop g_size (hr.mono (by decide)) bind_size .nil pass0 rfl) pe_int))
  (pss_cons (kSt (K := K) rfl (ps_fld (pv 0) (C8.pe_mk k_f_init hr (by decide) rfl (pa_cons (pe_op op_add pe_int (pe_op op_mul pe_int (pe_prop (pv 1) T.clO T.prop g_size (hr.mono (by decide)) bind_size .nil pass0 rfl))) pa_nil)) rfl))
  (pss_cons (kSt (K := K) rfl (ps_fld (pv 0) (pe_lst pa_nil) rfl))
  (pss_cons (kSt (K := K) rfl (ps_fld (pv 0) pe_int rfl))
  (pss_cons (ps_for PassesOwn.never rfl (pi_range1 (by rfl) T.range_ (pa_cons (pe_prop (pv 1) T.clO T.prop g_size (hr.mono (by decide)) bind_size .nil pass0 rfl) pa_nil)) (pg_name (i := 3) sc_c_init.nd rfl (by first | exact Or.inl rfl | exact Or.inr rfl))
  (pss_cons (ps_expr (C8.pe_mt k_f_add_arc hr (by decide) (kFl (K := K) rfl (pe_fld (pv 0) rfl)) (pa_cons pe_int (pa_cons (pe_op op_add pe_int (pe_op op_mul pe_int (pv 3))) (pa_cons (pv 2) (pa_cons pe_int pa_nil))))))
  (pss_cons (ps_expr (kBm (K := K) rfl (pe_bm PySem.F.plainAttrs_list PySem.F.slot_list_append PySem.F.type_list_append mt_append (kFl (K := K) rfl (pe_fld (pv 0) rfl)) (pa_cons (C8.pe_mt k_f_add_arc hr (by decide) (kFl (K := K) rfl (pe_fld (pv 0) rfl)) (pa_cons (pe_op op_add pe_int (pe_op op_mul pe_int (pv 3))) (pa_cons (pe_op op_add pe_int (pe_op op_mul pe_int (pv 3))) (pa_cons pe_int (pa_cons pe_int pa_nil))))) pa_nil))))
  (pss_cons (ps_expr (C8.pe_mt k_f_add_arc hr (by decide) (kFl (K := K) rfl (pe_fld (pv 0) rfl)) (pa_cons (pe_op op_add pe_int (pe_op op_mul pe_int (pv 3))) (pa_cons (pe_op op_add pe_int (pe_op op_mul pe_int (pv 3))) (pa_cons (pv 2) (pa_cons pe_int pa_nil))))))
  (pss_one (ps_expr (C8.pe_mt k_f_add_arc hr (by decide) (kFl (K := K) rfl (pe_fld (pv 0) rfl)) (pa_cons (pe_op op_add pe_int (pe_op op_mul pe_int (pv 3))) (pa_cons pe_int (pa_cons (pv 2) (pa_cons pe_int pa_nil)))))))))))
  (pss_one (ps_for PassesOwn.never rfl (kIl (K := K) rfl (pi_list (C8.pe_mt0 k_o_pairs hr (by decide) (pv 1)))) (kGt (K := K) rfl (pg_tup (n := 2) rfl (pgs_cons (pg_name (i := 4) sc_c_init.nd rfl (by first | exact Or.inl rfl | exact Or.inr rfl)) (pgs_cons (pg_name (i := 5) sc_c_init.nd rfl (by first | exact Or.inl rfl | exact Or.inr rfl)) pgs_nil))))
  (pss_one (ps_expr (C8.pe_mt k_f_add_arc hr (by decide) (kFl (K := K) rfl (pe_fld (pv 0) rfl)) (pa_cons (pe_op op_add pe_int (pe_op op_mul pe_int (pv 4))) (pa_cons (pe_op op_add pe_int (pe_op op_mul pe_int (pv 5))) (pa_cons (pv 2) (pa_cons pe_int pa_nil))))))))))))))), ?_⟩
    rw [show start n_c_init [a0, a1] = [some a0, some a1, none, none, none, none] from rfl]
    obtain ⟨x, dx, o, n, T, rfl, rfl, hx, ho, k⟩ := h
    have hn := ho.le
    have hok := nok_pairs (T := T) hn
    obtain ⟨up, ⟨dxo, dn, pr, o1, o2, o3⟩, _⟩ := id ho
    have ox : o ≠ x := fun q => by
      rw [q, hx] at o1
      injection o1 with e
      injection e with e1 e2 e3
      cases e3
    walk_at "gg"
    intro fl dxf hfl hdxf nef
    have xf : x ≠ fl := ne_of_none upd_same hfl
    have fl2 : upd (upd H x (.ins (aC K) dx (putF "_order" (.ref o) []))) dxf (.own fl) fl = none := by rw [upd_ne nef.symm]; exact hfl
    refine ⟨fl, dxf, 2 + 2 * n, rfl, congrArg V.int (by omega), upd_same, fun H1 t h r g t0 h0 r0 g0 ex1 F1 => ⟨rfl, ?_⟩⟩
    have hx1 := ex1.one (upd_old (upd_old (upd_same (H := H) (a := x) (o := .ins (aC K) dx (putF "_order" (.ref o) []))) hdxf) fl2) xf
    have fl0 : H fl = none := none_old hfl
    have of : o ≠ fl := ne_of_none o1 fl0
    have oho : upd H x (.ins (aC K) dx (putF "_order" (.ref o) [])) o = some (.ins (aO K) dxo (fsO n up dn pr)) := by rw [upd_ne ox]; exact o1
    have o1' := ex1.one (upd_old (upd_old oho hdxf) fl2) of
    have t00 : H t = none := none_old (none_old (none_old t0))
    have h00 : H h = none := none_old (none_old (none_old h0))
    have r00 : H r = none := none_old (none_old (none_old r0))
    have g00 : H g = none := none_old (none_old (none_old g0))
    have exH1 : ExB [x] H H1 := by
      refine ExB.freeS (S := [x]) (H' := upd (upd (upd H x (.ins (aC K) dx (putF "_order" (.ref o) []))) dxf (.own fl)) fl (.ins (aF K) dxf [])) (((ExB.mut (by simp)).trans (ExB.new hdxf)).trans (ExB.new fl2)) ex1 ?_
      intro a ha
      rw [List.mem_singleton] at ha; subst ha; exact Or.inl fl0
    walk_at "gg"
    refine ⟨size_ok (by simp), fun ga hga => ?_⟩
    have xga : x ≠ ga := ne_of_none upd_same hga
    have hga1 : H1 ga = none := none_old hga
    have ga0 : H ga = none := exH1.fresh hga1 (by simp [xga.symm])
    walk_at "gg"
    rw [putC]
    obtain ⟨⟨dx2, f1⟩, f2, f3, f4, f5, n1, n2, n3, n4, n5, n6⟩ := id F1
    have xt : t ≠ x := ne_of f2 hx1 (by intro q; cases q)
    have xh : h ≠ x := ne_of f3 hx1 (by intro q; cases q)
    have xr : r ≠ x := ne_of f4 hx1 (by intro q; cases q)
    have xg : g ≠ x := ne_of f5 hx1 (by intro q; cases q)
    have gar : ga ≠ r := (ne_of_none f4 hga1).symm
    have ga_t : ga ≠ t := (ne_of_none f2 hga1).symm
    have ga_h : ga ≠ h := (ne_of_none f3 hga1).symm
    have ga_g : ga ≠ g := (ne_of_none f5 hga1).symm
    have ga_f : ga ≠ fl := (ne_of_none f1 hga1).symm
    have tf : t ≠ fl := ne_of f2 f1 (by intro q; cases q)
    have hf : h ≠ fl := ne_of f3 f1 (by intro q; cases q)
    have rf : r ≠ fl := ne_of f4 f1 (by intro q; cases q)
    have gf : g ≠ fl := ne_of f5 f1 (by intro q; cases q)
    have new5 : ∀ a ∈ [t, h, r, g], H a = none ∨ a ∈ [x] := by
      intro a ha
      simp only [List.mem_cons, List.not_mem_nil, or_false] at ha
      rcases ha with q | q | q | q <;> subst q <;> exact Or.inl (by assumption)
    have exz : ∀ A B C D : HO, ExB [x] H1 (upd (upd (upd (upd H1 x A) ga B) x C) x D) := fun A B C D => (((ExB.mut (by simp)).trans (ExB.new (by rw [upd_ne xga.symm]; exact hga1))).trans (ExB.mut (by simp))).trans (ExB.mut (by simp))
    have F2 := F1.keep (exz (.ins (aC K) dx (putF "_flow" (.ref fl) (putF "_order" (.ref o) []))) (.lst []) (.ins (aC K) dx (putF "_gaining" (.ref ga) (putF "_flow" (.ref fl) (putF "_order" (.ref o) [])))) (.ins (aC K) dx (fsC o fl ga 0))) (by
      intro a ha
      simp only [List.mem_cons, List.not_mem_nil, or_false] at ha
      rcases ha with q | q | q | q | q <;> subst q <;> simp <;> first | assumption | exact xf.symm)
    have ex2 := exH1.trans (exz (.ins (aC K) dx (putF "_flow" (.ref fl) (putF "_order" (.ref o) []))) (.lst []) (.ins (aC K) dx (putF "_gaining" (.ref ga) (putF "_flow" (.ref fl) (putF "_order" (.ref o) [])))) (.ins (aC K) dx (fsC o fl ga 0)))
    have hg2 : upd (upd (upd (upd H1 x (.ins (aC K) dx (putF "_flow" (.ref fl) (putF "_order" (.ref o) [])))) ga (.lst [])) x (.ins (aC K) dx (putF "_gaining" (.ref ga) (putF "_flow" (.ref fl) (putF "_order" (.ref o) []))))) x (.ins (aC K) dx (fsC o fl ga 0)) ga = some (.lst []) := by
      rw [upd_ne xga.symm, upd_ne xga.symm, upd_same]
    have hx2 : upd (upd (upd (upd H1 x (.ins (aC K) dx (putF "_flow" (.ref fl) (putF "_order" (.ref o) [])))) ga (.lst [])) x (.ins (aC K) dx (putF "_gaining" (.ref ga) (putF "_flow" (.ref fl) (putF "_order" (.ref o) []))))) x (.ins (aC K) dx (fsC o fl ga 0)) x = some (.ins (aC K) dx (fsC o fl ga 0)) := upd_same
    generalize upd (upd (upd (upd H1 x (.ins (aC K) dx (putF "_flow" (.ref fl) (putF "_order" (.ref o) [])))) ga (.lst [])) x (.ins (aC K) dx (putF "_gaining" (.ref ga) (putF "_flow" (.ref fl) (putF "_order" (.ref o) []))))) x (.ins (aC K) dx (fsC o fl ga 0)) = H2 at *
    have step : ∀ (H' H'' : Hp), ExB [x] H H' → ExB [t, h, r, g] H' H'' → H' x = some (.ins (aC K) dx (fsC o fl ga 0)) → ∀ gs, H' ga = some (.lst gs) → ExB [x] H H'' ∧ H'' x = some (.ins (aC K) dx (fsC o fl ga 0)) ∧ H'' ga = some (.lst gs) := fun H' H'' e e' q gs q' =>
      ⟨e.freeS e' new5, e'.get q (by simp [xt.symm, xh.symm, xr.symm, xg.symm]), e'.get q' (by simp [ga_t, ga_h, gar, ga_g])⟩
    refine f_range0 (n := n) (fun e σ H' => (∃ a b c, σ = [some (.ref x), some (.ref o), some (.int (n + 1)), a, b, c]) ∧ ExB [x] H H' ∧ H' x = some (.ins (aC K) dx (fsC o fl ga 0)) ∧ H' ga = some (.lst (nv ((List.range e).map fun e => 8 * e + 2))) ∧ FlowAt K H' fl t h r g { cnet n (pairsOf n T) (rmOf n fun _ => 0) with m := 2 * (4 * e) }) ⟨⟨_, _, _, rfl⟩, ex2, hx2, hg2, ⟨F2.at_, F2.tls, F2.hds, F2.rms, F2.gns, F2.n1, F2.n2, F2.n3, F2.n4, F2.n5, F2.n6⟩⟩ ?_ ?_
    · rintro e σ H' he ⟨⟨a, b, c, rfl⟩, ex3, hx3, hg3, F3⟩
      obtain ⟨dq, fq⟩ := F3.at_
      have hm : 2 * (4 * e) ≤ 1000 := by omega
      walk_at "gg"
      refine ⟨fl, t, h, r, g, _, cu n (pairsOf n T) (4 * e), cv n (pairsOf n T) (4 * e), cc n (4 * e), cw n (4 * e), rfl, by rw [cu0 he]; rfl, congrArg V.int (by rw [cv0 he]; omega), by rw [cc_n (by omega)], by rw [cw_n (by omega)], F3, Nat.le_trans hm (by omega), fun H4 ex4 F4 => ?_⟩
      have F4 := F4.growC
      obtain ⟨ex4', hx4, hg4⟩ := step _ _ ex3 ex4 hx3 _ hg3
      obtain ⟨dq4, fq4⟩ := F4.at_
      walk_at "gg"
      refine ⟨fl, t, h, r, g, _, cu n (pairsOf n T) (4 * e + 1), cv n (pairsOf n T) (4 * e + 1), cc n (4 * e + 1), cw n (4 * e + 1), rfl, congrArg V.int (by rw [cu1 he]; omega), congrArg V.int (by rw [cv1 he]; omega), by rw [cc_1 he], by rw [cw_1 he], F4, by show 2 * (4 * e + 1) ≤ 90000; omega, fun H5 ex5 F5 => ?_⟩
      have F5 := F5.growC
      obtain ⟨ex5', hx5, hg5⟩ := step _ _ ex4' ex5 hx4 _ hg4
      have hel : (nv ((List.range e).map fun e => 8 * e + 2)).length < sizeLine := size_lt (by rw [nv_length, List.length_map, List.length_range]; omega)
      walk_at "gg"
      have gx : ga ≠ x := xga.symm
      have hx6 : upd H5 ga (.lst (nv ((List.range e).map fun e => 8 * e + 2) ++ [.int ((2 * (4 * e + 1) : Nat) : Int)])) x = some (.ins (aC K) dx (fsC o fl ga 0)) := by rw [upd_ne xga]; exact hx5
      have F6 := F5.keep (ExB.mut (S := [ga]) (a := ga) (H := H5) (o := .lst (nv ((List.range e).map fun e => 8 * e + 2) ++ [.int ((2 * (4 * e + 1) : Nat) : Int)])) (by simp)) (by
        intro a ha
        simp only [List.mem_cons, List.not_mem_nil, or_false] at ha
        rcases ha with q | q | q | q | q <;> subst q <;> simp <;> first | exact ga_f.symm | exact ga_t.symm | exact ga_h.symm | exact gar.symm | exact ga_g.symm)
      have hg6 : upd H5 ga (.lst (nv ((List.range e).map fun e => 8 * e + 2) ++ [.int ((2 * (4 * e + 1) : Nat) : Int)])) ga = some (.lst (nv ((List.range (e + 1)).map fun e => 8 * e + 2))) := by
        rw [upd_same, List.range_succ, List.map_append, nv_app, show 2 * (4 * e + 1) = 8 * e + 2 by omega]
        rfl
      have ex6' : ExB [x] H (upd H5 ga (.lst (nv ((List.range e).map fun e => 8 * e + 2) ++ [.int ((2 * (4 * e + 1) : Nat) : Int)]))) := ex5'.free ga0
      generalize upd H5 ga (.lst (nv ((List.range e).map fun e => 8 * e + 2) ++ [.int ((2 * (4 * e + 1) : Nat) : Int)])) = H6 at *
      obtain ⟨dq6, fq6⟩ := F6.at_
      walk_at "gg"
      refine ⟨fl, t, h, r, g, _, cu n (pairsOf n T) (4 * e + 1 + 1), cv n (pairsOf n T) (4 * e + 1 + 1), cc n (4 * e + 1 + 1), cw n (4 * e + 1 + 1), rfl, congrArg V.int (by rw [cu2 he]; omega), congrArg V.int (by rw [cv2 he]; omega), by rw [cc_n (by omega)], by rw [cw_n (by omega)], F6, by show 2 * (4 * e + 1 + 1) ≤ 90000; omega, fun H7 ex7 F7 => ?_⟩
      have F7 := F7.growC
      obtain ⟨ex7', hx7, hg7⟩ := step _ _ ex6' ex7 hx6 _ hg6
      obtain ⟨dq7, fq7⟩ := F7.at_
      walk_at "gg"
      refine ⟨fl, t, h, r, g, _, cu n (pairsOf n T) (4 * e + 1 + 1 + 1), cv n (pairsOf n T) (4 * e + 1 + 1 + 1), cc n (4 * e + 1 + 1 + 1), cw n (4 * e + 1 + 1 + 1), rfl, congrArg V.int (by rw [cu3 he]; omega), congrArg V.int (by rw [cv3 he]; rfl), by rw [cc_n (by omega)], by rw [cw_n (by omega)], F7, by show 2 * (4 * e + 1 + 1 + 1) ≤ 90000; omega, fun H8 ex8 F8 => ?_⟩
      have F8 := F8.growC
      obtain ⟨ex8', hx8, hg8⟩ := step _ _ ex7' ex8 hx7 _ hg7
      walk_at "gg"
      exact ⟨⟨_, _, _, rfl⟩, ex8', hx8, hg8, F8⟩
    · rintro σ H' ⟨⟨a, b, c, rfl⟩, ex3, hx3, hg3, F3⟩
      have ho3 := ho.keepI hx ex3
      obtain ⟨up3, ⟨dxo3, dn3, pr3, q1, q2, q3⟩, _⟩ := id ho3
      walk_at "gg"
      refine ⟨o, n, T, rfl, ho3, fun l H4 hl ex4 hpl => ?_⟩
      obtain ⟨vs0, hp1, hp2⟩ := hpl
      have hlH : H l = none := ex3.fresh hl (by simp; intro q; rw [q, hx3] at hl; cases hl)
      have lt' : l ≠ t := fun q => by rw [q, F3.tls] at hl; cases hl
      have lh' : l ≠ h := fun q => by rw [q, F3.hds] at hl; cases hl
      have lr' : l ≠ r := fun q => by rw [q, F3.rms] at hl; cases hl
      have lg' : l ≠ g := fun q => by rw [q, F3.gns] at hl; cases hl
      have hvl := pr_len hp2
      walk_at "gg"
      refine f_list (xs := vs0) (fun j σ H' => (∃ a b c, σ = [some (.ref x), some (.ref o), some (.int (n + 1)), a, b, c]) ∧ ExB [x] H H' ∧ ExB [t, h, r, g] H4 H' ∧ H' x = some (.ins (aC K) dx (fsC o fl ga 0)) ∧ H' ga = some (.lst (nv ((List.range n).map fun e => 8 * e + 2))) ∧ FlowAt K H' fl t h r g { cnet n (pairsOf n T) (rmOf n fun _ => 0) with m := 2 * (4 * n + j) }) ⟨⟨_, _, _, rfl⟩, ex3.trans ex4.up, ExB.refl, ex4.nn hx3, ex4.nn hg3, F3.mono ex4⟩ (fun i σ H' _ e => e.2.2.1.get hp1 (by simp [lt', lh', lr', lg'])) ?_ ?_
      · rintro j y σ H5 hy ⟨⟨a, b, c, rfl⟩, ex5, ex5', hx5, hg5, F5⟩
        obtain ⟨q, hq, cell, rfl, hc⟩ := pr_get hp2 hy
        have hc5 := ex5'.get hc (by
          simp only [List.mem_cons, List.not_mem_nil, or_false, not_or]
          exact ⟨ne_of hc (ex4.nn F3.tls) (by intro z; cases z), ne_of hc (ex4.nn F3.hds) (by intro z; cases z), ne_of hc (ex4.nn F3.rms) (by intro z; cases z), ne_of hc (ex4.nn F3.gns) (by intro z; cases z)⟩)
        have hgd : (pairsOf n T).getD j (0, 0) = q := by rw [List.getD_eq_getElem?_getD, hq]; rfl
        have hj : j < 1600 := by have h1 := lt_of_get hq; have h2 := hok.len; omega
        obtain ⟨dq, fq⟩ := F5.at_
        walk_at "gg"
        refine ⟨fl, t, h, r, g, _, cu n (pairsOf n T) (4 * n + j), cv n (pairsOf n T) (4 * n + j), cc n (4 * n + j), cw n (4 * n + j), rfl, congrArg V.int (by rw [cuP, hgd]; omega), congrArg V.int (by rw [cvP, hgd]; omega), by rw [cc_n (by omega)], by rw [cw_n (by omega)], F5, by show 2 * (4 * n + j) ≤ 90000; omega, fun H6 ex6 F6 => ?_⟩
        have F6 := F6.growC
        obtain ⟨ex6', hx6, hg6⟩ := step _ _ ex5 ex6 hx5 _ hg5
        walk_at "gg"
        exact ⟨⟨_, _, _, rfl⟩, ex6', ex5'.trans ex6, hx6, hg6, F6⟩
      · rintro σ H5 ⟨⟨a, b, c, rfl⟩, ex5, ex5', hx5, hg5, F5⟩
        rw [hvl] at F5
        walk_at "gg"
        refine k H5 fl t h r g ga ?_ ex5 ⟨⟨dx, hx5⟩, F5, hg5, gar⟩
        intro y hy
        simp only [List.mem_cons, List.not_mem_nil, or_false] at hy
        rcases hy with q | q | q | q | q | q <;> subst q <;> assumption

abbrev n_f_gains_from : List Str := ["self", "start", "best", "last", "k", "changed", "arc", "tail", "gain", "head"]
theorem sc_f_gains_from : FnScope n_f_gains_from ["self", "start"] (defScope s_f_gains_from) := ⟨rfl, rfl, rfl, by decide +kernel, rfl, by decide +kernel, by decide +kernel⟩
theorem ok_f_gains_from {P : Program} {w : World} {K : Frg} {mg : Str → Option Value} {base : Heap} (T : Tx K mg) : C8.Met P w K mg base 1 (aF K) "gains_from" (sp_f_gains_from K) [] := by
  obtain ⟨fd, F⟩ := T.d_f_gains_from
  have bd : Binds K fd ["self", "start"] [] := F.bindsN fun _ _ _ _ _ _ us hl => match us, hl with | [_, _], _ => rfl
  refine met_by F T.clF T.me_gains_from bd sc_f_gains_from ?_ ?_
  · intro vs H Q E h
    match vs, h with
    | [_, _], _ => rfl
  · intro cdv A outer s H vs Q E hr h
    match vs, h with
    | [a0, a1], h =>
    refine ⟨_, (pss_cons (ps_set (i := 2) sc_f_gains_from.nd rfl (by first | exact Or.inl rfl | exact Or.inr rfl) (pe_op op_rep (pe_lst (pa_cons pe_non pa_nil)) (kFl (K := K) rfl (pe_fld (pv 0) rfl))))
  (pss_cons (ps_set (i := 3) sc_f_gains_from.nd rfl (by first | exact Or.inl rfl | exact Or.inr rfl) (pe_op op_rep (pe_lst (pa_cons pe_non pa_nil)) (kFl (K := K) rfl (pe_fld (pv 0) rfl))))
  (pss_cons (ps_asg pe_int (pg_sub (pv 2) (pv 1) set_list))
  (pss_cons (ps_for PassesOwn.never rfl (pi_range1 (by rfl) T.range_ (pa_cons (kFl (K := K) rfl (pe_fld (pv 0) rfl)) pa_nil)) (pg_name (i := 4) sc_f_gains_from.nd rfl (by first | exact Or.inl rfl | exact Or.inr rfl))
  (pss_cons (ps_set (i := 5) sc_f_gains_from.nd rfl (by first | exact Or.inl rfl | exact Or.inr rfl) pe_bl)
  (pss_cons (ps_for PassesOwn.never rfl (kIe (K := K) rfl (pi_enum (by rfl) T.enumerate_ (pa_cons (kFl (K := K) rfl (pe_fld (pv 0) rfl)) pa_nil))) (kGt (K := K) rfl (pg_tup (n := 2) rfl (pgs_cons (pg_name (i := 6) sc_f_gains_from.nd rfl (by first | exact Or.inl rfl | exact Or.inr rfl)) (pgs_cons (pg_name (i := 7) sc_f_gains_from.nd rfl (by first | exact Or.inl rfl | exact Or.inr rfl)) pgs_nil))))
  (pss_one (ps_if (PW.pt (pw_and (pt_cmpR op_gt (pe_ix (ixl (K := K) rfl) (kFl (K := K) rfl (pe_fld (pv 0) rfl)) (pv 6) (fun _ _ => rfl)) pe_int (nomark _)) (pw_and1 (pt_cmpR op_noneN (pe_ix (ixl (K := K) rfl) (pv 2) (pv 7) (fun _ _ => rfl)) pe_non (nomark _))))) (pss_cons (ps_set (i := 8) sc_f_gains_from.nd rfl (by first | exact Or.inl rfl | exact Or.inr rfl) (pe_op op_add (pe_ix (ixl (K := K) rfl) (pv 2) (pv 7) (fun _ _ => rfl)) (pe_ix (ixl (K := K) rfl) (kFl (K := K) rfl (pe_fld (pv 0) rfl)) (pv 6) (fun _ _ => rfl))))
  (pss_cons (ps_set (i := 9) sc_f_gains_from.nd rfl (by first | exact Or.inl rfl | exact Or.inr rfl) (pe_ix (ixl (K := K) rfl) (kFl (K := K) rfl (pe_fld (pv 0) rfl)) (pv 6) (fun _ _ => rfl)))
  (pss_one (ps_if (PW.pt (pw_or (pt_cmpR op_noneI (pe_ix (ixl (K := K) rfl) (pv 2) (pv 9) (fun _ _ => rfl)) pe_non (nomark _)) (pw_or1 (pt_cmpR op_lt (pe_ix (ixl (K := K) rfl) (pv 2) (pv 9) (fun _ _ => rfl)) (pv 8) (nomark _))))) (pss_cons (ps_asg (pv 8) (pg_sub (pv 2) (pv 9) set_list))
  (pss_cons (ps_asg (pv 6) (pg_sub (pv 3) (pv 9) set_list))
  (pss_one (ps_set (i := 5) sc_f_gains_from.nd rfl (by first | exact Or.inl rfl | exact Or.inr rfl) pe_bl)))) pss_nil)))) pss_nil)))
  (pss_one (ps_if (pt_not (kTr (K := K) rfl (pt_truth (pv 5) (by intro _; rfl)))) (pss_one (ps_ret (pe_tup (pa_cons (pv 2) (pa_cons (pv 3) pa_nil))))) pss_nil)))))
  (pss_one (ps_ret (pe_tup (pa_cons (pv 2) (pa_cons (pv 3) pa_nil))))))))), ?_⟩
    rw [show start n_f_gains_from [a0, a1] = [some a0, some a1, none, none, none, none, none, none, none, none] from rfl]
    obtain ⟨x, t, h, r, g, G, s, rfl, rfl, F, hm, hN, hs, hth, k⟩ := h
    obtain ⟨⟨dx, f1⟩, f2, f3, f4, f5, n1, n2, n3, n4, n5, n6⟩ := F
    walk_at "gg"
    refine ⟨size_ok (by simp), fun t1 ht1 => ?_⟩
    have f1a := upd_old (w := .lst [.non]) f1 ht1
    walk_at "gg"
    refine ⟨t1, G.N, [.non], rfl, rfl, upd_same, by omega, by omega, size_ok (by simp; omega), fun bb hbb => ?_⟩
    have e0 : (List.replicate ((G.N : Int)).toNat [V.non]).flatten = bV G.N (fun _ => none) := by
      unfold bV
      rw [Int.toNat_natCast]
      apply List.ext_getElem
      · simp
      · intro m h1 h2; simp [ov]
    have e1 : (List.replicate ((G.N : Int)).toNat [V.non]).flatten = lV G.N (fun _ => none) := by
      unfold lV
      rw [Int.toNat_natCast]
      apply List.ext_getElem
      · simp
      · intro m h1 h2; simp [onv]
    rw [e0]
    have hb0 : H bb = none := none_old hbb
    have exb : ExB [] H (upd (upd H t1 (.lst [.non])) bb (.lst (bV G.N fun _ => none))) := (ExB.new ht1).trans (ExB.new hbb)
    have hbs : upd (upd H t1 (.lst [.non])) bb (.lst (bV G.N fun _ => none)) bb = some (.lst (bV G.N fun _ => none)) := upd_same
    generalize upd (upd H t1 (.lst [.non])) bb (.lst (bV G.N fun _ => none)) = H1 at *
    have f1b := exb.nn f1
    walk_at "gg"
    refine ⟨size_ok (by simp), fun t2 ht2 => ?_⟩
    have f1c := upd_old (w := .lst [.non]) f1b ht2
    walk_at "gg"
    refine ⟨t2, G.N, [.non], rfl, rfl, upd_same, by omega, by omega, size_ok (by simp; omega), fun ll hll => ?_⟩
    rw [e1]
    have hl0 : H ll = none := exb.fresh (none_old hll) (by simp)
    have exl : ExB [] H (upd (upd H1 t2 (.lst [.non])) ll (.lst (lV G.N fun _ => none))) := (exb.trans (ExB.new ht2)).trans (ExB.new hll)
    have hls : upd (upd H1 t2 (.lst [.non])) ll (.lst (lV G.N fun _ => none)) ll = some (.lst (lV G.N fun _ => none)) := upd_same
    have hbs2 : upd (upd H1 t2 (.lst [.non])) ll (.lst (lV G.N fun _ => none)) bb = some (.lst (bV G.N fun _ => none)) := upd_old (upd_old hbs ht2) hll
    have nbl : bb ≠ ll := ne_of_none (upd_old hbs ht2) hll
    generalize upd (upd H1 t2 (.lst [.non])) ll (.lst (lV G.N fun _ => none)) = H2 at *
    have a0 : ixN (bV G.N fun _ => none).length (s : Int) = some s := by rw [bV_len]; exact ix_nat hs
    walk_at "gg"
    rw [show (bV G.N fun _ => none).set s (V.int 0) = bV G.N (setF (fun _ => none) s (some 0)) from bV_set (v := some 0) hs]
    have f1d : upd H2 bb (.lst (bV G.N (setF (fun _ => none) s (some 0)))) x = some (.ins (aF K) dx (fsF G.N t h r g)) := by rw [upd_ne (ne_of_none f1 hb0)]; exact exl.nn f1
    walk_at "gg"
    refine f_range0 (n := G.N) (fun k σ H' => ∃ S : Bf, ∃ v4 v5 v6 v7 v8 v9, σ = [some (.ref x), some (.int (s : Nat)), some (.ref bb), some (.ref ll), v4, v5, v6, v7, v8, v9] ∧ bruns G (G.N - k) S = bfRun G s ∧ ExB [] H H' ∧ H' bb = some (.lst (bV G.N S.b)) ∧ H' ll = some (.lst (lV G.N S.l))) ⟨bfInit s, _, _, _, _, _, _, rfl, rfl, exl.free hb0, upd_same, by rw [upd_ne nbl.symm]; exact hls⟩ ?_ ?_
    · rintro kk σ H' hk ⟨S, v4, v5, v6, v7, v8, v9, rfl, hrun, ex, h1, h2⟩
      have g1 := ex.nn f1
      have g2 := ex.nn f2
      walk_at "gg"
      refine f_enum (xs := tV G.m G.tl) (fun i σ H' => ∃ a b c d, σ = [some (.ref x), some (.int (s : Nat)), some (.ref bb), some (.ref ll), some (.int (kk : Nat)), some (.bl ((List.range i).foldl (relax G) { S with c := false }).c), a, b, c, d] ∧ ExB [] H H' ∧ H' bb = some (.lst (bV G.N ((List.range i).foldl (relax G) { S with c := false }).b)) ∧ H' ll = some (.lst (lV G.N ((List.range i).foldl (relax G) { S with c := false }).l))) ⟨_, _, _, _, rfl, ex, h1, h2⟩ (fun i σ H' _ e => by obtain ⟨a, b, c, d, _, e, _⟩ := e; exact e.nn f2) ?_ ?_
      · rintro i y σ H3 T hy ⟨a, b, c, d, rfl, ex3, hb3, hl3⟩ hT
        have him : i < G.m := by have := lt_of_get hy; rwa [tV_len] at this
        obtain ⟨htN, hhN⟩ := hth i him
        have ey : y = .int ((G.tl i : Nat) : Int) := by
          unfold tV at hy
          rw [map_get _ him] at hy
          cases hy; rfl
        subst ey
        rw [List.range_succ, List.foldl_append, List.foldl_cons, List.foldl_nil]
        generalize (List.range i).foldl (relax G) { S with c := false } = Z at *
        have ex4 := ex3.trans (ExB.new (o := .tup [.int (i : Nat), .int ((G.tl i : Nat) : Int)]) hT)
        have hb4 := upd_old (w := .tup [.int (i : Nat), .int ((G.tl i : Nat) : Int)]) hb3 hT
        have hl4 := upd_old (w := .tup [.int (i : Nat), .int ((G.tl i : Nat) : Int)]) hl3 hT
        have hTT : upd H3 T (.tup [.int (i : Nat), .int ((G.tl i : Nat) : Int)]) T = some (.tup [.int (i : Nat), .int ((G.tl i : Nat) : Int)]) := upd_same
        generalize upd H3 T (.tup [.int (i : Nat), .int ((G.tl i : Nat) : Int)]) = H4 at *
        have f1' := ex4.nn f1
        have f2' := ex4.nn f2
        have f3' := ex4.nn f3
        have f4' := ex4.nn f4
        have f5' := ex4.nn f5
        have a1 := at_rV (f := G.rm) him
        have a2 := at_rV (f := G.gn) him
        have a3 := at_tV (f := G.hd) him
        have i1 : ixN (bV G.N Z.b).length ((G.hd i : Nat) : Int) = some (G.hd i) := by rw [bV_len]; exact ix_nat hhN
        have i2 : ixN (lV G.N Z.l).length ((G.hd i : Nat) : Int) = some (G.hd i) := by rw [lV_len]; exact ix_nat hhN
        walk_at "gg"
        refine z_if (fun hrm => ?_) (fun hrm => ?_)
        · cases hbt : Z.b (G.tl i) with
          | none =>
            have a4 : atI (bV G.N Z.b) ((G.tl i : Nat) : Int) = some .non := by rw [at_bV htN, hbt]; rfl
            walk_at "gg"
            rw [show decide ((V.non : V) = V.non) = true from rfl]
            walk_at "gg"
            have er : relax G Z i = Z := by unfold relax; rw [if_pos hrm, hbt]
            rw [er]
            exact ⟨_, _, _, _, rfl, ex4, hb4, hl4⟩
          | some y =>
            have a4 : atI (bV G.N Z.b) ((G.tl i : Nat) : Int) = some (.int y) := by rw [at_bV htN, hbt]; rfl
            walk_at "gg"
            rw [show decide ((V.int y : V) = V.non) = false from decide_eq_false (fun q => by cases q)]
            walk_at "gg"
            have doit : ∀ (R : Prop), ((upd (upd H4 bb (.lst ((bV G.N Z.b).set (G.hd i) (.int (y + G.gn i))))) ll (.lst ((lV G.N Z.l).set (G.hd i) (.int (i : Int)))) bb = some (.lst (bV G.N (setF Z.b (G.hd i) (some (y + G.gn i)))))) →
                (upd (upd H4 bb (.lst ((bV G.N Z.b).set (G.hd i) (.int (y + G.gn i))))) ll (.lst ((lV G.N Z.l).set (G.hd i) (.int (i : Int)))) ll = some (.lst (lV G.N (setF Z.l (G.hd i) (some i))))) →
                ExB [] H (upd (upd H4 bb (.lst ((bV G.N Z.b).set (G.hd i) (.int (y + G.gn i))))) ll (.lst ((lV G.N Z.l).set (G.hd i) (.int (i : Int))))) → upd H4 bb (.lst ((bV G.N Z.b).set (G.hd i) (.int (y + G.gn i)))) ll = some (.lst (lV G.N Z.l)) → R) → R := fun R kk => by
              refine kk ?_ ?_ ((ex4.free hb0).free hl0) ?_
              · rw [upd_ne nbl, upd_same]; exact congrArg (fun z => some (HO.lst z)) (bV_set (v := some (y + G.gn i)) hhN)
              · rw [upd_same]; exact congrArg (fun z => some (HO.lst z)) (lV_set (v := some i) hhN)
              · rw [upd_ne nbl.symm]; exact hl4
            cases hbh : Z.b (G.hd i) with
            | none =>
              have a5 : atI (bV G.N Z.b) ((G.hd i : Nat) : Int) = some .non := by rw [at_bV hhN, hbh]; rfl
              walk_at "gg"
              rw [show decide ((V.non : V) = V.non) = true from rfl]
              refine doit _ (fun d1 d2 d3 d4 => ?_)
              walk_at "gg"
              have er : relax G Z i = ⟨setF Z.b (G.hd i) (some (y + G.gn i)), setF Z.l (G.hd i) (some i), true⟩ := by unfold relax; rw [if_pos hrm, hbt]; dsimp only; rw [hbh]
              rw [er]
              exact ⟨_, _, _, _, rfl, d3, d1, d2⟩
            | some z =>
              have a5 : atI (bV G.N Z.b) ((G.hd i : Nat) : Int) = some (.int z) := by rw [at_bV hhN, hbh]; rfl
              walk_at "gg"
              rw [show decide ((V.int z : V) = V.non) = false from decide_eq_false (fun q => by cases q)]
              walk_at "gg"
              refine z_if (fun hlt => ?_) (fun hlt => ?_)
              · refine doit _ (fun d1 d2 d3 d4 => ?_)
                walk_at "gg"
                have er : relax G Z i = ⟨setF Z.b (G.hd i) (some (y + G.gn i)), setF Z.l (G.hd i) (some i), true⟩ := by unfold relax; rw [if_pos hrm, hbt]; dsimp only; rw [hbh]; dsimp only; rw [if_pos hlt]
                rw [er]
                exact ⟨_, _, _, _, rfl, d3, d1, d2⟩
              · walk_at "gg"
                have er : relax G Z i = Z := by unfold relax; rw [if_pos hrm, hbt]; dsimp only; rw [hbh]; dsimp only; rw [if_neg hlt]
                rw [er]
                exact ⟨_, _, _, _, rfl, ex4, hb4, hl4⟩
        · walk_at "gg"
          have er : relax G Z i = Z := by unfold relax; rw [if_neg hrm]
          rw [er]
          exact ⟨_, _, _, _, rfl, ex4, hb4, hl4⟩
      · rintro σ H3 ⟨a, b, c, d, rfl, ex3, hb3, hl3⟩
        rw [tV_len] at hb3 hl3
        rw [tV_len]
        have hk1 : G.N - kk = (G.N - (kk + 1)) + 1 := by omega
        rw [hk1] at hrun
        change (if (bround G S).c then bruns G (G.N - (kk + 1)) (bround G S) else bround G S) = bfRun G s at hrun
        change H3 bb = some (.lst (bV G.N (bround G S).b)) at hb3
        change H3 ll = some (.lst (lV G.N (bround G S).l)) at hl3
        rw [show (List.range G.m).foldl (relax G) { S with c := false } = bround G S from rfl]
        walk_at "gg"
        refine z_ifNB (fun hc => ?_) (fun hc => ?_)
        · rw [hc] at hrun
          walk_at "gg"
          refine ⟨size_ok (by simp), fun p hp => ?_⟩
          rw [if_neg (by simp)] at hrun
          rw [hrun] at hb3 hl3
          exact k p bb ll _ (ex3.fresh hp (by simp)) hb0 hl0 (ex3.trans (ExB.new hp)) upd_same (upd_old hb3 hp) (upd_old hl3 hp)
        · rw [hc, if_pos rfl] at hrun
          walk_at "gg"
          exact ⟨bround G S, _, _, _, _, _, _, rfl, hrun, ex3, hb3, hl3⟩
    · rintro σ H3 ⟨S, v4, v5, v6, v7, v8, v9, rfl, hrun, ex3, hb3, hl3⟩
      rw [Nat.sub_self] at hrun
      change S = bfRun G s at hrun
      subst hrun
      walk_at "gg"
      refine ⟨size_ok (by simp), fun p hp => ?_⟩
      exact k p bb ll _ (ex3.fresh hp (by simp)) hb0 hl0 (ex3.trans (ExB.new hp)) upd_same (upd_old hb3 hp) (upd_old hl3 hp)

abbrev n_c_next_gain : List Str := ["self", "best", "last", "gain"]
theorem sc_c_next_gain : FnScope n_c_next_gain ["self"] (defScope s_c_next_gain) := ⟨rfl, rfl, rfl, by decide +kernel, rfl, by decide +kernel, by decide +kernel⟩
theorem ok_c_next_gain {P : Program} {w : World} {K : Frg} {mg : Str → Option Value} {base : Heap} (T : Tx K mg) (k_f_gains_from : C8.Met P w K mg base 1 (aF K) "gains_from" (sp_f_gains_from K) []) : C8.Met P w K mg base 2 (aC K) "next_gain" (sp_c_next_gain K) [] := by
  obtain ⟨fd, F⟩ := T.d_c_next_gain
  have bd : Binds K fd ["self"] [] := F.bindsN fun _ _ _ _ _ _ us hl => match us, hl with | [_], _ => rfl
  refine met_by F T.clC T.me_next_gain bd sc_c_next_gain ?_ ?_
  · intro vs H Q E h
    match vs, h with
    | [_], _ => rfl
  · intro cdv A outer s H vs Q E hr h
    match vs, h with
    | [a0], h =>
    refine ⟨_, (pss_cons (ps_asg (C8.pe_mt k_f_gains_from hr (by decide) (kFl (K := K) rfl (pe_fld (pv 0) rfl)) (pa_cons pe_int pa_nil)) (kGt (K := K) rfl (pg_tup (n := 2) rfl (pgs_cons (pg_name (i := 1) sc_c_next_gain.nd rfl (by first | exact Or.inl rfl | exact Or.inr rfl)) (pgs_cons (pg_name (i := 2) sc_c_next_gain.nd rfl (by first | exact Or.inl rfl | exact Or.inr rfl)) pgs_nil)))))
  (pss_one (ps_ret (pe_callB (k_max (K := K) rfl rfl) (by rfl) T.max_ (by decide +kernel) (pa_cons (pe_op op_cat (pe_lst (pa_cons pe_int pa_nil)) (pe_lc (own := [("gain", 3)]) (by rfl) sc_c_next_gain.nd (kIl (K := K) rfl (pi_list (pe_slice (k_sl (K := K) rfl) (pv 1) (po_some pe_int) (po_some pe_int)))) (blkOk_by (own := [("gain", 3)]) (N := n_c_next_gain) (sc := defScope s_c_next_gain) (by decide +kernel)) (fun _ _ _ _ _ => (pg_name (i := 3) sc_c_next_gain.nd rfl (by first | exact Or.inl rfl | exact Or.inr rfl))) (fun _ _ _ _ _ => pts_one (pt_cmpR op_noneN (pv 3) pe_non (nomark _))) (fun _ _ _ _ _ => (pv 3)))) pa_nil))))), ?_⟩
    rw [show start n_c_next_gain [a0] = [some a0, none, none, none] from rfl]
    obtain ⟨x, o, n, P, kk, rm, fl, t, h, r, g, ga, rfl, C, hok, k⟩ := h
    obtain ⟨⟨dx, hx⟩, F, hg, n7⟩ := id C
    obtain ⟨dq, fq⟩ := F.at_
    have hM : (cnet n P rm).m ≤ 90000 := by show 2 * (4 * n + P.length) ≤ 90000; have := hok.n40; have := hok.len; omega
    walk_at "gg"
    refine ⟨fl, t, h, r, g, _, 0, rfl, rfl, F, hM, by show 2 + 2 * n ≤ 1000; have := hok.n40; omega, by show 0 < 2 + 2 * n; omega, fun a ha => cnet_lt hok ha, fun p bb ll H1 hp hbb hll ex1 h1 h2 h3 => ?_⟩
    walk_at "gg"
    refine ⟨size_ok (by simp), fun z hz => ?_⟩
    have h2z := upd_old (w := .lst [.int 0]) h2 hz
    walk_at "gg"
    intro sl hsl
    have ec : cutV (bV (cnet n P rm).N (bfRun (cnet n P rm) 0).b) (some 1) (some 2) = [ov ((bfRun (cnet n P rm) 0).b 1)] := by
      exact cut12 (map_get (fun a => ov ((bfRun (cnet n P rm) 0).b a)) (show 1 < 2 + 2 * n by omega))
    rw [ec]
    generalize (bfRun (cnet n P rm) 0).b 1 = q at *
    walk_at "gg"
    intro A hA
    refine l_pureL (fun v => !decide (v = .non)) (fun v => v) upd_same hA (by simp) (fun i y acc Nx hy hal hN => ?_) ?_
    · walk_at "wp"
      walk_at "gg"
      have ey : y = ov q := by
        cases i with
        | zero => cases hy; rfl
        | succ i => simp at hy
      subst ey
      cases q with
      | none =>
        rw [show decide (ov none = V.non) = true from rfl] at hN ⊢
        walk_at "gg"
        exact hN
      | some m =>
        rw [show decide (ov (some m) = V.non) = false from decide_eq_false (fun z => by cases z)] at hN ⊢
        walk_at "gg"
        have : acc.length ≤ 1 := by have := lt_of_get hy; simp at this; omega
        exact ⟨acc, upd_same, size_lt (by omega), by rw [upd_upd]; exact hN⟩
    · have hzA : z ≠ A := ne_of_none (upd_old upd_same hsl) hA
      refine z_cat (upd_old (upd_old upd_same hsl) hA) upd_same (size_ok ?_) fun c hc => ?_
      · rw [List.length_map]; exact Nat.le_trans (Nat.add_le_add_left (List.length_filter_le _ _) _) (by simp)
      walk_at "gg"
      have exz : ExB [] H (upd (upd (upd (upd H1 z (.lst [.int 0])) sl (.lst [ov q])) A (.lst (([ov q].filter fun v => !decide (v = .non)).map fun v => v))) c (.lst ([V.int 0] ++ ([ov q].filter fun v => !decide (v = .non)).map fun v => v))) := ((((ex1.trans (ExB.new hz)).trans (ExB.new hsl)).trans (ExB.new hA)).trans (ExB.new hc))
      cases q with
      | none =>
        refine ⟨c, [0], rfl, SqL.of (by rw [upd_same]; rfl), by simp, fun m hm hmx => ?_⟩
        rw [List.mem_singleton] at hm; subst hm
        exact k _ exz
      | some y =>
        have e2 : ([V.int 0] ++ ([ov (some y)].filter fun v => !decide (v = .non)).map fun v => v) = [0, y].map V.int := by
          rw [List.filter_cons, if_pos (by rw [show decide (ov (some y) = V.non) = false from decide_eq_false (fun z => by cases z)]; rfl)]; rfl
        refine ⟨c, [0, y], rfl, SqL.of (by rw [upd_same, e2]), by simp, fun m hm hmx => ?_⟩
        have h0 := hmx 0 (by simp)
        have hy := hmx y (by simp)
        have : m = gainV (some y) := by
          show m = max 0 y
          simp only [List.mem_cons, List.not_mem_nil, or_false] at hm
          omega
        rw [this]
        exact k _ exz

abbrev n_f_push : List Str := ["self", "last", "node", "arc", "back"]
theorem sc_f_push : FnScope n_f_push ["self", "last"] (defScope s_f_push) := ⟨rfl, rfl, rfl, by decide +kernel, rfl, by decide +kernel, by decide +kernel⟩
theorem ok_f_push {P : Program} {w : World} {K : Frg} {mg : Str → Option Value} {base : Heap} (T : Tx K mg) : C8.Met P w K mg base 1 (aF K) "push" (sp_f_push K) [] := by
  obtain ⟨fd, F⟩ := T.d_f_push
  have bd : Binds K fd ["self", "last"] [] := F.bindsN fun _ _ _ _ _ _ us hl => match us, hl with | [_, _], _ => rfl
  refine met_by F T.clF T.me_push bd sc_f_push ?_ ?_
  · intro vs H Q E h
    match vs, h with
    | [_, _], _ => rfl
  · intro cdv A outer s H vs Q E hr h
    match vs, h with
    | [a0, a1], h =>
    refine ⟨_, (pss_cons (ps_set (i := 2) sc_f_push.nd rfl (by first | exact Or.inl rfl | exact Or.inr rfl) pe_int)
  (pss_one (ps_while PassesOwn.never (pt_cmpR op_ne (pv 2) pe_int (nomark _))
  (pss_cons (ps_set (i := 3) sc_f_push.nd rfl (by first | exact Or.inl rfl | exact Or.inr rfl) (pe_ix (ixl (K := K) rfl) (pv 1) (pv 2) (fun _ _ => rfl)))
  (pss_cons (ps_set (i := 4) sc_f_push.nd rfl (by first | exact Or.inl rfl | exact Or.inr rfl) (pe_op op_sub (pe_op op_add (pv 3) pe_int) (pe_op op_mul (pe_op op_mod (pv 3) pe_int) pe_int)))
  (pss_cons (ps_augS (kFl (K := K) rfl (pe_fld (pv 0) rfl)) (pv 3) (pget_list (K := K) rfl) pe_int ip_sub set_list)
  (pss_cons (ps_augS (kFl (K := K) rfl (pe_fld (pv 0) rfl)) (pv 4) (pget_list (K := K) rfl) pe_int ip_add set_list)
  (pss_one (ps_set (i := 2) sc_f_push.nd rfl (by first | exact Or.inl rfl | exact Or.inr rfl) (pe_ix (ixl (K := K) rfl) (kFl (K := K) rfl (pe_fld (pv 0) rfl)) (pv 3) (fun _ _ => rfl))))))))))), ?_⟩
    rw [show start n_f_push [a0, a1] = [some a0, some a1, none, none, none] from rfl]
    obtain ⟨x, t, h, r, g, G, ll, l, as, rfl, rfl, F, hN, hl, hlr, pt, has, htl, k⟩ := h
    walk_at "gg"
    refine z_while (fun m σ H' => ∃ as1 as2 node a b, σ = [some (.ref x), some (.ref ll), some (.int (node : Nat)), a, b] ∧ as = as1 ++ as2 ∧ m = as2.length ∧ node < G.N ∧ Pt G l node as2 ∧ ExB [r] H H' ∧ FlowAt K H' x t h r g { G with rm := pushR G.rm as1 }) as.length ⟨[], as, 1, _, _, rfl, rfl, rfl, hN, pt, ExB.refl, F⟩ ?_
    rintro m σ H' ⟨as1, as2, node, a, b, rfl, has12, rfl, hnode, pt2, ex, F2⟩
    obtain ⟨⟨dx, f1⟩, f2, f3, f4, f5, n1, n2, n3, n4, n5, n6⟩ := F2
    walk_at "gg"
    refine z_ifN (fun hne => ?_) (fun heq => ?_)
    · cases pt2 with
      | nil => exact absurd rfl hne
      | cons hx0 hla hpt =>
        rename_i c as3
        have hc := has c (by rw [has12]; simp)
        have hl' := ex.get hl (by simp [hlr])
        have a1 : atI (lV G.N l) (node : Int) = some (.int (c : Int)) := by
          have := at_lV (f := l) hnode
          rw [hla] at this; exact this
        have a2 := at_rV (f := pushR G.rm as1) hc.2
        have a3 : ixN (rV G.m (pushR G.rm as1)).length (c : Int) = some c := by rw [rV_len]; exact ix_nat hc.2
        walk_at "gg"
        have eb : (c : Int) + 1 - (c : Int) % 2 * 2 = ((opp c : Nat) : Int) := by unfold opp; split <;> omega
        rw [eb]
        walk_at "gg"
        rw [rV_set hc.2]
        have xr : x ≠ r := ne_of f1 f4 (by intro q; cases q)
        have f1' : upd H' r (.lst (rV G.m (setF (pushR G.rm as1) c (pushR G.rm as1 c - 1)))) x = some (.ins (aF K) dx (fsF G.N t h r g)) := by rw [upd_ne xr]; exact f1
        have f2' : upd H' r (.lst (rV G.m (setF (pushR G.rm as1) c (pushR G.rm as1 c - 1)))) t = some (.lst (tV G.m G.tl)) := by rw [upd_ne n2]; exact f2
        have a4 := at_rV (f := setF (pushR G.rm as1) c (pushR G.rm as1 c - 1)) hc.1
        have a5 : ixN (rV G.m (setF (pushR G.rm as1) c (pushR G.rm as1 c - 1))).length ((opp c : Nat) : Int) = some (opp c) := by rw [rV_len]; exact ix_nat hc.1
        have a6 := at_tV (f := G.tl) hc.2
        walk_at "gg"
        rw [upd_upd, rV_set hc.1]
        have f1'' : upd H' r (.lst (rV G.m (setF (setF (pushR G.rm as1) c (pushR G.rm as1 c - 1)) (opp c) (setF (pushR G.rm as1) c (pushR G.rm as1 c - 1) (opp c) + 1)))) x = some (.ins (aF K) dx (fsF G.N t h r g)) := by rw [upd_ne xr]; exact f1
        have f2'' : upd H' r (.lst (rV G.m (setF (setF (pushR G.rm as1) c (pushR G.rm as1 c - 1)) (opp c) (setF (pushR G.rm as1) c (pushR G.rm as1 c - 1) (opp c) + 1)))) t = some (.lst (tV G.m G.tl)) := by rw [upd_ne n2]; exact f2
        walk_at "gg"
        have es : setF (setF (pushR G.rm as1) c (pushR G.rm as1 c - 1)) (opp c) (setF (pushR G.rm as1) c (pushR G.rm as1 c - 1) (opp c) + 1) = pushR G.rm (as1 ++ [c]) := by
          unfold pushR
          rw [List.foldl_append]
          show _ = stepR (List.foldl stepR G.rm as1) c
          unfold stepR
          funext i
          show (if i = opp c then _ else _) = _
          by_cases e : i = opp c
          · rw [if_pos e, if_pos e, e]
          · rw [if_neg e, if_neg e]
        rw [es] at f1'' f2'' ⊢
        refine ⟨as3.length, by rw [List.length_cons]; omega, as1 ++ [c], as3, G.tl c, _, _, rfl, by rw [has12]; simp, rfl, htl c hc.2, hpt, ex.trans (ExB.mut (by simp)), ⟨⟨dx, f1''⟩, f2'', ?_, upd_same, ?_, n1, n2, n3, n4, n5, n6⟩⟩
        · rw [upd_ne n4]; exact f3
        · rw [upd_ne n6.symm]; exact f5
    · cases pt2 with
      | cons hx0 hla hpt => exact absurd (by omega) hx0
      | nil =>
        walk_at "gg"
        rw [List.append_nil] at has12
        subst has12
        exact k H' ex ⟨⟨dx, f1⟩, f2, f3, f4, f5, n1, n2, n3, n4, n5, n6⟩

abbrev n_c_add_unit : List Str := ["self", "best", "last"]
theorem sc_c_add_unit : FnScope n_c_add_unit ["self"] (defScope s_c_add_unit) := ⟨rfl, rfl, rfl, by decide +kernel, rfl, by decide +kernel, by decide +kernel⟩
theorem ok_c_add_unit {P : Program} {w : World} {K : Frg} {mg : Str → Option Value} {base : Heap} (T : Tx K mg) (k_f_gains_from : C8.Met P w K mg base 1 (aF K) "gains_from" (sp_f_gains_from K) []) (k_f_push : C8.Met P w K mg base 1 (aF K) "push" (sp_f_push K) []) : C8.Met P w K mg base 2 (aC K) "add_unit" (sp_c_add_unit K) [] := by
  obtain ⟨fd, F⟩ := T.d_c_add_unit
  have bd : Binds K fd ["self"] [] := F.bindsN fun _ _ _ _ _ _ us hl => match us, hl with | [_], _ => rfl
  refine met_by F T.clC T.me_add_unit bd sc_c_add_unit ?_ ?_
  · intro vs H Q E h
    match vs, h with
    | [_], _ => rfl
  · intro cdv A outer s H vs Q E hr h
    match vs, h with
    | [a0], h =>
    refine ⟨_, (pss_cons (ps_asg (C8.pe_mt k_f_gains_from hr (by decide) (kFl (K := K) rfl (pe_fld (pv 0) rfl)) (pa_cons pe_int pa_nil)) (kGt (K := K) rfl (pg_tup (n := 2) rfl (pgs_cons (pg_name (i := 1) sc_c_add_unit.nd rfl (by first | exact Or.inl rfl | exact Or.inr rfl)) (pgs_cons (pg_name (i := 2) sc_c_add_unit.nd rfl (by first | exact Or.inl rfl | exact Or.inr rfl)) pgs_nil)))))
  (pss_cons (ps_expr (C8.pe_mt k_f_push hr (by decide) (kFl (K := K) rfl (pe_fld (pv 0) rfl)) (pa_cons (pv 2) pa_nil)))
  (pss_one (kFa (K := K) rfl (ps_fldaug (pv 0) pe_int in_add))))), ?_⟩
    rw [show start n_c_add_unit [a0] = [some a0, none, none] from rfl]
    obtain ⟨x, o, n, P, kk, rm, fl, t, h, r, g, ga, as, rfl, C, hok, pt, has, k⟩ := h
    obtain ⟨⟨dx, hx⟩, F, hg, n7⟩ := id C
    obtain ⟨dq, fq⟩ := F.at_
    have hM : (cnet n P rm).m ≤ 90000 := by show 2 * (4 * n + P.length) ≤ 90000; have := hok.n40; have := hok.len; omega
    walk_at "gg"
    refine ⟨fl, t, h, r, g, _, 0, rfl, rfl, F, hM, by show 2 + 2 * n ≤ 1000; have := hok.n40; omega, by show 0 < 2 + 2 * n; omega, fun a ha => cnet_lt hok ha, fun p bb ll H1 hp hbb hll ex1 h1 h2 h3 => ?_⟩
    have hx1 := ex1.nn hx
    have fq1 := ex1.nn fq
    have F1 := F.mono ex1
    walk_at "gg"
    refine ⟨fl, t, h, r, g, _, ll, _, as, rfl, rfl, F1, by show 1 < 2 + 2 * n; omega, h3, (ne_of_none F.rms hll).symm, pt, fun a ha => ?_, fun a ha => (cnet_lt hok ha).1, fun H2 ex2 F2 => ?_⟩
    · have h1 := has a ha
      show opp a < 2 * cM n P ∧ a < 2 * cM n P
      unfold opp
      split <;> omega
    have xr : x ≠ r := ne_of hx F.rms (by intro q; cases q)
    have hx2 := ex2.one hx1 xr
    walk_at "gg"
    refine ⟨_, _, rfl, rfl, _, _, hx2, by simp [fsC], ?_⟩
    rw [putU]
    walk_at "gg"
    refine k _ ?_ ⟨⟨dx, upd_same⟩, ?_, ?_, n7⟩
    · exact (ex1.up.trans (ex2.mono (by simp))).trans (ExB.mut (by simp))
    · refine F2.keep (ExB.mut (S := [x]) (by simp)) ?_
      intro a ha
      simp only [List.mem_cons, List.not_mem_nil, or_false] at ha
      have xt : x ≠ t := ne_of hx F.tls (by intro q; cases q)
      have xh : x ≠ h := ne_of hx F.hds (by intro q; cases q)
      have xg : x ≠ g := ne_of hx F.gns (by intro q; cases q)
      have xf : x ≠ fl := ne_of hx fq (by intro q; injection q with _ _ e; cases e)
      rcases ha with q | q | q | q | q <;> subst q <;> simp <;> exact Ne.symm (by assumption)
    · have xga : x ≠ ga := ne_of hx hg (by intro q; cases q)
      rw [upd_ne xga.symm]
      exact ex2.one (ex1.nn hg) n7

abbrev n_f_arcs_from : List Str := ["self", "node", "arc"]
theorem sc_f_arcs_from : FnScope n_f_arcs_from ["self", "node"] (defScope s_f_arcs_from) := ⟨rfl, rfl, rfl, by decide +kernel, rfl, by decide +kernel, by decide +kernel⟩
theorem ok_f_arcs_from {P : Program} {w : World} {K : Frg} {mg : Str → Option Value} {base : Heap} (T : Tx K mg) : C8.Met P w K mg base 1 (aF K) "arcs_from" (sp_f_arcs_from K) [] := by
  obtain ⟨fd, F⟩ := T.d_f_arcs_from
  have bd : Binds K fd ["self", "node"] [] := F.bindsN fun _ _ _ _ _ _ us hl => match us, hl with | [_, _], _ => rfl
  refine met_by F T.clF T.me_arcs_from bd sc_f_arcs_from ?_ ?_
  · intro vs H Q E h
    match vs, h with
    | [_, _], _ => rfl
  · intro cdv A outer s H vs Q E hr h
    match vs, h with
    | [a0, a1], h =>
    refine ⟨_, (pss_one (ps_ret (pe_lc (own := [("arc", 2)]) (by rfl) sc_f_arcs_from.nd (pi_range3 (by rfl) T.range_ (pa_cons pe_int (pa_cons (pe_callB (k_len (K := K) rfl) (by rfl) T.len_ (by decide +kernel) (pa_cons (kFl (K := K) rfl (pe_fld (pv 0) rfl)) pa_nil)) (pa_cons pe_int pa_nil)))) (blkOk_by (own := [("arc", 2)]) (N := n_f_arcs_from) (sc := defScope s_f_arcs_from) (by decide +kernel)) (fun _ _ _ _ _ => (pg_name (i := 2) sc_f_arcs_from.nd rfl (by first | exact Or.inl rfl | exact Or.inr rfl))) (fun _ _ _ _ _ => pts_one (pt_cmpR op_eq (pe_ix (ixl (K := K) rfl) (kFl (K := K) rfl (pe_fld (pv 0) rfl)) (pv 2) (fun _ _ => rfl)) (pv 1) (nomark _))) (fun _ _ _ _ _ => (pv 2))))), ?_⟩
    rw [show start n_f_arcs_from [a0, a1] = [some a0, some a1, none] from rfl]
    obtain ⟨x, t, h, r, g, G, M, v, rfl, rfl, F, hm, hM, k⟩ := h
    obtain ⟨⟨dx, f1⟩, f2, f3, f4, f5, n1, n2, n3, n4, n5, n6⟩ := F
    walk_at "gg"
    rw [tV_len, hm]
    refine z_kR3 (rgC2 (by omega)) ?_
    walk_at "gg"
    intro A hA
    refine l_rangeC (fun i H' => H' = upd H A (.lst (nv (((List.range i).filter fun i => decide (G.tl (2 * i) = v)).map fun i => 2 * i)))) rfl (fun i H' hi e => ?_) (fun H' e => ?_)
    · subst e
      have a1 : atI (tV G.m G.tl) (0 + (i : Nat) * 2 : Int) = some (.int ((G.tl (2 * i) : Nat) : Int)) := by
        have := at_tV (m := G.m) (a := 2 * i) (f := G.tl) (by omega)
        rwa [show ((2 * i : Nat) : Int) = 0 + (i : Nat) * 2 by omega] at this
      have g1 := upd_old (w := .lst (nv (((List.range i).filter fun i => decide (G.tl (2 * i) = v)).map fun i => 2 * i))) f1 hA
      have g2 := upd_old (w := .lst (nv (((List.range i).filter fun i => decide (G.tl (2 * i) = v)).map fun i => 2 * i))) f2 hA
      walk_at "wp"
      walk_at "gg"
      refine z_if (fun hb => ?_) (fun hb => ?_)
      · walk_at "gg"
        refine ⟨_, upd_same, size_lt ?_, ?_⟩
        · rw [nv_length, List.length_map]; exact Nat.lt_of_le_of_lt (List.length_filter_le _ _) (by rw [List.length_range]; omega)
        · rw [upd_upd]
          congr 2
          rw [List.range_succ, List.filter_append, List.map_append, nv_app]
          congr 1
          have : G.tl (2 * i) = v := by omega
          simp [this, nv]; omega
      · show _ = _
        congr 2
        rw [List.range_succ, List.filter_append, List.map_append]
        have : ¬ G.tl (2 * i) = v := by omega
        simp [this]
    · subst e
      walk_at "gg"
      exact k A _ hA (ExB.new hA) upd_same

abbrev n_f_flows : List Str := ["self", "arc"]
theorem sc_f_flows : FnScope n_f_flows ["self", "arc"] (defScope s_f_flows) := ⟨rfl, rfl, rfl, by decide +kernel, rfl, by decide +kernel, by decide +kernel⟩
theorem ok_f_flows {P : Program} {w : World} {K : Frg} {mg : Str → Option Value} {base : Heap} (T : Tx K mg) : C8.Met P w K mg base 1 (aF K) "flows" (sp_f_flows K) [] := by
  obtain ⟨fd, F⟩ := T.d_f_flows
  have bd : Binds K fd ["self", "arc"] [] := F.bindsN fun _ _ _ _ _ _ us hl => match us, hl with | [_, _], _ => rfl
  refine met_by F T.clF T.me_flows bd sc_f_flows ?_ ?_
  · intro vs H Q E h
    match vs, h with
    | [_, _], _ => rfl
  · intro cdv A outer s H vs Q E hr h
    match vs, h with
    | [a0, a1], h =>
    refine ⟨_, (pss_one (ps_ret (pe_ix (ixl (K := K) rfl) (kFl (K := K) rfl (pe_fld (pv 0) rfl)) (pe_op op_add (pv 1) pe_int) (fun _ _ => rfl)))), ?_⟩
    rw [show start n_f_flows [a0, a1] = [some a0, some a1] from rfl]
    obtain ⟨x, t, h, r, g, G, i, rfl, rfl, F, hm, k⟩ := h
    obtain ⟨⟨dx, f1⟩, f2, f3, f4, f5, n1, n2, n3, n4, n5, n6⟩ := F
    have a1 : atI (rV G.m G.rm) ((i : Nat) + 1 : Int) = some (.int (G.rm (i + 1))) := by
      have := at_rV (f := G.rm) hm
      rwa [Int.natCast_add] at this
    walk_at "gg"
    exact k

abbrev n_f_head : List Str := ["self", "arc"]
theorem sc_f_head : FnScope n_f_head ["self", "arc"] (defScope s_f_head) := ⟨rfl, rfl, rfl, by decide +kernel, rfl, by decide +kernel, by decide +kernel⟩
theorem ok_f_head {P : Program} {w : World} {K : Frg} {mg : Str → Option Value} {base : Heap} (T : Tx K mg) : C8.Met P w K mg base 1 (aF K) "head" (sp_f_head K) [] := by
  obtain ⟨fd, F⟩ := T.d_f_head
  have bd : Binds K fd ["self", "arc"] [] := F.bindsN fun _ _ _ _ _ _ us hl => match us, hl with | [_, _], _ => rfl
  refine met_by F T.clF T.me_head bd sc_f_head ?_ ?_
  · intro vs H Q E h
    match vs, h with
    | [_, _], _ => rfl
  · intro cdv A outer s H vs Q E hr h
    match vs, h with
    | [a0, a1], h =>
    refine ⟨_, (pss_one (ps_ret (pe_ix (ixl (K := K) rfl) (kFl (K := K) rfl (pe_fld (pv 0) rfl)) (pv 1) (fun _ _ => rfl)))), ?_⟩
    rw [show start n_f_head [a0, a1] = [some a0, some a1] from rfl]
    obtain ⟨x, t, h, r, g, G, i, rfl, rfl, F, hm, k⟩ := h
    obtain ⟨⟨dx, f1⟩, f2, f3, f4, f5, n1, n2, n3, n4, n5, n6⟩ := F
    have a1 := at_tV (f := G.hd) hm
    walk_at "gg"
    exact k

theorem mem_arcs {M : Nat} {tl : Nat → Nat} {v y : Nat} : y ∈ arcsFrom M tl v ↔ ∃ i, i < M ∧ tl (2 * i) = v ∧ y = 2 * i := by
  unfold arcsFrom
  rw [List.mem_map]
  constructor
  · rintro ⟨i, hi, rfl⟩
    rw [List.mem_filter] at hi
    exact ⟨i, List.mem_range.mp hi.1, of_decide_eq_true hi.2, rfl⟩
  · rintro ⟨i, h1, h2, rfl⟩
    exact ⟨i, List.mem_filter.mpr ⟨List.mem_range.mpr h1, decide_eq_true h2⟩, rfl⟩
theorem putK_len_old {kvs : List (Key × V)} {k : Key} {v w : V} (h : valV kvs k = some w) : (putK kvs k v).length = kvs.length := by
  have : (kvs.any fun kv => decide (kv.1 = k)) = true := by
    unfold valV at h
    cases hf : kvs.find? fun kv => decide (kv.1 = k) with
    | none => rw [hf] at h; cases h
    | some z => rw [List.any_eq_true]; exact ⟨z, List.mem_of_find?_eq_some hf, List.find?_some (p := fun (kv : Key × V) => decide (kv.1 = k)) hf⟩
  unfold putK
  rw [if_pos this, List.length_map]
def dkB (g : Nat → Int) (v : V) : Bool := decide (0 < g (toN v / 2))
theorem dkB_int (g : Nat → Int) (i : Nat) : dkB g (.int ((2 * i : Nat) : Int)) = decide (0 < g i) := by
  show decide (0 < g (((2 * i : Nat) : Int).toNat / 2)) = _
  rw [Int.toNat_natCast, show 2 * i / 2 = i by omega]
abbrev n_c_chains : List Str := ["self", "left", "node", "found", "unit", "arc", "chain", "one"]
theorem sc_c_chains : FnScope n_c_chains ["self"] (defScope s_c_chains) := ⟨rfl, rfl, rfl, by decide +kernel, rfl, by decide +kernel, by decide +kernel⟩
theorem ok_c_chains {P : Program} {w : World} {K : Frg} {mg : Str → Option Value} {base : Heap} (T : Tx K mg) (k_f_arcs_from : C8.Met P w K mg base 1 (aF K) "arcs_from" (sp_f_arcs_from K) []) (k_f_flows : C8.Met P w K mg base 1 (aF K) "flows" (sp_f_flows K) []) (k_f_head : C8.Met P w K mg base 1 (aF K) "head" (sp_f_head K) []) : C8.Met P w K mg base 3 (aC K) "chains" (sp_c_chains K) [] := by
  obtain ⟨fd, F⟩ := T.d_c_chains
  have bd : Binds K fd ["self"] [] := F.bindsN fun _ _ _ _ _ _ us hl => match us, hl with | [_], _ => rfl
  refine met_by F T.clC T.me_chains bd sc_c_chains ?_ ?_
  · intro vs H Q E h
    match vs, h with
    | [_], _ => rfl
  · intro cdv A outer s H vs Q E hr h
    match vs, h with
    | [a0], h =>
    obtain ⟨fdg, g_size, bind_size⟩ := getter_ok (P := P) (w := w) (base := base) T
    refine ⟨_, (pss_cons (ps_set (i := 1) sc_c_chains.nd rfl (by first | exact Or.inl rfl | exact Or.inr rfl) pe_dnewK)
  (pss_cons (ps_for PassesOwn.never rfl (pi_range1 (by rfl) T.range_ (pa_cons (pe_op op_add pe_int (pe_op op_mul pe_int (pe_prop (kFl (K := K) rfl (pe_fld (pv 0) rfl)) T.clO T.prop g_size (hr.mono (by decide)) bind_size .nil pass0 rfl))) pa_nil)) (pg_name (i := 2) sc_c_chains.nd rfl (by first | exact Or.inl rfl | exact Or.inr rfl))
  (pss_one (ps_for PassesOwn.never rfl (kIl (K := K) rfl (pi_list (C8.pe_mt k_f_arcs_from hr (by decide) (kFl (K := K) rfl (pe_fld (pv 0) rfl)) (pa_cons (pv 2) pa_nil)))) (pg_name (i := 5) sc_c_chains.nd rfl (by first | exact Or.inl rfl | exact Or.inr rfl))
  (pss_one (ps_dput (hu_of hr) (pv 1) (pv 5) (C8.pe_mt k_f_flows hr (by decide) (kFl (K := K) rfl (pe_fld (pv 0) rfl)) (pa_cons (pv 5) pa_nil)) rfl)))))
  (pss_cons (ps_set (i := 3) sc_c_chains.nd rfl (by first | exact Or.inl rfl | exact Or.inr rfl) (pe_lst pa_nil))
  (pss_cons (ps_for PassesOwn.never rfl (pi_range1 (by rfl) T.range_ (pa_cons (kFl (K := K) rfl (pe_fld (pv 0) rfl)) pa_nil)) (pg_name (i := 4) sc_c_chains.nd rfl (by first | exact Or.inl rfl | exact Or.inr rfl))
  (pss_cons (ps_set (i := 6) sc_c_chains.nd rfl (by first | exact Or.inl rfl | exact Or.inr rfl) (pe_lst pa_nil))
  (pss_cons (ps_set (i := 2) sc_c_chains.nd rfl (by first | exact Or.inl rfl | exact Or.inr rfl) pe_int)
  (pss_cons (ps_while PassesOwn.never (pt_cmpR op_ne (pv 2) pe_int (nomark _))
  (pss_cons (ps_set (i := 5) sc_c_chains.nd rfl (by first | exact Or.inl rfl | exact Or.inr rfl) (pe_ix (ixl (K := K) rfl) (pe_lc (own := [("one", 7)]) (by rfl) sc_c_chains.nd (kIl (K := K) rfl (pi_list (C8.pe_mt k_f_arcs_from hr (by decide) (kFl (K := K) rfl (pe_fld (pv 0) rfl)) (pa_cons (pv 2) pa_nil)))) (blkOk_by (own := [("one", 7)]) (N := n_c_chains) (sc := defScope s_c_chains) (by decide +kernel)) (fun _ _ _ _ _ => (pg_name (i := 7) sc_c_chains.nd rfl (by first | exact Or.inl rfl | exact Or.inr rfl))) (fun _ _ _ _ _ => pts_one (pt_cmpR op_gt (pe_dget (hu_of hr) (pv 1) (pv 7) (fun _ _ => rfl)) pe_int (nomark _))) (fun _ _ _ _ _ => (pv 7))) pe_int (fun _ _ => rfl)))
  (pss_cons (ps_daug (hu_of hr) (pv 1) (pv 5) pe_int in_sub (fun _ _ _ => rfl))
  (pss_cons (ps_if (pt_cmpR (k_in (K := K) rfl) (pv 5) (kFl (K := K) rfl (pe_fld (pv 0) rfl)) (by rfl)) (pss_one (ps_expr (kBm (K := K) rfl (pe_bm PySem.F.plainAttrs_list PySem.F.slot_list_append PySem.F.type_list_append mt_append (pv 6) (pa_cons (kBm (K := K) rfl (pe_bm PySem.F.plainAttrs_list PySem.F.slot_list_index PySem.F.type_list_index (k_index (K := K) rfl) (kFl (K := K) rfl (pe_fld (pv 0) rfl)) (pa_cons (pv 5) pa_nil))) pa_nil))))) pss_nil)
  (pss_one (ps_set (i := 2) sc_c_chains.nd rfl (by first | exact Or.inl rfl | exact Or.inr rfl) (C8.pe_mt k_f_head hr (by decide) (kFl (K := K) rfl (pe_fld (pv 0) rfl)) (pa_cons (pv 5) pa_nil))))))))
  (pss_one (ps_if (pt_cmpR op_gt (pe_callB (k_len (K := K) rfl) (by rfl) T.len_ (by decide +kernel) (pa_cons (pv 6) pa_nil)) pe_int (nomark _)) (pss_one (ps_expr (kBm (K := K) rfl (pe_bm PySem.F.plainAttrs_list PySem.F.slot_list_append PySem.F.type_list_append mt_append (pv 3) (pa_cons (pv 6) pa_nil))))) pss_nil))))))
  (pss_one (ps_ret (pv 3))))))), ?_⟩
    rw [show start n_c_chains [a0] = [some a0, none, none, none, none, none, none, none] from rfl]
    obtain ⟨x, o, n, T, kk, f, fl, t, h, r, g, ga, rfl, C, ho, hT, hk, hF, k⟩ := h
    have hn := ho.le
    have hok := nok_pairs (T := T) hn
    obtain ⟨⟨dx, hx⟩, F, hg, n7⟩ := id C
    obtain ⟨dq, fq⟩ := F.at_
    obtain ⟨up, ⟨dxo, dn, pr, o1, o2, o3⟩, _⟩ := id ho
    have hM : cM n (pairsOf n T) ≤ 2000 := by have := hok.len; unfold cM; omega
    have htl : ∀ i, (cnet n (pairsOf n T) (rmOf n f)).tl (2 * i) = cu n (pairsOf n T) i := fun i => tl_e
    walk_at "gg"
    intro D hD
    have hx1 := upd_old (w := .dK []) hx hD
    have o11 := upd_old (w := .dK []) o1 hD
    walk_at "gg"
    rw [show (2 + 2 * (n : Int)).toNat = 2 + 2 * n by omega]
    refine f_range0 (n := 2 + 2 * n) (fun v σ H' => (∃ a b, σ = [some (.ref x), some (.ref D), a, none, none, b, none, none]) ∧ ExB [] H H' ∧ ∃ kvs : List (Key × V), H' D = some (.dK kvs) ∧ kvs.length ≤ v * 2000 ∧ ∀ i, i < cM n (pairsOf n T) → cu n (pairsOf n T) i < v → valV kvs (.inl ((2 * i : Nat) : Int)) = some (.int (f i))) ⟨⟨_, _, rfl⟩, ExB.new hD, [], upd_same, by simp, fun i _ q => by omega⟩ ?_ ?_
    · rintro v σ H' hv ⟨⟨a, b, rfl⟩, ex, kvs, g1, g2, g3⟩
      have hx2 := ex.nn hx
      have fq2 := ex.nn fq
      walk_at "gg"
      refine ⟨fl, t, h, r, g, _, cM n (pairsOf n T), v, rfl, rfl, F.mono ex, rfl, by omega, fun l H2 hl ex2 hll => ?_⟩
      have g12 := ex2.nn g1
      walk_at "gg"
      have hal : (arcsFrom (cM n (pairsOf n T)) (cnet n (pairsOf n T) (rmOf n f)).tl v).length ≤ 2000 := by
        unfold arcsFrom
        rw [List.length_map]; exact Nat.le_trans (List.length_filter_le _ _) (by rw [List.length_range]; omega)
      have hvl : v * 2000 ≤ 82 * 2000 := Nat.mul_le_mul_right _ (by omega)
      have hlD : l ≠ D := (ne_of_none g1 hl).symm
      refine f_list (xs := nv (arcsFrom (cM n (pairsOf n T)) (cnet n (pairsOf n T) (rmOf n f)).tl v)) (fun j σ H'' => (∃ b, σ = [some (.ref x), some (.ref D), some (.int (v : Nat)), none, none, b, none, none]) ∧ ExB [] H H'' ∧ H'' l = some (.lst (nv (arcsFrom (cM n (pairsOf n T)) (cnet n (pairsOf n T) (rmOf n f)).tl v))) ∧ ∃ kvs : List (Key × V), H'' D = some (.dK kvs) ∧ kvs.length ≤ v * 2000 + j ∧ ∀ i, i < cM n (pairsOf n T) → (cu n (pairsOf n T) i < v ∨ 2 * i ∈ (arcsFrom (cM n (pairsOf n T)) (cnet n (pairsOf n T) (rmOf n f)).tl v).take j) → valV kvs (.inl ((2 * i : Nat) : Int)) = some (.int (f i))) ⟨⟨_, rfl⟩, ex.trans ex2, hll, kvs, g12, by omega, fun i hi q => g3 i hi (by simpa using q)⟩ (fun j σ H'' _ e => e.2.2.1) ?_ ?_
      · rintro j y σ H3 hy ⟨⟨b, rfl⟩, ex3, g4, kvs, g5, g6, g7⟩
        obtain ⟨a, ha, rfl⟩ := nv_inv hy
        obtain ⟨i, hi, hiv, rfl⟩ := mem_arcs.mp (mem_of_get ha)
        have hjl := lt_of_get ha
        have hx3 := ex3.nn hx
        have fq3 := ex3.nn fq
        walk_at "gg"
        refine ⟨fl, t, h, r, g, _, 2 * i, rfl, rfl, F.mono ex3, by show 2 * i + 1 < 2 * cM n (pairsOf n T); omega, ?_⟩
        rw [show (cnet n (pairsOf n T) (rmOf n f)).rm (2 * i + 1) = f i from rm_o]
        walk_at "gg"
        refine ⟨D, _, rfl, DPut.k (k := .inl ((2 * i : Nat) : Int)) g5 (Nat.lt_of_lt_of_le (m := 200000) (by omega) (by decide)), ?_⟩
        refine ⟨⟨_, rfl⟩, ex3.free hD, by rw [upd_ne hlD]; exact g4, putK kvs (.inl ((2 * i : Nat) : Int)) (.int (f i)), upd_same, by have := length_putK kvs (.inl ((2 * i : Nat) : Int)) (.int (f i)); omega, fun i' hi' q => ?_⟩
        rw [valV_put]
        by_cases e : (Sum.inl ((2 * i' : Nat) : Int) : Key) = .inl ((2 * i : Nat) : Int)
        · rw [if_pos e]
          have : i' = i := by injection e with e; omega
          rw [this]
        · rw [if_neg e]
          refine g7 i' hi' ?_
          rcases q with q | q
          · exact .inl q
          · rw [take_snoc ha] at q
            rcases List.mem_append.mp q with q | q
            · exact .inr q
            · rw [List.mem_singleton] at q
              exact absurd (by rw [q]) e
      · rintro σ H3 ⟨⟨b, rfl⟩, ex3, g4, kvs, g5, g6, g7⟩
        rw [nv_length] at g6 g7
        rw [List.take_length] at g7
        refine ⟨⟨_, _, rfl⟩, ex3, kvs, g5, by rw [Nat.succ_mul]; omega, fun i hi q => g7 i hi ?_⟩
        by_cases e : cu n (pairsOf n T) i = v
        · exact .inr (mem_arcs.mpr ⟨i, hi, by rw [htl]; exact e, rfl⟩)
        · exact .inl (by omega)
    · rintro σ H' ⟨⟨a, b, rfl⟩, ex, kvs, g1, g2, g3⟩
      have g3 : ∀ i, i < cM n (pairsOf n T) → valV kvs (.inl ((2 * i : Nat) : Int)) = some (.int (f i)) := fun i hi => g3 i hi (cuv_lt hok hi).1
      have g2 : kvs.length ≤ 200000 := by omega
      walk_at "gg"
      refine ⟨size_ok (by simp), fun fo hfo => ?_⟩
      have hfo0 : H fo = none := ex.fresh hfo (by simp)
      have hDf : D ≠ fo := ne_of_none g1 hfo
      have hx2 := (ex.trans (ExB.new (o := .lst []) hfo)).nn hx
      walk_at "gg"
      refine f_range0 (n := kk) (fun un σ H' => (∃ a b c d, σ = [some (.ref x), some (.ref D), a, some (.ref fo), b, c, d, none]) ∧ ExB [] H H' ∧ ∃ (kvs : List (Key × V)) (gq : Nat → Int) (bs : List Addr) (xss : List (List Nat)), H' D = some (.dK kvs) ∧ kvs.length ≤ 200000 ∧ (∀ i, i < cM n (pairsOf n T) → valV kvs (.inl ((2 * i : Nat) : Int)) = some (.int (gq i))) ∧ LLb H' fo bs xss ∧ (∀ b ∈ bs, H b = none ∧ b ≠ fo) ∧ CJ n T f gq (kk - un) un xss) ⟨⟨_, _, _, _, rfl⟩, ex.trans (ExB.new hfo), kvs, f, [], [], upd_old g1 hfo, by omega, g3, ⟨upd_same, .nil⟩, by simp, cj_init hF⟩ ?_ ?_
      · rintro un σ H1 hun ⟨⟨a, b, c, d, rfl⟩, ex1, kvs, gq, bs, xss, q1, q2, q3, ⟨q4, q5⟩, q6, cj⟩
        have hbl := pr_len q5
        have hxl := cj.len
        walk_at "gg"
        refine ⟨size_ok (by simp), fun ch hch => ?_⟩
        have hch0 : H ch = none := ex1.fresh hch (by simp)
        have hDc : D ≠ ch := ne_of_none q1 hch
        have hfc : fo ≠ ch := ne_of_none q4 hch
        have hbc : ∀ b ∈ bs, b ≠ ch := fun b hb => by
          obtain ⟨y, _, hy⟩ := pr_mem q5 hb
          exact ne_of_none hy hch
        have hbD : ∀ b ∈ bs, b ≠ D := fun b hb => by
          obtain ⟨y, _, hy⟩ := pr_mem q5 hb
          exact ne_of hy q1 (by intro z; cases z)
        have hrest : kk - un = (kk - (un + 1)) + 1 := by omega
        rw [hrest] at cj
        walk_at "gg"
        refine z_while (fun m σ H' => ∃ (kvs : List (Key × V)) (gq : Nat → Int) (cur : Nat) (chain : List Nat) (a e : Option V), σ = [some (.ref x), some (.ref D), some (.int (cur : Nat)), some (.ref fo), some (.int (un : Nat)), a, some (.ref ch), e] ∧ e = none ∧ ExB [] H H' ∧ H' D = some (.dK kvs) ∧ kvs.length ≤ 200000 ∧ (∀ i, i < cM n (pairsOf n T) → valV kvs (.inl ((2 * i : Nat) : Int)) = some (.int (gq i))) ∧ LLb H' fo bs xss ∧ H' ch = some (.lst (nv chain)) ∧ CI n T f gq (kk - (un + 1)) un xss cur chain ∧ m = (sumI (cM n (pairsOf n T)) gq).toNat) _ ⟨kvs, gq, 0, [], _, _, rfl, rfl, ex1.trans (ExB.new hch), upd_old q1 hch, by omega, q3, LLb.mono ⟨q4, q5⟩ (ExB.new hch), upd_same, ci_of cj, rfl⟩ ?_
        rintro m σ H2 ⟨kvs, gq, cur, chain, a, e, rfl, rfl, ex2, s1, s2, s3, ⟨s4, s5⟩, s6, ci, rfl⟩
        have hcl := ci_len hF ci
        have hx2 := ex2.nn hx
        have fq2 := ex2.nn fq
        walk_at "gg"
        refine z_ifN (fun hne => ?_) (fun heq => ?_)
        · have hne1 : cur ≠ 1 := fun z => hne (by omega)
          walk_at "gg"
          refine ⟨fl, t, h, r, g, _, cM n (pairsOf n T), cur, rfl, rfl, F.mono ex2, rfl, by omega, fun l H3 hl ex3 hll => ?_⟩
          have hal : (arcsFrom (cM n (pairsOf n T)) (cnet n (pairsOf n T) (rmOf n f)).tl cur).length ≤ 2000 := by
            unfold arcsFrom
            rw [List.length_map]; exact Nat.le_trans (List.length_filter_le _ _) (by rw [List.length_range]; omega)
          have s13 := ex3.nn s1
          walk_at "gg"
          intro A hA
          refine l_pureL (fun v => dkB gq v) (fun v => v) hll hA (by rw [nv_length]; omega) (fun i y acc Nx hy hal2 hN => ?_) ?_
          · obtain ⟨b, hb, rfl⟩ := nv_inv hy
            obtain ⟨i', hi', hiv, rfl⟩ := mem_arcs.mp (mem_of_get hb)
            have hil := lt_of_get hb
            have hdk : dkB gq (.int ((2 * i' : Nat) : Int)) = decide (gq i' > 0) := dkB_int gq i'
            rw [hdk] at hN
            walk_at "wp"
            walk_at "gg"
            have hg1 := DGet.k (k := .inl ((2 * i' : Nat) : Int)) (upd_old (w := .lst acc) s13 hA)
            rw [s3 i' hi'] at hg1
            refine ⟨D, _, rfl, hg1, ?_⟩
            walk_at "gg"
            refine z_if (fun hpos => ?_) (fun hneg => ?_)
            · walk_at "gg"
              rw [if_pos (decide_eq_true hpos)] at hN
              first | exact hN | exact ⟨acc, upd_same, size_lt (by omega), by rw [upd_upd]; exact hN⟩
            · rw [decide_eq_false hneg] at hN
              exact hN
          · obtain ⟨i0, hi0, hu0, hg0⟩ := ci_ex ci hne1
            have hex : ∃ v L, ((nv (arcsFrom (cM n (pairsOf n T)) (cnet n (pairsOf n T) (rmOf n f)).tl cur)).filter fun v => dkB gq v).map (fun v => v) = v :: L := by
              have hm : V.int ((2 * i0 : Nat) : Int) ∈ ((nv (arcsFrom (cM n (pairsOf n T)) (cnet n (pairsOf n T) (rmOf n f)).tl cur)).filter fun v => dkB gq v).map (fun v => v) := by
                rw [List.map_id', List.mem_filter]
                refine ⟨?_, ?_⟩
                · unfold nv
                  exact List.mem_map.mpr ⟨2 * i0, mem_arcs.mpr ⟨i0, hi0, by rw [htl]; exact hu0, rfl⟩, rfl⟩
                · rw [dkB_int]; exact decide_eq_true hg0
              cases hL : ((nv (arcsFrom (cM n (pairsOf n T)) (cnet n (pairsOf n T) (rmOf n f)).tl cur)).filter fun v => dkB gq v).map (fun v => v) with
              | nil => rw [hL] at hm; cases hm
              | cons v L => exact ⟨v, L, rfl⟩
            obtain ⟨v, L, hL⟩ := hex
            have hvm : v ∈ ((nv (arcsFrom (cM n (pairsOf n T)) (cnet n (pairsOf n T) (rmOf n f)).tl cur)).filter fun v => dkB gq v).map (fun v => v) := by rw [hL]; simp
            rw [List.map_id', List.mem_filter] at hvm
            obtain ⟨hv1, hv2⟩ := hvm
            unfold nv at hv1
            obtain ⟨b, hb, rfl⟩ := List.mem_map.mp hv1
            obtain ⟨i, hi, hiv, rfl⟩ := mem_arcs.mp hb
            rw [htl] at hiv
            have hgi : 0 < gq i := by
              rw [dkB_int] at hv2
              exact of_decide_eq_true hv2
            rw [hL]
            have ex4 : ExB [] H (upd H3 A (.lst (V.int ((2 * i : Nat) : Int) :: L))) := (ex2.trans ex3).trans (ExB.new hA)
            have a1 : atI (V.int ((2 * i : Nat) : Int) :: L) 0 = some (.int ((2 * i : Nat) : Int)) := at_nat (n := 0) rfl
            have hA4 : upd H3 A (.lst (V.int ((2 * i : Nat) : Int) :: L)) A = some (.lst (V.int ((2 * i : Nat) : Int) :: L)) := upd_same
            have s14 := upd_old (w := .lst (V.int ((2 * i : Nat) : Int) :: L)) s13 hA
            have s44 : LLb (upd H3 A (.lst (V.int ((2 * i : Nat) : Int) :: L))) fo bs xss := LLb.mono ⟨s4, s5⟩ (ex3.trans (ExB.new hA))
            have s64 := upd_old (w := .lst (V.int ((2 * i : Nat) : Int) :: L)) (ex3.nn s6) hA
            generalize upd H3 A (.lst (V.int ((2 * i : Nat) : Int) :: L)) = H4 at *
            walk_at "gg"
            have hg1 := DGet.k (k := .inl ((2 * i : Nat) : Int)) s14
            rw [s3 i hi] at hg1
            refine ⟨D, _, rfl, hg1, ?_⟩
            walk_at "gg"
            have hput := DPut.k (k := .inl ((2 * i : Nat) : Int)) (v := .int (gq i - 1)) s14 (Nat.lt_of_lt_of_le (m := 300000) (by omega) (by decide))
            refine ⟨_, _, rfl, rfl, _, hput, ?_⟩
            have ex5 := ex4.free (o := .dK (putK kvs (.inl ((2 * i : Nat) : Int)) (.int (gq i - 1)))) hD
            have s15 : upd H4 D (.dK (putK kvs (.inl ((2 * i : Nat) : Int)) (.int (gq i - 1)))) D = some (.dK (putK kvs (.inl ((2 * i : Nat) : Int)) (.int (gq i - 1)))) := upd_same
            have s65 : upd H4 D (.dK (putK kvs (.inl ((2 * i : Nat) : Int)) (.int (gq i - 1)))) ch = some (.lst (nv chain)) := by rw [upd_ne hDc.symm]; exact s64
            have s45 : LLb (upd H4 D (.dK (putK kvs (.inl ((2 * i : Nat) : Int)) (.int (gq i - 1))))) fo bs xss := by
              obtain ⟨w1, w2⟩ := s44
              exact ⟨by rw [upd_ne hDf.symm]; exact w1, pr_monoM (fun b y mb k => by rw [upd_ne (hbD b mb)]; exact k) w2⟩
            have s35 : ∀ j, j < cM n (pairsOf n T) → valV (putK kvs (.inl ((2 * i : Nat) : Int)) (.int (gq i - 1))) (.inl ((2 * j : Nat) : Int)) = some (.int (setF gq i (gq i - 1) j)) := by
              intro j hj
              rw [valV_put]
              by_cases e : j = i
              · subst e; rw [if_pos rfl]; unfold setF; rw [if_pos rfl]
              · rw [if_neg (fun z => e (by injection z with z; omega)), s3 j hj]; unfold setF; rw [if_neg e]
            have s25 : (putK kvs (.inl ((2 * i : Nat) : Int)) (.int (gq i - 1))).length ≤ 200000 := by rw [putK_len_old (s3 i hi)]; exact s2
            generalize putK kvs (.inl ((2 * i : Nat) : Int)) (.int (gq i - 1)) = kvs2 at *
            generalize upd H4 D (.dK kvs2) = H5 at *
            have hx5 := ex5.nn hx
            have hg5 := ex5.nn hg
            have fq5 := ex5.nn fq
            have ci2 := ci_step hT hn ci hi hiv hgi
            have hdec := sum_dec ci.g0 hi hgi
            walk_at "gg"
            refine z_inN hg5 ?_
            walk_at "gg"
            refine z_if (fun hin => ?_) (fun hni => ?_)
            · obtain ⟨e, he, hei⟩ := List.mem_map.mp hin
              have hen := List.mem_range.mp he
              have hnd : ((List.range n).map fun e => 8 * e + 2).Nodup := List.Pairwise.map _ (fun a b h z => h (by omega)) List.nodup_range
              have hge : ((List.range n).map fun e => 8 * e + 2)[e]? = some (2 * i) := by rw [map_get _ hen, hei]
              rw [if_pos (by omega), show i / 4 = e by omega] at ci2
              walk_at "gg"
              refine z_indexN hg5 hge hnd ?_
              have hcl6 : (nv chain).length < sizeLine := size_lt (by rw [nv_length]; omega)
              walk_at "gg"
              have hchx : ch ≠ x := fun z => by rw [z, hx] at hch0; cases hch0
              have hchf : ch ≠ fl := fun z => by rw [z, fq] at hch0; cases hch0
              have hx6 : upd H5 ch (.lst (nv chain ++ [.int (e : Nat)])) x = some (.ins (aC K) dx (fsC o fl ga kk)) := by rw [upd_ne hchx.symm]; exact hx5
              have ex6 : ExB [] H (upd H5 ch (.lst (nv chain ++ [.int (e : Nat)]))) := ex5.free hch0
              have fq6 := ex6.nn fq
              walk_at "gg"
              refine ⟨fl, t, h, r, g, _, 2 * i, rfl, rfl, F.mono ex6, by show 2 * i < 2 * cM n (pairsOf n T); omega, ?_⟩
              rw [show (cnet n (pairsOf n T) (rmOf n f)).hd (2 * i) = cv n (pairsOf n T) i from hd_e]
              walk_at "gg"
              refine ⟨_, hdec, kvs2, _, _, _, _, _, rfl, rfl, ex6, by rw [upd_ne hDc]; exact s15, s25, s35, ?_, ?_, ci2, rfl⟩
              · obtain ⟨w1, w2⟩ := s45
                exact ⟨by rw [upd_ne hfc]; exact w1, pr_monoM (fun b y mb k => by rw [upd_ne (hbc b mb)]; exact k) w2⟩
              · rw [upd_same, nv_app]; rfl
            · have hni' : ¬ (i < 4 * n ∧ i % 4 = 1) := fun z => hni (List.mem_map.mpr ⟨i / 4, List.mem_range.mpr (by omega), by omega⟩)
              rw [if_neg hni'] at ci2
              walk_at "gg"
              refine ⟨fl, t, h, r, g, _, 2 * i, rfl, rfl, F.mono ex5, by show 2 * i < 2 * cM n (pairsOf n T); omega, ?_⟩
              rw [show (cnet n (pairsOf n T) (rmOf n f)).hd (2 * i) = cv n (pairsOf n T) i from hd_e]
              walk_at "gg"
              exact ⟨_, hdec, kvs2, _, _, _, _, _, rfl, rfl, ex5, s15, s25, s35, s45, s65, ci2, rfl⟩
        · have hc1 : cur = 1 := by omega
          subst hc1
          have cj2 := ci_end ci
          walk_at "gg"
          rw [nv_length]
          refine z_if (fun hpos => ?_) (fun hneg => ?_)
          · rw [if_neg (fun z => by rw [z] at hpos; simp at hpos)] at cj2
            have hbs : (bs.map V.ref).length < sizeLine := size_lt (by rw [List.length_map]; omega)
            walk_at "gg"
            refine ⟨⟨_, _, _, _, rfl⟩, ex2.free hfo0, kvs, gq, bs ++ [ch], xss ++ [chain], by rw [upd_ne hDf]; exact s1, s2, s3, ⟨?_, ?_⟩, ?_, cj2⟩
            · rw [upd_same, List.map_append]; rfl
            · refine pr_snoc (pr_monoM (fun b y mb k => by rw [upd_ne (q6 b mb).2]; exact k) s5) ?_
              rw [upd_ne hfc.symm]; exact s6
            · intro b hb
              rcases List.mem_append.mp hb with z | z
              · exact q6 b z
              · rw [List.mem_singleton] at z; subst z; exact ⟨hch0, hfc.symm⟩
          · have : chain = [] := List.length_eq_zero_iff.mp (by omega)
            rw [if_pos this] at cj2
            walk_at "gg"
            exact ⟨⟨_, _, _, _, rfl⟩, ex2, kvs, gq, bs, xss, s1, s2, s3, ⟨s4, s5⟩, q6, cj2⟩
      · rintro σ H1 ⟨⟨a, b, c, d, rfl⟩, ex1, kvs, gq, bs, xss, q1, q2, q3, q4, q6, cj⟩
        rw [Nat.sub_self] at cj
        walk_at "gg"
        exact k fo H1 xss hfo0 ex1 ⟨bs, q4, hfo0, fun b hb => (q6 b hb).1⟩ (cj_done hT cj)

abbrev n_c_prices : List Str := ["self", "most", "found", "first", "last", "second", "one", "other", "price"]
theorem sc_c_prices : FnScope n_c_prices ["self", "most"] (defScope s_c_prices) := ⟨rfl, rfl, rfl, by decide +kernel, rfl, by decide +kernel, by decide +kernel⟩
theorem ok_c_prices {P : Program} {w : World} {K : Frg} {mg : Str → Option Value} {base : Heap} (T : Tx K mg) (k_f_gains_from : C8.Met P w K mg base 1 (aF K) "gains_from" (sp_f_gains_from K) []) : C8.Met P w K mg base 2 (aC K) "prices" (sp_c_prices K) [] := by
  obtain ⟨fd, F⟩ := T.d_c_prices
  have bd : Binds K fd ["self", "most"] [] := F.bindsN fun _ _ _ _ _ _ us hl => match us, hl with | [_, _], _ => rfl
  refine met_by F T.clC T.me_prices bd sc_c_prices ?_ ?_
  · intro vs H Q E h
    match vs, h with
    | [_, _], _ => rfl
  · intro cdv A outer s H vs Q E hr h
    match vs, h with
    | [a0, a1], h =>
    refine ⟨_, (pss_cons (ps_asg (C8.pe_mt k_f_gains_from hr (by decide) (kFl (K := K) rfl (pe_fld (pv 0) rfl)) (pa_cons pe_int pa_nil)) (kGt (K := K) rfl (pg_tup (n := 2) rfl (pgs_cons (pg_name (i := 3) sc_c_prices.nd rfl (by first | exact Or.inl rfl | exact Or.inr rfl)) (pgs_cons (pg_name (i := 4) sc_c_prices.nd rfl (by first | exact Or.inl rfl | exact Or.inr rfl)) pgs_nil)))))
  (pss_cons (ps_asg (C8.pe_mt k_f_gains_from hr (by decide) (kFl (K := K) rfl (pe_fld (pv 0) rfl)) (pa_cons pe_int pa_nil)) (kGt (K := K) rfl (pg_tup (n := 2) rfl (pgs_cons (pg_name (i := 5) sc_c_prices.nd rfl (by first | exact Or.inl rfl | exact Or.inr rfl)) (pgs_cons (pg_name (i := 4) sc_c_prices.nd rfl (by first | exact Or.inl rfl | exact Or.inr rfl)) pgs_nil)))))
  (pss_cons (ps_set (i := 2) sc_c_prices.nd rfl (by first | exact Or.inl rfl | exact Or.inr rfl) (pe_lst pa_nil))
  (pss_cons (ps_for PassesOwn.never rfl (kIz (K := K) rfl (pi_zip (by rfl) T.zip_ (pa_cons (pv 3) (pa_cons (pv 5) pa_nil)))) (kGt (K := K) rfl (pg_tup (n := 2) rfl (pgs_cons (pg_name (i := 6) sc_c_prices.nd rfl (by first | exact Or.inl rfl | exact Or.inr rfl)) (pgs_cons (pg_name (i := 7) sc_c_prices.nd rfl (by first | exact Or.inl rfl | exact Or.inr rfl)) pgs_nil))))
  (pss_cons (ps_set (i := 8) sc_c_prices.nd rfl (by first | exact Or.inl rfl | exact Or.inr rfl) (pv 6))
  (C8.pss_cut (ps_if (PW.pt (pw_and (pt_cmpR op_noneN (pv 7) pe_non (nomark _)) (pw_and1 (PW.pt (pw_or (pt_cmpR op_noneI (pv 8) pe_non (nomark _)) (pw_or1 (pt_cmpR op_gt (pe_op op_add (pv 7) (pv 1)) (pv 8) (nomark _)))))))) (pss_one (ps_set (i := 8) sc_c_prices.nd rfl (by first | exact Or.inl rfl | exact Or.inr rfl) (pe_op op_add (pv 7) (pv 1)))) pss_nil)
  (pss_one (ps_expr (kBm (K := K) rfl (pe_bm PySem.F.plainAttrs_list PySem.F.slot_list_append PySem.F.type_list_append mt_append (pv 2) (pa_cons (pv 8) pa_nil))))))))
  (pss_one (ps_ret (pv 2))))))), ?_⟩
    rw [show start n_c_prices [a0, a1] = [some a0, some a1, none, none, none, none, none, none, none] from rfl]
    obtain ⟨x, o, n, P, kk, rm, fl, t, h, r, g, ga, m, rfl, rfl, C, hok, k⟩ := h
    obtain ⟨⟨dx, hx⟩, F, hg, n7⟩ := id C
    obtain ⟨dq, fq⟩ := F.at_
    have hM : (cnet n P rm).m ≤ 90000 := by show 2 * (4 * n + P.length) ≤ 90000; have := hok.n40; have := hok.len; omega
    have hN : (cnet n P rm).N = 2 + 2 * n := rfl
    walk_at "gg"
    refine ⟨fl, t, h, r, g, _, 0, rfl, rfl, F, hM, by show 2 + 2 * n ≤ 1000; have := hok.n40; omega, by show 0 < 2 + 2 * n; omega, fun a ha => cnet_lt hok ha, fun p bb ll H1 hp hbb hll ex1 h1 h2 h3 => ?_⟩
    have hx1 := ex1.nn hx
    have fq1 := ex1.nn fq
    walk_at "gg"
    refine ⟨fl, t, h, r, g, _, 1, rfl, rfl, F.mono ex1, hM, by show 2 + 2 * n ≤ 1000; have := hok.n40; omega, by show 1 < 2 + 2 * n; omega, fun a ha => cnet_lt hok ha, fun p' bb' ll' H2 hp' hbb' hll' ex2 h1' h2' h3' => ?_⟩
    have h2'' := ex2.nn h2
    rw [hN] at h2'' h2'
    generalize hB0 : (bfRun (cnet n P rm) 0).b = B0 at *
    generalize hB1 : (bfRun (cnet n P rm) 1).b = B1 at *
    have ex12 := ex1.trans ex2
    walk_at "gg"
    refine ⟨size_ok (by simp), fun f hf => ?_⟩
    have hf0 : H f = none := ex12.fresh hf (by simp)
    walk_at "gg"
    refine ⟨bb, bb', _, _, rfl, SqL.of (upd_old h2'' hf), SqL.of (upd_old h2' hf), ?_⟩
    have hff : upd H2 f (.lst []) f = some (.lst []) := upd_same
    refine f_zip (xs := bV (2 + 2 * n) B0) (ys := bV (2 + 2 * n) B1) (fun i σ H' => (∃ b c d, σ = [some (.ref x), some (.int m), some (.ref f), some (.ref bb), some (.ref ll'), some (.ref bb'), b, c, d]) ∧ ExB [] H H' ∧ H' bb = some (.lst (bV (2 + 2 * n) B0)) ∧ H' bb' = some (.lst (bV (2 + 2 * n) B1)) ∧ H' f = some (.lst (bV i (priceF B0 B1 m)))) ⟨⟨_, _, _, rfl⟩, ex12.trans (ExB.new hf), upd_old h2'' hf, upd_old h2' hf, hff⟩ (by rw [bV_len, bV_len]) (fun i σ H' _ e => ⟨e.2.2.1, e.2.2.2.1⟩) ?_ ?_
    · rintro i y z σ H' T hy hz ⟨⟨b, c, d, rfl⟩, ex3, g1, g2, g3⟩ hT
      have hi : i < 2 + 2 * n := by have := lt_of_get hy; rwa [bV_len] at this
      have hn := hok.n40
      have ey : y = ov (B0 i) := by unfold bV at hy; rw [map_get _ hi] at hy; cases hy; rfl
      have ez : z = ov (B1 i) := by unfold bV at hz; rw [map_get _ hi] at hz; cases hz; rfl
      subst ey
      subst ez
      have e1 := ex3.trans (ExB.new (o := .tup [ov (B0 i), ov (B1 i)]) hT)
      have g1' := upd_old (w := .tup [ov (B0 i), ov (B1 i)]) g1 hT
      have g2' := upd_old (w := .tup [ov (B0 i), ov (B1 i)]) g2 hT
      have g3' := upd_old (w := .tup [ov (B0 i), ov (B1 i)]) g3 hT
      have hTT : upd H' T (.tup [ov (B0 i), ov (B1 i)]) T = some (.tup [ov (B0 i), ov (B1 i)]) := upd_same
      generalize upd H' T (.tup [ov (B0 i), ov (B1 i)]) = H3 at *
      walk_at "gg"
      refine z_cut (fun σ H4 => H4 = H3 ∧ ∃ c d, σ = [some (.ref x), some (.int m), some (.ref f), some (.ref bb), some (.ref ll'), some (.ref bb'), c, d, some (ov (priceF B0 B1 m i))]) ?_ ?_
      · cases h1 : B1 i with
        | none =>
          have ep : priceF B0 B1 m i = B0 i := by unfold priceF; rw [h1]
          walk_at "gg"
          rw [show decide (ov none = V.non) = true from rfl]
          walk_at "gg"
          first | exact ⟨rfl, _, _, by rw [ep]⟩ | exact ⟨_, _, by rw [ep]⟩
        | some w =>
          walk_at "gg"
          rw [show decide (ov (some w) = V.non) = false from decide_eq_false (fun z => by cases z)]
          walk_at "gg"
          cases h0 : B0 i with
          | none =>
            have ep : priceF B0 B1 m i = some (w + m) := by unfold priceF; rw [h1]; dsimp only; rw [h0]
            rw [show decide (ov none = V.non) = true from rfl]
            rw [show (ov (some w)) = V.int w from rfl]
            walk_at "gg"
            first | exact ⟨rfl, _, _, by rw [ep]; rfl⟩ | exact ⟨_, _, by rw [ep]; rfl⟩
          | some u =>
            rw [show decide (ov (some u) = V.non) = false from decide_eq_false (fun z => by cases z)]
            rw [show (ov (some w)) = V.int w from rfl, show (ov (some u)) = V.int u from rfl]
            walk_at "gg"
            refine z_if (fun hlt => ?_) (fun hlt => ?_)
            · have ep : priceF B0 B1 m i = some (w + m) := by unfold priceF; rw [h1]; dsimp only; rw [h0]; dsimp only; rw [if_pos hlt]
              walk_at "gg"
              first | exact ⟨rfl, _, _, by rw [ep]; rfl⟩ | exact ⟨_, _, by rw [ep]; rfl⟩
            · have ep : priceF B0 B1 m i = some u := by unfold priceF; rw [h1]; dsimp only; rw [h0]; dsimp only; rw [if_neg hlt]
              walk_at "gg"
              first | exact ⟨rfl, _, _, by rw [ep]; rfl⟩ | exact ⟨_, _, by rw [ep]; rfl⟩
      · rintro σ H4 ⟨rfl, c, d, rfl⟩
        have hbl : (bV i (priceF B0 B1 m)).length < sizeLine := size_lt (by rw [bV_len]; omega)
        walk_at "gg"
        have nfb : bb ≠ f := ne_of_none h2'' hf
        have nfb' : bb' ≠ f := ne_of_none h2' hf
        refine ⟨⟨_, _, _, rfl⟩, e1.free hf0, by rw [upd_ne nfb]; exact g1', by rw [upd_ne nfb']; exact g2', ?_⟩
        rw [upd_same]
        unfold bV
        rw [List.range_succ, List.map_append]; rfl
    · rintro σ H' ⟨⟨b, c, d, rfl⟩, ex3, g1, g2, g3⟩
      rw [bV_len] at g3
      walk_at "gg"
      exact k f H' hf0 ex3 g3

abbrev n_c_sets : List Str := ["self", "most", "found", "others", "table", "element", "low", "k", "row"]
theorem sc_c_sets : FnScope n_c_sets ["self", "most"] (defScope s_c_sets) := ⟨rfl, rfl, rfl, by decide +kernel, rfl, by decide +kernel, by decide +kernel⟩
theorem ok_c_sets {P : Program} {w : World} {K : Frg} {mg : Str → Option Value} {base : Heap} (T : Tx K mg) (k_c_prices : C8.Met P w K mg base 2 (aC K) "prices" (sp_c_prices K) []) : C8.Met P w K mg base 3 (aC K) "sets" (sp_c_sets K) [] := by
  obtain ⟨fd, F⟩ := T.d_c_sets
  have bd : Binds K fd ["self", "most"] [] := F.bindsN fun _ _ _ _ _ _ us hl => match us, hl with | [_, _], _ => rfl
  refine met_by F T.clC T.me_sets bd sc_c_sets ?_ ?_
  · intro vs H Q E h
    match vs, h with
    | [_, _], _ => rfl
  · intro cdv A outer s H vs Q E hr h
    match vs, h with
    | [a0, a1], h =>
    obtain ⟨fdg, g_size, bind_size⟩ := getter_ok (P := P) (w := w) (base := base) T
    refine ⟨_, (pss_cons (ps_setLc (i := 2) (own := [("k", 7)]) (by rfl) sc_c_sets.nd rfl rfl (sw_true rfl rfl rfl (by decide +kernel)) (pi_range1 (by rfl) T.range_ (pa_cons (pv 1) pa_nil)) (blkOk_by (own := [("k", 7)]) (N := n_c_sets) (sc := defScope s_c_sets) (by decide +kernel)) (fun _ _ _ _ _ => (pg_name (i := 7) sc_c_sets.nd rfl (by first | exact Or.inl rfl | exact Or.inr rfl))) (fun _ _ _ _ _ => pts_nil) (fun _ _ _ _ _ => (pe_lst pa_nil)))
  (pss_cons (ps_set (i := 3) sc_c_sets.nd rfl (by first | exact Or.inl rfl | exact Or.inr rfl) (pe_lst pa_nil))
  (pss_cons (ps_set (i := 4) sc_c_sets.nd rfl (by first | exact Or.inl rfl | exact Or.inr rfl) (C8.pe_mt k_c_prices hr (by decide) (pv 0) (pa_cons (pv 1) pa_nil)))
  (pss_cons (ps_for PassesOwn.never rfl (pi_range1 (by rfl) T.range_ (pa_cons (pe_prop (kFl (K := K) rfl (pe_fld (pv 0) rfl)) T.clO T.prop g_size (hr.mono (by decide)) bind_size .nil pass0 rfl) pa_nil)) (pg_name (i := 5) sc_c_sets.nd rfl (by first | exact Or.inl rfl | exact Or.inr rfl))
  (pss_cons (ps_set (i := 6) sc_c_sets.nd rfl (by first | exact Or.inl rfl | exact Or.inr rfl) (pe_ix (ixl (K := K) rfl) (pv 4) (pe_op op_add pe_int (pe_op op_mul pe_int (pv 5))) (fun _ _ => rfl)))
  (pss_one (ps_if (pt_cmpR op_gt (pe_ix (ixl (K := K) rfl) (pv 4) (pe_op op_add pe_int (pe_op op_mul pe_int (pv 5))) (fun _ _ => rfl)) (pv 6) (nomark _)) (pss_one (ps_expr (kBm (K := K) rfl (pe_bm PySem.F.plainAttrs_list PySem.F.slot_list_append PySem.F.type_list_append mt_append (pe_ix (ixl (K := K) rfl) (pv 2) (pv 6) (fun _ _ => rfl)) (pa_cons (pv 5) pa_nil))))) (pss_one (ps_expr (kBm (K := K) rfl (pe_bm PySem.F.plainAttrs_list PySem.F.slot_list_append PySem.F.type_list_append mt_append (pv 3) (pa_cons (pv 5) pa_nil)))))))))
  (pss_one (ps_ret (pe_tup (pa_cons (pe_lc (own := [("row", 8)]) (by rfl) sc_c_sets.nd (kIl (K := K) rfl (pi_list (pv 2))) (blkOk_by (own := [("row", 8)]) (N := n_c_sets) (sc := defScope s_c_sets) (by decide +kernel)) (fun _ _ _ _ _ => (pg_name (i := 8) sc_c_sets.nd rfl (by first | exact Or.inl rfl | exact Or.inr rfl))) (fun _ _ _ _ _ => pts_one (pt_cmpR op_gt (pe_callB (k_len (K := K) rfl) (by rfl) T.len_ (by decide +kernel) (pa_cons (pv 8) pa_nil)) pe_int (nomark _))) (fun _ _ _ _ _ => (pv 8))) (pa_cons (pv 3) pa_nil))))))))), ?_⟩
    rw [show start n_c_sets [a0, a1] = [some a0, some a1, none, none, none, none, none, none, none] from rfl]
    obtain ⟨x, o, n, T, kk, rm, fl, t, h, r, g, ga, m, p, rfl, rfl, C, ho, hm, hp, hlv, k⟩ := h
    have hn := ho.le
    have hok := nok_pairs (T := T) hn
    walk_at "gg"
    intro D hD
    refine l_range0 (fun i H' => ExB [] H H' ∧ ∃ bs : List Addr, H' D = some (.lst (bs.map V.ref)) ∧ bs.length = i ∧ bs.Nodup ∧ (∀ b ∈ bs, H b = none ∧ b ≠ D) ∧ ∀ b ∈ bs, H' b = some (.lst (nv []))) ⟨ExB.new hD, [], upd_same, rfl, List.nodup_nil, by simp, by simp⟩ (fun i H' hi ⟨ex, bs, h1, h2, h3, h4, h5⟩ => ?_) (fun H' ⟨ex, bs, h1, h2, h3, h4, h5⟩ => ?_)
    · walk_at "wp"
      walk_at "gg"
      refine ⟨size_ok (by simp), fun q hq => ?_⟩
      have hqH : H q = none := ex.fresh hq (by simp)
      have nDq : D ≠ q := ne_of_none h1 hq
      refine ⟨_, upd_old h1 hq, size_lt (by rw [List.length_map]; omega), (ex.trans (ExB.new hq)).free hD, bs ++ [q], ?_, ?_, ?_, ?_, ?_⟩
      · rw [upd_same, List.map_append]; rfl
      · rw [List.length_append, h2]; rfl
      · rw [List.nodup_append]
        refine ⟨h3, by simp, fun a ha b hb => ?_⟩
        rw [List.mem_singleton] at hb
        subst hb
        exact ne_of_none (h5 a ha) hq
      · intro b hb
        rcases List.mem_append.mp hb with q1 | q1
        · exact h4 b q1
        · rw [List.mem_singleton] at q1; subst q1; exact ⟨hqH, nDq.symm⟩
      · intro b hb
        rcases List.mem_append.mp hb with q1 | q1
        · rw [upd_ne (h4 b q1).2]; exact upd_old (h5 b q1) hq
        · rw [List.mem_singleton] at q1; subst q1; rw [upd_ne nDq.symm, upd_same]; rfl
    · walk_at "gg"
      refine ⟨size_ok (by simp), fun ot hot => ?_⟩
      have hot0 : H ot = none := ex.fresh hot (by simp)
      have exo := ex.trans (ExB.new (o := .lst []) hot)
      have nDo : D ≠ ot := ne_of_none h1 hot
      obtain ⟨dx, hx⟩ := C.at_
      have hxo := exo.nn hx
      have hbo : ∀ b ∈ bs, b ≠ ot := fun b hb => ne_of_none (h5 b hb) hot
      walk_at "gg"
      refine ⟨x, o, n, _, kk, rm, fl, t, h, r, g, ga, _, rfl, rfl, C.mono exo, hok, fun tb H2 htb ex2 htbl => ?_⟩
      have hD2 := ex2.nn (upd_old (w := .lst []) h1 hot)
      have hb2 : ∀ b ∈ bs, H2 b = some (.lst (nv [])) := fun b hb => ex2.nn (upd_old (h5 b hb) hot)
      have ho2 : H2 ot = some (.lst []) := ex2.nn upd_same
      have exz := exo.trans ex2
      obtain ⟨up, ⟨dxo, dn, pr, o1, o2, o3⟩, _⟩ := id ho
      have hx2 := exz.nn hx
      have o12 := exz.nn o1
      have tbD : tb ≠ D := (ne_of_none (upd_old (w := .lst []) h1 hot) htb).symm
      have tbo : tb ≠ ot := fun q => by rw [q, upd_same] at htb; cases htb
      have tbb : ∀ b ∈ bs, tb ≠ b := fun b hb => (ne_of_none (upd_old (w := .lst []) (h5 b hb) hot) htb).symm
      walk_at "gg"
      refine f_range0 (n := n) (fun e σ H' => (∃ a b c d, σ = [some (.ref x), some (.int (m : Nat)), some (.ref D), some (.ref ot), some (.ref tb), a, b, c, d]) ∧ ExB [] H H' ∧ H' D = some (.lst (bs.map V.ref)) ∧ H' tb = some (.lst (bV (2 + 2 * n) (priceF (bfRun (cnet n (pairsOf n T) rm) 0).b (bfRun (cnet n (pairsOf n T) rm) 1).b (m : Nat)))) ∧ Paired (fun b xs => H' b = some (.lst (nv xs))) bs ((List.range m).map fun (j : Nat) => (List.range e).filter fun e => decide (p (2 + 2 * e) < p (3 + 2 * e)) && decide (p (2 + 2 * e) = (j : Int))) ∧ H' ot = some (.lst (nv ((List.range e).filter fun e => !decide (p (2 + 2 * e) < p (3 + 2 * e)))))) ⟨⟨_, _, _, _, rfl⟩, exz, hD2, htbl, ?_, ho2⟩ ?_ ?_
      · refine pr_of (by rw [h2, List.length_map, List.length_range]) fun i b xs hb hxs => ?_
        have hi : i < m := by have := lt_of_get hb; omega
        rw [map_get _ hi] at hxs
        cases hxs
        exact hb2 b (mem_of_get hb)
      · rintro e σ H' he ⟨⟨a, b, c, d, rfl⟩, ex3, g1, g2, g3, g4⟩
        obtain ⟨l1, l2⟩ := hlv e he
        have a1 : atI (bV (2 + 2 * n) (priceF (bfRun (cnet n (pairsOf n T) rm) 0).b (bfRun (cnet n (pairsOf n T) rm) 1).b (m : Nat))) (2 + 2 * (e : Nat) : Int) = some (.int (p (2 + 2 * e))) := by
          have := at_bV (m := 2 + 2 * n) (a := 2 + 2 * e) (f := priceF (bfRun (cnet n (pairsOf n T) rm) 0).b (bfRun (cnet n (pairsOf n T) rm) 1).b (m : Nat)) (by omega)
          rw [hp _ (by omega), show ((2 + 2 * e : Nat) : Int) = 2 + 2 * (e : Nat) by omega] at this
          exact this
        have a2 : atI (bV (2 + 2 * n) (priceF (bfRun (cnet n (pairsOf n T) rm) 0).b (bfRun (cnet n (pairsOf n T) rm) 1).b (m : Nat))) (3 + 2 * (e : Nat) : Int) = some (.int (p (3 + 2 * e))) := by
          have := at_bV (m := 2 + 2 * n) (a := 3 + 2 * e) (f := priceF (bfRun (cnet n (pairsOf n T) rm) 0).b (bfRun (cnet n (pairsOf n T) rm) 1).b (m : Nat)) (by omega)
          rw [hp _ (by omega), show ((3 + 2 * e : Nat) : Int) = 3 + 2 * (e : Nat) by omega] at this
          exact this
        walk_at "gg"
        refine z_if (fun hb => ?_) (fun hb => ?_)
        · obtain ⟨j, hj⟩ := Int.eq_ofNat_of_zero_le l1
          have hjm : j < m := by have := l2 hb; omega
          obtain ⟨rb, hrb⟩ := get_of_lt (xs := bs) (i := j) (by omega)
          have a3 := at_refs hrb
          rw [← hj] at a3
          obtain ⟨row, hrow, hrr⟩ := pr_get g3 hrb
          rw [map_get _ hjm] at hrow
          have hrow := Option.some.inj hrow
          have hrl : row.length ≤ 40 := by rw [← hrow]; exact Nat.le_trans (List.length_filter_le _ _) (by rw [List.length_range]; omega)
          walk_at "gg"
          obtain ⟨f0, f1⟩ := h4 rb (mem_of_get hrb)
          refine ⟨⟨_, _, _, _, rfl⟩, ex3.free f0, by rw [upd_ne f1.symm]; exact g1, by rw [upd_ne (tbb rb (mem_of_get hrb))]; exact g2, ?_, ?_⟩
          · refine pr_of (by rw [h2, List.length_map, List.length_range]) fun i b xs hb' hxs => ?_
            have hi : i < m := by have := lt_of_get hb'; omega
            rw [map_get _ hi] at hxs
            have hxs := Option.some.inj hxs
            rw [List.range_succ, List.filter_append] at hxs
            by_cases q : i = j
            · subst q
              rw [hrb] at hb'; cases hb'
              have e1 : (List.filter (fun e => decide (p (2 + 2 * e) < p (3 + 2 * e)) && decide (p (2 + 2 * e) = (i : Int))) [e]) = [e] := by
                have : p (2 + 2 * e) = (i : Int) := hj
                rw [List.filter_cons, if_pos (by rw [decide_eq_true hb, decide_eq_true this]; rfl)]; rfl
              rw [e1] at hxs
              rw [upd_same, ← hxs, nv_app, ← hrow]; rfl
            · obtain ⟨ys, hys, hyr⟩ := pr_get g3 hb'
              rw [map_get _ hi] at hys
              have hys := Option.some.inj hys
              have nb : b ≠ rb := fun z => q (by
                subst z
                exact (List.getElem_inj (h₀ := lt_of_get hb') (h₁ := lt_of_get hrb) h3).mp (by rw [(List.getElem?_eq_some_iff.mp hb').2, (List.getElem?_eq_some_iff.mp hrb).2]))
              rw [upd_ne nb, hyr, ← hxs, ← hys]
              have : ¬ p (2 + 2 * e) = (i : Int) := by omega
              simp [this]
          · rw [upd_ne (hbo rb (mem_of_get hrb)).symm, g4, List.range_succ, List.filter_append]
            simp [hb]
        · have hol : ((List.range e).filter fun e => !decide (p (2 + 2 * e) < p (3 + 2 * e))).length ≤ 40 := Nat.le_trans (List.length_filter_le _ _) (by rw [List.length_range]; omega)
          walk_at "gg"
          refine ⟨⟨_, _, _, _, rfl⟩, ex3.free hot0, by rw [upd_ne nDo]; exact g1, by rw [upd_ne tbo]; exact g2, ?_, ?_⟩
          · refine pr_of (by rw [h2, List.length_map, List.length_range]) fun i b xs hb' hxs => ?_
            have hi : i < m := by have := lt_of_get hb'; omega
            obtain ⟨ys, hys, hyr⟩ := pr_get g3 hb'
            rw [map_get _ hi] at hys hxs
            have hys := Option.some.inj hys
            have hxs := Option.some.inj hxs
            rw [upd_ne (hbo b (mem_of_get hb')), hyr, ← hxs, ← hys, List.range_succ, List.filter_append]
            simp [hb]
          · rw [upd_same, List.range_succ, List.filter_append, nv_app]
            congr 3
            simp [hb, nv]
      · rintro σ H' ⟨⟨a, b, c, d, rfl⟩, ex3, g1, g2, g3, g4⟩
        have hlev : ((List.range m).map fun (j : Nat) => (List.range n).filter fun e => decide (p (2 + 2 * e) < p (3 + 2 * e)) && decide (p (2 + 2 * e) = (j : Int))) = (List.range m).map (levelOf n p) := rfl
        rw [hlev] at g3
        generalize hR : (List.range m).map (levelOf n p) = rows at *
        have hrl : rows.length = m := by rw [← hR, List.length_map, List.length_range]
        have hoth : ((List.range n).filter fun e => !decide (p (2 + 2 * e) < p (3 + 2 * e))) = othersOf n p := rfl
        rw [hoth] at g4
        walk_at "gg"
        intro A hA
        have hA0 : H A = none := ex3.fresh hA (by simp)
        refine l_list (K := K) (xs := bs.map V.ref) (fun i H'' => ExB [] H' H'' ∧ ∃ cs : List Addr, H'' A = some (.lst (cs.map V.ref)) ∧ cs.length ≤ i ∧ Paired (fun b xs => H'' b = some (.lst (nv xs))) cs ((rows.take i).filter fun r => decide (0 < r.length)) ∧ ∀ c ∈ cs, c ∈ bs) ⟨ExB.new hA, [], upd_same, Nat.le_refl _, by simp; exact .nil, by simp⟩ (fun i H'' _ e => e.1.nn g1) (fun i y H'' hy ⟨ex4, cs, q1, q2, q3, q4⟩ => ?_) (fun H'' ⟨ex4, cs, q1, q2, q3, q4⟩ => ?_)
        · rw [List.getElem?_map] at hy
          obtain ⟨bq, hb, rfl⟩ := Option.map_eq_some_iff.mp hy
          obtain ⟨row, hrow, hrr⟩ := pr_get g3 hb
          have hrr4 := ex4.nn hrr
          have hil : i < m := by have := lt_of_get hb; omega
          walk_at "wp"
          walk_at "gg"
          rw [nv_length]
          refine z_if (fun hpos => ?_) (fun hneg => ?_)
          · walk_at "gg"
            have hbA : ∀ b ∈ bs, b ≠ A := fun b hb => by
              obtain ⟨y, _, hy⟩ := pr_mem g3 hb
              exact ne_of_none hy hA
            refine ⟨_, q1, size_lt (by rw [List.length_map]; omega), ex4.free hA, cs ++ [bq], by rw [upd_same, List.map_append]; rfl, by rw [List.length_append, List.length_singleton]; omega, ?_, ?_⟩
            · rw [take_snoc hrow, List.filter_append]
              have : (List.filter (fun r => decide (0 < r.length)) [row]) = [row] := by simp; omega
              rw [this]
              refine pr_snoc (pr_monoM (fun b xs mb k => by rw [upd_ne (hbA b (q4 b mb))]; exact k) q3) ?_
              rw [upd_ne (hbA bq (mem_of_get hb))]; exact hrr4
            · intro c hc
              rcases List.mem_append.mp hc with z | z
              · exact q4 c z
              · rw [List.mem_singleton] at z; subst z; exact mem_of_get hb
          · refine ⟨ex4, cs, q1, by omega, ?_, q4⟩
            rw [take_snoc hrow, List.filter_append]
            have : (List.filter (fun r => decide (0 < r.length)) [row]) = [] := by
              have h0 : ¬ 0 < row.length := by omega
              rw [List.filter_cons, if_neg (by simpa using h0)]; rfl
            rw [this, List.append_nil]; exact q3
        · rw [List.length_map, h2, ← hrl, List.take_length] at q3
          have q5 : ∀ c ∈ cs, H c = none := fun c hc => (h4 c (q4 c hc)).1
          walk_at "gg"
          refine ⟨size_ok (by simp), fun z hz => ?_⟩
          refine k z A ot _ (((ex3.trans ex4).fresh hz (by simp))) ((ex3.trans ex4).trans (ExB.new hz)) upd_same ⟨cs, ⟨upd_old q1 hz, ?_⟩, hA0, q5⟩ hot0 (upd_old (ex4.nn g4) hz)
          have : setsOf n p m = rows.filter fun r => decide (0 < r.length) := by unfold setsOf; rw [hR]
          rw [this]
          exact pr_mono (fun b xs k => upd_old k hz) q3

abbrev n_chain_cover : List Str := ["order", "count", "flow", "chains", "number", "sets", "others", "chain", "element"]
theorem sc_chain_cover : FnScope n_chain_cover ["order", "count"] (defScope s_chain_cover) := ⟨rfl, rfl, rfl, by decide +kernel, rfl, by decide +kernel, by decide +kernel⟩
theorem ok_chain_cover {P : Program} {w : World} {K : Frg} {mg : Str → Option Value} {base : Heap} (T : Tx K mg) (k_c_init : C8.Mak P w K mg base 3 "ChainFlow" (aC K) (sp_c_init K) []) (k_c_next_gain : C8.Met P w K mg base 2 (aC K) "next_gain" (sp_c_next_gain K) []) (k_c_add_unit : C8.Met P w K mg base 2 (aC K) "add_unit" (sp_c_add_unit K) []) (k_c_chains : C8.Met P w K mg base 3 (aC K) "chains" (sp_c_chains K) []) (k_c_sets : C8.Met P w K mg base 3 (aC K) "sets" (sp_c_sets K) []) : C8.Cal P w K mg base 5 "chain_cover" (sp_chain_cover K) [] := by
  obtain ⟨fd, F⟩ := T.d_chain_cover
  have bd : Binds K fd ["order", "count"] [] := F.bindsN fun _ _ _ _ _ _ us hl => match us, hl with | [_, _], _ => rfl
  refine cal_by F T.g_chain_cover bd sc_chain_cover ?_ ?_
  · intro vs H Q E h
    match vs, h with
    | [_, _], _ => rfl
  · intro cdv A outer s H vs Q E hr h
    match vs, h with
    | [a0, a1], h =>
    refine ⟨_, (pss_cons (ps_set (i := 2) sc_chain_cover.nd rfl (by first | exact Or.inl rfl | exact Or.inr rfl) (C8.pe_mk k_c_init hr (by decide) rfl (pa_cons (pv 0) pa_nil)))
  (pss_cons (ps_while PassesOwn.never (PW.pt (pw_and (pt_cmpR op_lt (kFl (K := K) rfl (pe_fld (pv 2) rfl)) (pv 1) (nomark _)) (pw_and1 (pt_cmpR op_gt (C8.pe_mt0 k_c_next_gain hr (by decide) (pv 2)) pe_int (nomark _)))))
  (pss_one (ps_expr (C8.pe_mt0 k_c_add_unit hr (by decide) (pv 2)))))
  (pss_cons (ps_set (i := 3) sc_chain_cover.nd rfl (by first | exact Or.inl rfl | exact Or.inr rfl) (C8.pe_mt0 k_c_chains hr (by decide) (pv 2)))
  (pss_cons (ps_asg (C8.pe_mt k_c_sets hr (by decide) (pv 2) (pa_cons (C8.pe_mt0 k_c_next_gain hr (by decide) (pv 2)) pa_nil)) (kGt (K := K) rfl (pg_tup (n := 2) rfl (pgs_cons (pg_name (i := 5) sc_chain_cover.nd rfl (by first | exact Or.inl rfl | exact Or.inr rfl)) (pgs_cons (pg_name (i := 6) sc_chain_cover.nd rfl (by first | exact Or.inl rfl | exact Or.inr rfl)) pgs_nil)))))
  (pss_cons (ps_set (i := 4) sc_chain_cover.nd rfl (by first | exact Or.inl rfl | exact Or.inr rfl) (pe_callB (k_sum (K := K) rfl rfl) (by rfl) T.sum_ (by decide +kernel) (pa_cons (pe_lc (own := [("chain", 7)]) (by rfl) sc_chain_cover.nd (kIl (K := K) rfl (pi_list (pv 3))) (blkOk_by (own := [("chain", 7)]) (N := n_chain_cover) (sc := defScope s_chain_cover) (by decide +kernel)) (fun _ _ _ _ _ => (pg_name (i := 7) sc_chain_cover.nd rfl (by first | exact Or.inl rfl | exact Or.inr rfl))) (fun _ _ _ _ _ => pts_nil) (fun _ _ _ _ _ => (pe_callB (k_len (K := K) rfl) (by rfl) T.len_ (by decide +kernel) (pa_cons (pv 7) pa_nil)))) pa_nil)))
  (pss_one (ps_ret (pe_tup (pa_cons (pv 4) (pa_cons (pv 3) (pa_cons (pe_op op_cat (pv 5) (pe_lc (own := [("element", 8)]) (by rfl) sc_chain_cover.nd (kIl (K := K) rfl (pi_list (pv 6))) (blkOk_by (own := [("element", 8)]) (N := n_chain_cover) (sc := defScope s_chain_cover) (by decide +kernel)) (fun _ _ _ _ _ => (pg_name (i := 8) sc_chain_cover.nd rfl (by first | exact Or.inl rfl | exact Or.inr rfl))) (fun _ _ _ _ _ => pts_nil) (fun _ _ _ _ _ => (pe_lst (pa_cons (pv 8) pa_nil))))) pa_nil))))))))))), ?_⟩
    rw [show start n_chain_cover [a0, a1] = [some a0, some a1, none, none, none, none, none, none, none] from rfl]
    obtain ⟨o, n, T, c, rfl, rfl, ho, hT, k⟩ := h
    have hn := ho.le
    have hok := nok_pairs (T := T) hn
    obtain ⟨up, ⟨dxo, dn, pr, o1, o2, o3⟩, _⟩ := id ho
    walk_at "gg"
    intro x dx hx0 hdx nex
    have hx0' : upd H dx (.own x) x = none := by rw [upd_ne nex.symm]; exact hx0
    have exA : ExB [] H (upd (upd H dx (.own x)) x (.ins (aC K) dx [])) := (ExB.new hdx).trans (ExB.new hx0')
    refine ⟨x, dx, o, n, T, rfl, rfl, upd_same, ho.mono exA, fun H1 fl t h r g ga fr ex1 C1 => ⟨rfl, ?_⟩⟩
    have fr0 : ∀ y ∈ [fl, t, h, r, g, ga], H y = none := fun y hy => none_old (none_old (fr y hy))
    have ex1' : ExB [] H H1 := exA.freeS ex1 (fun a ha => by rw [List.mem_singleton] at ha; subst ha; exact .inl hx0)
    have hr0 : H r = none := fr0 r (by simp)
    walk_at "gg"
    refine z_while (fun m σ H' => ∃ kk f, σ = [some (.ref o), some (.int (c : Nat)), some (.ref x), none, none, none, none, none, none] ∧ ExB [] H H' ∧ CFb K H' x o n (pairsOf n T) kk (rmOf n f) fl t h r g ga ∧ FState n T f kk ∧ kk ≤ c ∧ m = n - kk) _ ⟨0, fun _ => 0, rfl, ex1', C1, fstate0 hT, Nat.zero_le _, rfl⟩ ?_
    rintro m σ H2 ⟨kk, f, rfl, ex2, C2, FS, hkc, rfl⟩
    obtain ⟨⟨dx2, hx2⟩, F2, hg2, n72⟩ := id C2
    walk_at "gg"
    refine z_if (fun hlt => ?_) (fun hge => ?_)
    · walk_at "gg"
      refine ⟨x, o, n, _, kk, _, fl, t, h, r, g, ga, rfl, C2, hok, fun H3 ex3 => ?_⟩
      walk_at "gg"
      refine z_if (fun hg => ?_) (fun hg => ?_)
      · obtain ⟨as, f', pt, has, hpu, FS'⟩ := fstate_step hT hn FS hg
        have hx3 := ex3.nn hx2
        walk_at "gg"
        refine ⟨x, o, n, _, kk, _, fl, t, h, r, g, ga, as, rfl, C2.mono ex3, hok, pt, has, fun H4 ex4 C4 => ?_⟩
        rw [hpu] at C4
        have hle := fstate_le FS'
        walk_at "gg"
        refine ⟨n - (kk + 1), by omega, kk + 1, f', rfl, (ex2.trans ex3).freeS ex4 (fun a ha => ?_), C4, FS', by omega, rfl⟩
        simp only [List.mem_cons, List.not_mem_nil, or_false] at ha
        rcases ha with q | q <;> subst q <;> exact .inl (by assumption)
      · have he : kk = c ∨ gainV ((bfO n T f).b 1) = 0 := .inr (by
          have : ∀ q : Option Int, 0 ≤ gainV q := fun q => by
            cases q with
            | none => exact Int.le_refl 0
            | some y => exact Int.le_max_left 0 y
          have := this ((bfO n T f).b 1)
          have hg : ¬ 0 < gainV ((bfO n T f).b 1) := hg
          omega)
        have ex03 := ex2.trans ex3
        have C3 := C2.mono ex3
        have hx3 := ex3.nn hx2
        have hkn := fstate_le FS
        obtain ⟨m, p, hgm, hm, hpp, hlv, hcov⟩ := fstate_end hT hn FS hkc he
        walk_at "gg"
        refine ⟨x, o, n, T, kk, f, fl, t, h, r, g, ga, rfl, C3, ho.mono ex03, hT, by omega, FS.ok, fun pc H4 xss hpc ex4 hll hch => ?_⟩
        have C4 := C3.mono ex4
        have hx4 := ex4.nn hx3
        have ex04 := ex03.trans ex4
        walk_at "gg"
        refine ⟨x, o, n, _, kk, _, fl, t, h, r, g, ga, rfl, C4, hok, fun H5 ex5 => ?_⟩
        have C5 := C4.mono ex5
        have hx5 := ex5.nn hx4
        have ex05 := ex04.trans ex5
        rw [show gainV ((bfRun (cnet n (pairsOf n T) (rmOf n f)) 0).b 1) = (m : Int) from hgm]
        walk_at "gg"
        refine ⟨x, o, n, T, kk, _, fl, t, h, r, g, ga, m, p, rfl, rfl, C5, ho.mono ex05, hm, hpp, hlv, fun q ls lo H6 hq ex6 hqt hls hlo0 hlo => ?_⟩
        have ex06 := ex05.trans ex6
        have cvr := hcov xss hch
        have hll6 : LLf H3 H6 pc xss := (hll.mono ex5).mono ex6
        obtain ⟨cb, ⟨c1, c2⟩, c3, c4⟩ := hll6
        obtain ⟨sb, ⟨s1, s2⟩, s3, s4⟩ := hls
        have hcbl := pr_len c2
        have hxl := hch.len
        walk_at "gg"
        intro A hA
        refine l_list (K := K) (xs := cb.map V.ref) (fun i H' => H' = upd H6 A (.lst (((xss.take i).map fun y => V.int ((y.length : Nat) : Int))))) (by simp) (fun i H' _ e => by rw [e]; exact upd_old c1 hA) (fun i y H' hy e => ?_) (fun H' e => ?_)
        · subst e
          rw [List.getElem?_map] at hy
          obtain ⟨b, hb, rfl⟩ := Option.map_eq_some_iff.mp hy
          obtain ⟨xs, hxs, hr⟩ := pr_get c2 hb
          have hr' := upd_old (w := .lst (((xss.take i).map fun y => V.int ((y.length : Nat) : Int)))) hr hA
          have hil := lt_of_get hb
          walk_at "wp"
          walk_at "gg"
          rw [nv_length]
          refine ⟨_, upd_same, size_lt (by rw [List.length_map, List.length_take]; omega), ?_⟩
          rw [upd_upd, take_snoc hxs, List.map_append]; rfl
        · subst e
          rw [List.length_map, hcbl, List.take_length]
          have ex07 := ex06.trans (ExB.new (o := .lst (xss.map fun y => V.int ((y.length : Nat) : Int))) hA)
          have hAA : upd H6 A (.lst (xss.map fun y => V.int ((y.length : Nat) : Int))) A = some (.lst ((xss.map fun y => ((y.length : Nat) : Int)).map V.int)) := by rw [upd_same, List.map_map]; rfl
          have c17 := upd_old (w := .lst (xss.map fun y => V.int ((y.length : Nat) : Int))) c1 hA
          have c27 := pr_mono (fun b y k => upd_old (w := .lst (xss.map fun y => V.int ((y.length : Nat) : Int))) k hA) c2
          have s17 := upd_old (w := .lst (xss.map fun y => V.int ((y.length : Nat) : Int))) s1 hA
          have s27 := pr_mono (fun b y k => upd_old (w := .lst (xss.map fun y => V.int ((y.length : Nat) : Int))) k hA) s2
          have lo7 := upd_old (w := .lst (xss.map fun y => V.int ((y.length : Nat) : Int))) hlo hA
          generalize upd H6 A (.lst (xss.map fun y => V.int ((y.length : Nat) : Int))) = H7 at *
          walk_at "gg"
          have hsum : (xss.map fun y => ((y.length : Nat) : Int)).sum = ((xss.flatten.length : Nat) : Int) := by
            rw [List.length_flatten, ← sum_ints, List.map_map]; rfl
          rw [hsum]
          walk_at "gg"
          intro B hB
          refine l_list (K := K) (xs := nv (othersOf n p)) (fun i H' => ExB [] H7 H' ∧ ∃ bs : List Addr, H' B = some (.lst (bs.map V.ref)) ∧ bs.length ≤ i ∧ Paired (fun b xs => H' b = some (.lst (nv xs))) bs (((othersOf n p).take i).map fun e => [e]) ∧ ∀ b ∈ bs, H7 b = none) ⟨ExB.new hB, [], upd_same, Nat.le_refl _, by simp; exact .nil, by simp⟩ (fun i H' _ e => e.1.nn lo7) (fun i y H' hy ⟨ex8, bs, g1, g2, g3, g4⟩ => ?_) (fun H' ⟨ex8, bs, g1, g2, g3, g4⟩ => ?_)
          · obtain ⟨e, he, rfl⟩ := nv_inv hy
            have hil := lt_of_get he
            have hol : (othersOf n p).length ≤ 40 := by unfold othersOf; exact Nat.le_trans (List.length_filter_le _ _) (by rw [List.length_range]; omega)
            walk_at "wp"
            walk_at "gg"
            refine ⟨size_ok (by simp), fun z hz => ?_⟩
            have nBz : B ≠ z := ne_of_none g1 hz
            refine ⟨_, upd_old g1 hz, size_lt (by rw [List.length_map]; omega), (ex8.trans (ExB.new hz)).free hB, bs ++ [z], by rw [upd_same, List.map_append]; rfl, by rw [List.length_append, List.length_singleton]; omega, ?_, ?_⟩
            · rw [take_snoc he, List.map_append]
              refine pr_snoc (pr_monoM (fun b xs mb k => ?_) g3) (by rw [upd_ne nBz.symm, upd_same]; rfl)
              have nb : b ≠ B := fun q => by
                have h7 := g4 b mb
                have : H' B = some (.lst (nv xs)) := by rw [← q]; exact k
                rw [g1] at this
                injection this with this
                injection this with this
                cases bs with
                | nil => cases mb
                | cons b0 br => cases xs with
                  | nil => cases this
                  | cons x0 xr => cases this
              rw [upd_ne nb]; exact upd_old k hz
            · intro b hb
              rcases List.mem_append.mp hb with q | q
              · exact g4 b q
              · rw [List.mem_singleton] at q; subst q; exact ex8.fresh hz (by simp)
          · rw [nv_length] at g2
            rw [nv_length, List.take_length] at g3
            have hol : (othersOf n p).length ≤ 40 := by unfold othersOf; exact Nat.le_trans (List.length_filter_le _ _) (by rw [List.length_range]; omega)
            have hsl : sb.length ≤ 1000 := by
              rw [pr_len s2]; unfold setsOf; exact Nat.le_trans (List.length_filter_le _ _) (by rw [List.length_map, List.length_range]; omega)
            refine z_cat (ex8.nn s17) g1 (size_ok (by rw [List.length_map, List.length_map]; omega)) fun ps hps => ?_
            walk_at "gg"
            refine ⟨size_ok (by simp), fun z hz => ?_⟩
            have ex08 := ex07.trans ex8
            have exf := (ex08.trans (ExB.new (o := .lst (sb.map V.ref ++ bs.map V.ref)) hps)).trans (ExB.new (o := .tup [.int ((xss.flatten.length : Nat) : Int), .ref pc, .ref ps]) hz)
            have eup : ∀ {b o}, H' b = some o → upd (upd H' ps (.lst (sb.map V.ref ++ bs.map V.ref))) z (.tup [.int ((xss.flatten.length : Nat) : Int), .ref pc, .ref ps]) b = some o := fun h => upd_old (upd_old h hps) hz
            refine k z pc ps _ _ xss _ (ex08.fresh (none_old hz) (by simp)) exf cvr upd_same ⟨cb, ⟨eup (ex8.nn c17), pr_mono (fun b y k => eup (ex8.nn k)) c27⟩, ?_, fun b hb => ?_⟩ ⟨sb ++ bs, ⟨?_, ?_⟩, ex08.fresh hps (by simp), fun b hb => ?_⟩
            · exact ex03.fresh c3 (by simp)
            · exact ex03.fresh (c4 b hb) (by simp)
            · refine upd_old ?_ hz
              rw [upd_same, List.map_append]
            · exact pr_app (pr_mono (fun b y k => eup (ex8.nn k)) s27) (pr_mono (fun b y k => eup k) g3)
            · rcases List.mem_append.mp hb with q | q
              · exact ex05.fresh (s4 b q) (by simp)
              · exact ex07.fresh (g4 b q) (by simp)
    · have he : kk = c ∨ gainV ((bfO n T f).b 1) = 0 := .inl (by omega)
      obtain ⟨H3, ex3, hH3⟩ : ∃ H3, ExB [] H2 H3 ∧ H2 = H3 := ⟨H2, ExB.refl, rfl⟩
      walk_at "gg"
      rw [hH3]
      have ex03 := ex2.trans ex3
      have C3 := C2.mono ex3
      have hx3 := ex3.nn hx2
      have hkn := fstate_le FS
      obtain ⟨m, p, hgm, hm, hpp, hlv, hcov⟩ := fstate_end hT hn FS hkc he
      walk_at "gg"
      refine ⟨x, o, n, T, kk, f, fl, t, h, r, g, ga, rfl, C3, ho.mono ex03, hT, by omega, FS.ok, fun pc H4 xss hpc ex4 hll hch => ?_⟩
      have C4 := C3.mono ex4
      have hx4 := ex4.nn hx3
      have ex04 := ex03.trans ex4
      walk_at "gg"
      refine ⟨x, o, n, _, kk, _, fl, t, h, r, g, ga, rfl, C4, hok, fun H5 ex5 => ?_⟩
      have C5 := C4.mono ex5
      have hx5 := ex5.nn hx4
      have ex05 := ex04.trans ex5
      rw [show gainV ((bfRun (cnet n (pairsOf n T) (rmOf n f)) 0).b 1) = (m : Int) from hgm]
      walk_at "gg"
      refine ⟨x, o, n, T, kk, _, fl, t, h, r, g, ga, m, p, rfl, rfl, C5, ho.mono ex05, hm, hpp, hlv, fun q ls lo H6 hq ex6 hqt hls hlo0 hlo => ?_⟩
      have ex06 := ex05.trans ex6
      have cvr := hcov xss hch
      have hll6 : LLf H3 H6 pc xss := (hll.mono ex5).mono ex6
      obtain ⟨cb, ⟨c1, c2⟩, c3, c4⟩ := hll6
      obtain ⟨sb, ⟨s1, s2⟩, s3, s4⟩ := hls
      have hcbl := pr_len c2
      have hxl := hch.len
      walk_at "gg"
      intro A hA
      refine l_list (K := K) (xs := cb.map V.ref) (fun i H' => H' = upd H6 A (.lst (((xss.take i).map fun y => V.int ((y.length : Nat) : Int))))) (by simp) (fun i H' _ e => by rw [e]; exact upd_old c1 hA) (fun i y H' hy e => ?_) (fun H' e => ?_)
      · subst e
        rw [List.getElem?_map] at hy
        obtain ⟨b, hb, rfl⟩ := Option.map_eq_some_iff.mp hy
        obtain ⟨xs, hxs, hr⟩ := pr_get c2 hb
        have hr' := upd_old (w := .lst (((xss.take i).map fun y => V.int ((y.length : Nat) : Int)))) hr hA
        have hil := lt_of_get hb
        walk_at "wp"
        walk_at "gg"
        rw [nv_length]
        refine ⟨_, upd_same, size_lt (by rw [List.length_map, List.length_take]; omega), ?_⟩
        rw [upd_upd, take_snoc hxs, List.map_append]; rfl
      · subst e
        rw [List.length_map, hcbl, List.take_length]
        have ex07 := ex06.trans (ExB.new (o := .lst (xss.map fun y => V.int ((y.length : Nat) : Int))) hA)
        have hAA : upd H6 A (.lst (xss.map fun y => V.int ((y.length : Nat) : Int))) A = some (.lst ((xss.map fun y => ((y.length : Nat) : Int)).map V.int)) := by rw [upd_same, List.map_map]; rfl
        have c17 := upd_old (w := .lst (xss.map fun y => V.int ((y.length : Nat) : Int))) c1 hA
        have c27 := pr_mono (fun b y k => upd_old (w := .lst (xss.map fun y => V.int ((y.length : Nat) : Int))) k hA) c2
        have s17 := upd_old (w := .lst (xss.map fun y => V.int ((y.length : Nat) : Int))) s1 hA
        have s27 := pr_mono (fun b y k => upd_old (w := .lst (xss.map fun y => V.int ((y.length : Nat) : Int))) k hA) s2
        have lo7 := upd_old (w := .lst (xss.map fun y => V.int ((y.length : Nat) : Int))) hlo hA
        generalize upd H6 A (.lst (xss.map fun y => V.int ((y.length : Nat) : Int))) = H7 at *
        walk_at "gg"
        have hsum : (xss.map fun y => ((y.length : Nat) : Int)).sum = ((xss.flatten.length : Nat) : Int) := by
          rw [List.length_flatten, ← sum_ints, List.map_map]; rfl
        rw [hsum]
        walk_at "gg"
        intro B hB
        refine l_list (K := K) (xs := nv (othersOf n p)) (fun i H' => ExB [] H7 H' ∧ ∃ bs : List Addr, H' B = some (.lst (bs.map V.ref)) ∧ bs.length ≤ i ∧ Paired (fun b xs => H' b = some (.lst (nv xs))) bs (((othersOf n p).take i).map fun e => [e]) ∧ ∀ b ∈ bs, H7 b = none) ⟨ExB.new hB, [], upd_same, Nat.le_refl _, by simp; exact .nil, by simp⟩ (fun i H' _ e => e.1.nn lo7) (fun i y H' hy ⟨ex8, bs, g1, g2, g3, g4⟩ => ?_) (fun H' ⟨ex8, bs, g1, g2, g3, g4⟩ => ?_)
        · obtain ⟨e, he, rfl⟩ := nv_inv hy
          have hil := lt_of_get he
          have hol : (othersOf n p).length ≤ 40 := by unfold othersOf; exact Nat.le_trans (List.length_filter_le _ _) (by rw [List.length_range]; omega)
          walk_at "wp"
          walk_at "gg"
          refine ⟨size_ok (by simp), fun z hz => ?_⟩
          have nBz : B ≠ z := ne_of_none g1 hz
          refine ⟨_, upd_old g1 hz, size_lt (by rw [List.length_map]; omega), (ex8.trans (ExB.new hz)).free hB, bs ++ [z], by rw [upd_same, List.map_append]; rfl, by rw [List.length_append, List.length_singleton]; omega, ?_, ?_⟩
          · rw [take_snoc he, List.map_append]
            refine pr_snoc (pr_monoM (fun b xs mb k => ?_) g3) (by rw [upd_ne nBz.symm, upd_same]; rfl)
            have nb : b ≠ B := fun q => by
              have h7 := g4 b mb
              have : H' B = some (.lst (nv xs)) := by rw [← q]; exact k
              rw [g1] at this
              injection this with this
              injection this with this
              cases bs with
              | nil => cases mb
              | cons b0 br => cases xs with
                | nil => cases this
                | cons x0 xr => cases this
            rw [upd_ne nb]; exact upd_old k hz
          · intro b hb
            rcases List.mem_append.mp hb with q | q
            · exact g4 b q
            · rw [List.mem_singleton] at q; subst q; exact ex8.fresh hz (by simp)
        · rw [nv_length] at g2
          rw [nv_length, List.take_length] at g3
          have hol : (othersOf n p).length ≤ 40 := by unfold othersOf; exact Nat.le_trans (List.length_filter_le _ _) (by rw [List.length_range]; omega)
          have hsl : sb.length ≤ 1000 := by
            rw [pr_len s2]; unfold setsOf; exact Nat.le_trans (List.length_filter_le _ _) (by rw [List.length_map, List.length_range]; omega)
          refine z_cat (ex8.nn s17) g1 (size_ok (by rw [List.length_map, List.length_map]; omega)) fun ps hps => ?_
          walk_at "gg"
          refine ⟨size_ok (by simp), fun z hz => ?_⟩
          have ex08 := ex07.trans ex8
          have exf := (ex08.trans (ExB.new (o := .lst (sb.map V.ref ++ bs.map V.ref)) hps)).trans (ExB.new (o := .tup [.int ((xss.flatten.length : Nat) : Int), .ref pc, .ref ps]) hz)
          have eup : ∀ {b o}, H' b = some o → upd (upd H' ps (.lst (sb.map V.ref ++ bs.map V.ref))) z (.tup [.int ((xss.flatten.length : Nat) : Int), .ref pc, .ref ps]) b = some o := fun h => upd_old (upd_old h hps) hz
          refine k z pc ps _ _ xss _ (ex08.fresh (none_old hz) (by simp)) exf cvr upd_same ⟨cb, ⟨eup (ex8.nn c17), pr_mono (fun b y k => eup (ex8.nn k)) c27⟩, ?_, fun b hb => ?_⟩ ⟨sb ++ bs, ⟨?_, ?_⟩, ex08.fresh hps (by simp), fun b hb => ?_⟩
          · exact ex03.fresh c3 (by simp)
          · exact ex03.fresh (c4 b hb) (by simp)
          · refine upd_old ?_ hz
            rw [upd_same, List.map_append]
          · exact pr_app (pr_mono (fun b y k => eup (ex8.nn k)) s27) (pr_mono (fun b y k => eup k) g3)
          · rcases List.mem_append.mp hb with q | q
            · exact ex05.fresh (s4 b q) (by simp)
            · exact ex07.fresh (g4 b q) (by simp)

abbrev n_w_is_integer : List Str := ["_law_actual"]
theorem sc_w_is_integer : FnScope n_w_is_integer ["_law_actual"] (defScope s_w_is_integer) := ⟨rfl, rfl, rfl, by decide +kernel, rfl, by decide +kernel, by decide +kernel⟩
theorem ok_w_is_integer {P : Program} {w : World} {K : Frg} {mg : Str → Option Value} {base : Heap} (T : Tx K mg) : C8.Cal P w K mg base 1 "_law_is_integer" sp_w_is_integer [] := by
  obtain ⟨fd, F⟩ := T.d_w_is_integer
  have bd : Binds K fd ["_law_actual"] [] := F.bindsN fun _ _ _ _ _ _ us hl => match us, hl with | [_], _ => rfl
  refine cal_by F T.g_w_is_integer bd sc_w_is_integer ?_ ?_
  · intro vs H Q E h
    match vs, h with
    | [_], _ => rfl
  · intro cdv A outer s H vs Q E hr h
    match vs, h with
    | [a0], h =>
    refine ⟨_, (pss_one (ps_ret (pe_and (pe_callB (k_isi (K := K) rfl) (by rfl) T.isinstance_ (by decide +kernel) (pa_cons (pv 0) (pa_cons (pe_bltn (v := .ty "int") (by rfl) T.int_ (by decide +kernel) rfl) pa_nil))) (pe_one (pe_not (pe_callB (k_isi (K := K) rfl) (by rfl) T.isinstance_ (by decide +kernel) (pa_cons (pv 0) (pa_cons (pe_bltn (v := .ty "bool") (by rfl) T.bool_ (by decide +kernel) rfl) pa_nil)))))))), ?_⟩
    rw [show start n_w_is_integer [a0] = [some a0] from rfl]
    obtain ⟨i, rfl, k⟩ := h
    walk_at "gg"
    exact k

abbrev n_w_are_integers : List Str := ["_law_actual", "_law_item"]
theorem sc_w_are_integers : FnScope n_w_are_integers ["_law_actual"] (defScope s_w_are_integers) := ⟨rfl, rfl, rfl, by decide +kernel, rfl, by decide +kernel, by decide +kernel⟩
theorem ok_w_are_integers {P : Program} {w : World} {K : Frg} {mg : Str → Option Value} {base : Heap} (T : Tx K mg) (k_w_is_integer : C8.Cal P w K mg base 1 "_law_is_integer" sp_w_is_integer []) : C8.Cal P w K mg base 2 "_law_are_integers" sp_w_are_integers [] := by
  obtain ⟨fd, F⟩ := T.d_w_are_integers
  have bd : Binds K fd ["_law_actual"] [] := F.bindsN fun _ _ _ _ _ _ us hl => match us, hl with | [_], _ => rfl
  refine cal_by F T.g_w_are_integers bd sc_w_are_integers ?_ ?_
  · intro vs H Q E h
    match vs, h with
    | [_], _ => rfl
  · intro cdv A outer s H vs Q E hr h
    match vs, h with
    | [a0], h =>
    refine ⟨_, (pss_one (ps_ret (pe_callB (k_all (K := K) rfl rfl) (by rfl) T.all_ (by decide +kernel) (pa_cons (pe_lc (own := [("_law_item", 1)]) (by rfl) sc_w_are_integers.nd (kIl (K := K) rfl (pi_list (pv 0))) (blkOk_by (own := [("_law_item", 1)]) (N := n_w_are_integers) (sc := defScope s_w_are_integers) (by decide +kernel)) (fun _ _ _ _ _ => (pg_name (i := 1) sc_w_are_integers.nd rfl (by first | exact Or.inl rfl | exact Or.inr rfl))) (fun _ _ _ _ _ => pts_nil) (fun _ _ _ _ _ => (C8.pe_c k_w_is_integer hr (by decide) rfl (pa_cons (pv 1) pa_nil)))) pa_nil)))), ?_⟩
    rw [show start n_w_are_integers [a0] = [some a0, none] from rfl]
    obtain ⟨p, xs, rfl, hx, hl, k⟩ := h
    walk_at "gg"
    intro D hD
    refine l_pureL (fun _ => true) (fun _ => .bl true) hx hD (by rw [nv_length]; omega) (fun i x acc Nx hi hac hN => ?_) ?_
    · obtain ⟨a, ha, rfl⟩ := nv_inv hi
      have hlt := lt_of_get ha
      walk_at "wp"
      walk_at "gg"
      refine ⟨(a : Int), rfl, ?_⟩
      walk_at "gg"
      exact hN
    · rw [filt_map_tt]
      walk_at "gg"
      rw [all_tt]
      exact k _ (ExB.new hD)

abbrev n_w_are_lists : List Str := ["_law_actual", "_law_row"]
theorem sc_w_are_lists : FnScope n_w_are_lists ["_law_actual"] (defScope s_w_are_lists) := ⟨rfl, rfl, rfl, by decide +kernel, rfl, by decide +kernel, by decide +kernel⟩
theorem ok_w_are_lists {P : Program} {w : World} {K : Frg} {mg : Str → Option Value} {base : Heap} (T : Tx K mg) (k_w_are_integers : C8.Cal P w K mg base 2 "_law_are_integers" sp_w_are_integers []) : C8.Cal P w K mg base 3 "_law_are_lists" sp_w_are_lists [] := by
  obtain ⟨fd, F⟩ := T.d_w_are_lists
  have bd : Binds K fd ["_law_actual"] [] := F.bindsN fun _ _ _ _ _ _ us hl => match us, hl with | [_], _ => rfl
  refine cal_by F T.g_w_are_lists bd sc_w_are_lists ?_ ?_
  · intro vs H Q E h
    match vs, h with
    | [_], _ => rfl
  · intro cdv A outer s H vs Q E hr h
    match vs, h with
    | [a0], h =>
    refine ⟨_, (pss_cons (ps_if (pt_not (pt_val (pe_callB (k_isi (K := K) rfl) (by rfl) T.isinstance_ (by decide +kernel) (pa_cons (pv 0) (pa_cons (pe_bltn (v := .ty "list") (by rfl) T.list_ (by decide +kernel) rfl) pa_nil))))) (pss_one (ps_ret pe_bl)) pss_nil)
  (pss_cons (ps_for PassesOwn.never rfl (kIl (K := K) rfl (pi_list (pv 0))) (pg_name (i := 1) sc_w_are_lists.nd rfl (by first | exact Or.inl rfl | exact Or.inr rfl))
  (pss_one (ps_if (PW.pt (pw_or (pt_not (pt_val (pe_callB (k_isi (K := K) rfl) (by rfl) T.isinstance_ (by decide +kernel) (pa_cons (pv 1) (pa_cons (pe_bltn (v := .ty "list") (by rfl) T.list_ (by decide +kernel) rfl) pa_nil))))) (pw_or1 (pt_not (pt_val (C8.pe_c k_w_are_integers hr (by decide) rfl (pa_cons (pv 1) pa_nil))))))) (pss_one (ps_ret pe_bl)) pss_nil)))
  (pss_one (ps_ret pe_bl)))), ?_⟩
    rw [show start n_w_are_lists [a0] = [some a0, none] from rfl]
    obtain ⟨m, xss, rfl, ⟨bs, h1, h2⟩, hl, k⟩ := h
    walk_at "gg"
    refine f_list (xs := bs.map V.ref) (fun i σ H' => (∃ v, σ = [some (.ref m), v]) ∧ ExB [] H H') ⟨⟨none, rfl⟩, ExB.refl⟩ (fun i σ H' _ e => e.2.nn h1) ?_ ?_
    · rintro i y σ H' hy ⟨⟨v, rfl⟩, ex⟩
      rw [List.getElem?_map] at hy
      obtain ⟨b, hb, rfl⟩ := Option.map_eq_some_iff.mp hy
      obtain ⟨xs, hxs, hr⟩ := pr_get h2 hb
      have hr' := ex.nn hr
      walk_at "gg"
      refine ⟨b, xs, rfl, hr', hl xs (mem_of_get hxs), fun H2 ex2 => ?_⟩
      walk_at "gg"
      exact ⟨⟨_, rfl⟩, ex.trans ex2⟩
    · rintro σ H' ⟨⟨v, rfl⟩, ex⟩
      walk_at "gg"
      exact k _ ex

abbrev n_w_is_chain : List Str := ["_law_table", "_law_row", "_law_k"]
theorem sc_w_is_chain : FnScope n_w_is_chain ["_law_table", "_law_row"] (defScope s_w_is_chain) := ⟨rfl, rfl, rfl, by decide +kernel, rfl, by decide +kernel, by decide +kernel⟩
theorem ok_w_is_chain {P : Program} {w : World} {K : Frg} {mg : Str → Option Value} {base : Heap} (T : Tx K mg) : C8.Cal P w K mg base 1 "_law_is_chain" sp_w_is_chain [] := by
  obtain ⟨fd, F⟩ := T.d_w_is_chain
  have bd : Binds K fd ["_law_table", "_law_row"] [] := F.bindsN fun _ _ _ _ _ _ us hl => match us, hl with | [_, _], _ => rfl
  refine cal_by F T.g_w_is_chain bd sc_w_is_chain ?_ ?_
  · intro vs H Q E h
    match vs, h with
    | [_, _], _ => rfl
  · intro cdv A outer s H vs Q E hr h
    match vs, h with
    | [a0, a1], h =>
    refine ⟨_, (pss_one (ps_ret (pe_callB (k_all (K := K) rfl rfl) (by rfl) T.all_ (by decide +kernel) (pa_cons (pe_lc (own := [("_law_k", 2)]) (by rfl) sc_w_is_chain.nd (pi_range1 (by rfl) T.range_ (pa_cons (pe_op op_sub (pe_callB (k_len (K := K) rfl) (by rfl) T.len_ (by decide +kernel) (pa_cons (pv 1) pa_nil)) pe_int) pa_nil)) (blkOk_by (own := [("_law_k", 2)]) (N := n_w_is_chain) (sc := defScope s_w_is_chain) (by decide +kernel)) (fun _ _ _ _ _ => (pg_name (i := 2) sc_w_is_chain.nd rfl (by first | exact Or.inl rfl | exact Or.inr rfl))) (fun _ _ _ _ _ => pts_nil) (fun _ _ _ _ _ => (pe_ix (ixl (K := K) rfl) (pe_ix (ixl (K := K) rfl) (pv 0) (pe_ix (ixl (K := K) rfl) (pv 1) (pv 2) (fun _ _ => rfl)) (fun _ _ => rfl)) (pe_ix (ixl (K := K) rfl) (pv 1) (pe_op op_add (pv 2) pe_int) (fun _ _ => rfl)) (fun _ _ => rfl)))) pa_nil)))), ?_⟩
    rw [show start n_w_is_chain [a0, a1] = [some a0, some a1, none] from rfl]
    obtain ⟨p, n, T, m, xs, rfl, rfl, ⟨bs, tb⟩, hx, hlt, hlen, hc, k⟩ := h
    have h0 := tb.at_
    have hl := tb.len
    walk_at "gg"
    intro D hD
    have hN : ((nv xs).length - 1 : Int).toNat = xs.length - 1 := by rw [nv_length]; omega
    rw [hN]
    refine l_pure0 (fun i => .bl true) (by omega) (fun i acc Nx hi hac hN => ?_) ?_
    · obtain ⟨a, ha⟩ := get_of_lt (xs := xs) (i := i) (by omega)
      obtain ⟨b, hb⟩ := get_of_lt (xs := xs) (i := i + 1) (by omega)
      have e1 := at_nv ha
      have e2 := at_nv hb
      rw [Int.natCast_add] at e2
      obtain ⟨c, hcc⟩ := get_of_lt (xs := bs) (i := a) (by rw [hl]; exact hlt _ (mem_of_get ha))
      have hr2 := tb.row _ _ hcc
      have f1 := at_refs hcc
      have f2 := at_row (T := T) (i := a) (hlt _ (mem_of_get hb))
      rw [hc i a b ha hb] at f2
      walk_at "wp"
      walk_at "gg"
      exact hN
    · walk_at "gg"
      rw [bls_map (fun _ => true)]
      walk_at "gg"
      rw [all_range_true (fun _ _ => rfl)]
      exact k _ (ExB.new hD)

abbrev n_w_parts_all : List Str := ["_law_size", "_law_lists", "_law_found", "_law_row"]
theorem sc_w_parts_all : FnScope n_w_parts_all ["_law_size", "_law_lists"] (defScope s_w_parts_all) := ⟨rfl, rfl, rfl, by decide +kernel, rfl, by decide +kernel, by decide +kernel⟩
theorem ok_w_parts_all {P : Program} {w : World} {K : Frg} {mg : Str → Option Value} {base : Heap} (T : Tx K mg) : C8.Cal P w K mg base 1 "_law_parts_all" sp_w_parts_all [] := by
  obtain ⟨fd, F⟩ := T.d_w_parts_all
  have bd : Binds K fd ["_law_size", "_law_lists"] [] := F.bindsN fun _ _ _ _ _ _ us hl => match us, hl with | [_, _], _ => rfl
  refine cal_by F T.g_w_parts_all bd sc_w_parts_all ?_ ?_
  · intro vs H Q E h
    match vs, h with
    | [_, _], _ => rfl
  · intro cdv A outer s H vs Q E hr h
    match vs, h with
    | [a0, a1], h =>
    refine ⟨_, (pss_cons (ps_set (i := 2) sc_w_parts_all.nd rfl (by first | exact Or.inl rfl | exact Or.inr rfl) (pe_lst pa_nil))
  (pss_cons (ps_for PassesOwn.never rfl (kIl (K := K) rfl (pi_list (pv 1))) (pg_name (i := 3) sc_w_parts_all.nd rfl (by first | exact Or.inl rfl | exact Or.inr rfl))
  (pss_cons (ps_if (pt_cmpR op_eq (pe_callB (k_len (K := K) rfl) (by rfl) T.len_ (by decide +kernel) (pa_cons (pv 3) pa_nil)) pe_int (nomark _)) (pss_one (ps_ret pe_bl)) pss_nil)
  (pss_one (ps_set (i := 2) sc_w_parts_all.nd rfl (by first | exact Or.inl rfl | exact Or.inr rfl) (pe_op op_cat (pv 2) (pe_callTy (k_list (K := K) rfl) (by rfl) T.list_ (by decide +kernel) (pa_cons (pv 3) pa_nil)))))))
  (pss_one (ps_ret (pe_cmpR (k_eqD (K := K) rfl hr.units) (pe_callB (k_sorted (K := K) rfl) (by rfl) T.sorted_ (by decide +kernel) (pa_cons (pv 2) pa_nil)) (pe_listRg rfl rfl T.list_ (prg_1 rfl T.range_ (pv 0))) (nomark _)))))), ?_⟩
    rw [show start n_w_parts_all [a0, a1] = [some a0, some a1, none, none] from rfl]
    obtain ⟨n, m, xss, rfl, rfl, hn, ⟨bs, h1, h2⟩, hne, hp, k⟩ := h
    walk_at "gg"
    refine ⟨size_ok (by simp), fun f hf => ?_⟩
    have h1' := upd_old (w := HO.lst []) h1 hf
    walk_at "gg"
    have hpl : xss.flatten.length = n := by rw [hp.length_eq, List.length_range]
    have hbl := pr_len h2
    refine f_list (xs := bs.map V.ref) (fun i σ H' => (∃ v f, σ = [some (.int (n : Nat)), some (.ref m), some (.ref f), v] ∧ H' f = some (.lst (nv (xss.take i).flatten))) ∧ ExB [] H H') ⟨⟨none, f, rfl, upd_same⟩, ExB.new hf⟩ (fun i σ H' _ e => e.2.nn h1) ?_ ?_
    · rintro i y σ H' hy ⟨⟨v, f, rfl, hf⟩, ex⟩
      rw [List.getElem?_map] at hy
      obtain ⟨b, hb, rfl⟩ := Option.map_eq_some_iff.mp hy
      obtain ⟨xs, hxs, hr⟩ := pr_get h2 hb
      have hr' := ex.nn hr
      walk_at "gg"
      refine z_if (fun h0 => ?_) (fun _ => ?_)
      · exact (hne xs (mem_of_get hxs) (List.length_eq_zero_iff.mp (by rw [nv_length] at h0; omega))).elim
      walk_at "gg"
      intro l hl
      have hf' := upd_old (w := .lst (nv xs)) hf hl
      have hle : (xss.take (i + 1)).flatten.length ≤ n := by
        rw [← hpl]
        exact take_flat_le _ _
      rw [take_snoc hxs, List.flatten_append, List.flatten_singleton, List.length_append] at hle
      refine z_cat hf' upd_same (size_ok (by rw [nv_length, nv_length]; omega)) fun q hq => ?_
      walk_at "gg"
      refine ⟨⟨_, q, rfl, ?_⟩, (ex.trans (ExB.new hl)).trans (ExB.new hq)⟩
      rw [upd_same, take_snoc hxs, List.flatten_append, List.flatten_singleton, nv_app]
    · rintro σ H' ⟨⟨v, f, rfl, hf⟩, ex⟩
      rw [List.length_map, hbl, List.take_length] at hf
      walk_at "gg"
      refine z_sortedN hf hp (by omega) fun a ha => ?_
      walk_at "gg"
      refine ⟨rgOk0 (by omega), fun b hb => ?_⟩
      rw [rgV_nv]
      refine z_eqDN (upd_old upd_same hb) upd_same ?_
      exact k _ ((ex.trans (ExB.new ha)).trans (ExB.new hb))

abbrev n_w_bound : List Str := ["_law_lists", "_law_count", "_law_row"]
theorem sc_w_bound : FnScope n_w_bound ["_law_lists", "_law_count"] (defScope s_w_bound) := ⟨rfl, rfl, rfl, by decide +kernel, rfl, by decide +kernel, by decide +kernel⟩
theorem ok_w_bound {P : Program} {w : World} {K : Frg} {mg : Str → Option Value} {base : Heap} (T : Tx K mg) : C8.Cal P w K mg base 1 "_law_bound" sp_w_bound [] := by
  obtain ⟨fd, F⟩ := T.d_w_bound
  have bd : Binds K fd ["_law_lists", "_law_count"] [] := F.bindsN fun _ _ _ _ _ _ us hl => match us, hl with | [_, _], _ => rfl
  refine cal_by F T.g_w_bound bd sc_w_bound ?_ ?_
  · intro vs H Q E h
    match vs, h with
    | [_, _], _ => rfl
  · intro cdv A outer s H vs Q E hr h
    match vs, h with
    | [a0, a1], h =>
    refine ⟨_, (pss_one (ps_ret (pe_callB (k_sum (K := K) rfl rfl) (by rfl) T.sum_ (by decide +kernel) (pa_cons (pe_lc (own := [("_law_row", 2)]) (by rfl) sc_w_bound.nd (kIl (K := K) rfl (pi_list (pv 0))) (blkOk_by (own := [("_law_row", 2)]) (N := n_w_bound) (sc := defScope s_w_bound) (by decide +kernel)) (fun _ _ _ _ _ => (pg_name (i := 2) sc_w_bound.nd rfl (by first | exact Or.inl rfl | exact Or.inr rfl))) (fun _ _ _ _ _ => pts_nil) (fun _ _ _ _ _ => (pe_callB (cr_min2 rfl) (by rfl) T.min_ (by decide +kernel) (pa_cons (pe_callB (k_len (K := K) rfl) (by rfl) T.len_ (by decide +kernel) (pa_cons (pv 2) pa_nil)) (pa_cons (pv 1) pa_nil))))) pa_nil)))), ?_⟩
    rw [show start n_w_bound [a0, a1] = [some a0, some a1, none] from rfl]
    obtain ⟨m, xss, c, rfl, rfl, ⟨bs, h1, h2⟩, hlen, k⟩ := h
    have hl := pr_len h2
    walk_at "gg"
    intro D hD
    refine l_list (K := K) (xs := bs.map V.ref) (fun i H' => H' = upd H D (.lst (nv ((xss.take i).map fun xs => min xs.length c)))) (by simp [nv]) (fun i H' _ e => by rw [e]; exact upd_old h1 hD) (fun i x H' hx e => ?_) (fun H' e => ?_)
    · subst e
      rw [List.getElem?_map] at hx
      obtain ⟨b, hb, rfl⟩ := Option.map_eq_some_iff.mp hx
      obtain ⟨xs, hxs, hr⟩ := pr_get h2 hb
      walk_at "wp"
      walk_at "gg"
      refine ⟨_, upd_same, size_lt ?_, ?_⟩
      · rw [nv_length, List.length_map, List.length_take]; omega
      rw [upd_upd, nv_length, ifmin, take_snoc hxs, List.map_append, nv_app]
      rfl
    · have hx : (List.map V.ref bs).length = xss.length := by rw [List.length_map, hl]
      rw [hx, List.take_length, nv_ints] at e
      have e2 := (congrFun e D).trans upd_same
      walk_at "gg"
      rw [sum_ints]
      exact k _ (by rw [e]; exact ExB.new hD)

abbrev n_w_apart : List Str := ["_law_table", "_law_one", "_law_other"]
theorem sc_w_apart : FnScope n_w_apart ["_law_table", "_law_one", "_law_other"] (defScope s_w_apart) := ⟨rfl, rfl, rfl, by decide +kernel, rfl, by decide +kernel, by decide +kernel⟩
theorem ok_w_apart {P : Program} {w : World} {K : Frg} {mg : Str → Option Value} {base : Heap} (T : Tx K mg) : C8.Cal P w K mg base 1 "_law_apart" sp_w_apart [] := by
  obtain ⟨fd, F⟩ := T.d_w_apart
  have bd : Binds K fd ["_law_table", "_law_one", "_law_other"] [] := F.bindsN fun _ _ _ _ _ _ us hl => match us, hl with | [_, _, _], _ => rfl
  refine cal_by F T.g_w_apart bd sc_w_apart ?_ ?_
  · intro vs H Q E h
    match vs, h with
    | [_, _, _], _ => rfl
  · intro cdv A outer s H vs Q E hr h
    match vs, h with
    | [a0, a1, a2], h =>
    refine ⟨_, (pss_one (ps_ret (pe_and (pe_cmpR op_ne (pv 1) (pv 2) (nomark _)) (pe_and (pe_not (pe_ix (ixl (K := K) rfl) (pe_ix (ixl (K := K) rfl) (pv 0) (pv 1) (fun _ _ => rfl)) (pv 2) (fun _ _ => rfl))) (pe_one (pe_not (pe_ix (ixl (K := K) rfl) (pe_ix (ixl (K := K) rfl) (pv 0) (pv 2) (fun _ _ => rfl)) (pv 1) (fun _ _ => rfl)))))))), ?_⟩
    rw [show start n_w_apart [a0, a1, a2] = [some a0, some a1, some a2] from rfl]
    obtain ⟨p, n, T, i, j, rfl, rfl, rfl, ⟨bs, tb⟩, hi, hj, k⟩ := h
    obtain ⟨b, hb⟩ := get_of_lt (xs := bs) (i := i) (by rw [tb.len]; exact hi)
    obtain ⟨c, hc⟩ := get_of_lt (xs := bs) (i := j) (by rw [tb.len]; exact hj)
    have h0 := tb.at_
    have hr1 := tb.row _ _ hb
    have hr2 := tb.row _ _ hc
    have e1 := at_refs hb
    have e2 := at_refs hc
    have e3 := at_row (T := T) (i := i) hj
    have e4 := at_row (T := T) (i := j) hi
    walk_at "gg"
    have fin : ∀ b : Bool, b = apartB T i j → Q (.bl b) H := fun b e => e ▸ k
    refine z_ifN (fun hne => ?_) (fun he => ?_)
    · walk_at "gg"
      have hne2 : i ≠ j := fun q => hne (by rw [q])
      refine z_ifNB (fun h1 => ?_) (fun h1 => ?_)
      · walk_at "gg"
        exact fin _ (by unfold apartB; simp [hne2, h1])
      · walk_at "gg"
        exact fin _ (by unfold apartB; simp [h1])
    · walk_at "gg"
      exact fin _ (by unfold apartB; simp [Int.ofNat_inj.mp he])

abbrev n_w_is_antichain : List Str := ["_law_table", "_law_row", "_law_k", "_law_other"]
theorem sc_w_is_antichain : FnScope n_w_is_antichain ["_law_table", "_law_row"] (defScope s_w_is_antichain) := ⟨rfl, rfl, rfl, by decide +kernel, rfl, by decide +kernel, by decide +kernel⟩
theorem ok_w_is_antichain {P : Program} {w : World} {K : Frg} {mg : Str → Option Value} {base : Heap} (T : Tx K mg) (k_w_apart : C8.Cal P w K mg base 1 "_law_apart" sp_w_apart []) : C8.Cal P w K mg base 2 "_law_is_antichain" sp_w_is_antichain [] := by
  obtain ⟨fd, F⟩ := T.d_w_is_antichain
  have bd : Binds K fd ["_law_table", "_law_row"] [] := F.bindsN fun _ _ _ _ _ _ us hl => match us, hl with | [_, _], _ => rfl
  refine cal_by F T.g_w_is_antichain bd sc_w_is_antichain ?_ ?_
  · intro vs H Q E h
    match vs, h with
    | [_, _], _ => rfl
  · intro cdv A outer s H vs Q E hr h
    match vs, h with
    | [a0, a1], h =>
    refine ⟨_, (pss_cons (ps_for PassesOwn.never rfl (pi_range1 (by rfl) T.range_ (pa_cons (pe_callB (k_len (K := K) rfl) (by rfl) T.len_ (by decide +kernel) (pa_cons (pv 1) pa_nil)) pa_nil)) (pg_name (i := 2) sc_w_is_antichain.nd rfl (by first | exact Or.inl rfl | exact Or.inr rfl))
  (pss_one (ps_if (pt_not (pt_val (pe_callB (k_all (K := K) rfl rfl) (by rfl) T.all_ (by decide +kernel) (pa_cons (pe_lc (own := [("_law_other", 3)]) (by rfl) sc_w_is_antichain.nd (kIl (K := K) rfl (pi_list (pe_slice (k_sl (K := K) rfl) (pv 1) po_none (po_some (pv 2))))) (blkOk_by (own := [("_law_other", 3)]) (N := n_w_is_antichain) (sc := defScope s_w_is_antichain) (by decide +kernel)) (fun _ _ _ _ _ => (pg_name (i := 3) sc_w_is_antichain.nd rfl (by first | exact Or.inl rfl | exact Or.inr rfl))) (fun _ _ _ _ _ => pts_nil) (fun _ _ _ _ _ => (C8.pe_c k_w_apart hr (by decide) rfl (pa_cons (pv 0) (pa_cons (pe_ix (ixl (K := K) rfl) (pv 1) (pv 2) (fun _ _ => rfl)) (pa_cons (pv 3) pa_nil)))))) pa_nil)))) (pss_one (ps_ret pe_bl)) pss_nil)))
  (pss_one (ps_ret pe_bl))), ?_⟩
    rw [show start n_w_is_antichain [a0, a1] = [some a0, some a1, none, none] from rfl]
    obtain ⟨p, n, T, m, xs, rfl, rfl, tb, hx, hlt, hlen, hc, k⟩ := h
    walk_at "gg"
    refine f_range0 (fun i σ H' => (∃ v, σ = [some (.ref p), some (.ref m), v, none]) ∧ ExB [] H H') ⟨⟨none, rfl⟩, ExB.refl⟩ ?_ ?_
    · rintro i σ H' hi ⟨⟨v, rfl⟩, ex⟩
      rw [nv_length] at hi
      have hx' := ex.nn hx
      have tb' := tb.mono ex
      obtain ⟨a, ha⟩ := get_of_lt (xs := xs) (i := i) (by omega)
      have e1 := at_nv ha
      walk_at "gg"
      intro s hs
      rw [cut_to (by rw [nv_length]; omega), nv_take]
      have hx'' := upd_old (w := .lst (nv (xs.take i))) hx' hs
      walk_at "gg"
      intro D hD
      have hx3 := upd_old (w := .lst []) hx'' hD
      refine l_pureL (p := s) (xs := nv (xs.take i)) (fun _ => true) (fun _ => .bl true) upd_same hD (by rw [nv_length, List.length_take]; omega) (fun j x acc Nx hj hac hN => ?_) ?_
      · obtain ⟨b, hb, rfl⟩ := nv_inv hj
        have hji : j < i := by have := lt_of_get hb; rw [List.length_take] at this; omega
        rw [List.getElem?_take_of_lt hji] at hb
        have hx4 := upd_old (w := .lst acc) hx'' hD
        walk_at "wp"
        walk_at "gg"
        refine ⟨p, n, T, a, b, rfl, rfl, rfl, (tb'.mono (ExB.new hs)).mono (ExB.new hD), hlt _ (mem_of_get ha), hlt _ (mem_of_get hb), ?_⟩
        rw [hc i j a b hji ha hb]
        walk_at "gg"
        exact hN
      · rw [filt_map_tt]
        walk_at "gg"
        rw [all_tt]
        walk_at "gg"
        exact ⟨⟨_, rfl⟩, (ex.trans (ExB.new hs)).trans (ExB.new hD)⟩
    · rintro σ H' ⟨⟨v, rfl⟩, ex⟩
      walk_at "gg"
      exact k _ ex

abbrev n_w_said : List Str := ["_law_actual", "_law_due"]
theorem sc_w_said : FnScope n_w_said ["_law_actual", "_law_due"] (defScope s_w_said) := ⟨rfl, rfl, rfl, by decide +kernel, rfl, by decide +kernel, by decide +kernel⟩
theorem ok_w_said {P : Program} {w : World} {K : Frg} {mg : Str → Option Value} {base : Heap} (T : Tx K mg) : C8.Cal P w K mg base 1 "_law_said" sp_w_said [] := by
  obtain ⟨fd, F⟩ := T.d_w_said
  have bd : Binds K fd ["_law_actual", "_law_due"] [] := F.bindsN fun _ _ _ _ _ _ us hl => match us, hl with | [_, _], _ => rfl
  refine cal_by F T.g_w_said bd sc_w_said ?_ ?_
  · intro vs H Q E h
    match vs, h with
    | [_, _], _ => rfl
  · intro cdv A outer s H vs Q E hr h
    match vs, h with
    | [a0, a1], h =>
    refine ⟨_, (pss_one (ps_ret (pe_and (pe_callB (k_isi (K := K) rfl) (by rfl) T.isinstance_ (by decide +kernel) (pa_cons (pv 0) (pa_cons (pe_bltn (v := .ty "bool") (by rfl) T.bool_ (by decide +kernel) rfl) pa_nil))) (pe_one (pe_cmpR op_eq (pv 0) (pv 1) (nomark _)))))), ?_⟩
    rw [show start n_w_said [a0, a1] = [some a0, some a1] from rfl]
    obtain ⟨rfl, rfl, k⟩ := h
    walk_at "gg"
    simpa using k

abbrev n_parts_all : List Str := ["order", "lists", "found", "row"]
theorem sc_parts_all : FnScope n_parts_all ["order", "lists"] (defScope s_parts_all) := ⟨rfl, rfl, rfl, by decide +kernel, rfl, by decide +kernel, by decide +kernel⟩
theorem ok_parts_all {P : Program} {w : World} {K : Frg} {mg : Str → Option Value} {base : Heap} (T : Tx K mg) : C8.Cal P w K mg base 3 "parts_all" (sp_parts_all K) [] := by
  obtain ⟨fd, F⟩ := T.d_parts_all
  have bd : Binds K fd ["order", "lists"] [] := F.bindsN fun _ _ _ _ _ _ us hl => match us, hl with | [_, _], _ => rfl
  refine cal_by F T.g_parts_all bd sc_parts_all ?_ ?_
  · intro vs H Q E h
    match vs, h with
    | [_, _], _ => rfl
  · intro cdv A outer s H vs Q E hr h
    match vs, h with
    | [a0, a1], h =>
    obtain ⟨fdg, g_size, bind_size⟩ := getter_ok (P := P) (w := w) (base := base) T
    refine ⟨_, (pss_cons (ps_set (i := 2) sc_parts_all.nd rfl (by first | exact Or.inl rfl | exact Or.inr rfl) (pe_lst pa_nil))
  (pss_cons (ps_for PassesOwn.never rfl (kIl (K := K) rfl (pi_list (pv 1))) (pg_name (i := 3) sc_parts_all.nd rfl (by first | exact Or.inl rfl | exact Or.inr rfl))
  (pss_cons (ps_if (pt_cmpR op_eq (pe_callB (k_len (K := K) rfl) (by rfl) T.len_ (by decide +kernel) (pa_cons (pv 3) pa_nil)) pe_int (nomark _)) (pss_one (ps_ret pe_bl)) pss_nil)
  (pss_one (ps_expr (kBm (K := K) rfl (pe_bm PySem.F.plainAttrs_list PySem.F.slot_list_extend PySem.F.type_list_extend mt_extend (pv 2) (pa_cons (pv 3) pa_nil)))))))
  (pss_one (ps_ret (pe_cmpR (k_eqD (K := K) rfl hr.units) (pe_callB (k_sorted (K := K) rfl) (by rfl) T.sorted_ (by decide +kernel) (pa_cons (pv 2) pa_nil)) (pe_listRg rfl rfl T.list_ (prg_1 rfl T.range_ (pe_prop (pv 0) T.clO T.prop g_size (hr.mono (by decide)) bind_size .nil pass0 rfl))) (nomark _)))))), ?_⟩
    rw [show start n_parts_all [a0, a1] = [some a0, some a1, none, none] from rfl]
    obtain ⟨x, n, T, m, xss, rfl, rfl, ho, ⟨bs, h1, h2⟩, hne, hp, k⟩ := h
    have hn := ho.le
    walk_at "gg"
    refine ⟨size_ok (by simp), fun f hf => ?_⟩
    have h1' := upd_old (w := HO.lst []) h1 hf
    walk_at "gg"
    have hpl : xss.flatten.length = n := by rw [hp.length_eq, List.length_range]
    have hbl := pr_len h2
    have hff : f ∉ bs := fun mm => by
      obtain ⟨y, _, q⟩ := pr_mem h2 mm
      rw [hf] at q; cases q
    refine f_list (xs := bs.map V.ref) (fun i σ H' => (∃ v, σ = [some (.ref x), some (.ref m), some (.ref f), v]) ∧ H' f = some (.lst (nv (xss.take i).flatten)) ∧ ExB [] H H') ⟨⟨none, rfl⟩, upd_same, ExB.new hf⟩ (fun i σ H' _ e => e.2.2.nn h1) ?_ ?_
    · rintro i y σ H' hy ⟨⟨v, rfl⟩, hf2, ex⟩
      rw [List.getElem?_map] at hy
      obtain ⟨b, hb, rfl⟩ := Option.map_eq_some_iff.mp hy
      obtain ⟨xs, hxs, hr⟩ := pr_get h2 hb
      have hr' := ex.nn hr
      walk_at "gg"
      refine z_if (fun h0 => ?_) (fun _ => ?_)
      · exact (hne xs (mem_of_get hxs) (List.length_eq_zero_iff.mp (by rw [nv_length] at h0; omega))).elim
      walk_at "gg"
      have hle : (xss.take (i + 1)).flatten.length ≤ n := by
        rw [← hpl]
        exact take_flat_le _ _
      rw [take_snoc hxs, List.flatten_append, List.flatten_singleton, List.length_append] at hle
      refine z_ext hf2 hr' (size_ok (by rw [nv_length, nv_length]; omega)) ?_
      walk_at "gg"
      refine ⟨⟨_, rfl⟩, ?_, ex.free hf⟩
      rw [upd_same, take_snoc hxs, List.flatten_append, List.flatten_singleton, nv_app]
    · rintro σ H' ⟨⟨v, rfl⟩, hf2, ex⟩
      rw [List.length_map, hbl, List.take_length] at hf2
      have ho' := ho.mono ex
      obtain ⟨up, ⟨dx, dn, pr, g1, g2, g3⟩, le⟩ := id ho'
      walk_at "gg"
      refine z_sortedN hf2 hp (by omega) fun a ha => ?_
      have g1' := upd_old (w := .lst (nv (List.range n))) g1 ha
      walk_at "gg"
      refine ⟨rgOk0 (by omega), fun b hb => ?_⟩
      rw [rgV_nv]
      refine z_eqDN (upd_old upd_same hb) upd_same ?_
      exact k _ ((ex.trans (ExB.new ha)).trans (ExB.new hb))

abbrev n_o_below : List Str := ["self", "low", "high"]
theorem sc_o_below : FnScope n_o_below ["self", "low", "high"] (defScope s_o_below) := ⟨rfl, rfl, rfl, by decide +kernel, rfl, by decide +kernel, by decide +kernel⟩
theorem ok_o_below {P : Program} {w : World} {K : Frg} {mg : Str → Option Value} {base : Heap} (T : Tx K mg) : C8.Met P w K mg base 1 (aO K) "below" (sp_o_below K) [] := by
  obtain ⟨fd, F⟩ := T.d_o_below
  have bd : Binds K fd ["self", "low", "high"] [] := F.bindsN fun _ _ _ _ _ _ us hl => match us, hl with | [_, _, _], _ => rfl
  refine met_by F T.clO T.me_below bd sc_o_below ?_ ?_
  · intro vs H Q E h
    match vs, h with
    | [_, _, _], _ => rfl
  · intro cdv A outer s H vs Q E hr h
    match vs, h with
    | [a0, a1, a2], h =>
    refine ⟨_, (pss_one (ps_ret (pe_cmpR op_eq (pe_op op_and (pe_op op_shr (pe_ix (ixl (K := K) rfl) (kFl (K := K) rfl (pe_fld (pv 0) rfl)) (pv 1) (fun _ _ => rfl)) (pv 2)) pe_int) pe_int (nomark _)))), ?_⟩
    rw [show start n_o_below [a0, a1, a2] = [some a0, some a1, some a2] from rfl]
    obtain ⟨x, n, T, i, j, rfl, rfl, rfl, ⟨up, ⟨dx, dn, pr, h1, h2, h3⟩, le⟩, hi, hj, k⟩ := h
    have hm : ((List.range n).map (maskRow n T))[i]? = some (maskRow n T i) := by rw [List.getElem?_map, rng_get hi]; rfl
    have ha := at_nv hm
    walk_at "gg"
    rw [bit_and, maskRow_bit, decide_eq_true hj, Bool.true_and]
    exact k

abbrev n_is_chain : List Str := ["order", "members", "k"]
theorem sc_is_chain : FnScope n_is_chain ["order", "members"] (defScope s_is_chain) := ⟨rfl, rfl, rfl, by decide +kernel, rfl, by decide +kernel, by decide +kernel⟩
theorem ok_is_chain {P : Program} {w : World} {K : Frg} {mg : Str → Option Value} {base : Heap} (T : Tx K mg) (k_o_below : C8.Met P w K mg base 1 (aO K) "below" (sp_o_below K) []) : C8.Cal P w K mg base 2 "is_chain" (sp_is_chain K) [] := by
  obtain ⟨fd, F⟩ := T.d_is_chain
  have bd : Binds K fd ["order", "members"] [] := F.bindsN fun _ _ _ _ _ _ us hl => match us, hl with | [_, _], _ => rfl
  refine cal_by F T.g_is_chain bd sc_is_chain ?_ ?_
  · intro vs H Q E h
    match vs, h with
    | [_, _], _ => rfl
  · intro cdv A outer s H vs Q E hr h
    match vs, h with
    | [a0, a1], h =>
    refine ⟨_, (pss_one (ps_ret (pe_callB (k_all (K := K) rfl rfl) (by rfl) T.all_ (by decide +kernel) (pa_cons (pe_lc (own := [("k", 2)]) (by rfl) sc_is_chain.nd (pi_range1 (by rfl) T.range_ (pa_cons (pe_op op_sub (pe_callB (k_len (K := K) rfl) (by rfl) T.len_ (by decide +kernel) (pa_cons (pv 1) pa_nil)) pe_int) pa_nil)) (blkOk_by (own := [("k", 2)]) (N := n_is_chain) (sc := defScope s_is_chain) (by decide +kernel)) (fun _ _ _ _ _ => (pg_name (i := 2) sc_is_chain.nd rfl (by first | exact Or.inl rfl | exact Or.inr rfl))) (fun _ _ _ _ _ => pts_nil) (fun _ _ _ _ _ => (C8.pe_mt k_o_below hr (by decide) (pv 0) (pa_cons (pe_ix (ixl (K := K) rfl) (pv 1) (pv 2) (fun _ _ => rfl)) (pa_cons (pe_ix (ixl (K := K) rfl) (pv 1) (pe_op op_add (pv 2) pe_int) (fun _ _ => rfl)) pa_nil))))) pa_nil)))), ?_⟩
    rw [show start n_is_chain [a0, a1] = [some a0, some a1, none] from rfl]
    obtain ⟨x, n, T, m, xs, rfl, rfl, ho, hx, hlt, hlen, hc, k⟩ := h
    obtain ⟨up, ⟨dx, dn, pr, h1, h2, h3⟩, le⟩ := id ho
    walk_at "gg"
    intro D hD
    have hN : ((nv xs).length - 1 : Int).toNat = xs.length - 1 := by rw [nv_length]; omega
    rw [hN]
    refine l_pure0 (fun i => .bl true) (by omega) (fun i acc Nx hi hac hN => ?_) ?_
    · obtain ⟨a, ha⟩ := get_of_lt (xs := xs) (i := i) (by omega)
      obtain ⟨b, hb⟩ := get_of_lt (xs := xs) (i := i + 1) (by omega)
      have e1 := at_nv ha
      have e2 := at_nv hb
      rw [Int.natCast_add] at e2
      walk_at "wp"
      walk_at "gg"
      refine ⟨x, n, T, a, b, rfl, rfl, rfl, ?_, hlt _ (mem_of_get ha), hlt _ (mem_of_get hb), ?_⟩
      · exact ho.mono (ExB.new hD)
      · rw [hc i a b ha hb]
        walk_at "gg"
        exact hN
    · walk_at "gg"
      rw [bls_map (fun _ => true)]
      walk_at "gg"
      rw [all_range_true (fun _ _ => rfl)]
      exact k _ (ExB.new hD)

abbrev n_bound_of : List Str := ["lists", "count", "row"]
theorem sc_bound_of : FnScope n_bound_of ["lists", "count"] (defScope s_bound_of) := ⟨rfl, rfl, rfl, by decide +kernel, rfl, by decide +kernel, by decide +kernel⟩
theorem ok_bound_of {P : Program} {w : World} {K : Frg} {mg : Str → Option Value} {base : Heap} (T : Tx K mg) : C8.Cal P w K mg base 1 "bound_of" sp_bound_of [] := by
  obtain ⟨fd, F⟩ := T.d_bound_of
  have bd : Binds K fd ["lists", "count"] [] := F.bindsN fun _ _ _ _ _ _ us hl => match us, hl with | [_, _], _ => rfl
  refine cal_by F T.g_bound_of bd sc_bound_of ?_ ?_
  · intro vs H Q E h
    match vs, h with
    | [_, _], _ => rfl
  · intro cdv A outer s H vs Q E hr h
    match vs, h with
    | [a0, a1], h =>
    refine ⟨_, (pss_one (ps_ret (pe_callB (k_sum (K := K) rfl rfl) (by rfl) T.sum_ (by decide +kernel) (pa_cons (pe_lc (own := [("row", 2)]) (by rfl) sc_bound_of.nd (kIl (K := K) rfl (pi_list (pv 0))) (blkOk_by (own := [("row", 2)]) (N := n_bound_of) (sc := defScope s_bound_of) (by decide +kernel)) (fun _ _ _ _ _ => (pg_name (i := 2) sc_bound_of.nd rfl (by first | exact Or.inl rfl | exact Or.inr rfl))) (fun _ _ _ _ _ => pts_nil) (fun _ _ _ _ _ => (pe_callB (cr_min2 rfl) (by rfl) T.min_ (by decide +kernel) (pa_cons (pe_callB (k_len (K := K) rfl) (by rfl) T.len_ (by decide +kernel) (pa_cons (pv 2) pa_nil)) (pa_cons (pv 1) pa_nil))))) pa_nil)))), ?_⟩
    rw [show start n_bound_of [a0, a1] = [some a0, some a1, none] from rfl]
    obtain ⟨m, xss, c, rfl, rfl, ⟨bs, h1, h2⟩, hlen, k⟩ := h
    have hl := pr_len h2
    walk_at "gg"
    intro D hD
    refine l_list (K := K) (xs := bs.map V.ref) (fun i H' => H' = upd H D (.lst (nv ((xss.take i).map fun xs => min xs.length c)))) (by simp [nv]) (fun i H' _ e => by rw [e]; exact upd_old h1 hD) (fun i x H' hx e => ?_) (fun H' e => ?_)
    · subst e
      rw [List.getElem?_map] at hx
      obtain ⟨b, hb, rfl⟩ := Option.map_eq_some_iff.mp hx
      obtain ⟨xs, hxs, hr⟩ := pr_get h2 hb
      walk_at "wp"
      walk_at "gg"
      refine ⟨_, upd_same, size_lt ?_, ?_⟩
      · rw [nv_length, List.length_map, List.length_take]; omega
      rw [upd_upd, nv_length, ifmin, take_snoc hxs, List.map_append, nv_app]
      rfl
    · have hx : (List.map V.ref bs).length = xss.length := by rw [List.length_map, hl]
      rw [hx, List.take_length, nv_ints] at e
      have e2 := (congrFun e D).trans upd_same
      walk_at "gg"
      rw [sum_ints]
      exact k _ (by rw [e]; exact ExB.new hD)

abbrev n_o_apart : List Str := ["self", "one", "other"]
theorem sc_o_apart : FnScope n_o_apart ["self", "one", "other"] (defScope s_o_apart) := ⟨rfl, rfl, rfl, by decide +kernel, rfl, by decide +kernel, by decide +kernel⟩
theorem ok_o_apart {P : Program} {w : World} {K : Frg} {mg : Str → Option Value} {base : Heap} (T : Tx K mg) (k_o_below : C8.Met P w K mg base 1 (aO K) "below" (sp_o_below K) []) : C8.Met P w K mg base 2 (aO K) "apart" (sp_o_apart K) [] := by
  obtain ⟨fd, F⟩ := T.d_o_apart
  have bd : Binds K fd ["self", "one", "other"] [] := F.bindsN fun _ _ _ _ _ _ us hl => match us, hl with | [_, _, _], _ => rfl
  refine met_by F T.clO T.me_apart bd sc_o_apart ?_ ?_
  · intro vs H Q E h
    match vs, h with
    | [_, _, _], _ => rfl
  · intro cdv A outer s H vs Q E hr h
    match vs, h with
    | [a0, a1, a2], h =>
    refine ⟨_, (pss_one (ps_ret (pe_and (pe_cmpR op_ne (pv 1) (pv 2) (nomark _)) (pe_and (pe_not (C8.pe_mt k_o_below hr (by decide) (pv 0) (pa_cons (pv 1) (pa_cons (pv 2) pa_nil)))) (pe_one (pe_not (C8.pe_mt k_o_below hr (by decide) (pv 0) (pa_cons (pv 2) (pa_cons (pv 1) pa_nil))))))))), ?_⟩
    rw [show start n_o_apart [a0, a1, a2] = [some a0, some a1, some a2] from rfl]
    obtain ⟨x, n, T, i, j, rfl, rfl, rfl, ho, hi, hj, k⟩ := h
    obtain ⟨up, ⟨dx, dn, pr, h1, h2, h3⟩, le⟩ := id ho
    walk_at "gg"
    have fin : ∀ b : Bool, b = apartB T i j → Q (.bl b) H := fun b e => e ▸ k
    refine z_ifN (fun hne => ?_) (fun he => ?_)
    · walk_at "gg"
      have hne2 : i ≠ j := fun q => hne (by rw [q])
      refine ⟨x, n, T, i, j, rfl, rfl, rfl, ho, hi, hj, ?_⟩
      walk_at "gg"
      refine z_ifNB (fun h1 => ?_) (fun h1 => ?_)
      · walk_at "gg"
        refine ⟨x, n, T, j, i, rfl, rfl, rfl, ho, hj, hi, ?_⟩
        walk_at "gg"
        exact fin _ (by unfold apartB; simp [hne2, h1])
      · walk_at "gg"
        exact fin _ (by unfold apartB; simp [h1])
    · walk_at "gg"
      exact fin _ (by unfold apartB; simp [Int.ofNat_inj.mp he])

abbrev n_is_antichain : List Str := ["order", "members", "size", "k", "j"]
theorem sc_is_antichain : FnScope n_is_antichain ["order", "members"] (defScope s_is_antichain) := ⟨rfl, rfl, rfl, by decide +kernel, rfl, by decide +kernel, by decide +kernel⟩
theorem ok_is_antichain {P : Program} {w : World} {K : Frg} {mg : Str → Option Value} {base : Heap} (T : Tx K mg) (k_o_apart : C8.Met P w K mg base 2 (aO K) "apart" (sp_o_apart K) []) : C8.Cal P w K mg base 3 "is_antichain" (sp_is_antichain K) [] := by
  obtain ⟨fd, F⟩ := T.d_is_antichain
  have bd : Binds K fd ["order", "members"] [] := F.bindsN fun _ _ _ _ _ _ us hl => match us, hl with | [_, _], _ => rfl
  refine cal_by F T.g_is_antichain bd sc_is_antichain ?_ ?_
  · intro vs H Q E h
    match vs, h with
    | [_, _], _ => rfl
  · intro cdv A outer s H vs Q E hr h
    match vs, h with
    | [a0, a1], h =>
    refine ⟨_, (pss_cons (ps_set (i := 2) sc_is_antichain.nd rfl (by first | exact Or.inl rfl | exact Or.inr rfl) (pe_callB (k_len (K := K) rfl) (by rfl) T.len_ (by decide +kernel) (pa_cons (pv 1) pa_nil)))
  (pss_one (ps_ret (pe_callB (k_all (K := K) rfl rfl) (by rfl) T.all_ (by decide +kernel) (pa_cons (pe_lc2 (own := [("k", 3), ("j", 4)]) (vs1 := [4]) (by rfl) sc_is_antichain.nd (pi_range1 (by rfl) T.range_ (pa_cons (pv 2) pa_nil)) (blkOk_by (own := [("k", 3), ("j", 4)]) (N := n_is_antichain) (sc := defScope s_is_antichain) (by decide +kernel)) (by decide) (fun _ _ _ _ _ => (pg_name (i := 3) sc_is_antichain.nd rfl (by first | exact Or.inl rfl | exact Or.inr rfl))) (fun _ _ _ _ _ => pts_nil) (fun _ _ _ _ _ => (pi_range1 (by rfl) T.range_ (pa_cons (pv 3) pa_nil))) (fun _ _ _ _ _ => (pg_name (i := 4) sc_is_antichain.nd rfl (by first | exact Or.inl rfl | exact Or.inr rfl))) (fun _ _ _ _ _ => pts_nil) (fun _ _ _ _ _ => (C8.pe_mt k_o_apart hr (by decide) (pv 0) (pa_cons (pe_ix (ixl (K := K) rfl) (pv 1) (pv 3) (fun _ _ => rfl)) (pa_cons (pe_ix (ixl (K := K) rfl) (pv 1) (pv 4) (fun _ _ => rfl)) pa_nil))))) pa_nil))))), ?_⟩
    rw [show start n_is_antichain [a0, a1] = [some a0, some a1, none, none, none] from rfl]
    obtain ⟨x, n, T, m, xs, rfl, rfl, ho, hx, hlt, hlen, hc, k⟩ := h
    obtain ⟨up, ⟨dx, dn, pr, g1, g2, g3⟩, le⟩ := id ho
    walk_at "gg"
    intro D hD
    rw [nv_length]
    refine lo_range (fun i H' => ∃ acc : List Bool, H' = upd H D (.lst (acc.map V.bl)) ∧ acc.all id = true ∧ acc.length ≤ i * 40) ⟨[], rfl, rfl, by simp⟩ (fun i H' hi ⟨acc, e, ha, hl⟩ => ?_) (fun H' ⟨acc, e, ha, hl⟩ => ?_)
    · subst e
      walk_at "wp"
      walk_at "gg"
      refine li_range (fun j H' => ∃ acc : List Bool, H' = upd H D (.lst (acc.map V.bl)) ∧ acc.all id = true ∧ acc.length ≤ i * 40 + j) ⟨acc, rfl, ha, by omega⟩ (fun j H' hj ⟨acc, e, ha, hl⟩ => ?_) (fun H' ⟨acc, e, ha, hl⟩ => ⟨acc, e, ha, by omega⟩)
      subst e
      obtain ⟨a, h1⟩ := get_of_lt (xs := xs) (i := i) (by omega)
      obtain ⟨b, h2⟩ := get_of_lt (xs := xs) (i := j) (by omega)
      have e1 := at_nv h1
      have e2 := at_nv h2
      walk_at "wp"
      walk_at "gg"
      refine ⟨x, n, T, a, b, rfl, rfl, rfl, ho.mono (ExB.new hD), hlt _ (mem_of_get h1), hlt _ (mem_of_get h2), ?_⟩
      rw [hc i j a b hj h1 h2]
      walk_at "gg"
      refine ⟨_, upd_same, size_lt ?_, acc ++ [true], ?_, ?_, ?_⟩
      · rw [List.length_map]; have : i * 40 ≤ 40 * 40 := Nat.mul_le_mul_right _ (by omega); omega
      · rw [upd_upd, List.map_append]; rfl
      · rw [List.all_append, ha]; rfl
      · rw [List.length_append, List.length_singleton]; omega
    · subst e
      walk_at "gg"
      rw [ha]
      exact k _ (ExB.new hD)

abbrev n_shows_chain_cover : List Str := ["order", "count", "chains", "sets", "found", "chain", "row"]
theorem sc_shows_chain_cover : FnScope n_shows_chain_cover ["order", "count", "chains", "sets"] (defScope s_shows_chain_cover) := ⟨rfl, rfl, rfl, by decide +kernel, rfl, by decide +kernel, by decide +kernel⟩
theorem ok_shows_chain_cover {P : Program} {w : World} {K : Frg} {mg : Str → Option Value} {base : Heap} (T : Tx K mg) (k_parts_all : C8.Cal P w K mg base 3 "parts_all" (sp_parts_all K) []) (k_is_chain : C8.Cal P w K mg base 2 "is_chain" (sp_is_chain K) []) (k_bound_of : C8.Cal P w K mg base 1 "bound_of" sp_bound_of []) (k_is_antichain : C8.Cal P w K mg base 3 "is_antichain" (sp_is_antichain K) []) : C8.Cal P w K mg base 4 "shows_chain_cover" (sp_shows_chain_cover K) [] := by
  obtain ⟨fd, F⟩ := T.d_shows_chain_cover
  have bd : Binds K fd ["order", "count", "chains", "sets"] [] := F.bindsN fun _ _ _ _ _ _ us hl => match us, hl with | [_, _, _, _], _ => rfl
  refine cal_by F T.g_shows_chain_cover bd sc_shows_chain_cover ?_ ?_
  · intro vs H Q E h
    match vs, h with
    | [_, _, _, _], _ => rfl
  · intro cdv A outer s H vs Q E hr h
    match vs, h with
    | [a0, a1, a2, a3], h =>
    refine ⟨_, (pss_cons (ps_if (PW.pt (pw_or (pt_cmpR op_gt (pe_callB (k_len (K := K) rfl) (by rfl) T.len_ (by decide +kernel) (pa_cons (pv 2) pa_nil)) (pv 1) (nomark _)) (pw_or1 (pt_not (pt_val (C8.pe_c k_parts_all hr (by decide) rfl (pa_cons (pv 0) (pa_cons (pv 3) pa_nil)))))))) (pss_one (ps_ret pe_bl)) pss_nil)
  (pss_cons (ps_set (i := 4) sc_shows_chain_cover.nd rfl (by first | exact Or.inl rfl | exact Or.inr rfl) (pe_lst pa_nil))
  (pss_cons (ps_for PassesOwn.never rfl (kIl (K := K) rfl (pi_list (pv 2))) (pg_name (i := 5) sc_shows_chain_cover.nd rfl (by first | exact Or.inl rfl | exact Or.inr rfl))
  (pss_one (ps_expr (kBm (K := K) rfl (pe_bm PySem.F.plainAttrs_list PySem.F.slot_list_extend PySem.F.type_list_extend mt_extend (pv 4) (pa_cons (pv 5) pa_nil))))))
  (pss_cons (ps_if (PW.pt (pw_or (pt_cmpR op_lt (kLs (K := K) rfl (RZ.pe_lenSetI rfl T.len_ rfl T.set_ (pv 4))) (pe_callB (k_len (K := K) rfl) (by rfl) T.len_ (by decide +kernel) (pa_cons (pv 4) pa_nil)) (nomark _)) (pw_or1 (pt_not (pt_val (pe_callB (k_all (K := K) rfl rfl) (by rfl) T.all_ (by decide +kernel) (pa_cons (pe_lc (own := [("chain", 5)]) (by rfl) sc_shows_chain_cover.nd (kIl (K := K) rfl (pi_list (pv 2))) (blkOk_by (own := [("chain", 5)]) (N := n_shows_chain_cover) (sc := defScope s_shows_chain_cover) (by decide +kernel)) (fun _ _ _ _ _ => (pg_name (i := 5) sc_shows_chain_cover.nd rfl (by first | exact Or.inl rfl | exact Or.inr rfl))) (fun _ _ _ _ _ => pts_nil) (fun _ _ _ _ _ => (C8.pe_c k_is_chain hr (by decide) rfl (pa_cons (pv 0) (pa_cons (pv 5) pa_nil))))) pa_nil))))))) (pss_one (ps_ret pe_bl)) pss_nil)
  (pss_one (ps_ret (pe_and (pe_callB (k_all (K := K) rfl rfl) (by rfl) T.all_ (by decide +kernel) (pa_cons (pe_lc (own := [("row", 6)]) (by rfl) sc_shows_chain_cover.nd (kIl (K := K) rfl (pi_list (pv 3))) (blkOk_by (own := [("row", 6)]) (N := n_shows_chain_cover) (sc := defScope s_shows_chain_cover) (by decide +kernel)) (fun _ _ _ _ _ => (pg_name (i := 6) sc_shows_chain_cover.nd rfl (by first | exact Or.inl rfl | exact Or.inr rfl))) (fun _ _ _ _ _ => pts_nil) (fun _ _ _ _ _ => (C8.pe_c k_is_antichain hr (by decide) rfl (pa_cons (pv 0) (pa_cons (pv 6) pa_nil))))) pa_nil)) (pe_one (pe_cmpR op_eq (C8.pe_c k_bound_of hr (by decide) rfl (pa_cons (pv 3) (pa_cons (pv 1) pa_nil))) (pe_callB (k_len (K := K) rfl) (by rfl) T.len_ (by decide +kernel) (pa_cons (pv 4) pa_nil)) (nomark _)))))))))), ?_⟩
    rw [show start n_shows_chain_cover [a0, a1, a2, a3] = [some a0, some a1, some a2, some a3, none, none, none] from rfl]
    obtain ⟨x, n, T, c, num, pc, cs, ps, ss, rfl, rfl, rfl, rfl, ho, ⟨cb, hc1, hc2⟩, hs, cv, k⟩ := h
    have hn := ho.le
    have hcl := pr_len hc2
    have hcf := cv.few
    have hnum : num ≤ n := by
      rw [← cv.cnt]; exact nodup_le cv.nd cv.lt
    have hcn : cs.length ≤ n := by
      have : ∀ xs : List (List Nat), (∀ x ∈ xs, x ≠ []) → xs.length ≤ xs.flatten.length := by
        intro xs
        induction xs with
        | nil => intro _; simp
        | cons a r ih =>
          intro h
          have h1 := ih (fun x hx => h x (by simp [hx]))
          have h2 : 0 < a.length := List.length_pos_iff.mpr (h a (by simp))
          rw [List.flatten_cons, List.length_append, List.length_cons]; omega
      have := this cs cv.cne
      rw [cv.cnt] at this; omega
    have hcr : ∀ {i : Nat} {xs : List Nat}, cs[i]? = some xs → xs.length ≤ n := fun {i xs} h => by
      have h1 := List.length_flatten (L := cs)
      have : (cs.take (i + 1)).flatten.length ≤ cs.flatten.length := take_flat_le _ _
      rw [take_snoc h, List.flatten_append, List.flatten_singleton, List.length_append, cv.cnt] at this
      omega
    walk_at "gg"
    refine z_if (fun q => absurd q (by rw [List.length_map]; omega)) (fun _ => ?_)
    walk_at "gg"
    refine ⟨x, n, T, ps, ss, rfl, rfl, ho, hs, cv.sne, cv.part, fun H1 ex1 => ?_⟩
    walk_at "gg"
    refine ⟨size_ok (by simp), fun f hf => ?_⟩
    have hc1' := (ex1.trans (ExB.new (o := .lst []) hf)).nn hc1
    have hf0 := ex1.fresh hf (by simp)
    walk_at "gg"
    refine f_list (xs := cb.map V.ref) (fun i σ H' => (∃ v w, σ = [some (.ref x), some (.int (c : Nat)), some (.ref pc), some (.ref ps), some (.ref f), v, w]) ∧ H' f = some (.lst (nv (cs.take i).flatten)) ∧ ExB [] H H') ⟨⟨_, _, rfl⟩, upd_same, ex1.trans (ExB.new hf)⟩ (fun i σ H' _ e => e.2.2.nn hc1) ?_ ?_
    · rintro i y σ H' hy ⟨⟨v, w, rfl⟩, hf2, ex⟩
      rw [List.getElem?_map] at hy
      obtain ⟨b, hb, rfl⟩ := Option.map_eq_some_iff.mp hy
      obtain ⟨xs, hxs, hr⟩ := pr_get hc2 hb
      have hr' := ex.nn hr
      walk_at "gg"
      have hle : (cs.take (i + 1)).flatten.length ≤ n := by
        have := take_flat_le cs (i + 1)
        rw [cv.cnt] at this; omega
      rw [take_snoc hxs, List.flatten_append, List.flatten_singleton, List.length_append] at hle
      refine z_ext hf2 hr' (size_ok (by rw [nv_length, nv_length]; omega)) ?_
      walk_at "gg"
      refine ⟨⟨_, _, rfl⟩, ?_, ex.free hf0⟩
      rw [upd_same, take_snoc hxs, List.flatten_append, List.flatten_singleton, nv_app]
    · rintro σ H2 ⟨⟨v, w, rfl⟩, hf2, ex⟩
      rw [List.length_map, hcl, List.take_length] at hf2
      walk_at "gg"
      have hf3 := hf2
      rw [nv_ints] at hf3
      refine ⟨.ref f, rfl, ?_⟩
      refine ⟨f, cs.flatten.map fun (m : Nat) => (m : Int), rfl, SqL.of hf3, ?_, ?_, ?_⟩
      · exact List.Pairwise.map _ (fun a b h q => h (by omega)) cv.nd
      · rw [List.length_map, cv.cnt]; omega
      walk_at "gg"
      refine z_if (fun q => absurd q (by simp only [List.length_map, nv_length]; omega)) (fun _ => ?_)
      have hc2' := ex.nn hc1
      walk_at "gg"
      intro A hA
      refine l_trueL hc2' hA (by omega) (fun i b acc H' Nx hb ex2 hacc hal hN => ?_) (fun H3 ex3 hA3 => ?_)
      · obtain ⟨xs, hxs, hr⟩ := pr_get hc2 hb
        have hr' := ex2.nn (ex.nn hr)
        walk_at "wp"
        walk_at "gg"
        refine ⟨x, n, T, b, xs, rfl, rfl, ho.mono (ex.trans ex2), hr', fun y hy => cv.lt y (List.mem_flatten.mpr ⟨xs, mem_of_get hxs, hy⟩), by have := hcr hxs; omega, cv.ch xs (mem_of_get hxs), fun H4 ex4 => ?_⟩
        exact ⟨acc, ex4.nn hacc, size_lt (by have := lt_of_get hb; omega), hN H4 ex4⟩
      · walk_at "gg"
        rw [all_tt]
        walk_at "gg"
        obtain ⟨sb, hs1, hs2⟩ := hs
        have hsl := pr_len hs2
        have hs1' := (ex.trans ex3).nn hs1
        have hsf : ss.flatten.length = n := by rw [cv.part.length_eq, List.length_range]
        have hsn : ss.length ≤ n := by
          have : ∀ xs : List (List Nat), (∀ x ∈ xs, x ≠ []) → xs.length ≤ xs.flatten.length := by
            intro xs
            induction xs with
            | nil => intro _; simp
            | cons a r ih =>
              intro h
              have h1 := ih (fun x hx => h x (by simp [hx]))
              have h2 : 0 < a.length := List.length_pos_iff.mpr (h a (by simp))
              rw [List.flatten_cons, List.length_append, List.length_cons]; omega
          have := this ss cv.sne
          omega
        walk_at "gg"
        intro B hB
        refine l_trueL hs1' hB (by omega) (fun i b acc H' Nx hb ex2 hacc hal hN => ?_) (fun H4 ex4 hA4 => ?_)
        · obtain ⟨xs, hxs, hr⟩ := pr_get hs2 hb
          have hr' := ex2.nn ((ex.trans ex3).nn hr)
          have hle : xs.length ≤ n := by
            have := take_flat_le ss (i + 1)
            rw [take_snoc hxs, List.flatten_append, List.flatten_singleton, List.length_append] at this
            omega
          walk_at "wp"
          walk_at "gg"
          refine ⟨x, n, T, b, xs, rfl, rfl, ho.mono ((ex.trans ex3).trans ex2), hr', fun y hy => List.mem_range.mp (cv.part.mem_iff.mp (List.mem_flatten.mpr ⟨xs, mem_of_get hxs, hy⟩)), by omega, cv.an xs (mem_of_get hxs), fun H4 ex4 => ?_⟩
          exact ⟨acc, ex4.nn hacc, size_lt (by have := lt_of_get hb; omega), hN H4 ex4⟩
        · walk_at "gg"
          rw [all_tt]
          walk_at "gg"
          have ex5 := (ex.trans ex3).trans ex4
          refine ⟨ps, ss, c, rfl, rfl, ⟨sb, ex5.nn hs1, pr_mono (fun b xs k => ex5.nn k) hs2⟩, by omega, fun H5 ex6 => ?_⟩
          have hf5 := (ex3.trans (ex4.trans ex6)).nn hf2
          walk_at "gg"
          rw [nv_length, cv.cnt, cv.bd, decide_eq_true rfl]
          exact k _ (ex5.trans ex6)

abbrev n_w_same_table : List Str := ["_law_order", "_law_table"]
theorem sc_w_same_table : FnScope n_w_same_table ["_law_order", "_law_table"] (defScope s_w_same_table) := ⟨rfl, rfl, rfl, by decide +kernel, rfl, by decide +kernel, by decide +kernel⟩
theorem ok_w_same_table {P : Program} {w : World} {K : Frg} {mg : Str → Option Value} {base : Heap} (T : Tx K mg) (k_o_pairs : C8.Met P w K mg base 1 (aO K) "pairs" (sp_o_pairs K) []) (k_w_pairs : C8.Cal P w K mg base 1 "_law_pairs" sp_w_pairs []) : CalG P w K mg base 3 "_law_same_table" (sp_w_same_table K) := by
  obtain ⟨fd, F⟩ := T.d_w_same_table
  have bd : Binds K fd ["_law_order", "_law_table"] [] := F.bindsN fun _ _ _ _ _ _ us hl => match us, hl with | [_, _], _ => rfl
  refine ⟨_, fd, ["_law_order", "_law_table"], fnG_by F sc_w_same_table ?_ ?_, T.g_w_same_table, F.kp, bd⟩
  · intro vs H Q E h
    match vs, h with
    | [_, _], _ => rfl
  · intro cdv A outer s H vs Q E hgd hr h
    match vs, h with
    | [a0, a1], h =>
    obtain ⟨fdg, g_size, bind_size⟩ := getter_ok (P := P) (w := w) (base := base) T
    refine ⟨_, (pss_one (ps_ret (pe_and (pe_cmpR op_eq (pe_prop (pv 0) T.clO T.prop g_size (hr.mono (by decide)) bind_size .nil pass0 rfl) (pe_callB (k_len (K := K) rfl) (by rfl) T.len_ (by decide +kernel) (pa_cons (pv 1) pa_nil)) (nomark _)) (pe_one (pe_cmpR op_eq (pe_callB (call_reprP hgd (Nat.lt_of_succ_lt (room65 hr)) K) (by rfl) T.repr_ (by decide +kernel) (pa_cons (C8.pe_mt0 k_o_pairs hr (by decide) (pv 0)) pa_nil)) (pe_callB (call_reprP hgd (Nat.lt_of_succ_lt (room65 hr)) K) (by rfl) T.repr_ (by decide +kernel) (pa_cons (C8.pe_c k_w_pairs hr (by decide) rfl (pa_cons (pv 1) pa_nil)) pa_nil)) (nomark _)))))), ?_⟩
    rw [show start n_w_same_table [a0, a1] = [some a0, some a1] from rfl]
    obtain ⟨x, p, n, U, W, rfl, rfl, ho, tb, he, k⟩ := h
    have hn := ho.le
    obtain ⟨up, ⟨dx, dn, pr, h1, h2, h3⟩, le⟩ := id ho
    obtain ⟨bs, tb1⟩ := id tb
    have tbl := tb1.at_
    walk_at "gg"
    rw [List.length_map, tb1.len, decide_eq_true rfl]
    walk_at "gg"
    refine ⟨x, n, U, rfl, ho, fun l H1 hl ex1 hpl => ?_⟩
    have hp2000 := pairsOf_len (n := n) (T := U) hn
    have hlt : ∀ q ∈ pairsOf n U, q.1 < 100 ∧ q.2 < 100 := fun q hq => by
      obtain ⟨a, b, _⟩ := mem_pairsOf.mp (show (q.1, q.2) ∈ pairsOf n U from hq)
      omega
    refine ⟨l, _, rfl, hpl, hp2000, hlt, ?_⟩
    walk_at "gg"
    refine ⟨p, n, W, rfl, hn, tb.mono ex1, fun l2 H2 hl2 ex2 hpl2 => ?_⟩
    have e : pairsOf n W = pairsOf n U := by
      unfold pairsOf
      rw [List.flatMap_def, List.flatMap_def]
      congr 1
      exact List.map_congr_left fun i hi => by rw [List.filter_congr (fun j hj => (he i j (List.mem_range.mp hi) (List.mem_range.mp hj)).symm)]
    rw [e] at hpl2
    refine ⟨l2, _, rfl, hpl2, hp2000, hlt, ?_⟩
    walk_at "gg"
    rw [decide_eq_true rfl]
    exact k _ (ex1.trans ex2)

abbrev n_law : List Str := ["_law_script", "_law_stream_here", "_law_table", "_law_size", "_law_order", "_law_count", "_law_told_here", "_law_members", "_law_row", "_law_again", "_law_own", "_law_many", "_law_number", "_law_chains", "_law_sets", "_law_one", "_law_chain"]
theorem sc_law : FnScope n_law ["_law_script"] (defScope s_law) := ⟨rfl, rfl, rfl, by decide +kernel, rfl, by decide +kernel, by decide +kernel⟩
theorem ok_law {P : Program} {w : World} {K : Frg} {mg : Str → Option Value} {base : Heap} (T : Tx K mg) (k_w_stream : C8.Cal P w K mg base 1 "_law_stream" sp_w_stream []) (k_w_cell : C8.Cal P w K mg base 1 "_law_cell" (sp_w_cell K) []) (k_w_any_order : C8.Cal P w K mg base 44 "_law_any_order" sp_w_any_order []) (k_w_draw : C8.Cal P w K mg base 1 "_law_draw" sp_w_draw []) (k_w_closed : C8.Cal P w K mg base 1 "_law_closed" sp_w_closed []) (k_w_any_pairs : C8.Cal P w K mg base 3 "_law_any_pairs" sp_w_any_pairs []) (k_o_init : C8.Mak P w K mg base 3 "Order" (aO K) (sp_o_init K) []) (k_w_told : C8.Cal P w K mg base 3 "_law_told" sp_w_told []) (k_chain_cover : C8.Cal P w K mg base 5 "chain_cover" (sp_chain_cover K) []) (k_w_is_integer : C8.Cal P w K mg base 1 "_law_is_integer" sp_w_is_integer []) (k_w_are_lists : C8.Cal P w K mg base 3 "_law_are_lists" sp_w_are_lists []) (k_w_is_chain : C8.Cal P w K mg base 1 "_law_is_chain" sp_w_is_chain []) (k_w_parts_all : C8.Cal P w K mg base 1 "_law_parts_all" sp_w_parts_all []) (k_w_bound : C8.Cal P w K mg base 1 "_law_bound" sp_w_bound []) (k_w_is_antichain : C8.Cal P w K mg base 2 "_law_is_antichain" sp_w_is_antichain []) (k_w_said : C8.Cal P w K mg base 1 "_law_said" sp_w_said []) (k_shows_chain_cover : C8.Cal P w K mg base 4 "shows_chain_cover" (sp_shows_chain_cover K) []) (k_w_same_table : CalG P w K mg base 3 "_law_same_table" (sp_w_same_table K)) {fd : FuncData} (F : FunD K "law" "law" (defArgs s_law) (defBody s_law) (defScope s_law) [] [] (He.ga K "law") fd) : FnG P w K mg base 45 (He.ga K "law") fd ["_law_script"] (sp_law K) := by
  refine fnG_by F sc_law ?_ ?_
  · intro vs H Q E h
    match vs, h with
    | [_], _ => rfl
  · intro cdv A outer s H vs Q E hgd hr h
    match vs, h with
    | [a0], h =>
    refine ⟨_, (pss_cons (ps_set (i := 1) sc_law.nd rfl (by first | exact Or.inl rfl | exact Or.inr rfl) (C8.pe_c k_w_stream hr (by decide) rfl (pa_cons (C8.pe_c k_w_cell hr (by decide) rfl (pa_cons (pv 0) (pa_cons pe_int pa_nil))) pa_nil)))
  (pss_cons (ps_set (i := 2) sc_law.nd rfl (by first | exact Or.inl rfl | exact Or.inr rfl) (C8.pe_c k_w_any_order hr (by decide) rfl (pa_cons (pv 1) (pa_cons pe_int pa_nil))))
  (C8.pss_cut (ps_if (pt_cmpR op_eq (C8.pe_c k_w_draw hr (by decide) rfl (pa_cons (pv 1) (pa_cons pe_int pa_nil))) pe_int (nomark _)) (pss_cons (ps_set (i := 10) sc_law.nd rfl (by first | exact Or.inl rfl | exact Or.inr rfl) (C8.pe_c k_w_stream hr (by decide) rfl (pa_cons (C8.pe_c k_w_cell hr (by decide) rfl (pa_cons (pv 0) (pa_cons pe_int pa_nil))) pa_nil)))
  (pss_cons (ps_set (i := 11) sc_law.nd rfl (by first | exact Or.inl rfl | exact Or.inr rfl) (pe_op op_add pe_int (pe_op op_mul pe_int (C8.pe_c k_w_draw hr (by decide) rfl (pa_cons (pv 10) (pa_cons pe_int pa_nil))))))
  (pss_one (ps_set (i := 2) sc_law.nd rfl (by first | exact Or.inl rfl | exact Or.inr rfl) (C8.pe_c k_w_closed hr (by decide) rfl (pa_cons (pv 11) (pa_cons (C8.pe_c k_w_any_pairs hr (by decide) rfl (pa_cons (pv 10) (pa_cons (pv 11) pa_nil))) pa_nil))))))) pss_nil)
  (pss_cons (ps_set (i := 3) sc_law.nd rfl (by first | exact Or.inl rfl | exact Or.inr rfl) (pe_callB (k_len (K := K) rfl) (by rfl) T.len_ (by decide +kernel) (pa_cons (pv 2) pa_nil)))
  (pss_cons (ps_set (i := 4) sc_law.nd rfl (by first | exact Or.inl rfl | exact Or.inr rfl) (C8.pe_mk k_o_init hr (by decide) rfl (pa_cons (pv 3) (pa_cons (C8.pe_c k_w_told hr (by decide) rfl (pa_cons (pv 1) (pa_cons (pv 2) pa_nil))) pa_nil))))
  (pss_cons (ps_set (i := 5) sc_law.nd rfl (by first | exact Or.inl rfl | exact Or.inr rfl) (C8.pe_c k_w_draw hr (by decide) rfl (pa_cons (pv 1) (pa_cons pe_int pa_nil))))
  (C8.pss_cut (ps_if (pt_cmpR op_eq (C8.pe_c k_w_draw hr (by decide) rfl (pa_cons (pv 1) (pa_cons pe_int pa_nil))) pe_int (nomark _)) (pss_one (ps_set (i := 5) sc_law.nd rfl (by first | exact Or.inl rfl | exact Or.inr rfl) (pe_ix (ixl (K := K) rfl) (pe_lst (pa_cons (pe_op op_add (pe_op op_sub (pv 3) pe_int) (pe_callTy cr_int (by rfl) T.int_ (by decide +kernel) (pa_cons (pe_cmpR op_eq (pv 3) pe_int (nomark _)) pa_nil))) (pa_cons (pv 3) (pa_cons (pe_op op_add (pv 3) pe_int) (pa_cons (pe_op op_pow pe_int pe_int) pa_nil))))) (C8.pe_c k_w_draw hr (by decide) rfl (pa_cons (pv 1) (pa_cons pe_int pa_nil))) (fun _ _ => rfl)))) pss_nil)
  (pss_cons (ps_set (i := 6) sc_law.nd rfl (by first | exact Or.inl rfl | exact Or.inr rfl) (C8.pe_c k_chain_cover hr (by decide) rfl (pa_cons (pv 4) (pa_cons (pv 5) pa_nil))))
  (pss_cons (ps_if (PW.pt (pw_or (pt_not (pt_val (pe_callB (k_isi (K := K) rfl) (by rfl) T.isinstance_ (by decide +kernel) (pa_cons (pv 6) (pa_cons (pe_bltn (v := .ty "tuple") (by rfl) T.tuple_ (by decide +kernel) rfl) pa_nil))))) (pw_or (pt_cmpR op_ne (pe_callB (k_len (K := K) rfl) (by rfl) T.len_ (by decide +kernel) (pa_cons (pv 6) pa_nil)) pe_int (nomark _)) (pw_or1 (pt_not (pt_val (C8.pe_c k_w_is_integer hr (by decide) rfl (pa_cons (pe_ix (ixt (K := K) rfl) (pv 6) pe_int (fun _ _ => rfl)) pa_nil)))))))) (pss_one (ps_ret pe_bl)) pss_nil)
  (pss_cons (ps_asg (pv 6) (kGt (K := K) rfl (pg_tup (n := 3) rfl (pgs_cons (pg_name (i := 12) sc_law.nd rfl (by first | exact Or.inl rfl | exact Or.inr rfl)) (pgs_cons (pg_name (i := 13) sc_law.nd rfl (by first | exact Or.inl rfl | exact Or.inr rfl)) (pgs_cons (pg_name (i := 14) sc_law.nd rfl (by first | exact Or.inl rfl | exact Or.inr rfl)) pgs_nil))))))
  (pss_cons (ps_if (PW.pt (pw_or (pt_not (pt_val (C8.pe_c k_w_are_lists hr (by decide) rfl (pa_cons (pv 13) pa_nil)))) (pw_or (pt_not (pt_val (C8.pe_c k_w_are_lists hr (by decide) rfl (pa_cons (pv 14) pa_nil)))) (pw_or (pt_cmpR (k_inD (K := K) rfl (room65 hr)) (pe_lst pa_nil) (pv 13) (by rfl)) (pw_or1 (pt_cmpR op_gt (pe_callB (k_len (K := K) rfl) (by rfl) T.len_ (by decide +kernel) (pa_cons (pv 13) pa_nil)) (pv 5) (nomark _))))))) (pss_one (ps_ret pe_bl)) pss_nil)
  (pss_cons (ps_set (i := 7) sc_law.nd rfl (by first | exact Or.inl rfl | exact Or.inr rfl) (pe_callB (call_sumL (K := K) rfl rfl) (by rfl) T.sum_ (by decide +kernel) (pa_cons (pv 13) (pa_cons (pe_lst pa_nil) pa_nil))))
  (pss_cons (ps_if (PW.pt (pw_or (pt_cmpR op_ne (kLs (K := K) rfl (RZ.pe_lenSetI rfl T.len_ rfl T.set_ (pv 7))) (pe_callB (k_len (K := K) rfl) (by rfl) T.len_ (by decide +kernel) (pa_cons (pv 7) pa_nil)) (nomark _)) (pw_or (pt_cmpR op_ne (pe_callB (k_len (K := K) rfl) (by rfl) T.len_ (by decide +kernel) (pa_cons (pv 7) pa_nil)) (pv 12) (nomark _)) (pw_or1 (pt_not (pt_val (pe_callB (k_all (K := K) rfl rfl) (by rfl) T.all_ (by decide +kernel) (pa_cons (pe_lc (own := [("_law_one", 15)]) (by rfl) sc_law.nd (kIl (K := K) rfl (pi_list (pv 7))) (blkOk_by (own := [("_law_one", 15)]) (N := n_law) (sc := defScope s_law) (by decide +kernel)) (fun _ _ _ _ _ => (pg_name (i := 15) sc_law.nd rfl (by first | exact Or.inl rfl | exact Or.inr rfl))) (fun _ _ _ _ _ => pts_nil) (fun _ _ _ _ _ => (pe_and (pe_cmpR op_le pe_int (pv 15) (nomark _)) (pe_one (pe_cmpR op_lt (pv 15) (pv 3) (nomark _)))))) pa_nil)))))))) (pss_one (ps_ret pe_bl)) pss_nil)
  (pss_cons (ps_if (PW.pt (pw_or (pt_not (pt_val (C8.pe_c k_w_parts_all hr (by decide) rfl (pa_cons (pv 3) (pa_cons (pv 14) pa_nil))))) (pw_or1 (pt_not (pt_val (pe_callB (k_all (K := K) rfl rfl) (by rfl) T.all_ (by decide +kernel) (pa_cons (pe_lc (own := [("_law_chain", 16)]) (by rfl) sc_law.nd (kIl (K := K) rfl (pi_list (pv 13))) (blkOk_by (own := [("_law_chain", 16)]) (N := n_law) (sc := defScope s_law) (by decide +kernel)) (fun _ _ _ _ _ => (pg_name (i := 16) sc_law.nd rfl (by first | exact Or.inl rfl | exact Or.inr rfl))) (fun _ _ _ _ _ => pts_nil) (fun _ _ _ _ _ => (C8.pe_c k_w_is_chain hr (by decide) rfl (pa_cons (pv 2) (pa_cons (pv 16) pa_nil))))) pa_nil))))))) (pss_one (ps_ret pe_bl)) pss_nil)
  (pss_cons (ps_if (PW.pt (pw_or (pt_not (pt_val (pe_callB (k_all (K := K) rfl rfl) (by rfl) T.all_ (by decide +kernel) (pa_cons (pe_lc (own := [("_law_row", 8)]) (by rfl) sc_law.nd (kIl (K := K) rfl (pi_list (pv 14))) (blkOk_by (own := [("_law_row", 8)]) (N := n_law) (sc := defScope s_law) (by decide +kernel)) (fun _ _ _ _ _ => (pg_name (i := 8) sc_law.nd rfl (by first | exact Or.inl rfl | exact Or.inr rfl))) (fun _ _ _ _ _ => pts_nil) (fun _ _ _ _ _ => (C8.pe_c k_w_is_antichain hr (by decide) rfl (pa_cons (pv 2) (pa_cons (pv 8) pa_nil))))) pa_nil)))) (pw_or1 (pt_cmpR op_ne (C8.pe_c k_w_bound hr (by decide) rfl (pa_cons (pv 14) (pa_cons (pv 5) pa_nil))) (pv 12) (nomark _))))) (pss_one (ps_ret pe_bl)) pss_nil)
  (pss_cons (ps_if (pt_not (pt_val (C8.pe_c k_w_said hr (by decide) rfl (pa_cons (C8.pe_c k_shows_chain_cover hr (by decide) rfl (pa_cons (pv 4) (pa_cons (pv 5) (pa_cons (pv 13) (pa_cons (pv 14) pa_nil))))) (pa_cons pe_bl pa_nil))))) (pss_one (ps_ret pe_bl)) pss_nil)
  (pss_cons (ps_for PassesOwn.never rfl (kIl (K := K) rfl (pi_list (pe_op op_cat (pv 13) (pv 14)))) (pg_name (i := 8) sc_law.nd rfl (by first | exact Or.inl rfl | exact Or.inr rfl))
  (pss_one (ps_expr (kBm (K := K) rfl (pe_bm PySem.F.plainAttrs_list PySem.F.slot_list_append PySem.F.type_list_append mt_append (pv 8) (pa_cons pe_int pa_nil))))))
  (pss_cons (ps_set (i := 9) sc_law.nd rfl (by first | exact Or.inl rfl | exact Or.inr rfl) (C8.pe_c k_chain_cover hr (by decide) rfl (pa_cons (pv 4) (pa_cons (pv 5) pa_nil))))
  (pss_cons (ps_if (PW.pt (pw_or (pt_cmpR op_ne (pe_ix (ixt (K := K) rfl) (pv 9) pe_int (fun _ _ => rfl)) (pv 12) (nomark _)) (pw_or1 (pt_not (pt_val (C8.pe_c k_w_said hr (by decide) rfl (pa_cons (C8.pe_c k_shows_chain_cover hr (by decide) rfl (pa_cons (pv 4) (pa_cons (pv 5) (pa_cons (pe_ix (ixt (K := K) rfl) (pv 9) pe_int (fun _ _ => rfl)) (pa_cons (pe_ix (ixt (K := K) rfl) (pv 9) pe_int (fun _ _ => rfl)) pa_nil))))) (pa_cons pe_bl pa_nil)))))))) (pss_one (ps_ret pe_bl)) pss_nil)
  (pss_one (ps_ret (peG_c k_w_same_table hgd hr (by decide) rfl (pa_cons (pv 4) (pa_cons (pv 2) pa_nil)))))))))))))))))))))))), ?_⟩
    rw [show start n_law [a0] = [some a0, none, none, none, none, none, none, none, none, none, none, none, none, none, none, none, none] from rfl]
    obtain ⟨p, ns, rfl, hp, k⟩ := h
    walk_at "gg"
    refine ⟨p, ns, 0, rfl, rfl, by omega, hp, fun j => ?_⟩
    walk_at "gg"
    refine ⟨j, rfl, fun s H1 hs ex1 st1 => ?_⟩
    walk_at "gg"
    refine ⟨s, rfl, rfl, st1, fun t H2 n T hn sT ht ex2 st2 tb2 => ?_⟩
    walk_at "gg"
    refine z_cut (fun σ H3 => ∃ t n T b c, n ≤ 30 ∧ Strict n T ∧ Str3 H3 s ∧ Tab H3 t n T ∧ σ = [some (.ref p), some (.ref s), some (.ref t), none, none, none, none, none, none, none, b, c, none, none, none, none, none]) ?_ ?_
    · walk_at "gg"
      refine ⟨s, 12, rfl, rfl, by omega, by omega, st2, fun d H3 d0 d1 ex3 st3 => ?_⟩
      walk_at "gg"
      refine z_if (fun _ => ?_) (fun _ => ?_)
      · have exa : ExB [s] H H3 := (ex1.up.trans ex2).trans ex3
        have hp3 : SqL K H3 p (ns.map V.int) := sqL_up hp fun o q => exa.one q (ne_of_none q hs)
        walk_at "gg"
        refine ⟨p, ns, 1, rfl, rfl, by omega, hp3, fun j2 => ?_⟩
        walk_at "gg"
        refine ⟨j2, rfl, fun o H4 ho ex4 st4 => ?_⟩
        have hos : o ≠ s := st3.ne ho
        have st34 := st3.mono ex4
        walk_at "gg"
        refine ⟨o, 2, rfl, rfl, by omega, by omega, st4, fun d' H5 e0 e1 ex5 st5 => ?_⟩
        obtain ⟨m, rfl⟩ := Int.eq_ofNat_of_zero_le e0
        have st35 := st34.keep ex5 hos.symm
        have em : (16 : Int) + 12 * (m : Int) = ((16 + 12 * m : Nat) : Int) := by omega
        walk_at "gg"
        rw [em]
        refine ⟨o, 16 + 12 * m, rfl, rfl, by omega, st5, fun l H6 ps hac hpl hl ex6 st6 pl => ?_⟩
        have st36 := st35.keep ex6 hos.symm
        have hlt : ∀ q ∈ ps, q.1 < 16 + 12 * m ∧ q.2 < 16 + 12 * m := by
          obtain ⟨r, hr⟩ := hac
          exact fun q hq => ⟨(hr q hq).1, (hr q hq).2.1⟩
        walk_at "gg"
        refine ⟨16 + 12 * m, l, ps, rfl, rfl, by omega, pl, hlt, fun t2 H7 ht2 ex7 tb7 => ?_⟩
        walk_at "gg"
        exact ⟨t2, 16 + 12 * m, _, _, _, by omega, acy_strict hac, st36.mono ex7, tb7, rfl⟩
      · walk_at "gg"
        exact ⟨t, n, T, _, _, by omega, sT, st3, tb2.str st2 ex3, rfl⟩
    rintro σ H3 ⟨t, n, T, b, c, hn, sT, st3, tb3, rfl⟩
    obtain ⟨tbs, tbb⟩ := id tb3
    have tba := tbb.at_
    walk_at "gg"
    rw [List.length_map, tbb.len]
    walk_at "gg"
    refine ⟨s, t, n, T, rfl, rfl, by omega, st3, tb3, fun l H4 ps htold hpl hl ex4 st4 pl => ?_⟩
    have tb4 := tb3.str st3 ex4
    walk_at "gg"
    intro x dx hx hdx nex
    have hx' : upd H4 dx (.own x) x = none := by rw [upd_ne nex.symm]; exact hx
    have exA : ExB [] H4 (upd (upd H4 dx (.own x)) x (.ins (aO K) dx [])) := (ExB.new hdx).trans (ExB.new hx')
    refine ⟨x, dx, l, n, ps, rfl, rfl, rfl, upd_same, by omega, pl.mono exA, hpl, told_acy sT htold, fun H5 up hup ex5 hou => ⟨rfl, ?_⟩⟩
    have hxs : x ≠ s := st4.ne hx
    have ex45 : ExB [] H4 H5 := exA.freeS ex5 (fun a ha => by rw [List.mem_singleton] at ha; subst ha; exact .inl hx)
    have hup4 : H4 up = none := none_old (none_old hup)
    have hups : up ≠ s := st4.ne hup4
    have st5 := st4.mono ex45
    have tb5 : Tab H5 t n (clos n ps) := by
      obtain ⟨cs, q⟩ := tb4.mono ex45
      exact ⟨cs, q.congr fun i j hi hj => (told_clos sT htold hi hj).symm⟩
    have sU := acy_strict (told_acy sT htold)
    generalize clos n ps = U at *
    walk_at "gg"
    refine ⟨s, 6, rfl, rfl, by omega, by omega, st5, fun d H6 d0 d1 ex6 st6 => ?_⟩
    have ou6 := hou.str st5 ex6 hups
    have tb6 := tb5.str st5 ex6
    walk_at "gg"
    refine z_cut (fun σ H7 => ∃ cn : Nat, OrdAt K H7 x n U ∧ Tab H7 t n U ∧ σ = [some (.ref p), some (.ref s), some (.ref t), some (.int (n : Nat)), some (.ref x), some (.int (cn : Nat)), none, none, none, none, b, c, none, none, none, none, none]) ?_ ?_
    · walk_at "gg"
      obtain ⟨dd, rfl⟩ := Int.eq_ofNat_of_zero_le d0
      refine ⟨s, 6, rfl, rfl, by omega, by omega, st6, fun d' H7 e0 e1 ex7 st7 => ?_⟩
      have ou7 := hou.str st5 (ex6.trans ex7) hups
      have tb7 := tb5.str st5 (ex6.trans ex7)
      walk_at "gg"
      refine z_if (fun _ => ?_) (fun _ => ?_)
      · walk_at "gg"
        refine ⟨size_ok (by simp), fun cl hcl => ?_⟩
        have hcls : cl ≠ s := st7.ne hcl
        have st8 := st7.old (o := .lst [.int ((n : Int) - 1 + (if decide ((n : Int) = 0) = true then 1 else 0)), .int n, .int ((n : Int) + 1), .int (10 ^ (12 : Int).toNat)]) hcl
        walk_at "gg"
        refine ⟨s, 4, rfl, rfl, by omega, by omega, st8, fun d4 H8 f0 f1 ex8 st8' => ?_⟩
        have hcl8 := ex8.one (upd_same (H := H7) (a := cl) (o := .lst [.int ((n : Int) - 1 + (if decide ((n : Int) = 0) = true then 1 else 0)), .int n, .int ((n : Int) + 1), .int (10 ^ (12 : Int).toNat)])) hcls
        obtain ⟨m4, hm4⟩ : ∃ m : Nat, atI [V.int ((n : Int) - 1 + (if decide ((n : Int) = 0) = true then 1 else 0)), .int n, .int ((n : Int) + 1), .int (10 ^ (12 : Int).toNat)] d4 = some (.int (m : Int)) := by
          have : d4 = 0 ∨ d4 = 1 ∨ d4 = 2 ∨ d4 = 3 := by omega
          rcases this with z | z | z | z <;> subst z
          · by_cases z0 : n = 0
            · refine ⟨0, ?_⟩
              subst z0; rfl
            · refine ⟨n - 1, ?_⟩
              have e : (n : Int) - 1 + (if decide ((n : Int) = 0) = true then 1 else 0) = ((n - 1 : Nat) : Int) := by
                rw [decide_eq_false (by omega), if_neg (by simp)]; omega
              rw [e]; rfl
          · exact ⟨n, rfl⟩
          · exact ⟨n + 1, rfl⟩
          · exact ⟨10 ^ 12, rfl⟩
        have exz := ((ex6.trans ex7).trans (ExB.new (o := .lst [.int ((n : Int) - 1 + (if decide ((n : Int) = 0) = true then 1 else 0)), .int n, .int ((n : Int) + 1), .int (10 ^ (12 : Int).toNat)]) hcl)).trans ex8
        walk_at "gg"
        exact ⟨m4, ⟨up, hou.str st5 exz hups⟩, tb5.str st5 exz, rfl⟩
      · walk_at "gg"
        exact ⟨dd, ⟨up, ou7⟩, tb7, rfl⟩
    rintro σ H7 ⟨cn, ou7, tb7, rfl⟩
    have hn40 : n ≤ 40 := by omega
    walk_at "gg"
    refine ⟨x, n, U, cn, rfl, rfl, ou7, sU, fun q pc pss H8 num cs ss hq ex8 cv hqt hcs hss => ?_⟩
    obtain ⟨cb, ⟨c1, c2⟩, c3, c4⟩ := hcs
    obtain ⟨sb, ⟨s1, s2⟩, s3, s4⟩ := hss
    have hcbl := pr_len c2
    have hsbl := pr_len s2
    have ou8 := ou7.mono ex8
    have tb8 := tb7.mono ex8
    have hnum : num ≤ n := by rw [← cv.cnt]; exact nodup_le cv.nd cv.lt
    have hsf : ss.flatten.length = n := by rw [cv.part.length_eq, List.length_range]
    have hcn : cs.length ≤ 40 := by have := rows_le_flat cv.cne; rw [cv.cnt] at this; omega
    have hsn : ss.length ≤ 40 := by have := rows_le_flat cv.sne; omega
    have hcr : ∀ {i : Nat} {y : List Nat}, cs[i]? = some y → y.length ≤ 40 := fun h => by have := row_le_flat h; rw [cv.cnt] at this; omega
    have hsr : ∀ {i : Nat} {y : List Nat}, ss[i]? = some y → y.length ≤ 40 := fun h => by have := row_le_flat h; omega
    have a0 : atI [V.int (num : Nat), .ref pc, .ref pss] 0 = some (.int (num : Nat)) := rfl
    walk_at "gg"
    rw [show (!decide ((([V.int (num : Nat), .ref pc, .ref pss].length : Nat) : Int) = 3)) = false from rfl]
    walk_at "gg"
    refine ⟨(num : Nat), rfl, ?_⟩
    walk_at "gg"
    refine ⟨pc, cs, rfl, ⟨cb, c1, c2⟩, fun y hy => ?_, fun H9 ex9 => ?_⟩
    · obtain ⟨i, hi⟩ := List.mem_iff_getElem?.mp hy
      have := hcr hi; omega
    have c19 := ex9.nn c1
    walk_at "gg"
    refine ⟨pss, ss, rfl, ⟨sb, ex9.nn s1, pr_mono (fun b y k => ex9.nn k) s2⟩, fun y hy => ?_, fun H10 ex10 => ?_⟩
    · obtain ⟨i, hi⟩ := List.mem_iff_getElem?.mp hy
      have := hsr hi; omega
    have ex810 := ex9.trans ex10
    walk_at "gg"
    refine ⟨size_ok (by simp), fun e1 he1 => ?_⟩
    have ex811 := ex810.trans (ExB.new (o := .lst []) he1)
    walk_at "gg"
    refine z_inRows upd_same ⟨cb, ex811.nn c1, pr_mono (fun b y k => ex811.nn k) c2⟩ cv.cne ?_
    have c111 := ex811.nn c1
    generalize upd H10 e1 (.lst []) = H11 at *
    walk_at "gg"
    refine z_if (fun q => absurd q (by rw [List.length_map]; have := cv.few; omega)) (fun _ => ?_)
    walk_at "gg"
    refine ⟨size_ok (by simp), fun e2 he2 => ?_⟩
    have ex812 := ex811.trans (ExB.new (o := .lst []) he2)
    walk_at "gg"
    refine z_sumL (ex812.nn c1) upd_same (pr_mono (fun b y k => ex812.nn k) c2) (by rw [cv.cnt]; omega) fun me H13 ex13 hme => ?_
    have ex813 := ex812.trans ex13
    walk_at "gg"
    have hme2 := hme
    rw [nv_ints] at hme2
    refine ⟨.ref me, rfl, ?_⟩
    refine ⟨me, cs.flatten.map fun (m : Nat) => (m : Int), rfl, SqL.of hme2, ?_, ?_, ?_⟩
    · exact List.Pairwise.map _ (fun a b h q => h (by omega)) cv.nd
    · rw [List.length_map, cv.cnt]; omega
    walk_at "gg"
    refine z_ifN (fun q => absurd (by simp only [List.length_map, nv_length]) q) (fun _ => ?_)
    walk_at "gg"
    refine z_ifN (fun q => absurd (by simp only [List.length_map, nv_length, cv.cnt]) q) (fun _ => ?_)
    walk_at "gg"
    intro A hA
    refine l_pureL (fun _ => true) (fun _ => .bl true) hme hA (by rw [nv_length, cv.cnt]; omega) (fun i y acc Nx hy hac hN => ?_) ?_
    · obtain ⟨m, hm, rfl⟩ := nv_inv hy
      have hmn := cv.lt m (mem_of_get hm)
      have hil : i < 40 := by have := lt_of_get hm; rw [cv.cnt] at this; omega
      walk_at "wp"
      walk_at "gg"
      refine z_if (fun _ => ?_) (fun q => absurd (by omega) q)
      walk_at "gg"
      rw [decide_eq_true (show ((m : Nat) : Int) < (n : Int) by omega)]
      exact hN
    rw [filt_map_tt]
    have ex814 := ex813.trans (ExB.new (o := .lst (((nv cs.flatten).map fun _ => true).map V.bl)) hA)
    have hAA : upd H13 A (.lst (((nv cs.flatten).map fun _ => true).map V.bl)) A = some (.lst (((nv cs.flatten).map fun _ => true).map V.bl)) := upd_same
    generalize upd H13 A (.lst (((nv cs.flatten).map fun _ => true).map V.bl)) = H14 at *
    walk_at "gg"
    rw [all_tt]
    walk_at "gg"
    refine ⟨n, pss, ss, rfl, rfl, hn40, ⟨sb, ex814.nn s1, pr_mono (fun b y k => ex814.nn k) s2⟩, cv.sne, cv.part, fun H15 ex15 => ?_⟩
    have ex815 := ex814.trans ex15
    have c115 := ex815.nn c1
    walk_at "gg"
    intro B hB
    refine l_trueL c115 hB (by omega) (fun i bq acc H' Nx hb exq hacc hal hN => ?_) (fun H16 ex16 hB16 => ?_)
    · obtain ⟨xs, hxs, hr⟩ := pr_get c2 hb
      have hr' := (ex815.trans exq).nn hr
      walk_at "wp"
      walk_at "gg"
      refine ⟨t, n, U, bq, xs, rfl, rfl, tb8.mono (ex815.trans exq), hr', fun y hy => cv.lt y (List.mem_flatten.mpr ⟨xs, mem_of_get hxs, hy⟩), by have := hcr hxs; omega, cv.ch xs (mem_of_get hxs), fun H4 ex4 => ?_⟩
      exact ⟨acc, ex4.nn hacc, size_lt (by have := lt_of_get hb; omega), hN H4 ex4⟩
    walk_at "gg"
    rw [all_tt]
    walk_at "gg"
    have ex816 := ex815.trans ex16
    have s116 := ex816.nn s1
    walk_at "gg"
    intro C hC
    refine l_trueL s116 hC (by omega) (fun i bq acc H' Nx hb exq hacc hal hN => ?_) (fun H17 ex17 hC17 => ?_)
    · obtain ⟨xs, hxs, hr⟩ := pr_get s2 hb
      have hr' := (ex816.trans exq).nn hr
      walk_at "wp"
      walk_at "gg"
      refine ⟨t, n, U, bq, xs, rfl, rfl, tb8.mono (ex816.trans exq), hr', fun y hy => List.mem_range.mp (cv.part.mem_iff.mp (List.mem_flatten.mpr ⟨xs, mem_of_get hxs, hy⟩)), by have := hsr hxs; omega, cv.an xs (mem_of_get hxs), fun H4 ex4 => ?_⟩
      exact ⟨acc, ex4.nn hacc, size_lt (by have := lt_of_get hb; omega), hN H4 ex4⟩
    walk_at "gg"
    rw [all_tt]
    walk_at "gg"
    have ex817 := ex816.trans ex17
    refine ⟨pss, ss, cn, rfl, rfl, ⟨sb, ex817.nn s1, pr_mono (fun b y k => ex817.nn k) s2⟩, by omega, fun H18 ex18 => ?_⟩
    have ex818 := ex817.trans ex18
    walk_at "gg"
    refine z_ifN (fun q => absurd (by rw [cv.bd]) q) (fun _ => ?_)
    walk_at "gg"
    refine ⟨x, n, U, cn, num, pc, cs, pss, ss, rfl, rfl, rfl, rfl, ou8.mono ex818, ⟨cb, ex818.nn c1, pr_mono (fun b y k => ex818.nn k) c2⟩, ⟨sb, ex818.nn s1, pr_mono (fun b y k => ex818.nn k) s2⟩, cv, fun H19 ex19 => ?_⟩
    walk_at "gg"
    refine ⟨rfl, rfl, ?_⟩
    walk_at "gg"
    have ex819 := ex818.trans ex19
    have c119 := ex819.nn c1
    have s119 := ex819.nn s1
    refine z_cat c119 s119 (size_ok (by rw [List.length_map, List.length_map]; omega)) fun ca hca => ?_
    have e719 := ex8.trans ex819
    have hca7 : H7 ca = none := e719.fresh hca (by simp)
    rw [← List.map_append]
    walk_at "gg"
    refine f_list (xs := (cb ++ sb).map V.ref) (fun i σ H' => (∃ r, σ = [some (.ref p), some (.ref s), some (.ref t), some (.int (n : Nat)), some (.ref x), some (.int (cn : Nat)), some (.ref q), some (.ref me), r, none, b, c, some (.int (num : Nat)), some (.ref pc), some (.ref pss), none, none]) ∧ ExB [] H7 H' ∧ H' ca = some (.lst ((cb ++ sb).map V.ref)) ∧ ∀ bq ∈ cb ++ sb, ∃ xs : List V, H' bq = some (.lst xs) ∧ xs.length ≤ 40 + i ∧ bq ≠ ca) ⟨⟨_, rfl⟩, e719.trans (ExB.new hca), upd_same, fun bq hbq => ?_⟩ (fun i σ H' _ e => e.2.2.1) ?_ ?_
    · rcases List.mem_append.mp hbq with z | z
      · obtain ⟨i, hi⟩ := List.mem_iff_getElem?.mp z
        obtain ⟨xs, hxs, hr⟩ := pr_get c2 hi
        have hr' := ex819.nn hr
        exact ⟨nv xs, upd_old hr' hca, by rw [nv_length]; have := hcr hxs; omega, ne_of_none hr' hca⟩
      · obtain ⟨i, hi⟩ := List.mem_iff_getElem?.mp z
        obtain ⟨xs, hxs, hr⟩ := pr_get s2 hi
        have hr' := ex819.nn hr
        exact ⟨nv xs, upd_old hr' hca, by rw [nv_length]; have := hsr hxs; omega, ne_of_none hr' hca⟩
    · rintro i y σ H' hy ⟨⟨r, rfl⟩, exq, hcq, hrows⟩
      rw [List.getElem?_map] at hy
      obtain ⟨bq, hb, rfl⟩ := Option.map_eq_some_iff.mp hy
      have hil : i < 80 := by have := lt_of_get hb; rw [List.length_append] at this; omega
      obtain ⟨xs, hxs, hxl, hne⟩ := hrows bq (mem_of_get hb)
      have hb7 : H7 bq = none := by
        rcases List.mem_append.mp (mem_of_get hb) with z | z
        · exact c4 bq z
        · exact s4 bq z
      have hxsz : xs.length < sizeLine := size_lt (by omega)
      walk_at "gg"
      refine ⟨⟨_, rfl⟩, exq.free hb7, by rw [upd_ne hne.symm]; exact hcq, fun b2 hb2 => ?_⟩
      by_cases z : b2 = bq
      · subst z; exact ⟨_, upd_same, by rw [List.length_append, List.length_singleton]; omega, hne⟩
      · obtain ⟨ys, h1, h2, h3⟩ := hrows b2 hb2
        exact ⟨ys, by rw [upd_ne z]; exact h1, by omega, h3⟩
    rintro σ H20 ⟨⟨r, rfl⟩, e720, _, _⟩
    walk_at "gg"
    have ou20 := ou7.mono e720
    refine ⟨x, n, U, cn, rfl, rfl, ou20, sU, fun q2 pc2 pss2 H21 num2 cs2 ss2 hq2 ex21 cv2 hqt2 hcs2 hss2 => ?_⟩
    have hsame := cover_same sU cv cv2
    subst hsame
    have b0 : atI [V.int (num : Nat), .ref pc2, .ref pss2] 0 = some (.int (num : Nat)) := rfl
    have b1 : atI [V.int (num : Nat), .ref pc2, .ref pss2] 1 = some (.ref pc2) := rfl
    have b2 : atI [V.int (num : Nat), .ref pc2, .ref pss2] 2 = some (.ref pss2) := rfl
    walk_at "gg"
    rw [show (!decide (((num : Nat) : Int) = (num : Nat))) = false from by rw [decide_eq_true rfl]; rfl]
    walk_at "gg"
    refine ⟨x, n, U, cn, num, pc2, cs2, pss2, ss2, rfl, rfl, rfl, rfl, ou20.mono ex21, hcs2.ll, hss2.ll, cv2, fun H22 ex22 => ?_⟩
    walk_at "gg"
    refine ⟨rfl, rfl, ?_⟩
    walk_at "gg"
    have e722 := (e720.trans ex21).trans ex22
    exact ⟨x, t, n, U, U, rfl, rfl, ou7.mono e722, tb7.mono e722, fun _ _ _ _ => rfl, fun H' _ => k H'⟩

theorem all_ok {P : Program} {w : World} {K : Frg} {mg : Str → Option Value} {base : Heap} (T : Tx K mg) {fd : FuncData} (F : FunD K "law" "law" (defArgs s_law) (defBody s_law) (defScope s_law) [] [] (He.ga K "law") fd) :
    FnG P w K mg base 45 (He.ga K "law") fd ["_law_script"] (sp_law K) := by
  have k_w_stream := ok_w_stream (P := P) (w := w) (base := base) T
  have k_w_cell := ok_w_cell (P := P) (w := w) (base := base) T
  have k_w_draw := ok_w_draw (P := P) (w := w) (base := base) T
  have k_w_by_ranks := ok_w_by_ranks (P := P) (w := w) (base := base) T
  have k_w_by_parents := ok_w_by_parents (P := P) (w := w) (base := base) T
  have k_w_mixed := ok_w_mixed (P := P) (w := w) (base := base) T k_w_draw
  have k_w_any_parents := ok_w_any_parents (P := P) (w := w) (base := base) T k_w_mixed k_w_draw
  have k_w_tree_members := ok_w_tree_members (P := P) (w := w) (base := base) T
  have k_w_by_tree := ok_w_by_tree (P := P) (w := w) (base := base) T k_w_tree_members
  have k_w_any_tree := ok_w_any_tree (P := P) (w := w) (base := base) T k_w_draw
  have k_w_by_arcs := ok_w_by_arcs (P := P) (w := w) (base := base) T
  have k_w_any_arcs := ok_w_any_arcs (P := P) (w := w) (base := base) T k_w_draw
  have k_w_by_spans := ok_w_by_spans (P := P) (w := w) (base := base) T
  have k_w_any_spans := ok_w_any_spans (P := P) (w := w) (base := base) T k_w_draw
  have k_w_by_rows := ok_w_by_rows (P := P) (w := w) (base := base) T
  have k_w_crown := ok_w_crown (P := P) (w := w) (base := base) T k_w_mixed k_w_draw
  have k_w_any_pairs := ok_w_any_pairs (P := P) (w := w) (base := base) T k_w_mixed k_w_draw
  have k_w_family := ok_w_family (P := P) (w := w) (base := base) T k_w_by_ranks k_w_draw k_w_by_parents k_w_any_parents k_w_by_tree k_w_any_tree k_w_mixed k_w_by_arcs k_w_any_arcs k_w_by_spans k_w_any_spans k_w_by_rows k_w_crown k_w_any_pairs
  have k_w_closed := ok_w_closed (P := P) (w := w) (base := base) T
  have k_w_any_order := ok_w_any_order (P := P) (w := w) (base := base) T k_w_draw k_w_family k_w_closed
  have k_found_ring := ok_found_ring (P := P) (w := w) (base := base) T
  have k_mask_of := ok_mask_of (P := P) (w := w) (base := base) T
  have k_closed_masks := ok_closed_masks (P := P) (w := w) (base := base) T k_mask_of
  have k_elements_of := ok_elements_of (P := P) (w := w) (base := base) T
  have k_o_init := ok_o_init (P := P) (w := w) (base := base) T k_found_ring k_closed_masks k_elements_of
  have k_w_pairs := ok_w_pairs (P := P) (w := w) (base := base) T
  have k_w_covers := ok_w_covers (P := P) (w := w) (base := base) T
  have k_w_told := ok_w_told (P := P) (w := w) (base := base) T k_w_pairs k_w_draw k_w_covers k_w_mixed
  have k_f_init := ok_f_init (P := P) (w := w) (base := base) T
  have k_f_add_arc := ok_f_add_arc (P := P) (w := w) (base := base) T
  have k_o_pairs := ok_o_pairs (P := P) (w := w) (base := base) T
  have k_c_init := ok_c_init (P := P) (w := w) (base := base) T k_f_init k_f_add_arc k_o_pairs
  have k_f_gains_from := ok_f_gains_from (P := P) (w := w) (base := base) T
  have k_c_next_gain := ok_c_next_gain (P := P) (w := w) (base := base) T k_f_gains_from
  have k_f_push := ok_f_push (P := P) (w := w) (base := base) T
  have k_c_add_unit := ok_c_add_unit (P := P) (w := w) (base := base) T k_f_gains_from k_f_push
  have k_f_arcs_from := ok_f_arcs_from (P := P) (w := w) (base := base) T
  have k_f_flows := ok_f_flows (P := P) (w := w) (base := base) T
  have k_f_head := ok_f_head (P := P) (w := w) (base := base) T
  have k_c_chains := ok_c_chains (P := P) (w := w) (base := base) T k_f_arcs_from k_f_flows k_f_head
  have k_c_prices := ok_c_prices (P := P) (w := w) (base := base) T k_f_gains_from
  have k_c_sets := ok_c_sets (P := P) (w := w) (base := base) T k_c_prices
  have k_chain_cover := ok_chain_cover (P := P) (w := w) (base := base) T k_c_init k_c_next_gain k_c_add_unit k_c_chains k_c_sets
  have k_w_is_integer := ok_w_is_integer (P := P) (w := w) (base := base) T
  have k_w_are_integers := ok_w_are_integers (P := P) (w := w) (base := base) T k_w_is_integer
  have k_w_are_lists := ok_w_are_lists (P := P) (w := w) (base := base) T k_w_are_integers
  have k_w_is_chain := ok_w_is_chain (P := P) (w := w) (base := base) T
  have k_w_parts_all := ok_w_parts_all (P := P) (w := w) (base := base) T
  have k_w_bound := ok_w_bound (P := P) (w := w) (base := base) T
  have k_w_apart := ok_w_apart (P := P) (w := w) (base := base) T
  have k_w_is_antichain := ok_w_is_antichain (P := P) (w := w) (base := base) T k_w_apart
  have k_w_said := ok_w_said (P := P) (w := w) (base := base) T
  have k_parts_all := ok_parts_all (P := P) (w := w) (base := base) T
  have k_o_below := ok_o_below (P := P) (w := w) (base := base) T
  have k_is_chain := ok_is_chain (P := P) (w := w) (base := base) T k_o_below
  have k_bound_of := ok_bound_of (P := P) (w := w) (base := base) T
  have k_o_apart := ok_o_apart (P := P) (w := w) (base := base) T k_o_below
  have k_is_antichain := ok_is_antichain (P := P) (w := w) (base := base) T k_o_apart
  have k_shows_chain_cover := ok_shows_chain_cover (P := P) (w := w) (base := base) T k_parts_all k_is_chain k_bound_of k_is_antichain
  have k_w_same_table := ok_w_same_table (P := P) (w := w) (base := base) T k_o_pairs k_w_pairs
  exact ok_law T k_w_stream k_w_cell k_w_any_order k_w_draw k_w_closed k_w_any_pairs k_o_init k_w_told k_chain_cover k_w_is_integer k_w_are_lists k_w_is_chain k_w_parts_all k_w_bound k_w_is_antichain k_w_said k_shows_chain_cover k_w_same_table F
theorem ends {P : Program} {w : World} {K : Frg} {h : Heap} {mg : Str → Option Value} {f : Addr} (X : K.In h) (G : h.Ns mainGlobals mg) (e0 : mg ("law" : Str) = some (.ref f)) (c : SaysM K) :
    ∃ fd : FuncData, (∀ (t : Shared) (v : Value), BindsTo t fd ⟨[v], []⟩ [("_law_script", v)]) ∧ ∀ base : Heap, K.In base → base.Ns mainGlobals mg →
      FnG P w K mg base 45 f fd ["_law_script"] (sp_law K) := by
  have T : Tx K mg := ⟨c, h, X, G⟩
  obtain ⟨fd, F⟩ := T.d_law
  have e := e0.symm.trans T.g_law
  cases e
  have b := FunD.bindsA (ps := ["_law_script"]) F fun _ _ _ _ _ _ us hl => match us, hl with | [_], _ => rfl
  exact ⟨fd, fun t v => b t [v] rfl, fun base _ _ => all_ok T F⟩
end Dr
set_option maxHeartbeats 0
open PySem PySem.W PySem.Calls PyProof.Rows
theorem PySem.Challenge.cw_drawnorders_k38_whole_chain_covers_holds : PySem.Challenge.rw_drawnorders_k38_whole_chain_covers.Holds := by
  w_on; o_law
  refine HandSHeadRun.head_any (r := Dr.RR) (q := view Dr.RR.prog [58]) (H := Dr.hk) (ob := Dr.ob) (M := 6000) (loose := Dr.looses)
    (d := HandSHeadRun.topDef Dr.RR.prog 58) (kwd := []) Dr.ob_eq (by kernel_rfl) (fun s => by kernel_rfl) Dr.run (by kernel_rfl) (by kernel_rfl) (by kernel_rfl) (by rfl)
    (by first | assumption | decide +kernel) (by decide +kernel) ⟨rfl, rfl, rfl, rfl, rfl, by decide +kernel⟩ ?hw ?hc
  case hw => w_witness2
  case hc =>
    refine Dr.walk_G (l := PySem.Challenge.rw_drawnorders_k38_whole_chain_covers) (n := 63) (k := 45) (x := "_law_script") rfl (by decide) (by kernel_rfl) ⟨rfl, by decide, by decide⟩ ?F
    intro w mg fa h Y G hmg0
    obtain ⟨K, KX, c⟩ := Y
    have hmg : mg ("law" : PySem.Str) = some (.ref fa) := by
      have e : (HandSHeadRun.topDef Dr.RR.prog 58).name = ("law" : PySem.Str) := by kernel_rfl
      rw [← e]
      exact hmg0
    obtain ⟨fd, hb, hF⟩ := Dr.ends (P := (PySem.Challenge.rw_drawnorders_k38_whole_chain_covers).prog) (w := w) KX G hmg c
    exact ⟨K, fd, Dr.sp_law K, KX, hb, fun H a zs hl hS => ⟨a, zs, rfl, hS, fun _ => rfl⟩, hF⟩
