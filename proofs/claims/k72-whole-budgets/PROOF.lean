import PyProof.Rows.All
import Wide.All
import OpenK.AllK
import Wide.FinOn
import HandS.ForMost
import HandS.ForExc
import HandS.ExcInit
import HandS.ExcField
import HandS.HeadHook1
import HandS.HeadHook2
import HandS.HeadHook3
import HandS.HeadHook4
import HandS.Defaults
import KE.KStateDown
import Lean
import HandS.Head0
import HandS.Head1
import HandS.Head2
import HandS.HeadEnd
import HandS.DictComp
import HandS.IsInst
import HandS.Deep
import HandS.TryMany
import HandS.CallLocal
import HandS.Lambda
import HandS.Nested
import HandS.DictTup
import HandS.TupLen
import HandS.Sort
import HandS.Zip
import HandS.Conv
import HandS.Style
import HandS.RaiseMore
import HandS.ListItems
import KE.SortData
import KE.SortKeyHeap
import KE.KDictItemsList
import KE.KDictPairs
import KE.KDictSum
import KE.GoesMore
import KE.GoesEnum
import HandS.Walk
import PyProof.DictFindH
import PyProof.DictRoadsH
import HandS.SortKw
import HandS.Keys
import KE.KSortKey
import KE.KDictCopyH
import HandS.Exc
import HandS.HeadWalk
import HandS.EndTab
import PySem.Challenge.RW_objections_k72_whole_budgets_of_statemen
set_option Elab.async false
set_option linter.all false
set_option maxRecDepth 100000
set_option maxHeartbeats 0
namespace Ob
open PySem PySem.Spec PyProof.Rows L2
/-! ### what the written part says of an own error class, as a test -/
def mroB (C : Addr) : List Value → Bool
  | .ref c :: bm => decide (c = C) && PySem.HandSPX.refsVE bm
  | _ => false
def slB : List (Option Value) → Bool
  | [_, _, _, _, some (.builtin n), _] => decide (n = "ValueError.__new__")
  | _ => false
def oexO (C : Addr) (o : Obj) : Bool := match o.cls, o.data with
  | .type t, .cls c => decide (t = "type") && (mroB C c.mro && (c.hasDict && ((!c.hasDel) && slB o.slots.toList)))
  | _, _ => false
def oexB (K : PySem.W.Frag) (C : Addr) : Bool := (match K.lookup C with
  | some o => oexO C o
  | none => false) && (decide (PySem.W.findIn K (.ref C) "__setattr__" = some (some (.builtin "object.__setattr__"))) && (decide (PySem.W.subIn K (.ref C) (.type "BaseException") = some true) && (decide (PySem.W.typeIn K (.ref C) = some (.type "type")) && PySem.W.keepIn K (.ref C))))
theorem slB_ok {l : List (Option Value)} (h : slB l = true) : ∃ k0 k1 k2 k3 k5, l = [k0, k1, k2, k3, some (.builtin "ValueError.__new__"), k5] := by
  unfold slB at h
  split at h
  · rw [of_decide_eq_true h]
    exact ⟨_, _, _, _, _, rfl⟩
  · cases h
theorem oexO_ok {C : Addr} {o : Obj} (h : oexO C o = true) : ∃ nm q N bs bm sn sub ab col dd k0 k1 k2 k3 k5, o = excClassObj nm q C N bs bm true sn sub ab col dd k0 k1 k2 k3 k5 "ValueError.__new__" ∧ PySem.HandSPX.refsVE bm = true := by
  obtain ⟨cl, dd, dt, sl⟩ := o
  unfold oexO at h
  split at h
  · rename_i t c e1 e2
    obtain rfl : cl = .type t := e1
    obtain rfl : dt = .cls c := e2
    obtain ⟨nm, bs, mro, N, q, hd, sn, sub, ab, col, del⟩ := c
    obtain ⟨h1, h⟩ := Bool.and_eq_true_iff.mp h
    obtain ⟨h2, h⟩ := Bool.and_eq_true_iff.mp h
    obtain ⟨h3, h⟩ := Bool.and_eq_true_iff.mp h
    obtain ⟨h4, h5⟩ := Bool.and_eq_true_iff.mp h
    obtain rfl := of_decide_eq_true h1
    obtain rfl : hd = true := h3
    obtain rfl : del = false := by cases del with
      | true => cases h4
      | false => rfl
    obtain ⟨k0, k1, k2, k3, k5, e⟩ := slB_ok h5
    obtain ⟨sl⟩ := sl
    obtain rfl : sl = _ := e
    have h2 : mroB C mro = true := h2
    unfold mroB at h2
    split at h2
    · rename_i c bm
      obtain ⟨h6, h7⟩ := Bool.and_eq_true_iff.mp h2
      obtain rfl := of_decide_eq_true h6
      exact ⟨_, _, _, _, _, _, _, _, _, _, _, _, _, _, _, rfl, h7⟩
    · cases h2
  · cases h
theorem oexB_ok {K : PySem.W.Frag} {C : Addr} (h : oexB K C = true) : OexC K C := by
  obtain ⟨h1, h⟩ := Bool.and_eq_true_iff.mp h
  obtain ⟨h2, h⟩ := Bool.and_eq_true_iff.mp h
  obtain ⟨h3, h⟩ := Bool.and_eq_true_iff.mp h
  obtain ⟨h4, h5⟩ := Bool.and_eq_true_iff.mp h
  refine ⟨?_, of_decide_eq_true h2, of_decide_eq_true h3, of_decide_eq_true h4, h5⟩
  cases e : K.lookup C with
  | none => rw [e] at h1; cases h1
  | some o =>
    rw [e] at h1
    obtain ⟨nm, q, N, bs, bm, sn, sub, ab, col, dd, k0, k1, k2, k3, k5, e2, e3⟩ := oexO_ok h1
    exact ⟨nm, q, N, bs, bm, sn, sub, ab, col, dd, k0, k1, k2, k3, k5, congrArg some e2, e3⟩
/-- an own error with an __init__ that stores thing -/
def errB (K : PySem.W.Frag) (x : Str) : Bool := oexB K (He.ga K x) && (xfB K (He.ga K x) && (decide (PySem.W.findIn K (.ref (He.ga K x)) "__init__" = some (some (.ref (He.ma K (He.ga K x) "__init__")))) &&
  (decide (PySem.W.typeIn K (.ref (He.ma K (He.ga K x) "__init__")) = some (.type "function")) && decide (PySem.W.findIn K (.ref (He.ga K x)) "thing" = some none))))
structure ErrC (K : PySem.W.Frag) (x : Str) : Prop where
  oex : OexC K (He.ga K x)
  xf : XfC K (He.ga K x)
  ini : PySem.W.findIn K (.ref (He.ga K x)) "__init__" = some (some (.ref (He.ma K (He.ga K x) "__init__")))
  fn : PySem.W.typeIn K (.ref (He.ma K (He.ga K x) "__init__")) = some (.type "function")
  thing : PySem.W.findIn K (.ref (He.ga K x)) "thing" = some none
theorem errB_ok {K : PySem.W.Frag} {x : Str} (h : errB K x = true) : ErrC K x := by
  obtain ⟨h1, h⟩ := Bool.and_eq_true_iff.mp h
  obtain ⟨h2, h⟩ := Bool.and_eq_true_iff.mp h
  obtain ⟨h3, h⟩ := Bool.and_eq_true_iff.mp h
  obtain ⟨h4, h5⟩ := Bool.and_eq_true_iff.mp h
  exact ⟨oexB_ok h1, xfB_ok h2, of_decide_eq_true h3, of_decide_eq_true h4, of_decide_eq_true h5⟩
/-- the module's constants and errors -/
def ex (K : PySem.W.Frag) : Bool := He.tupB K "WAYS" [.str "calm", .str "held", .str "whole", .str "least", .str "greatest", .str "settled"] && (errB K "BadNumber" && (errB K "BadWeights" && errB K "NoStatement"))
def top (i : Nat) : Stmt := PySem.Challenge.pw_objections_k72_whole_budgets_of_statemen.main.body.getD i (.Pass ⟨0, 0, 0, 0⟩)
abbrev s_is_list : Stmt := top 13
abbrev s_is_integer : Stmt := top 14
abbrev s_is_number : Stmt := top 15
abbrev s_is_name : Stmt := top 16
abbrev s_as_tuples : Stmt := top 17
abbrev s_checked_statements : Stmt := top 19
abbrev s_is_pair_of : Stmt := top 20
abbrev s_checked_objections : Stmt := top 21
abbrev s_checked_statement : Stmt := top 23
abbrev s_checked_way : Stmt := top 26
abbrev s_hit_by : Stmt := top 27
abbrev s_answered_in : Stmt := top 28
abbrev s_least_lot : Stmt := top 29
abbrev s_unanswered_in : Stmt := top 30
abbrev s_held_lots : Stmt := top 31
abbrev s_calm_with : Stmt := top 32
abbrev s_calm_lots : Stmt := top 33
abbrev s_greatest_of : Stmt := top 34
abbrev s_is_within : Stmt := top 35
abbrev s_spared_in : Stmt := top 36
abbrev s_lots_in : Stmt := top 37
abbrev s_all_parts : Stmt := top 39
abbrev s_checked_weights : Stmt := top 41
abbrev s_overheard_in : Stmt := top 42
abbrev s_all_prices : Stmt := top 44
abbrev s_checked_budget : Stmt := top 45
abbrev s_prices_with : Stmt := top 46
abbrev s_least_budget : Stmt := top 47
abbrev s_cheapest_lot : Stmt := top 48
abbrev s_most_for : Stmt := top 49
abbrev s_stands : Stmt := top 51
abbrev s_law_m_held : Stmt := top 53
abbrev s_law_m_weights : Stmt := top 54
abbrev s_law_m_sum : Stmt := top 55
abbrev s_law_m_odd_weights : Stmt := top 56
abbrev s_law_m_are_weights : Stmt := top 57
abbrev s_law_m_is_weight : Stmt := top 58
abbrev s_law_m_prices : Stmt := top 59
abbrev s_law_m_second : Stmt := top 60
abbrev s_law_start : Stmt := top 61
abbrev s_law_draw : Stmt := top 62
abbrev s_law_pick : Stmt := top 63
abbrev s_law_mixed : Stmt := top 64
abbrev s_law_same : Stmt := top 65
abbrev s_law_each_once : Stmt := top 66
abbrev s_law_loose : Stmt := top 67
abbrev s_law_d_names : Stmt := top 68
abbrev s_law_d_pairs : Stmt := top 69
abbrev s_law_d_objectors : Stmt := top 70
abbrev s_law_d_hits : Stmt := top 71
abbrev s_law_d_subsets : Stmt := top 72
abbrev s_law_met : Stmt := top 73
abbrev s_law_name_right : Stmt := top 74
abbrev s_law : Stmt := top 75
abbrev s_Debate_init : Stmt := inClass (top 22) 0
abbrev s_BadHow_init : Stmt := inClass (top 2) 0
abbrev s_BadNumber_init : Stmt := inClass (top 3) 0
abbrev s_BadObjections_init : Stmt := inClass (top 4) 0
abbrev s_BadStatements_init : Stmt := inClass (top 5) 0
abbrev s_BadWay_init : Stmt := inClass (top 6) 0
abbrev s_BadWeights_init : Stmt := inClass (top 7) 0
abbrev s_NoStatement_init : Stmt := inClass (top 8) 0
def dd (x : Str) (st : Stmt) : He.DefD := ⟨(x, none), x, x, defArgs st, defBody st, defScope st, [], []⟩
def dm (c m q : Str) (st : Stmt) : He.DefD := ⟨(c, some m), m, q, defArgs st, defBody st, defScope st, [], []⟩
def fn : List He.DefD := [dd "is_list" s_is_list,
  dd "is_integer" s_is_integer,
  dd "is_number" s_is_number,
  dd "is_name" s_is_name,
  dd "as_tuples" s_as_tuples,
  dd "checked_statements" s_checked_statements,
  dd "is_pair_of" s_is_pair_of,
  dd "checked_objections" s_checked_objections,
  dd "checked_statement" s_checked_statement,
  dd "checked_way" s_checked_way,
  dd "hit_by" s_hit_by,
  dd "unanswered_in" s_unanswered_in,
  dd "held_lots" s_held_lots,
  dd "calm_with" s_calm_with,
  dd "lots_in" s_lots_in,
  dd "all_parts" s_all_parts,
  dd "checked_weights" s_checked_weights,
  dd "overheard_in" s_overheard_in,
  dd "all_prices" s_all_prices,
  dd "checked_budget" s_checked_budget,
  dd "prices_with" s_prices_with,
  dd "least_budget" s_least_budget,
  dd "cheapest_lot" s_cheapest_lot,
  dd "most_for" s_most_for,
  dd "stands" s_stands,
  dd "_law_m_held" s_law_m_held,
  dd "_law_m_weights" s_law_m_weights,
  dd "_law_m_sum" s_law_m_sum,
  dd "_law_m_odd_weights" s_law_m_odd_weights,
  dd "_law_m_are_weights" s_law_m_are_weights,
  dd "_law_m_is_weight" s_law_m_is_weight,
  dd "_law_m_prices" s_law_m_prices,
  dd "_law_m_second" s_law_m_second,
  dd "_law_start" s_law_start,
  dd "_law_draw" s_law_draw,
  dd "_law_pick" s_law_pick,
  dd "_law_mixed" s_law_mixed,
  dd "_law_same" s_law_same,
  dd "_law_each_once" s_law_each_once,
  dd "_law_loose" s_law_loose,
  dd "_law_d_names" s_law_d_names,
  dd "_law_d_pairs" s_law_d_pairs,
  dd "_law_d_objectors" s_law_d_objectors,
  dd "_law_d_hits" s_law_d_hits,
  dd "_law_d_subsets" s_law_d_subsets,
  dd "_law_met" s_law_met,
  dd "_law_name_right" s_law_name_right,
  dd "law" s_law,
  dm "Debate" "__init__" "Debate.__init__" s_Debate_init,
  dm "BadNumber" "__init__" "BadNumber.__init__" s_BadNumber_init,
  dm "BadWeights" "__init__" "BadWeights.__init__" s_BadWeights_init,
  dm "NoStatement" "__init__" "NoStatement.__init__" s_NoStatement_init]
def fa : List He.Fa := [.glo "is_list",
  .glo "is_integer",
  .glo "is_number",
  .glo "is_name",
  .glo "as_tuples",
  .glo "checked_statements",
  .glo "is_pair_of",
  .glo "checked_objections",
  .glo "checked_statement",
  .glo "checked_way",
  .glo "hit_by",
  .glo "unanswered_in",
  .glo "held_lots",
  .glo "calm_with",
  .glo "lots_in",
  .glo "all_parts",
  .glo "checked_weights",
  .glo "overheard_in",
  .glo "all_prices",
  .glo "checked_budget",
  .glo "prices_with",
  .glo "least_budget",
  .glo "cheapest_lot",
  .glo "most_for",
  .glo "stands",
  .glo "_law_m_held",
  .glo "_law_m_weights",
  .glo "_law_m_sum",
  .glo "_law_m_odd_weights",
  .glo "_law_m_are_weights",
  .glo "_law_m_is_weight",
  .glo "_law_m_prices",
  .glo "_law_m_second",
  .glo "_law_start",
  .glo "_law_draw",
  .glo "_law_pick",
  .glo "_law_mixed",
  .glo "_law_same",
  .glo "_law_each_once",
  .glo "_law_loose",
  .glo "_law_d_names",
  .glo "_law_d_pairs",
  .glo "_law_d_objectors",
  .glo "_law_d_hits",
  .glo "_law_d_subsets",
  .glo "_law_met",
  .glo "_law_name_right",
  .glo "law",
  .glo "Debate",
  .glo "BadNumber",
  .glo "BadWeights",
  .glo "NoStatement",
  .glo "WAYS",
  .free "all",
  .free "any",
  .free "bool",
  .free "dict",
  .free "enumerate",
  .free "int",
  .free "isinstance",
  .free "len",
  .free "list",
  .free "max",
  .free "min",
  .free "range",
  .free "sorted",
  .free "str",
  .free "sum",
  .free "tuple",
  .free "zip",
  .str "SMALL" "abcdefghijklmnopqrstuvwxyz",
  .str "FIGURES" "0123456789",
  .cls "Debate",
  .mkr "Debate",
  .noat "Debate" "own_statements",
  .noat "Debate" "own_objections",
  .noat "Debate" "own_objectors",
  .noat "Debate" "own_objected",
  .keep "BadNumber",
  .keep "BadWeights",
  .keep "NoStatement",
  .exm "BadNumber" "BadNumber" true,
  .exm "BadNumber" "BadWeights" false,
  .exm "BadNumber" "NoStatement" false,
  .exm "BadWeights" "BadNumber" false,
  .exm "BadWeights" "BadWeights" true,
  .exm "BadWeights" "NoStatement" false,
  .exm "NoStatement" "BadNumber" false,
  .exm "NoStatement" "BadWeights" false,
  .exm "NoStatement" "NoStatement" true]
/-- what the top leaves, of the written part K and the module's names mg -/
structure Top (K : PySem.W.Frag) (mg : Str → Option Value) : Prop where
  says : He.SaysD fa fn K
  more : ex K = true
  mgo : ∀ (x : Str) (v : Option Value), PySem.W.nsIn K mainGlobals x = some v → mg x = v
section
variable {K : PySem.W.Frag} {mg : Str → Option Value}
theorem Top.ways (T : Top K mg) (H : Hp) : SqT K H (He.ga K "WAYS") [.str "calm", .str "held", .str "whole", .str "least", .str "greatest", .str "settled"] := He.tupB_ok (Bool.and_eq_true_iff.mp T.more).1 H
theorem Top.e_BadNumber (T : Top K mg) : ErrC K "BadNumber" := errB_ok (Bool.and_eq_true_iff.mp (Bool.and_eq_true_iff.mp T.more).2).1
theorem Top.e_BadWeights (T : Top K mg) : ErrC K "BadWeights" := errB_ok (Bool.and_eq_true_iff.mp (Bool.and_eq_true_iff.mp (Bool.and_eq_true_iff.mp T.more).2).2).1
theorem Top.e_NoStatement (T : Top K mg) : ErrC K "NoStatement" := errB_ok (Bool.and_eq_true_iff.mp (Bool.and_eq_true_iff.mp (Bool.and_eq_true_iff.mp T.more).2).2).2
theorem Top.glo (T : Top K mg) (i : Nat) {x : Str} (h : fa[i]? = some (.glo x)) : mg x = some (.ref (He.ga K x)) := T.mgo _ _ (He.eqO_ok (T.says.fact i h))
theorem Top.free (T : Top K mg) (i : Nat) {x : Str} (h : fa[i]? = some (.free x)) : mg x = none := T.mgo _ _ (He.eqO_ok (T.says.fact i h))
theorem Top.str (T : Top K mg) (i : Nat) {x z : Str} (h : fa[i]? = some (.str x z)) : ∃ t, mg x = some (.str z t) := by
  have c : (He.Fa.str x z).ok K = true := T.says.fact i h
  have c2 : (match PySem.W.nsIn K mainGlobals x with
    | some (some (.str y _)) => decide (y = z)
    | _ => false) = true := c
  cases e : PySem.W.nsIn K mainGlobals x with
  | none => rw [e] at c2; cases c2
  | some o =>
    rw [e] at c2
    cases o with
    | none => cases c2
    | some v =>
      cases v with
      | str y t =>
        have ej : y = z := of_decide_eq_true c2
        rw [ej] at e
        exact ⟨t, T.mgo _ _ e⟩
      | _ => cases c2
theorem Top.g_is_list (T : Top K mg) : mg "is_list" = some (.ref (He.ga K "is_list")) := T.glo 0 rfl
theorem Top.g_is_integer (T : Top K mg) : mg "is_integer" = some (.ref (He.ga K "is_integer")) := T.glo 1 rfl
theorem Top.g_is_number (T : Top K mg) : mg "is_number" = some (.ref (He.ga K "is_number")) := T.glo 2 rfl
theorem Top.g_is_name (T : Top K mg) : mg "is_name" = some (.ref (He.ga K "is_name")) := T.glo 3 rfl
theorem Top.g_as_tuples (T : Top K mg) : mg "as_tuples" = some (.ref (He.ga K "as_tuples")) := T.glo 4 rfl
theorem Top.g_checked_statements (T : Top K mg) : mg "checked_statements" = some (.ref (He.ga K "checked_statements")) := T.glo 5 rfl
theorem Top.g_is_pair_of (T : Top K mg) : mg "is_pair_of" = some (.ref (He.ga K "is_pair_of")) := T.glo 6 rfl
theorem Top.g_checked_objections (T : Top K mg) : mg "checked_objections" = some (.ref (He.ga K "checked_objections")) := T.glo 7 rfl
theorem Top.g_checked_statement (T : Top K mg) : mg "checked_statement" = some (.ref (He.ga K "checked_statement")) := T.glo 8 rfl
theorem Top.g_checked_way (T : Top K mg) : mg "checked_way" = some (.ref (He.ga K "checked_way")) := T.glo 9 rfl
theorem Top.g_hit_by (T : Top K mg) : mg "hit_by" = some (.ref (He.ga K "hit_by")) := T.glo 10 rfl
theorem Top.g_unanswered_in (T : Top K mg) : mg "unanswered_in" = some (.ref (He.ga K "unanswered_in")) := T.glo 11 rfl
theorem Top.g_held_lots (T : Top K mg) : mg "held_lots" = some (.ref (He.ga K "held_lots")) := T.glo 12 rfl
theorem Top.g_calm_with (T : Top K mg) : mg "calm_with" = some (.ref (He.ga K "calm_with")) := T.glo 13 rfl
theorem Top.g_lots_in (T : Top K mg) : mg "lots_in" = some (.ref (He.ga K "lots_in")) := T.glo 14 rfl
theorem Top.g_all_parts (T : Top K mg) : mg "all_parts" = some (.ref (He.ga K "all_parts")) := T.glo 15 rfl
theorem Top.g_checked_weights (T : Top K mg) : mg "checked_weights" = some (.ref (He.ga K "checked_weights")) := T.glo 16 rfl
theorem Top.g_overheard_in (T : Top K mg) : mg "overheard_in" = some (.ref (He.ga K "overheard_in")) := T.glo 17 rfl
theorem Top.g_all_prices (T : Top K mg) : mg "all_prices" = some (.ref (He.ga K "all_prices")) := T.glo 18 rfl
theorem Top.g_checked_budget (T : Top K mg) : mg "checked_budget" = some (.ref (He.ga K "checked_budget")) := T.glo 19 rfl
theorem Top.g_prices_with (T : Top K mg) : mg "prices_with" = some (.ref (He.ga K "prices_with")) := T.glo 20 rfl
theorem Top.g_least_budget (T : Top K mg) : mg "least_budget" = some (.ref (He.ga K "least_budget")) := T.glo 21 rfl
theorem Top.g_cheapest_lot (T : Top K mg) : mg "cheapest_lot" = some (.ref (He.ga K "cheapest_lot")) := T.glo 22 rfl
theorem Top.g_most_for (T : Top K mg) : mg "most_for" = some (.ref (He.ga K "most_for")) := T.glo 23 rfl
theorem Top.g_stands (T : Top K mg) : mg "stands" = some (.ref (He.ga K "stands")) := T.glo 24 rfl
theorem Top.g_law_m_held (T : Top K mg) : mg "_law_m_held" = some (.ref (He.ga K "_law_m_held")) := T.glo 25 rfl
theorem Top.g_law_m_weights (T : Top K mg) : mg "_law_m_weights" = some (.ref (He.ga K "_law_m_weights")) := T.glo 26 rfl
theorem Top.g_law_m_sum (T : Top K mg) : mg "_law_m_sum" = some (.ref (He.ga K "_law_m_sum")) := T.glo 27 rfl
theorem Top.g_law_m_odd_weights (T : Top K mg) : mg "_law_m_odd_weights" = some (.ref (He.ga K "_law_m_odd_weights")) := T.glo 28 rfl
theorem Top.g_law_m_are_weights (T : Top K mg) : mg "_law_m_are_weights" = some (.ref (He.ga K "_law_m_are_weights")) := T.glo 29 rfl
theorem Top.g_law_m_is_weight (T : Top K mg) : mg "_law_m_is_weight" = some (.ref (He.ga K "_law_m_is_weight")) := T.glo 30 rfl
theorem Top.g_law_m_prices (T : Top K mg) : mg "_law_m_prices" = some (.ref (He.ga K "_law_m_prices")) := T.glo 31 rfl
theorem Top.g_law_m_second (T : Top K mg) : mg "_law_m_second" = some (.ref (He.ga K "_law_m_second")) := T.glo 32 rfl
theorem Top.g_law_start (T : Top K mg) : mg "_law_start" = some (.ref (He.ga K "_law_start")) := T.glo 33 rfl
theorem Top.g_law_draw (T : Top K mg) : mg "_law_draw" = some (.ref (He.ga K "_law_draw")) := T.glo 34 rfl
theorem Top.g_law_pick (T : Top K mg) : mg "_law_pick" = some (.ref (He.ga K "_law_pick")) := T.glo 35 rfl
theorem Top.g_law_mixed (T : Top K mg) : mg "_law_mixed" = some (.ref (He.ga K "_law_mixed")) := T.glo 36 rfl
theorem Top.g_law_same (T : Top K mg) : mg "_law_same" = some (.ref (He.ga K "_law_same")) := T.glo 37 rfl
theorem Top.g_law_each_once (T : Top K mg) : mg "_law_each_once" = some (.ref (He.ga K "_law_each_once")) := T.glo 38 rfl
theorem Top.g_law_loose (T : Top K mg) : mg "_law_loose" = some (.ref (He.ga K "_law_loose")) := T.glo 39 rfl
theorem Top.g_law_d_names (T : Top K mg) : mg "_law_d_names" = some (.ref (He.ga K "_law_d_names")) := T.glo 40 rfl
theorem Top.g_law_d_pairs (T : Top K mg) : mg "_law_d_pairs" = some (.ref (He.ga K "_law_d_pairs")) := T.glo 41 rfl
theorem Top.g_law_d_objectors (T : Top K mg) : mg "_law_d_objectors" = some (.ref (He.ga K "_law_d_objectors")) := T.glo 42 rfl
theorem Top.g_law_d_hits (T : Top K mg) : mg "_law_d_hits" = some (.ref (He.ga K "_law_d_hits")) := T.glo 43 rfl
theorem Top.g_law_d_subsets (T : Top K mg) : mg "_law_d_subsets" = some (.ref (He.ga K "_law_d_subsets")) := T.glo 44 rfl
theorem Top.g_law_met (T : Top K mg) : mg "_law_met" = some (.ref (He.ga K "_law_met")) := T.glo 45 rfl
theorem Top.g_law_name_right (T : Top K mg) : mg "_law_name_right" = some (.ref (He.ga K "_law_name_right")) := T.glo 46 rfl
theorem Top.g_law (T : Top K mg) : mg "law" = some (.ref (He.ga K "law")) := T.glo 47 rfl
theorem Top.g_Debate (T : Top K mg) : mg "Debate" = some (.ref (He.ga K "Debate")) := T.glo 48 rfl
theorem Top.g_BadNumber (T : Top K mg) : mg "BadNumber" = some (.ref (He.ga K "BadNumber")) := T.glo 49 rfl
theorem Top.g_BadWeights (T : Top K mg) : mg "BadWeights" = some (.ref (He.ga K "BadWeights")) := T.glo 50 rfl
theorem Top.g_NoStatement (T : Top K mg) : mg "NoStatement" = some (.ref (He.ga K "NoStatement")) := T.glo 51 rfl
theorem Top.g_WAYS (T : Top K mg) : mg "WAYS" = some (.ref (He.ga K "WAYS")) := T.glo 52 rfl
theorem Top.z_all (T : Top K mg) : mg "all" = none := T.free 53 rfl
theorem Top.z_any (T : Top K mg) : mg "any" = none := T.free 54 rfl
theorem Top.z_bool (T : Top K mg) : mg "bool" = none := T.free 55 rfl
theorem Top.z_dict (T : Top K mg) : mg "dict" = none := T.free 56 rfl
theorem Top.z_enumerate (T : Top K mg) : mg "enumerate" = none := T.free 57 rfl
theorem Top.z_int (T : Top K mg) : mg "int" = none := T.free 58 rfl
theorem Top.z_isinstance (T : Top K mg) : mg "isinstance" = none := T.free 59 rfl
theorem Top.z_len (T : Top K mg) : mg "len" = none := T.free 60 rfl
theorem Top.z_list (T : Top K mg) : mg "list" = none := T.free 61 rfl
theorem Top.z_max (T : Top K mg) : mg "max" = none := T.free 62 rfl
theorem Top.z_min (T : Top K mg) : mg "min" = none := T.free 63 rfl
theorem Top.z_range (T : Top K mg) : mg "range" = none := T.free 64 rfl
theorem Top.z_sorted (T : Top K mg) : mg "sorted" = none := T.free 65 rfl
theorem Top.z_str (T : Top K mg) : mg "str" = none := T.free 66 rfl
theorem Top.z_sum (T : Top K mg) : mg "sum" = none := T.free 67 rfl
theorem Top.z_tuple (T : Top K mg) : mg "tuple" = none := T.free 68 rfl
theorem Top.z_zip (T : Top K mg) : mg "zip" = none := T.free 69 rfl
theorem Top.g_SMALL (T : Top K mg) : ∃ t, mg "SMALL" = some (.str "abcdefghijklmnopqrstuvwxyz" t) := T.str 70 rfl
theorem Top.g_FIGURES (T : Top K mg) : ∃ t, mg "FIGURES" = some (.str "0123456789" t) := T.str 71 rfl
theorem Top.c_Debate (T : Top K mg) : Cls K (He.ga K "Debate") := He.cls_ok (T.says.fact 72 rfl)
theorem Top.m_Debate (T : Top K mg) : Mk K (He.ga K "Debate") (He.ma K (He.ga K "Debate") "__init__") := He.mkr_ok (T.says.fact 73 rfl)
theorem Top.n_own_statements (T : Top K mg) : NoAttr K (He.ga K "Debate") "own_statements" := He.noat_ok (T.says.fact 74 rfl)
theorem Top.n_own_objections (T : Top K mg) : NoAttr K (He.ga K "Debate") "own_objections" := He.noat_ok (T.says.fact 75 rfl)
theorem Top.n_own_objectors (T : Top K mg) : NoAttr K (He.ga K "Debate") "own_objectors" := He.noat_ok (T.says.fact 76 rfl)
theorem Top.n_own_objected (T : Top K mg) : NoAttr K (He.ga K "Debate") "own_objected" := He.noat_ok (T.says.fact 77 rfl)
theorem Top.k_BadNumber (T : Top K mg) : PySem.W.keepIn K (.ref (He.ga K "BadNumber")) = true := He.keep_ok (T.says.fact 78 rfl)
theorem Top.k_BadWeights (T : Top K mg) : PySem.W.keepIn K (.ref (He.ga K "BadWeights")) = true := He.keep_ok (T.says.fact 79 rfl)
theorem Top.k_NoStatement (T : Top K mg) : PySem.W.keepIn K (.ref (He.ga K "NoStatement")) = true := He.keep_ok (T.says.fact 80 rfl)
theorem Top.x_BadNumber_BadNumber (T : Top K mg) : PySem.W.exmOne K (.ref (He.ga K "BadNumber")) (.ref (He.ga K "BadNumber")) = some true := He.exm_ok (T.says.fact 81 rfl)
theorem Top.x_BadNumber_BadWeights (T : Top K mg) : PySem.W.exmOne K (.ref (He.ga K "BadNumber")) (.ref (He.ga K "BadWeights")) = some false := He.exm_ok (T.says.fact 82 rfl)
theorem Top.x_BadNumber_NoStatement (T : Top K mg) : PySem.W.exmOne K (.ref (He.ga K "BadNumber")) (.ref (He.ga K "NoStatement")) = some false := He.exm_ok (T.says.fact 83 rfl)
theorem Top.x_BadWeights_BadNumber (T : Top K mg) : PySem.W.exmOne K (.ref (He.ga K "BadWeights")) (.ref (He.ga K "BadNumber")) = some false := He.exm_ok (T.says.fact 84 rfl)
theorem Top.x_BadWeights_BadWeights (T : Top K mg) : PySem.W.exmOne K (.ref (He.ga K "BadWeights")) (.ref (He.ga K "BadWeights")) = some true := He.exm_ok (T.says.fact 85 rfl)
theorem Top.x_BadWeights_NoStatement (T : Top K mg) : PySem.W.exmOne K (.ref (He.ga K "BadWeights")) (.ref (He.ga K "NoStatement")) = some false := He.exm_ok (T.says.fact 86 rfl)
theorem Top.x_NoStatement_BadNumber (T : Top K mg) : PySem.W.exmOne K (.ref (He.ga K "NoStatement")) (.ref (He.ga K "BadNumber")) = some false := He.exm_ok (T.says.fact 87 rfl)
theorem Top.x_NoStatement_BadWeights (T : Top K mg) : PySem.W.exmOne K (.ref (He.ga K "NoStatement")) (.ref (He.ga K "BadWeights")) = some false := He.exm_ok (T.says.fact 88 rfl)
theorem Top.x_NoStatement_NoStatement (T : Top K mg) : PySem.W.exmOne K (.ref (He.ga K "NoStatement")) (.ref (He.ga K "NoStatement")) = some true := He.exm_ok (T.says.fact 89 rfl)
theorem Top.f_is_list (T : Top K mg) : ∃ fd, FunD K "is_list" "is_list" (defArgs s_is_list) (defBody s_is_list) (defScope s_is_list) [] [] (He.ga K "is_list") fd := T.says.def_ 0 rfl
theorem Top.f_is_integer (T : Top K mg) : ∃ fd, FunD K "is_integer" "is_integer" (defArgs s_is_integer) (defBody s_is_integer) (defScope s_is_integer) [] [] (He.ga K "is_integer") fd := T.says.def_ 1 rfl
theorem Top.f_is_number (T : Top K mg) : ∃ fd, FunD K "is_number" "is_number" (defArgs s_is_number) (defBody s_is_number) (defScope s_is_number) [] [] (He.ga K "is_number") fd := T.says.def_ 2 rfl
theorem Top.f_is_name (T : Top K mg) : ∃ fd, FunD K "is_name" "is_name" (defArgs s_is_name) (defBody s_is_name) (defScope s_is_name) [] [] (He.ga K "is_name") fd := T.says.def_ 3 rfl
theorem Top.f_as_tuples (T : Top K mg) : ∃ fd, FunD K "as_tuples" "as_tuples" (defArgs s_as_tuples) (defBody s_as_tuples) (defScope s_as_tuples) [] [] (He.ga K "as_tuples") fd := T.says.def_ 4 rfl
theorem Top.f_checked_statements (T : Top K mg) : ∃ fd, FunD K "checked_statements" "checked_statements" (defArgs s_checked_statements) (defBody s_checked_statements) (defScope s_checked_statements) [] [] (He.ga K "checked_statements") fd := T.says.def_ 5 rfl
theorem Top.f_is_pair_of (T : Top K mg) : ∃ fd, FunD K "is_pair_of" "is_pair_of" (defArgs s_is_pair_of) (defBody s_is_pair_of) (defScope s_is_pair_of) [] [] (He.ga K "is_pair_of") fd := T.says.def_ 6 rfl
theorem Top.f_checked_objections (T : Top K mg) : ∃ fd, FunD K "checked_objections" "checked_objections" (defArgs s_checked_objections) (defBody s_checked_objections) (defScope s_checked_objections) [] [] (He.ga K "checked_objections") fd := T.says.def_ 7 rfl
theorem Top.f_checked_statement (T : Top K mg) : ∃ fd, FunD K "checked_statement" "checked_statement" (defArgs s_checked_statement) (defBody s_checked_statement) (defScope s_checked_statement) [] [] (He.ga K "checked_statement") fd := T.says.def_ 8 rfl
theorem Top.f_checked_way (T : Top K mg) : ∃ fd, FunD K "checked_way" "checked_way" (defArgs s_checked_way) (defBody s_checked_way) (defScope s_checked_way) [] [] (He.ga K "checked_way") fd := T.says.def_ 9 rfl
theorem Top.f_hit_by (T : Top K mg) : ∃ fd, FunD K "hit_by" "hit_by" (defArgs s_hit_by) (defBody s_hit_by) (defScope s_hit_by) [] [] (He.ga K "hit_by") fd := T.says.def_ 10 rfl
theorem Top.f_unanswered_in (T : Top K mg) : ∃ fd, FunD K "unanswered_in" "unanswered_in" (defArgs s_unanswered_in) (defBody s_unanswered_in) (defScope s_unanswered_in) [] [] (He.ga K "unanswered_in") fd := T.says.def_ 11 rfl
theorem Top.f_held_lots (T : Top K mg) : ∃ fd, FunD K "held_lots" "held_lots" (defArgs s_held_lots) (defBody s_held_lots) (defScope s_held_lots) [] [] (He.ga K "held_lots") fd := T.says.def_ 12 rfl
theorem Top.f_calm_with (T : Top K mg) : ∃ fd, FunD K "calm_with" "calm_with" (defArgs s_calm_with) (defBody s_calm_with) (defScope s_calm_with) [] [] (He.ga K "calm_with") fd := T.says.def_ 13 rfl
theorem Top.f_lots_in (T : Top K mg) : ∃ fd, FunD K "lots_in" "lots_in" (defArgs s_lots_in) (defBody s_lots_in) (defScope s_lots_in) [] [] (He.ga K "lots_in") fd := T.says.def_ 14 rfl
theorem Top.f_all_parts (T : Top K mg) : ∃ fd, FunD K "all_parts" "all_parts" (defArgs s_all_parts) (defBody s_all_parts) (defScope s_all_parts) [] [] (He.ga K "all_parts") fd := T.says.def_ 15 rfl
theorem Top.f_checked_weights (T : Top K mg) : ∃ fd, FunD K "checked_weights" "checked_weights" (defArgs s_checked_weights) (defBody s_checked_weights) (defScope s_checked_weights) [] [] (He.ga K "checked_weights") fd := T.says.def_ 16 rfl
theorem Top.f_overheard_in (T : Top K mg) : ∃ fd, FunD K "overheard_in" "overheard_in" (defArgs s_overheard_in) (defBody s_overheard_in) (defScope s_overheard_in) [] [] (He.ga K "overheard_in") fd := T.says.def_ 17 rfl
theorem Top.f_all_prices (T : Top K mg) : ∃ fd, FunD K "all_prices" "all_prices" (defArgs s_all_prices) (defBody s_all_prices) (defScope s_all_prices) [] [] (He.ga K "all_prices") fd := T.says.def_ 18 rfl
theorem Top.f_checked_budget (T : Top K mg) : ∃ fd, FunD K "checked_budget" "checked_budget" (defArgs s_checked_budget) (defBody s_checked_budget) (defScope s_checked_budget) [] [] (He.ga K "checked_budget") fd := T.says.def_ 19 rfl
theorem Top.f_prices_with (T : Top K mg) : ∃ fd, FunD K "prices_with" "prices_with" (defArgs s_prices_with) (defBody s_prices_with) (defScope s_prices_with) [] [] (He.ga K "prices_with") fd := T.says.def_ 20 rfl
theorem Top.f_least_budget (T : Top K mg) : ∃ fd, FunD K "least_budget" "least_budget" (defArgs s_least_budget) (defBody s_least_budget) (defScope s_least_budget) [] [] (He.ga K "least_budget") fd := T.says.def_ 21 rfl
theorem Top.f_cheapest_lot (T : Top K mg) : ∃ fd, FunD K "cheapest_lot" "cheapest_lot" (defArgs s_cheapest_lot) (defBody s_cheapest_lot) (defScope s_cheapest_lot) [] [] (He.ga K "cheapest_lot") fd := T.says.def_ 22 rfl
theorem Top.f_most_for (T : Top K mg) : ∃ fd, FunD K "most_for" "most_for" (defArgs s_most_for) (defBody s_most_for) (defScope s_most_for) [] [] (He.ga K "most_for") fd := T.says.def_ 23 rfl
theorem Top.f_stands (T : Top K mg) : ∃ fd, FunD K "stands" "stands" (defArgs s_stands) (defBody s_stands) (defScope s_stands) [] [] (He.ga K "stands") fd := T.says.def_ 24 rfl
theorem Top.f_law_m_held (T : Top K mg) : ∃ fd, FunD K "_law_m_held" "_law_m_held" (defArgs s_law_m_held) (defBody s_law_m_held) (defScope s_law_m_held) [] [] (He.ga K "_law_m_held") fd := T.says.def_ 25 rfl
theorem Top.f_law_m_weights (T : Top K mg) : ∃ fd, FunD K "_law_m_weights" "_law_m_weights" (defArgs s_law_m_weights) (defBody s_law_m_weights) (defScope s_law_m_weights) [] [] (He.ga K "_law_m_weights") fd := T.says.def_ 26 rfl
theorem Top.f_law_m_sum (T : Top K mg) : ∃ fd, FunD K "_law_m_sum" "_law_m_sum" (defArgs s_law_m_sum) (defBody s_law_m_sum) (defScope s_law_m_sum) [] [] (He.ga K "_law_m_sum") fd := T.says.def_ 27 rfl
theorem Top.f_law_m_odd_weights (T : Top K mg) : ∃ fd, FunD K "_law_m_odd_weights" "_law_m_odd_weights" (defArgs s_law_m_odd_weights) (defBody s_law_m_odd_weights) (defScope s_law_m_odd_weights) [] [] (He.ga K "_law_m_odd_weights") fd := T.says.def_ 28 rfl
theorem Top.f_law_m_are_weights (T : Top K mg) : ∃ fd, FunD K "_law_m_are_weights" "_law_m_are_weights" (defArgs s_law_m_are_weights) (defBody s_law_m_are_weights) (defScope s_law_m_are_weights) [] [] (He.ga K "_law_m_are_weights") fd := T.says.def_ 29 rfl
theorem Top.f_law_m_is_weight (T : Top K mg) : ∃ fd, FunD K "_law_m_is_weight" "_law_m_is_weight" (defArgs s_law_m_is_weight) (defBody s_law_m_is_weight) (defScope s_law_m_is_weight) [] [] (He.ga K "_law_m_is_weight") fd := T.says.def_ 30 rfl
theorem Top.f_law_m_prices (T : Top K mg) : ∃ fd, FunD K "_law_m_prices" "_law_m_prices" (defArgs s_law_m_prices) (defBody s_law_m_prices) (defScope s_law_m_prices) [] [] (He.ga K "_law_m_prices") fd := T.says.def_ 31 rfl
theorem Top.f_law_m_second (T : Top K mg) : ∃ fd, FunD K "_law_m_second" "_law_m_second" (defArgs s_law_m_second) (defBody s_law_m_second) (defScope s_law_m_second) [] [] (He.ga K "_law_m_second") fd := T.says.def_ 32 rfl
theorem Top.f_law_start (T : Top K mg) : ∃ fd, FunD K "_law_start" "_law_start" (defArgs s_law_start) (defBody s_law_start) (defScope s_law_start) [] [] (He.ga K "_law_start") fd := T.says.def_ 33 rfl
theorem Top.f_law_draw (T : Top K mg) : ∃ fd, FunD K "_law_draw" "_law_draw" (defArgs s_law_draw) (defBody s_law_draw) (defScope s_law_draw) [] [] (He.ga K "_law_draw") fd := T.says.def_ 34 rfl
theorem Top.f_law_pick (T : Top K mg) : ∃ fd, FunD K "_law_pick" "_law_pick" (defArgs s_law_pick) (defBody s_law_pick) (defScope s_law_pick) [] [] (He.ga K "_law_pick") fd := T.says.def_ 35 rfl
theorem Top.f_law_mixed (T : Top K mg) : ∃ fd, FunD K "_law_mixed" "_law_mixed" (defArgs s_law_mixed) (defBody s_law_mixed) (defScope s_law_mixed) [] [] (He.ga K "_law_mixed") fd := T.says.def_ 36 rfl
theorem Top.f_law_same (T : Top K mg) : ∃ fd, FunD K "_law_same" "_law_same" (defArgs s_law_same) (defBody s_law_same) (defScope s_law_same) [] [] (He.ga K "_law_same") fd := T.says.def_ 37 rfl
theorem Top.f_law_each_once (T : Top K mg) : ∃ fd, FunD K "_law_each_once" "_law_each_once" (defArgs s_law_each_once) (defBody s_law_each_once) (defScope s_law_each_once) [] [] (He.ga K "_law_each_once") fd := T.says.def_ 38 rfl
theorem Top.f_law_loose (T : Top K mg) : ∃ fd, FunD K "_law_loose" "_law_loose" (defArgs s_law_loose) (defBody s_law_loose) (defScope s_law_loose) [] [] (He.ga K "_law_loose") fd := T.says.def_ 39 rfl
theorem Top.f_law_d_names (T : Top K mg) : ∃ fd, FunD K "_law_d_names" "_law_d_names" (defArgs s_law_d_names) (defBody s_law_d_names) (defScope s_law_d_names) [] [] (He.ga K "_law_d_names") fd := T.says.def_ 40 rfl
theorem Top.f_law_d_pairs (T : Top K mg) : ∃ fd, FunD K "_law_d_pairs" "_law_d_pairs" (defArgs s_law_d_pairs) (defBody s_law_d_pairs) (defScope s_law_d_pairs) [] [] (He.ga K "_law_d_pairs") fd := T.says.def_ 41 rfl
theorem Top.f_law_d_objectors (T : Top K mg) : ∃ fd, FunD K "_law_d_objectors" "_law_d_objectors" (defArgs s_law_d_objectors) (defBody s_law_d_objectors) (defScope s_law_d_objectors) [] [] (He.ga K "_law_d_objectors") fd := T.says.def_ 42 rfl
theorem Top.f_law_d_hits (T : Top K mg) : ∃ fd, FunD K "_law_d_hits" "_law_d_hits" (defArgs s_law_d_hits) (defBody s_law_d_hits) (defScope s_law_d_hits) [] [] (He.ga K "_law_d_hits") fd := T.says.def_ 43 rfl
theorem Top.f_law_d_subsets (T : Top K mg) : ∃ fd, FunD K "_law_d_subsets" "_law_d_subsets" (defArgs s_law_d_subsets) (defBody s_law_d_subsets) (defScope s_law_d_subsets) [] [] (He.ga K "_law_d_subsets") fd := T.says.def_ 44 rfl
theorem Top.f_law_met (T : Top K mg) : ∃ fd, FunD K "_law_met" "_law_met" (defArgs s_law_met) (defBody s_law_met) (defScope s_law_met) [] [] (He.ga K "_law_met") fd := T.says.def_ 45 rfl
theorem Top.f_law_name_right (T : Top K mg) : ∃ fd, FunD K "_law_name_right" "_law_name_right" (defArgs s_law_name_right) (defBody s_law_name_right) (defScope s_law_name_right) [] [] (He.ga K "_law_name_right") fd := T.says.def_ 46 rfl
theorem Top.f_law (T : Top K mg) : ∃ fd, FunD K "law" "law" (defArgs s_law) (defBody s_law) (defScope s_law) [] [] (He.ga K "law") fd := T.says.def_ 47 rfl
theorem Top.f_Debate_init (T : Top K mg) : ∃ fd, FunD K "__init__" "Debate.__init__" (defArgs s_Debate_init) (defBody s_Debate_init) (defScope s_Debate_init) [] [] (He.ma K (He.ga K "Debate") "__init__") fd := T.says.def_ 48 rfl
theorem Top.f_BadNumber_init (T : Top K mg) : ∃ fd, FunD K "__init__" "BadNumber.__init__" (defArgs s_BadNumber_init) (defBody s_BadNumber_init) (defScope s_BadNumber_init) [] [] (He.ma K (He.ga K "BadNumber") "__init__") fd := T.says.def_ 49 rfl
theorem Top.f_BadWeights_init (T : Top K mg) : ∃ fd, FunD K "__init__" "BadWeights.__init__" (defArgs s_BadWeights_init) (defBody s_BadWeights_init) (defScope s_BadWeights_init) [] [] (He.ma K (He.ga K "BadWeights") "__init__") fd := T.says.def_ 50 rfl
theorem Top.f_NoStatement_init (T : Top K mg) : ∃ fd, FunD K "__init__" "NoStatement.__init__" (defArgs s_NoStatement_init) (defBody s_NoStatement_init) (defScope s_NoStatement_init) [] [] (He.ma K (He.ga K "NoStatement") "__init__") fd := T.says.def_ 51 rfl
end
/-! ### the defs' names by slot -/
abbrev N_is_list : List Str := ["thing"]
theorem sc_is_list : FnScope N_is_list ["thing"] (defScope s_is_list) := ⟨rfl, rfl, rfl, by decide +kernel, rfl, by decide +kernel, by decide +kernel⟩
abbrev N_is_integer : List Str := ["thing"]
theorem sc_is_integer : FnScope N_is_integer ["thing"] (defScope s_is_integer) := ⟨rfl, rfl, rfl, by decide +kernel, rfl, by decide +kernel, by decide +kernel⟩
abbrev N_is_number : List Str := ["thing"]
theorem sc_is_number : FnScope N_is_number ["thing"] (defScope s_is_number) := ⟨rfl, rfl, rfl, by decide +kernel, rfl, by decide +kernel, by decide +kernel⟩
abbrev N_is_name : List Str := ["thing", "sign"]
theorem sc_is_name : FnScope N_is_name ["thing"] (defScope s_is_name) := ⟨rfl, rfl, rfl, by decide +kernel, rfl, by decide +kernel, by decide +kernel⟩
abbrev N_as_tuples : List Str := ["thing", "part"]
theorem sc_as_tuples : FnScope N_as_tuples ["thing"] (defScope s_as_tuples) := ⟨rfl, rfl, rfl, by decide +kernel, rfl, by decide +kernel, by decide +kernel⟩
abbrev N_checked_statements : List Str := ["statements", "index", "thing"]
theorem sc_checked_statements : FnScope N_checked_statements ["statements"] (defScope s_checked_statements) := ⟨rfl, rfl, rfl, by decide +kernel, rfl, by decide +kernel, by decide +kernel⟩
abbrev N_is_pair_of : List Str := ["thing", "statements", "one"]
theorem sc_is_pair_of : FnScope N_is_pair_of ["thing", "statements"] (defScope s_is_pair_of) := ⟨rfl, rfl, rfl, by decide +kernel, rfl, by decide +kernel, by decide +kernel⟩
abbrev N_checked_objections : List Str := ["objections", "statements", "known", "index", "thing"]
theorem sc_checked_objections : FnScope N_checked_objections ["objections", "statements"] (defScope s_checked_objections) := ⟨rfl, rfl, rfl, by decide +kernel, rfl, by decide +kernel, by decide +kernel⟩
abbrev N_checked_statement : List Str := ["debate", "statement"]
theorem sc_checked_statement : FnScope N_checked_statement ["debate", "statement"] (defScope s_checked_statement) := ⟨rfl, rfl, rfl, by decide +kernel, rfl, by decide +kernel, by decide +kernel⟩
abbrev N_checked_way : List Str := ["way"]
theorem sc_checked_way : FnScope N_checked_way ["way"] (defScope s_checked_way) := ⟨rfl, rfl, rfl, by decide +kernel, rfl, by decide +kernel, by decide +kernel⟩
abbrev N_hit_by : List Str := ["debate", "members", "member", "other"]
theorem sc_hit_by : FnScope N_hit_by ["debate", "members"] (defScope s_hit_by) := ⟨rfl, rfl, rfl, by decide +kernel, rfl, by decide +kernel, by decide +kernel⟩
abbrev N_unanswered_in : List Str := ["debate", "members", "hit", "member", "objector"]
theorem sc_unanswered_in : FnScope N_unanswered_in ["debate", "members"] (defScope s_unanswered_in) := ⟨rfl, rfl, rfl, by decide +kernel, rfl, by decide +kernel, by decide +kernel⟩
abbrev N_held_lots : List Str := ["debate", "found", "statement", "lot"]
theorem sc_held_lots : FnScope N_held_lots ["debate"] (defScope s_held_lots) := ⟨rfl, rfl, rfl, by decide +kernel, rfl, by decide +kernel, by decide +kernel⟩
abbrev N_calm_with : List Str := ["debate", "lot", "statement", "hits", "hit", "member"]
theorem sc_calm_with : FnScope N_calm_with ["debate", "lot", "statement"] (defScope s_calm_with) := ⟨rfl, rfl, rfl, by decide +kernel, rfl, by decide +kernel, by decide +kernel⟩
abbrev N_lots_in : List Str := ["debate", "way", "found", "lot"]
theorem sc_lots_in : FnScope N_lots_in ["debate", "way"] (defScope s_lots_in) := ⟨rfl, rfl, rfl, by decide +kernel, rfl, by decide +kernel, by decide +kernel⟩
abbrev N_all_parts : List Str := ["things", "found", "thing", "part"]
theorem sc_all_parts : FnScope N_all_parts ["things"] (defScope s_all_parts) := ⟨rfl, rfl, rfl, by decide +kernel, rfl, by decide +kernel, by decide +kernel⟩
abbrev N_checked_weights : List Str := ["debate", "weights", "pair"]
theorem sc_checked_weights : FnScope N_checked_weights ["debate", "weights"] (defScope s_checked_weights) := ⟨rfl, rfl, rfl, by decide +kernel, rfl, by decide +kernel, by decide +kernel⟩
abbrev N_overheard_in : List Str := ["debate", "way", "members", "hit", "outside", "pairs", "one", "other", "pair"]
theorem sc_overheard_in : FnScope N_overheard_in ["debate", "way", "members"] (defScope s_overheard_in) := ⟨rfl, rfl, rfl, by decide +kernel, rfl, by decide +kernel, by decide +kernel⟩
abbrev N_all_prices : List Str := ["debate", "weights", "found", "members", "pair"]
theorem sc_all_prices : FnScope N_all_prices ["debate", "weights"] (defScope s_all_prices) := ⟨rfl, rfl, rfl, by decide +kernel, rfl, by decide +kernel, by decide +kernel⟩
abbrev N_checked_budget : List Str := ["budget"]
theorem sc_checked_budget : FnScope N_checked_budget ["budget"] (defScope s_checked_budget) := ⟨rfl, rfl, rfl, by decide +kernel, rfl, by decide +kernel, by decide +kernel⟩
abbrev N_prices_with : List Str := ["debate", "weights", "statement", "known", "one", "price", "lot"]
theorem sc_prices_with : FnScope N_prices_with ["debate", "weights", "statement"] (defScope s_prices_with) := ⟨rfl, rfl, rfl, by decide +kernel, rfl, by decide +kernel, by decide +kernel⟩
abbrev N_least_budget : List Str := ["debate", "weights", "statement", "price", "lot"]
theorem sc_least_budget : FnScope N_least_budget ["debate", "weights", "statement"] (defScope s_least_budget) := ⟨rfl, rfl, rfl, by decide +kernel, rfl, by decide +kernel, by decide +kernel⟩
abbrev N_cheapest_lot : List Str := ["debate", "weights", "statement", "pairs", "least", "price", "lot"]
theorem sc_cheapest_lot : FnScope N_cheapest_lot ["debate", "weights", "statement"] (defScope s_cheapest_lot) := ⟨rfl, rfl, rfl, by decide +kernel, rfl, by decide +kernel, by decide +kernel⟩
abbrev N_most_for : List Str := ["debate", "weights", "statement", "budget", "pairs", "most", "sizes", "price", "lot"]
theorem sc_most_for : FnScope N_most_for ["debate", "weights", "statement", "budget"] (defScope s_most_for) := ⟨rfl, rfl, rfl, by decide +kernel, rfl, by decide +kernel, by decide +kernel⟩
abbrev N_stands : List Str := ["debate", "way", "statement", "how", "kept", "one", "met", "lot"]
theorem sc_stands : FnScope N_stands ["debate", "way", "statement", "how"] (defScope s_stands) := ⟨rfl, rfl, rfl, by decide +kernel, rfl, by decide +kernel, by decide +kernel⟩
abbrev N_law_m_held : List Str := ["_law_ask", "_law_thing", "_law_found"]
theorem sc_law_m_held : FnScope N_law_m_held ["_law_ask"] (defScope s_law_m_held) := ⟨rfl, rfl, rfl, by decide +kernel, rfl, by decide +kernel, by decide +kernel⟩
abbrev N_law_m_weights : List Str := ["_law_stream", "_law_pairs", "_law_most", "_law_pair"]
theorem sc_law_m_weights : FnScope N_law_m_weights ["_law_stream", "_law_pairs"] (defScope s_law_m_weights) := ⟨rfl, rfl, rfl, by decide +kernel, rfl, by decide +kernel, by decide +kernel⟩
abbrev N_law_m_sum : List Str := ["_law_weights", "_law_pairs", "_law_pair"]
theorem sc_law_m_sum : FnScope N_law_m_sum ["_law_weights", "_law_pairs"] (defScope s_law_m_sum) := ⟨rfl, rfl, rfl, by decide +kernel, rfl, by decide +kernel, by decide +kernel⟩
abbrev N_law_m_odd_weights : List Str := ["_law_stream", "_law_pairs", "_law_weights", "_law_odd", "_law_some", "_law_bent", "_law_pair", "_law_thing"]
theorem sc_law_m_odd_weights : FnScope N_law_m_odd_weights ["_law_stream", "_law_pairs", "_law_weights"] (defScope s_law_m_odd_weights) := ⟨rfl, rfl, rfl, by decide +kernel, rfl, by decide +kernel, by decide +kernel⟩
abbrev N_law_m_are_weights : List Str := ["_law_pairs", "_law_thing", "_law_pair"]
theorem sc_law_m_are_weights : FnScope N_law_m_are_weights ["_law_pairs", "_law_thing"] (defScope s_law_m_are_weights) := ⟨rfl, rfl, rfl, by decide +kernel, rfl, by decide +kernel, by decide +kernel⟩
abbrev N_law_m_is_weight : List Str := ["_law_thing"]
theorem sc_law_m_is_weight : FnScope N_law_m_is_weight ["_law_thing"] (defScope s_law_m_is_weight) := ⟨rfl, rfl, rfl, by decide +kernel, rfl, by decide +kernel, by decide +kernel⟩
abbrev N_law_m_prices : List Str := ["_law_names", "_law_pairs", "_law_weights", "_law_found", "_law_lot", "_law_gone", "_law_one", "_law_other", "_law_is_open"]
theorem sc_law_m_prices : FnScope N_law_m_prices ["_law_names", "_law_pairs", "_law_weights"] (defScope s_law_m_prices) := ⟨rfl, rfl, rfl, by decide +kernel, rfl, by decide +kernel, by decide +kernel⟩
abbrev N_law_m_second : List Str := ["_law_pair"]
theorem sc_law_m_second : FnScope N_law_m_second ["_law_pair"] (defScope s_law_m_second) := ⟨rfl, rfl, rfl, by decide +kernel, rfl, by decide +kernel, by decide +kernel⟩
abbrev N_law_start : List Str := ["_law_script"]
theorem sc_law_start : FnScope N_law_start ["_law_script"] (defScope s_law_start) := ⟨rfl, rfl, rfl, by decide +kernel, rfl, by decide +kernel, by decide +kernel⟩
abbrev N_law_draw : List Str := ["_law_stream", "_law_many", "_law_cell", "_law_digit", "_law_mixed_here"]
theorem sc_law_draw : FnScope N_law_draw ["_law_stream", "_law_many"] (defScope s_law_draw) := ⟨rfl, rfl, rfl, by decide +kernel, rfl, by decide +kernel, by decide +kernel⟩
abbrev N_law_pick : List Str := ["_law_stream", "_law_some"]
theorem sc_law_pick : FnScope N_law_pick ["_law_stream", "_law_some"] (defScope s_law_pick) := ⟨rfl, rfl, rfl, by decide +kernel, rfl, by decide +kernel, by decide +kernel⟩
abbrev N_law_mixed : List Str := ["_law_stream", "_law_some", "_law_left", "_law_k"]
theorem sc_law_mixed : FnScope N_law_mixed ["_law_stream", "_law_some"] (defScope s_law_mixed) := ⟨rfl, rfl, rfl, by decide +kernel, rfl, by decide +kernel, by decide +kernel⟩
abbrev N_law_same : List Str := ["_law_found", "_law_due", "_law_x", "_law_y"]
theorem sc_law_same : FnScope N_law_same ["_law_found", "_law_due"] (defScope s_law_same) := ⟨rfl, rfl, rfl, by decide +kernel, rfl, by decide +kernel, by decide +kernel⟩
abbrev N_law_each_once : List Str := ["_law_things", "_law_found", "_law_thing"]
theorem sc_law_each_once : FnScope N_law_each_once ["_law_things"] (defScope s_law_each_once) := ⟨rfl, rfl, rfl, by decide +kernel, rfl, by decide +kernel, by decide +kernel⟩
abbrev N_law_loose : List Str := ["_law_stream", "_law_thing", "_law_found", "_law_part"]
theorem sc_law_loose : FnScope N_law_loose ["_law_stream", "_law_thing"] (defScope s_law_loose) := ⟨rfl, rfl, rfl, by decide +kernel, rfl, by decide +kernel, by decide +kernel⟩
abbrev N_law_d_names : List Str := ["_law_stream", "_law_many", "_law_some"]
theorem sc_law_d_names : FnScope N_law_d_names ["_law_stream", "_law_many"] (defScope s_law_d_names) := ⟨rfl, rfl, rfl, by decide +kernel, rfl, by decide +kernel, by decide +kernel⟩
abbrev N_law_d_pairs : List Str := ["_law_stream", "_law_names", "_law_way", "_law_many", "_law_found", "_law_k", "_law_one", "_law_other"]
theorem sc_law_d_pairs : FnScope N_law_d_pairs ["_law_stream", "_law_names"] (defScope s_law_d_pairs) := ⟨rfl, rfl, rfl, by decide +kernel, rfl, by decide +kernel, by decide +kernel⟩
abbrev N_law_d_objectors : List Str := ["_law_pairs", "_law_name", "_law_one", "_law_other"]
theorem sc_law_d_objectors : FnScope N_law_d_objectors ["_law_pairs", "_law_name"] (defScope s_law_d_objectors) := ⟨rfl, rfl, rfl, by decide +kernel, rfl, by decide +kernel, by decide +kernel⟩
abbrev N_law_d_hits : List Str := ["_law_pairs", "_law_lot", "_law_name", "_law_one"]
theorem sc_law_d_hits : FnScope N_law_d_hits ["_law_pairs", "_law_lot", "_law_name"] (defScope s_law_d_hits) := ⟨rfl, rfl, rfl, by decide +kernel, rfl, by decide +kernel, by decide +kernel⟩
abbrev N_law_d_subsets : List Str := ["_law_names", "_law_found", "_law_name", "_law_lot"]
theorem sc_law_d_subsets : FnScope N_law_d_subsets ["_law_names"] (defScope s_law_d_subsets) := ⟨rfl, rfl, rfl, by decide +kernel, rfl, by decide +kernel, by decide +kernel⟩
abbrev N_law_met : List Str := ["_law_ask", "e"]
theorem sc_law_met : FnScope N_law_met ["_law_ask"] (defScope s_law_met) := ⟨rfl, rfl, rfl, by decide +kernel, rfl, by decide +kernel, by decide +kernel⟩
abbrev N_law_name_right : List Str := ["_law_stream", "_law_pairs", "_law_weights", "_law_prices", "_law_made", "_law_name", "_law_some", "_law_least", "_law_first", "_law_budget", "_law_sizes", "_law_due", "_law_told", "_law_price", "_law_lot", "_law_pair"]
theorem sc_law_name_right : FnScope N_law_name_right ["_law_stream", "_law_pairs", "_law_weights", "_law_prices", "_law_made", "_law_name"] (defScope s_law_name_right) := ⟨rfl, rfl, rfl, by decide +kernel, rfl, by decide +kernel, by decide +kernel⟩
abbrev N_law : List Str := ["_law_script", "_law_stream", "_law_turn", "_law_names", "_law_pairs", "_law_weights", "_law_made", "_law_prices", "_law_name", "_law_bad", "_law_wrong", "_law_none", "_law_found", "_law_due", "_law_ask", "_law_held"]
theorem sc_law : FnScope N_law ["_law_script"] (defScope s_law) := ⟨rfl, rfl, rfl, by decide +kernel, rfl, by decide +kernel, by decide +kernel⟩
abbrev N_Debate_init : List Str := ["self", "statements", "objections", "one", "other", "statement"]
theorem sc_Debate_init : FnScope N_Debate_init ["self", "statements", "objections"] (defScope s_Debate_init) := ⟨rfl, rfl, rfl, by decide +kernel, rfl, by decide +kernel, by decide +kernel⟩
abbrev N_BadNumber_init : List Str := ["self", "thing"]
theorem sc_BadNumber_init : FnScope N_BadNumber_init ["self", "thing"] (defScope s_BadNumber_init) := ⟨rfl, rfl, rfl, by decide +kernel, rfl, by decide +kernel, by decide +kernel⟩
abbrev N_BadWeights_init : List Str := ["self", "thing"]
theorem sc_BadWeights_init : FnScope N_BadWeights_init ["self", "thing"] (defScope s_BadWeights_init) := ⟨rfl, rfl, rfl, by decide +kernel, rfl, by decide +kernel, by decide +kernel⟩
abbrev N_NoStatement_init : List Str := ["self", "thing"]
theorem sc_NoStatement_init : FnScope N_NoStatement_init ["self", "thing"] (defScope s_NoStatement_init) := ⟨rfl, rfl, rfl, by decide +kernel, rfl, by decide +kernel, by decide +kernel⟩
abbrev R : PySem.W.OpenRow := PySem.W.OpenLaw.row PySem.Challenge.rw_objections_k72_whole_budgets_of_statemen
def lo0 : List Str := ["DebateError", "BadHow", "BadNumber", "BadObjections", "BadStatements", "BadWay", "BadWeights", "NoStatement", "SMALL", "FIGURES", "Made", "is_list", "is_integer", "is_number", "is_name", "as_tuples", "checked_statements", "is_pair_of", "checked_objections", "Debate", "checked_statement", "WAYS", "checked_way", "hit_by", "answered_in", "least_lot", "unanswered_in", "held_lots", "calm_with", "calm_lots"]
def lo1 : List Str := ["greatest_of", "is_within", "spared_in", "lots_in", "all_parts", "checked_weights", "overheard_in", "all_prices", "checked_budget", "prices_with", "least_budget", "cheapest_lot", "most_for", "stands", "_law_m_held", "_law_m_weights", "_law_m_sum", "_law_m_odd_weights", "_law_m_are_weights", "_law_m_is_weight", "_law_m_prices", "_law_m_second", "_law_start", "_law_draw", "_law_pick", "_law_mixed", "_law_same", "_law_each_once", "_law_loose", "_law_d_names"]
def lo2 : List Str := ["_law_d_pairs", "_law_d_objectors", "_law_d_hits", "_law_d_subsets", "_law_met", "_law_name_right"]
def loose : List Str := lo0 ++ lo1 ++ lo2
def tf : List He.Defn := [("law", none)]
abbrev hk : PySem.W.Hook := He.hookX 5 fa fn [] tf ex
def ob (s : PySem.W.SharedT) : He.AlX := He.obsX 5 fa fn [] tf ex (HandSHeadRun.getT s)
theorem ob_eq (s : PySem.W.SharedT) : ob s = hk.obs s.abs := He.obsX_eq (HandSHeadRun.getT_eq s)
theorem run (w : World) : HandSHeadRun.RunEq R (PySem.W.view R.prog [75]) hk ob 20000 loose w := by
  intro os
  kernel_rfl
/-! ### a def of the module by its name -/
structure Cl (P : Program) (w : World) (K : PySem.W.Frag) (mg : Str → Option Value) (base : Heap) (CX : CXT) (k : Nat) (x : Str) (ps : List Str) (sp : Sp) : Prop where
  ex : ∃ (f : Addr) (fd : FuncData), FnOk P w K mg base CX k f fd ps sp ∧ mg x = some (.ref f) ∧ PySem.W.keepIn K (.ref f) = true ∧ L2.Binds K fd ps [] ∧ ∃ oc od osl, K.lookup f = some ⟨oc, od, .func fd, osl⟩
/-- f(e, ..) -/
def tK (sp : Sp) (E : XK) (t : TA) : TE := fun σ H Q => t σ H fun vs H1 => sp vs H1 Q E
section
variable {P : Program} {w : World} {K : PySem.W.Frag} {mg : Str → Option Value} {base : Heap} {CX : CXT} {k j : Nat} {x : Str} {ps : List Str} {sp sp' : Sp}
theorem Cl.mono (c : Cl P w K mg base CX k x ps sp) (h : k ≤ j) : Cl P w K mg base CX j x ps sp := by
  obtain ⟨f, fd, F, a, b, d⟩ := c.ex
  exact ⟨f, fd, F.mono h, a, b, d⟩
theorem Cl.imp (c : Cl P w K mg base CX k x ps sp) (h : ∀ vs H Q E, sp' vs H Q E → sp vs H Q E) : Cl P w K mg base CX k x ps sp' := by
  obtain ⟨f, fd, F, a, b, d⟩ := c.ex
  exact ⟨f, fd, F.imp h, a, b, d⟩
theorem funD_at {qual : Str} {params : Arguments} {body : List Stmt} {scope : Scope} {dvs : List V} {kws : List (Str × V)} {f : Addr} {fd : FuncData} (F : FunD K x qual params body scope dvs kws f fd) : ∃ oc od osl, K.lookup f = some ⟨oc, od, .func fd, osl⟩ := by
  obtain ⟨oc, od, dV, kV, doc, pm, an, cdv, ct, osl, rfl, lk, _⟩ := F.ex
  exact ⟨oc, od, osl, lk⟩
/-- by its body; nothing is raised -/
theorem Cl.of {qual : Str} {params : Arguments} {body : List Stmt} {scope : Scope} {f : Addr} {N : List Str} (hF : ∃ fd, FunD K x qual params body scope [] [] f fd) (g : mg x = some (.ref f)) (S : FnScope N ps scope)
    (hb : ∀ (kV doc pm : Value) (an : Option Addr) (cdv ct : Value) (us : List Value), us.length = ps.length → bindArgs (PySem.W.fnOf x qual params body scope .none kV doc pm an cdv ct) ⟨us, []⟩ = pure (ps.zip us))
    (len : ∀ vs H Q E, sp vs H Q E → vs.length = ps.length)
    (hbody : ∀ (cdv : Value) (A : Around) (outer : List Env) (s : Shared) (H : Hp) (vs : List V) (Q : VK) (E : XK), Room k (A.deeper (envOfC qual scope s.heap.objs.size f cdv)) → sp vs H Q E →
      ∃ t, PSs (cxOf CX0 P w K mg base N qual scope f cdv A outer s H E).nox body t ∧ t { nx := fun _ H' => Q .non H', rt := Q } (start N vs) H) : Cl P w K mg base CX0 (k + 1) x ps sp := by
  obtain ⟨fd, F⟩ := hF
  exact ⟨f, fd, F.ok S len fun cdv A outer s H vs Q E hr h => by
    obtain ⟨t, a, b⟩ := hbody cdv A outer s H vs Q E hr h
    exact ⟨t, a.nox, b⟩, g, F.kp, F.bindsN hb, funD_at F⟩
/-- by its body; it may raise -/
theorem Cl.ofX {qual : Str} {params : Arguments} {body : List Stmt} {scope : Scope} {f : Addr} {N : List Str} (hF : ∃ fd, FunD K x qual params body scope [] [] f fd) (g : mg x = some (.ref f)) (S : FnScope N ps scope)
    (hb : ∀ (kV doc pm : Value) (an : Option Addr) (cdv ct : Value) (us : List Value), us.length = ps.length → bindArgs (PySem.W.fnOf x qual params body scope .none kV doc pm an cdv ct) ⟨us, []⟩ = pure (ps.zip us))
    (len : ∀ vs H Q E, sp vs H Q E → vs.length = ps.length)
    (hbody : ∀ (cdv : Value) (A : Around) (outer : List Env) (s : Shared) (H : Hp) (vs : List V) (Q : VK) (E : XK), Room k (A.deeper (envOfC qual scope s.heap.objs.size f cdv)) → sp vs H Q E →
      ∃ t, PSs (cxOf (L2.CX P w) P w K mg base N qual scope f cdv A outer s H E) body t ∧ t { nx := fun _ H' => Q .non H', rt := Q } (start N vs) H) : Cl P w K mg base (L2.CX P w) (k + 1) x ps sp := by
  obtain ⟨fd, F⟩ := hF
  exact ⟨f, fd, F.ok S len hbody, g, F.kp, F.bindsN hb, funD_at F⟩
end
section
variable {X : Cx} {CX : CXT} {k j : Nat} {x : Str} {ps : List Str} {sp : Sp} {E : XK} {p pos : Pos} {e : Expr} {es : List Expr} {t : TA}
theorem pe_k (c : Cl X.prog X.w X.K X.mg X.base CX k x ps sp) (hr : Room j X.A) (hk : k ≤ j) (hx : Passes CX X E) (ha : PA X (e :: es) t) (hg : Gl X x := by rfl)
    (hdb : (x == ("__debug__" : Str)) = false := by decide) (he : starEach (e :: es) X.env = (false, eval e X.env) :: starEach es X.env := by rfl) (hpl : (backTo pos (starEach es X.env)).any (·.1) = false := by rfl) :
    PE X (.Call (.Name x p) (e :: es) [] pos) (tK sp E t) := by
  obtain ⟨f, fd, F, a, b, d, _⟩ := c.ex
  refine ⟨fun pins s σ H Q I h => ?_⟩
  refine (pe_call F (hr.mono hk) hg a b d .nil hx ha hdb he hpl).run pins s σ H Q I ?_
  show t σ H fun vs H1 => sp (vs ++ []) H1 Q E
  have e2 : (fun (vs : List V) (H1 : Hp) => sp (vs ++ []) H1 Q E) = fun vs H1 => sp vs H1 Q E := by
    funext vs H1
    rw [List.append_nil]
  rw [e2]
  exact h
end
/-! ### lists by what their items are -/
/-- at a: a list of the values of zs, each of which is what R says -/
def Lof {α : Type} (H : Hp) (R : Hp → V → α → Prop) (a : Addr) (zs : List (V × α)) : Prop := H a = some (.lst (zs.map (·.1))) ∧ ∀ z ∈ zs, R H z.1 z.2
theorem Same.seqT {K : PySem.W.Frag} {H H' : Hp} {a : Addr} {xs : List V} (e : Same H H') (h : SqT K H a xs) : SqT K H' a xs := by
  rcases h with (h | ⟨o, h⟩) | h
  · exact .inl (.inl (e _ _ h))
  · exact .inl (.inr ⟨o, e _ _ h⟩)
  · exact .inr h
theorem same_new {H : Hp} {p : Addr} {o : HO} (h : H p = none) : Same H (upd H p o) := fun b u e => by
  rw [upd_ne (ne_of_none e h)]
  exact e
theorem same_upd {H H' : Hp} {p : Addr} {o : HO} (e : Same H H') (h : H p = none) : Same H (upd H' p o) := fun b u z => by
  rw [upd_ne (ne_of_none z h)]
  exact e b u z
theorem sq_lt {P : Program} {w : World} {n : Nat} (h : n ≤ 16777215) : n < sizeLine := by
  rw [sizeLine_eq]
  omega
theorem le_sl {n : Nat} (h : n ≤ 16777216) : n ≤ sizeLine := by
  rw [sizeLine_eq]
  exact h
theorem lt_sl {n : Nat} (h : n < 16777216) : n < sizeLine := by
  rw [sizeLine_eq]
  exact h
/-- a pair of texts -/
def IsPair (H : Hp) (v : V) (p : Str × Str) : Prop := ∃ t, v = .ref t ∧ H t = some (.tup [.str p.1, .str p.2])
/-- a list of texts -/
def IsLot (H : Hp) (v : V) (l : List Str) : Prop := ∃ t, v = .ref t ∧ H t = some (.lst (l.map V.str))
/-- a tuple of a number and a list of texts -/
def IsPrice (H : Hp) (v : V) (q : Int × List Str) : Prop := ∃ t l, v = .ref t ∧ H t = some (.tup [.int q.1, l]) ∧ IsLot H l q.2
theorem IsPair.same {H H' : Hp} {v : V} {p : Str × Str} (e : Same H H') (h : IsPair H v p) : IsPair H' v p := by
  obtain ⟨t, a, b⟩ := h
  exact ⟨t, a, e _ _ b⟩
theorem IsLot.same {H H' : Hp} {v : V} {l : List Str} (e : Same H H') (h : IsLot H v l) : IsLot H' v l := by
  obtain ⟨t, a, b⟩ := h
  exact ⟨t, a, e _ _ b⟩
theorem IsPrice.same {H H' : Hp} {v : V} {q : Int × List Str} (e : Same H H') (h : IsPrice H v q) : IsPrice H' v q := by
  obtain ⟨t, l, a, b, c⟩ := h
  exact ⟨t, l, a, e _ _ b, c.same e⟩
theorem Lof.same {α : Type} {H H' : Hp} {R : Hp → V → α → Prop} {a : Addr} {zs : List (V × α)} (e : Same H H') (m : ∀ v x, R H v x → R H' v x) (h : Lof H R a zs) : Lof H' R a zs :=
  ⟨e _ _ h.1, fun z hz => m _ _ (h.2 z hz)⟩
theorem Lof.pairs {H H' : Hp} {a : Addr} {zs : List (V × (Str × Str))} (e : Same H H') (h : Lof H IsPair a zs) : Lof H' IsPair a zs := h.same e fun _ _ => IsPair.same e
theorem Lof.lots {H H' : Hp} {a : Addr} {zs : List (V × List Str)} (e : Same H H') (h : Lof H IsLot a zs) : Lof H' IsLot a zs := h.same e fun _ _ => IsLot.same e
theorem Lof.prices {H H' : Hp} {a : Addr} {zs : List (V × (Int × List Str))} (e : Same H H') (h : Lof H IsPrice a zs) : Lof H' IsPrice a zs := h.same e fun _ _ => IsPrice.same e
/-! ### isinstance -/
theorem TyX.ofL {K : PySem.W.Frag} {H : Hp} {a : Addr} {xs : List V} (h : SqL K H a xs) : TyX K H (.ref a) (.type "list") := by
  rcases h with (h | ⟨o, h⟩) | ⟨o, _, _, h, c, _⟩
  · exact .base (.lst h)
  · exact .base (.frz h)
  · exact .kList h c
theorem TyX.ofT {K : PySem.W.Frag} {H : Hp} {a : Addr} {xs : List V} (h : SqT K H a xs) : TyX K H (.ref a) (.type "tuple") := by
  rcases h with (h | ⟨o, h⟩) | ⟨o, _, _, h, c, _⟩
  · exact .base (.tup h)
  · exact .fTuple h
  · exact .kTuple h c
theorem isi_of {K : PySem.W.Frag} {H : Hp} {x : V} {t T : String} {b : Bool} {Q : VK} (ty : TyX K H x (.type t)) (h : kitB t T = some b) (q : Q (.bl b) H) : rIsi K [x, .ty T] H Q :=
  ⟨x, .ty T, .type t, .type T, b, rfl, .ty _, ty, kit_ty h, q⟩
def kitBs (t : String) : List String → Option Bool
  | [] => some false
  | c :: r => match kitB t c with
    | some true => some true
    | some false => kitBs t r
    | none => none
theorem kitBs_ok {K : PySem.W.Frag} {t : String} {b : Bool} : ∀ {cs : List String}, kitBs t cs = some b → PySem.W.kitAny K (.type t) (cs.map Value.type) = some b
  | [], h => by
    have e : false = b := Option.some.inj h
    subst e
    rfl
  | c :: r, h => by
    have h2 : (match kitB t c with
      | some true => some true
      | some false => kitBs t r
      | none => none) = some b := h
    cases e : kitB t c with
    | none => rw [e] at h2; cases h2
    | some d =>
      rw [e] at h2
      cases d with
      | true =>
        have e3 : true = b := Option.some.inj h2
        exact kitAny_cons (kit_ty e) (fun z => nomatch z) fun _ => e3.symm
      | false => exact kitAny_cons (kit_ty e) (fun _ => kitBs_ok h2) fun z => nomatch z
theorem clsVs : ∀ cs : List String, Paired ClsV (cs.map V.ty) (cs.map Value.type)
  | [] => .nil
  | c :: r => .cons (.ty c) (clsVs r)
theorem isiT_of {K : PySem.W.Frag} {H : Hp} {x : V} {t : String} {cs : List String} {tp : Addr} {b : Bool} {Q : VK} (ty : TyX K H x (.type t)) (hT : H tp = some (.tup (cs.map V.ty))) (h : kitBs t cs = some b) (q : Q (.bl b) H) : rIsiT K [x, .ref tp] H Q :=
  ⟨x, tp, cs.map V.ty, .type t, cs.map Value.type, b, rfl, hT, clsVs cs, ty, kitBs_ok h, q⟩
/-! ### comprehensions over lists, told by a function on the items -/
theorem take_snoc {α : Type} : ∀ {l : List α} {i : Nat} {x : α}, l[i]? = some x → l.take (i + 1) = l.take i ++ [x]
  | [], i, x, h => by simp at h
  | a :: l, 0, x, h => by
    have e : a = x := Option.some.inj h
    subst e
    rfl
  | a :: l, i + 1, x, h => by
    have ih := take_snoc (l := l) (i := i) (x := x) h
    show a :: l.take (i + 1) = a :: l.take i ++ [x]
    rw [ih]
    rfl
theorem filterMap_len {α β : Type} (f : α → Option β) : ∀ l : List α, (l.filterMap f).length ≤ l.length
  | [] => Nat.le_refl _
  | a :: l => by
    rw [List.filterMap_cons]
    cases f a with
    | none => exact Nat.le_succ_of_le (filterMap_len f l)
    | some b => exact Nat.succ_le_succ (filterMap_len f l)
/-- each item's turn keeps all that stood; d's item is kept as f d -/
theorem lc_fm {α : Type} {K : PySem.W.Frag} {a : Addr} {g : TG} {tt : TT} {te : TE} {vs : List Nat} {σ : L2.St} {H1 : Hp} {D : Addr} {Qd : Hp → Prop} (en : α → V) (ds : List α) (f : α → Option V) (hs : SqL K H1 a (ds.map en)) (hn : H1 D = none) (hl : ds.length < sizeLine)
    (turn : ∀ d ∈ ds, ∀ (H : Hp) (k1 : V → Hp → Prop) (k0 : Hp → Prop), Same H1 H → (∀ y H4, Same H H4 → f d = some y → k1 y H4) → (∀ H3, Same H H3 → f d = none → k0 H3) →
      g (en d) (wipe σ vs) H fun σ2 H2 => wipe σ2 vs = wipe σ vs ∧ tt σ2 H2 fun b H3 => if b = true then te σ2 H3 k1 else k0 H3)
    (done : ∀ H, Same H1 H → H D = some (.lst (ds.filterMap f)) → Qd H) :
    ∃ W : Nat → Nat → Hp → Prop, (∃ m, W 0 m (upd H1 D (.lst []))) ∧ ∀ i m H, W i m H →
      ((Itl K a).stop i H ∧ Qd H) ∨ ((Itl K a).go i H ∧ ∃ Nx : Hp → Prop, (∀ H', Nx H' → ∃ m', m' < m ∧ W (i + 1) m' H') ∧ ∀ x H', (Itl K a).yld i H x H' → g x (wipe σ vs) H' fun σ2 H2 => wipe σ2 vs = wipe σ vs ∧ tt σ2 H2 fun b H3 =>
        if b = true then te σ2 H3 fun y H4 => ∃ acc, H4 D = some (.lst acc) ∧ acc.length < sizeLine ∧ Nx (upd H4 D (.lst (acc ++ [y]))) else Nx H3) := by
  refine lc_list (K := K) (a := a) (xs := ds.map en) (fun i H => Same H1 H ∧ H D = some (.lst ((ds.take i).filterMap f))) ⟨same_new hn, upd_same⟩ (fun i H _ h => h.1.seq hs) ?_ ?_
  · rintro i x H hx ⟨hS, hD⟩
    rw [List.getElem?_map] at hx
    cases e : ds[i]? with
    | none => rw [e] at hx; cases hx
    | some d =>
      rw [e] at hx
      have ex : en d = x := Option.some.inj hx
      subst ex
      have hle : ((ds.take i).filterMap f).length < sizeLine := Nat.lt_of_le_of_lt (Nat.le_trans (filterMap_len f _) (by rw [List.length_take]; exact Nat.min_le_right _ _)) hl
      refine turn d (List.mem_of_getElem? e) H _ _ hS (fun y H4 s4 ey => ⟨_, s4 _ _ hD, hle, same_upd (hS.trans s4) hn, ?_⟩) fun H3 s3 ey => ⟨hS.trans s3, ?_⟩
      · rw [upd_same, take_snoc e, List.filterMap_append]
        show _ = some (HO.lst (_ ++ List.filterMap f [d]))
        rw [List.filterMap_cons, ey]
        rfl
      · rw [take_snoc e, List.filterMap_append]
        show _ = some (HO.lst (_ ++ List.filterMap f [d]))
        rw [List.filterMap_cons, ey, List.filterMap_nil, List.append_nil]
        exact s3 _ _ hD
  · rintro H ⟨hS, hD⟩
    rw [List.length_map, List.take_length] at hD
    exact done H hS hD
/-- .. no tests: a map -/
theorem lc_map {α : Type} {K : PySem.W.Frag} {a : Addr} {g : TG} {te : TE} {vs : List Nat} {σ : L2.St} {H1 : Hp} {D : Addr} {Qd : Hp → Prop} (en : α → V) (ds : List α) (f : α → V) (hs : SqL K H1 a (ds.map en)) (hn : H1 D = none) (hl : ds.length < sizeLine)
    (turn : ∀ d ∈ ds, ∀ (H : Hp) (k1 : V → Hp → Prop), Same H1 H → (∀ y H4, Same H H4 → y = f d → k1 y H4) →
      g (en d) (wipe σ vs) H fun σ2 H2 => wipe σ2 vs = wipe σ vs ∧ te σ2 H2 k1)
    (done : ∀ H, Same H1 H → H D = some (.lst (ds.map f)) → Qd H) :
    ∃ W : Nat → Nat → Hp → Prop, (∃ m, W 0 m (upd H1 D (.lst []))) ∧ ∀ i m H, W i m H →
      ((Itl K a).stop i H ∧ Qd H) ∨ ((Itl K a).go i H ∧ ∃ Nx : Hp → Prop, (∀ H', Nx H' → ∃ m', m' < m ∧ W (i + 1) m' H') ∧ ∀ x H', (Itl K a).yld i H x H' → g x (wipe σ vs) H' fun σ2 H2 => wipe σ2 vs = wipe σ vs ∧ tYes σ2 H2 fun b H3 =>
        if b = true then te σ2 H3 fun y H4 => ∃ acc, H4 D = some (.lst acc) ∧ acc.length < sizeLine ∧ Nx (upd H4 D (.lst (acc ++ [y]))) else Nx H3) := by
  refine lc_fm en ds (fun d => some (f d)) hs hn hl (fun d hd H k1 k0 hS h1 h0 => ?_) (fun H hS hD => done H hS ?_)
  · have q := turn d hd H k1 hS fun y H4 s4 ey => h1 y H4 s4 (congrArg some ey.symm)
    have e : (fun (σ2 : L2.St) (H2 : Hp) => wipe σ2 vs = wipe σ vs ∧ tYes σ2 H2 fun b H3 => if b = true then te σ2 H3 k1 else k0 H3) = fun σ2 H2 => wipe σ2 vs = wipe σ vs ∧ te σ2 H2 k1 := by
      funext σ2 H2
      show (_ ∧ (if true = true then te σ2 H2 k1 else k0 H2)) = _
      rw [if_pos rfl]
    rw [e]
    exact q
  · rw [hD, List.filterMap_eq_map']
/-- .. each kept item is a thing told by R, which doesn't lean on the new list itself -/
theorem lc_rel {α β : Type} {K : PySem.W.Frag} {a : Addr} {g : TG} {tt : TT} {te : TE} {vs : List Nat} {σ : L2.St} {H1 : Hp} {D : Addr} {Qd : Hp → Prop} (en : α → V) (ds : List α) (f : α → Option β) (R : Hp → V → β → Prop)
    (hs : SqL K H1 a (ds.map en)) (hn : H1 D = none) (hl : ds.length < sizeLine) (Rm : ∀ (H H' : Hp) (v : V) (b : β), (∀ c o, c ≠ D → H c = some o → H' c = some o) → R H v b → R H' v b)
    (turn : ∀ d ∈ ds, ∀ (H : Hp) (acc : List V) (k1 : V → Hp → Prop) (k0 : Hp → Prop), Same H1 H → H D = some (.lst acc) → (∀ y b H4, Same H H4 → f d = some b → R H4 y b → k1 y H4) → (∀ H3, Same H H3 → f d = none → k0 H3) →
      g (en d) (wipe σ vs) H fun σ2 H2 => wipe σ2 vs = wipe σ vs ∧ tt σ2 H2 fun b H3 => if b = true then te σ2 H3 k1 else k0 H3)
    (done : ∀ (H : Hp) (zs : List (V × β)), Same H1 H → H D = some (.lst (zs.map (·.1))) → zs.map (·.2) = ds.filterMap f → (∀ z ∈ zs, R H z.1 z.2) → Qd H) :
    ∃ W : Nat → Nat → Hp → Prop, (∃ m, W 0 m (upd H1 D (.lst []))) ∧ ∀ i m H, W i m H →
      ((Itl K a).stop i H ∧ Qd H) ∨ ((Itl K a).go i H ∧ ∃ Nx : Hp → Prop, (∀ H', Nx H' → ∃ m', m' < m ∧ W (i + 1) m' H') ∧ ∀ x H', (Itl K a).yld i H x H' → g x (wipe σ vs) H' fun σ2 H2 => wipe σ2 vs = wipe σ vs ∧ tt σ2 H2 fun b H3 =>
        if b = true then te σ2 H3 fun y H4 => ∃ acc, H4 D = some (.lst acc) ∧ acc.length < sizeLine ∧ Nx (upd H4 D (.lst (acc ++ [y]))) else Nx H3) := by
  refine lc_list (K := K) (a := a) (xs := ds.map en) (fun i H => Same H1 H ∧ ∃ zs : List (V × β), H D = some (.lst (zs.map (·.1))) ∧ zs.map (·.2) = (ds.take i).filterMap f ∧ ∀ z ∈ zs, R H z.1 z.2)
    ⟨same_new hn, [], upd_same, rfl, fun z hz => nomatch hz⟩ (fun i H _ h => h.1.seq hs) ?_ ?_
  · rintro i x H hx ⟨hS, zs, hD, ez, hR⟩
    rw [List.getElem?_map] at hx
    cases e : ds[i]? with
    | none => rw [e] at hx; cases hx
    | some d =>
      rw [e] at hx
      have ex : en d = x := Option.some.inj hx
      subst ex
      have hle : (zs.map (·.1)).length < sizeLine := by
        have q := congrArg List.length ez
        rw [List.length_map] at q
        rw [List.length_map, q]
        exact Nat.lt_of_le_of_lt (Nat.le_trans (filterMap_len f _) (by rw [List.length_take]; exact Nat.min_le_right _ _)) hl
      refine turn d (List.mem_of_getElem? e) H _ _ _ hS hD (fun y b H4 s4 ey r => ⟨_, s4 _ _ hD, hle, same_upd (hS.trans s4) hn, zs ++ [(y, b)], ?_, ?_, fun z hz => ?_⟩) fun H3 s3 ey => ⟨hS.trans s3, zs, s3 _ _ hD, ?_, fun z hz => Rm _ _ _ _ (fun c o _ q => s3 c o q) (hR z hz)⟩
      · rw [upd_same, List.map_append]; rfl
      · rw [List.map_append, ez, take_snoc e, List.filterMap_append]
        show _ = _ ++ List.filterMap f [d]
        rw [List.filterMap_cons, ey]
        rfl
      · rcases List.mem_append.mp hz with hz | hz
        · exact Rm _ _ _ _ (fun c o hc q => (upd_ne hc).trans (s4 c o q)) (hR z hz)
        · rw [List.mem_singleton.mp hz]
          exact Rm _ _ _ _ (fun c o hc q => (upd_ne hc).trans q) r
      · rw [ez, take_snoc e, List.filterMap_append]
        show _ = _ ++ List.filterMap f [d]
        rw [List.filterMap_cons, ey, List.filterMap_nil, List.append_nil]
  · rintro H ⟨hS, zs, hD, ez, hR⟩
    rw [List.length_map, List.take_length] at ez
    exact done H zs hS hD ez hR
theorem fm_some {α β : Type} (f : α → β) (l : List α) : l.filterMap (fun d => some (f d)) = l.map f := by rw [List.filterMap_eq_map']
theorem gstr {mg : Str → Option Value} {x z : Str} (h : ∃ t, mg x = some (.str z t)) : ∃ u, mg x = some u ∧ RelV (.str z) u := by
  obtain ⟨t, e⟩ := h
  exact ⟨_, e, t, rfl⟩
/-- the kinds of things that are met -/
def Tag (t : String) : Prop := t = "NoneType" ∨ t = "bool" ∨ t = "int" ∨ t = "str" ∨ t = "list" ∨ t = "tuple" ∨ t = "dict"
def spIsList (K : PySem.W.Frag) : Sp := fun vs H Q _ => ∃ (x : V) (t : String), vs = [x] ∧ Tag t ∧ TyX K H x (.type t) ∧ ∀ H', Same H H' → Q (.bl (decide (t = "list" ∨ t = "tuple"))) H'
def spIsInteger (K : PySem.W.Frag) : Sp := fun vs H Q _ => ∃ (x : V) (t : String), vs = [x] ∧ Tag t ∧ TyX K H x (.type t) ∧ Q (.bl (decide (t = "int"))) H
section
variable {P : Program} {w : World} {K : PySem.W.Frag} {mg : Str → Option Value} {base : Heap}
theorem TyX.new {H : Hp} {x : V} {t : Value} {p : Addr} {o : HO} (h : H p = none) (ty : TyX K H x t) : TyX K (upd H p o) x t := by
  have k : ∀ {a u}, H a = some u → upd H p o a = some u := fun e => same_new h _ _ e
  cases ty with
  | base b =>
    refine .base ?_
    cases b with
    | non => exact .non
    | bl y => exact .bl y
    | int i => exact .int i
    | str y => exact .str y
    | flt y => exact .flt y
    | lst e => exact .lst (k e)
    | frz e => exact .frz (k e)
    | tup e => exact .tup (k e)
    | dK e => exact .dK (k e)
    | dT e => exact .dT (k e)
    | ins e cl ha hn htk hm => exact .ins (k e) cl ha hn htk hm
  | byt b => exact .byt b
  | set e => exact .set (k e)
  | kList e c => exact .kList e c
  | kTuple e c => exact .kTuple e c
  | kDict e c => exact .kDict e c
  | fTuple e => exact .fTuple (k e)
  | fDict e => exact .fDict (k e)
theorem TyX.same {H H' : Hp} {x : V} {t : Value} (h : Same H H') (ty : TyX K H x t) : TyX K H' x t := by
  have k : ∀ {a u}, H a = some u → H' a = some u := fun e => h _ _ e
  cases ty with
  | base b =>
    refine .base ?_
    cases b with
    | non => exact .non
    | bl y => exact .bl y
    | int i => exact .int i
    | str y => exact .str y
    | flt y => exact .flt y
    | lst e => exact .lst (k e)
    | frz e => exact .frz (k e)
    | tup e => exact .tup (k e)
    | dK e => exact .dK (k e)
    | dT e => exact .dT (k e)
    | ins e cl ha hn htk hm => exact .ins (k e) cl ha hn htk hm
  | byt b => exact .byt b
  | set e => exact .set (k e)
  | kList e c => exact .kList e c
  | kTuple e c => exact .kTuple e c
  | kDict e c => exact .kDict e c
  | fTuple e => exact .fTuple (k e)
  | fDict e => exact .fDict (k e)
theorem cl_is_list (T : Top K mg) : Cl P w K mg base CX0 1 "is_list" ["thing"] (spIsList K) := by
  refine Cl.of T.f_is_list T.g_is_list sc_is_list (fun _ _ _ _ _ _ us hl => match us, hl with | [_], _ => rfl) (fun vs H Q E h => ?_) (fun cdv A outer s H vs Q E hr h => ?_)
  · obtain ⟨x, t, rfl, _⟩ := h
    rfl
  · obtain ⟨x, t, rfl, tg, ty, k⟩ := h
    refine ⟨_, (pss_one (ps_ret (pe_callB call_isiT (by rfl) T.z_isinstance (by decide +kernel) (pa_cons (pv 0) (pa_cons (pe_tup (pa_cons (pe_bltn (v := .ty "list") (by rfl) T.z_list (by decide +kernel) rfl) (pa_cons (pe_bltn (v := .ty "tuple") (by rfl) T.z_tuple (by decide +kernel) rfl) pa_nil))) pa_nil))))), ?_⟩
    refine ⟨_, rfl, le_sl (by decide), fun p hp => ?_⟩
    have e : kitBs t ["list", "tuple"] = some (decide (t = "list" ∨ t = "tuple")) := by
      rcases tg with rfl | rfl | rfl | rfl | rfl | rfl | rfl <;> decide +kernel
    exact ⟨_, p, ["list", "tuple"].map V.ty, .type t, _, _, rfl, upd_same, clsVs _, TyX.new hp ty, kitBs_ok e, k _ (same_new hp)⟩
theorem cl_is_integer (T : Top K mg) : Cl P w K mg base CX0 1 "is_integer" ["thing"] (spIsInteger K) := by
  refine Cl.of T.f_is_integer T.g_is_integer sc_is_integer (fun _ _ _ _ _ _ us hl => match us, hl with | [_], _ => rfl) (fun vs H Q E h => ?_) (fun cdv A outer s H vs Q E hr h => ?_)
  · obtain ⟨x, t, rfl, _⟩ := h
    rfl
  · obtain ⟨x, t, rfl, tg, ty, k⟩ := h
    refine ⟨_, (pss_one (ps_ret (pe_and (pe_callB call_isi (by rfl) T.z_isinstance (by decide +kernel) (pa_cons (pv 0) (pa_cons (pe_bltn (v := .ty "int") (by rfl) T.z_int (by decide +kernel) rfl) pa_nil))) (pe_one (pe_not (pe_callB call_isi (by rfl) T.z_isinstance (by decide +kernel) (pa_cons (pv 0) (pa_cons (pe_bltn (v := .ty "bool") (by rfl) T.z_bool (by decide +kernel) rfl) pa_nil)))))))), ?_⟩
    refine ⟨_, rfl, _, _, .type t, .type "int", decide (t = "int" ∨ t = "bool"), rfl, .ty _, ty, kit_ty (by rcases tg with rfl | rfl | rfl | rfl | rfl | rfl | rfl <;> decide +kernel), _, rfl, ?_⟩
    refine ite2 (fun h1 => ?_) (fun h1 => ?_)
    · refine ⟨_, rfl, _, _, .type t, .type "bool", decide (t = "bool"), rfl, .ty _, ty, kit_ty (by rcases tg with rfl | rfl | rfl | rfl | rfl | rfl | rfl <;> decide +kernel), _, rfl, ?_⟩
      have e : (!decide (t = "bool")) = decide (t = "int") := by
        rcases of_decide_eq_true h1 with rfl | rfl <;> decide
      rw [e]
      exact k
    · have e : decide (t = "int") = false := decide_eq_false fun z => h1 (decide_eq_true (.inl z))
      show Q (.bl false) H
      rw [← e]
      exact k
/-- all sublists, in the order in which the loop makes them -/
def subs : List Str → List (List Str)
  | l => l.foldl (fun found s => found ++ found.map (· ++ [s])) [[]]
theorem subs_snoc (l : List Str) (s : Str) : subs (l ++ [s]) = subs l ++ (subs l).map (· ++ [s]) := by
  unfold subs
  rw [List.foldl_append]
  rfl
theorem subsF_len : ∀ (l : List Str) (f : List (List Str)), (l.foldl (fun found s => found ++ found.map (· ++ [s])) f).length = f.length * 2 ^ l.length
  | [], f => by simp
  | s :: l, f => by
    rw [List.foldl_cons, subsF_len l, List.length_append, List.length_map, List.length_cons, Nat.pow_succ]
    have : f.length + f.length = f.length * 2 := by omega
    rw [this, Nat.mul_assoc, Nat.mul_comm 2]
theorem subs_len (l : List Str) : (subs l).length = 2 ^ l.length := by
  have h := subsF_len l [[]]
  rw [List.length_singleton, Nat.one_mul] at h
  exact h
end
/-- a list of texts that was not there in H, elsewhere than at p -/
def NewLot (H : Hp) (p : Addr) (H' : Hp) (v : V) (l : List Str) : Prop := ∃ t, v = .ref t ∧ H t = none ∧ t ≠ p ∧ H' t = some (.lst (l.map V.str))
theorem NewLot.same {H H1 H' : Hp} {p : Addr} {v : V} {l : List Str} (e : ∀ c o, c ≠ p → H1 c = some o → H' c = some o) (h : NewLot H p H1 v l) : NewLot H p H' v l := by
  obtain ⟨t, a, b, n, c⟩ := h
  exact ⟨t, a, b, n, e _ _ n c⟩
theorem NewLot.is {H H' : Hp} {p : Addr} {v : V} {l : List Str} (h : NewLot H p H' v l) : IsLot H' v l := by
  obtain ⟨t, a, b, n, c⟩ := h
  exact ⟨t, a, c⟩
theorem get_map {α β : Type} {f : α → β} {l : List α} {i : Nat} {x : β} (h : (l.map f)[i]? = some x) : ∃ d, l[i]? = some d ∧ x = f d := by
  rw [List.getElem?_map] at h
  cases e : l[i]? with
  | none => rw [e] at h; cases h
  | some d =>
    rw [e] at h
    exact ⟨d, rfl, (Option.some.inj h).symm⟩
theorem get_lt {α : Type} {l : List α} {i : Nat} {x : α} (h : l[i]? = some x) : i < l.length := (List.getElem?_eq_some_iff.mp h).1
theorem pow_le {n m : Nat} (h : n ≤ m) : 2 ^ n ≤ 2 ^ m := Nat.pow_le_pow_right (by decide) h
theorem subsF_sub : ∀ (l : List Str) (f : List (List Str)) (m : List Str), m ∈ l.foldl (fun found s => found ++ found.map (· ++ [s])) f → ∃ m0 ∈ f, ∃ t, m = m0 ++ t ∧ t.Sublist l
  | [], f, m, h => ⟨m, h, [], by simp, List.Sublist.slnil⟩
  | s :: l, f, m, h => by
    obtain ⟨m0, h0, t, e, ht⟩ := subsF_sub l _ m h
    rcases List.mem_append.mp h0 with h0 | h0
    · exact ⟨m0, h0, t, e, ht.cons _⟩
    · obtain ⟨m1, h1, rfl⟩ := List.mem_map.mp h0
      exact ⟨m1, h1, s :: t, by rw [e, List.append_assoc]; rfl, ht.cons_cons _⟩
theorem subs_sub {l m : List Str} (h : m ∈ subs l) : m.Sublist l := by
  obtain ⟨m0, h0, t, e, ht⟩ := subsF_sub l _ m h
  rw [List.mem_singleton.mp h0] at e
  rw [e]
  exact ht
def spAllParts (K : PySem.W.Frag) : Sp := fun vs H Q _ => ∃ (a : Addr) (ss : List Str), vs = [.ref a] ∧ SqL K H a (ss.map V.str) ∧ ss.length ≤ 10 ∧
  ∀ (H' : Hp) (p : Addr) (zs : List (V × List Str)), Same H H' → H p = none → H' p = some (.lst (zs.map (·.1))) → zs.map (·.2) = subs ss → (∀ z ∈ zs, NewLot H p H' z.1 z.2) → Q (.ref p) H'
section
variable {P : Program} {w : World} {K : PySem.W.Frag} {mg : Str → Option Value} {base : Heap}
theorem cl_all_parts (T : Top K mg) : Cl P w K mg base CX0 1 "all_parts" ["things"] (spAllParts K) := by
  refine Cl.of T.f_all_parts T.g_all_parts sc_all_parts (fun _ _ _ _ _ _ us hl => match us, hl with | [_], _ => rfl) (fun vs H Q E h => ?_) (fun cdv A outer s H vs Q E hr h => ?_)
  · obtain ⟨x, t, rfl, _⟩ := h
    rfl
  · obtain ⟨a, ss, rfl, hS, hl, k⟩ := h
    refine ⟨_, (pss_cons (ps_set (i := 1) sc_all_parts.nd rfl (Or.inl rfl) (pe_lst (pa_cons (pe_lst pa_nil) pa_nil)))
      (pss_cons (ps_for PassesOwn.never rfl (pi_list (pv 0)) (pg_name (i := 2) sc_all_parts.nd rfl (Or.inr rfl))
      (pss_one (ps_expr (pe_bm PySem.F.plainAttrs_list PySem.F.slot_list_extend PySem.F.type_list_extend mt_extend (pv 1) (pa_cons (pe_lc (own := [("part", 3)]) (g := gName 3) (tt := tYes) rfl sc_all_parts.nd (pi_list (pv 1)) (blkOk_by (own := [("part", 3)]) (N := N_all_parts) (sc := defScope s_all_parts) (by decide +kernel)) (fun _ _ _ _ _ => (pg_name (i := 3) sc_all_parts.nd rfl (Or.inl rfl))) (fun _ _ _ _ _ => pts_nil) (fun _ _ _ _ _ => (pe_op op_cat (pv 3) (pe_lst (pa_cons (pv 2) pa_nil))))) pa_nil)))))
      (pss_one (ps_ret (pv 1))))), ?_⟩
    -- found = [[]]
    refine ⟨le_sl (Nat.zero_le _), fun t0 ht0 => ⟨le_sl (by show 1 ≤ _; decide), fun p hp0 => ?_⟩⟩
    have hp : H p = none := (same_new ht0).free hp0
    refine ⟨_, rfl, a, rfl, ⟨_, ((same_new ht0).trans (same_new hp0)).seq hS⟩, for_list (K := K) (a := a) (xs := ss.map V.str)
      (fun i σ H1 => ∃ (v : Option V) (zs : List (V × List Str)), σ = [some (.ref a), some (.ref p), v, none] ∧ Same H H1 ∧ H1 p = some (.lst (zs.map (·.1))) ∧ zs.map (·.2) = subs (ss.take i) ∧ ∀ z ∈ zs, NewLot H p H1 z.1 z.2)
      ⟨none, [(.ref t0, [])], rfl, (same_new ht0).trans (same_new hp0), upd_same, rfl, fun z hz => ?_⟩ (fun i σ H1 _ ⟨_, _, _, s1, _⟩ => s1.seq hS) ?_ ?_⟩
    · rw [List.mem_singleton.mp hz]
      exact ⟨t0, rfl, ht0, ne_of_none upd_same hp0, same_new hp0 _ _ upd_same⟩
    · rintro i y σ H1 hi ⟨v, zs, rfl, s1, h1, e1, n1⟩
      obtain ⟨x, hx, rfl⟩ := get_map hi
      have hil := get_lt hx
      have zl : zs.length = 2 ^ i := by
        have q := congrArg List.length e1
        rw [List.length_map, subs_len, List.length_take, Nat.min_eq_left (Nat.le_of_lt hil)] at q
        exact q
      have hi10 : 2 ^ i ≤ 1024 := pow_le (m := 10) (by omega)
      -- found.extend([part + [thing] for part in found])
      refine ⟨_, rfl, .inl ⟨rfl, _, SqL.of h1⟩, _, rfl, p, rfl, ⟨_, SqL.of h1⟩, fun D hD => ?_⟩
      refine lc_rel (K := K) (a := p) (fun z : V × List Str => z.1) zs (fun z => some (z.2 ++ [x])) (fun H2 v l => NewLot H1 D H2 v l) (SqL.of h1) hD (lt_sl (by omega)) (fun _ _ _ _ e r => r.same e) ?_ ?_
      · intro z hz H2 acc k1 k0 s2 h2 kk _
        obtain ⟨t, et, ht, np, ho⟩ := n1 z hz
        have zx : z.2.length ≤ 10 := by
          have hm : z.2 ∈ subs (ss.take i) := by rw [← e1]; exact List.mem_map_of_mem hz
          have q := (subs_sub hm).length_le
          rw [List.length_take] at q
          omega
        refine ⟨rfl, _, rfl, _, rfl, le_sl (by show 1 ≤ _; decide), fun q hq => ⟨t, q, z.2.map V.str, [V.str x], et, rfl, same_new hq _ _ (s2 _ _ ho), upd_same, le_sl (by show (z.2.map V.str).length + 1 ≤ _; rw [List.length_map]; omega), fun r hr2 => ?_⟩⟩
        have hr1 : H2 r = none := (same_new hq).free hr2
        refine kk _ _ _ ((same_new hq).trans (same_new hr2)) rfl ⟨r, rfl, s2.free hr1, (ne_of_none h2 hr1).symm, by rw [upd_same, List.map_append]; rfl⟩
      · intro H2 ws s2 h2 e2 n2
        have e3 : ws.map (·.2) = (subs (ss.take i)).map (· ++ [x]) := by
          rw [e2, fm_some, ← e1, List.map_map]
          rfl
        have wl : ws.length = 2 ^ i := by
          have q := congrArg List.length e3
          rw [List.length_map, List.length_map, ← e1, List.length_map, zl] at q
          exact q
        have pD : p ≠ D := ne_of_none h1 hD
        refine ⟨p, D, _, _, rfl, rfl, s2 _ _ h1, h2, le_sl (by rw [List.length_map, List.length_map]; omega), ?_⟩
        refine ⟨some (.str x), zs ++ ws, rfl, same_upd (s1.trans s2) hp, ?_, ?_, fun z hz => ?_⟩
        · rw [upd_same, List.map_append]
        · rw [List.map_append, e1, e3, take_snoc hx, subs_snoc]
        · rcases List.mem_append.mp hz with hz | hz
          · exact (n1 z hz).same fun c o hc e => (upd_ne hc).trans (s2 c o e)
          · obtain ⟨t, a1, a2, _, a3⟩ := n2 z hz
            have tp : t ≠ p := (ne_of_none h1 a2).symm
            exact ⟨t, a1, s1.free a2, tp, (upd_ne tp).trans a3⟩
    · rintro σ H1 ⟨v, zs, rfl, s1, h1, e1, n1⟩
      rw [List.length_map, List.take_length] at e1
      exact ⟨_, rfl, k H1 p zs s1 hp h1 e1 n1⟩
end
/-! ### sorted of a list of data, any length -/
theorem hu65 {A : Around} {k : Nat} (hr : Room k A) : A.units + 65 < cLine := by
  have q := hr.un
  omega
theorem Dp.same {K : PySem.W.Frag} {H H' : Hp} (e : Same H H') : ∀ (d : PyData) (v : V), Dp K H v d → Dp K H' v d
  | .none, _, .non => .non
  | .bool b, _, .bl _ => .bl b
  | .int i, _, .int _ => .int i
  | .str x, _, .str _ => .str x
  | .list ds, _, .lst hs ha => .lst (e.seq hs) (all e ds _ ha)
  | .tuple ds, _, .tup hs ha => .tup (Same.seqT e hs) (all e ds _ ha)
where all {K : PySem.W.Frag} {H H' : Hp} (e : Same H H') : ∀ (ds : List PyData) (vs : List V), DpAll K H vs ds → DpAll K H' vs ds
  | [], _, .nil => .nil
  | d :: ds, _, .cons h t => .cons (Dp.same e d _ h) (all e ds _ t)
theorem dpAll_strs {K : PySem.W.Frag} {H : Hp} : ∀ l : List Str, DpAll K H (l.map V.str) (l.map PyData.str)
  | [] => .nil
  | x :: l => .cons (.str x) (dpAll_strs l)
theorem dp_lot {K : PySem.W.Frag} {H : Hp} {v : V} {l : List Str} (h : IsLot H v l) : Dp K H v (.list (l.map .str)) := by
  obtain ⟨t, rfl, q⟩ := h
  exact .lst (.of q) (dpAll_strs l)
theorem dp_pair {K : PySem.W.Frag} {H : Hp} {v : V} {p : Str × Str} (h : IsPair H v p) : Dp K H v (.tuple [.str p.1, .str p.2]) := by
  obtain ⟨t, rfl, q⟩ := h
  exact .tup (.of q) (.cons (.str _) (.cons (.str _) .nil))
theorem each_rel {α : Type} : ∀ {zs : List (V × α)} {us : List Value}, Vals (zs.map (·.1)) us → PySem.W.EachIs (fun (u : Value) (z : V × α) => RelV z.1 u ∧ z ∈ zs) us zs
  | zs, us, r => by
    have key : ∀ (l : List (V × α)) (us : List Value), (∀ z ∈ l, z ∈ zs) → Vals (l.map (·.1)) us → PySem.W.EachIs (fun (u : Value) (z : V × α) => RelV z.1 u ∧ z ∈ zs) us l := by
      intro l
      induction l with
      | nil => intro us _ r; cases r; exact .nil
      | cons z l ih =>
        intro us hm r
        cases r with
        | cons a b => exact .cons ⟨a, hm z List.mem_cons_self⟩ (ih _ (fun y hy => hm y (List.mem_cons_of_mem _ hy)) b)
    exact key zs us (fun _ h => h) r
theorem vals_each {α : Type} {zs : List (V × α)} : ∀ {l : List (V × α)} {us : List Value}, PySem.W.EachIs (fun (u : Value) (z : V × α) => RelV z.1 u ∧ z ∈ zs) us l → Vals (l.map (·.1)) us
  | _, _, .nil => .nil
  | _, _, .cons a b => .cons a.1 (vals_each b)
/-- what sorting by the data en gives -/
abbrev sortBy {α : Type} (en : α → PyData) (zs : List (V × α)) : List (V × α) := zs.mergeSort (PySem.W.dataLe false fun z : V × α => en z.2)
def rSortD {α : Type} (K : PySem.W.Frag) (en : α → PyData) : List V → Hp → VK → Prop := fun vs H Q => ∃ (a : Addr) (zs : List (V × α)), vs = [V.ref a] ∧ SqL K H a (zs.map (·.1)) ∧ (∀ z ∈ zs, Dp K H z.1 (en z.2)) ∧
  PySem.W.AllAlike (zs.map fun z => en z.2) ∧ PySem.W.Sortable (zs.map fun z => en z.2) ∧ (∀ z ∈ zs, (en z.2).depth ≤ 60) ∧ ∀ p, H p = none → Q (.ref p) (upd H p (.lst ((sortBy en zs).map (·.1))))
section
variable {X : Cx} {α : Type}
theorem cr_sortedD (en : α → PyData) (hu : X.A.units + 65 < cLine) : CallR X (.builtin "sorted") (rSortD X.K en) := by
  rintro pins s σ H xs us Q I r ⟨a, zs, rfl, hs, hd, hal, hk, hdp, q⟩
  obtain ⟨u0, rfl, r0⟩ := vals1 r
  cases (show u0 = Value.ref a from r0)
  obtain ⟨its, rv, hl, hz⟩ := I.list hs
  have hlen : zs.length ≤ sizeLine := by
    rw [List.length_map] at hz
    exact hz
  have e0 := each_rel rv
  refine PySem.W.sorted_data (enc := fun z : V × α => en z.2) hl.isList e0 (e0.mono fun u z hz => Dp.reads I (en z.2) z.1 u (hd z hz.2) hz.1) hal hk hlen (fun z hz => by have := hdp z hz; omega) fun out ho he => ?_
  obtain ⟨ep, hep⟩ := PyProof.Rows.sortedAll_at s.heap its out.toArray
  have hl2 : ((sortBy en zs).map (·.1)).length ≤ sizeLine := by
    rw [List.length_map, List.length_mergeSort]
    exact hlen
  exact ⟨V.ref (s.heap.objs.size + 1), upd H (s.heap.objs.size + 1) (.lst ((sortBy en zs).map (·.1))),
    I.laid (t' := s.toks) (fun _ _ => PyProof.Rows.sortedAll_old) (Nat.le_succ _) ⟨hl2, out, ep, vals_each he, hep⟩, rfl, q _ (I.hok.fresh (Nat.le_succ _))⟩
end
/-! ### a call with keywords alone -/
/-- f(k = e, ..): gV puts the keywords' values in the parameters' order -/
def tKK (sp : Sp) (n : Nat) (gV : List V → List V) (E : XK) (tk : TA) : TE := fun σ H Q => tk σ H fun zs H1 => zs.length = n ∧ sp (gV zs) H1 Q E
structure ClK (P : Program) (w : World) (K : PySem.W.Frag) (mg : Str → Option Value) (base : Heap) (CX : CXT) (k : Nat) (x : Str) (ps ks : List Str) (gV : List V → List V) (sp : Sp) : Prop where
  ex : ∃ (f : Addr) (fd : FuncData) (g : List Value → List Value → List Value), FnOk P w K mg base CX k f fd ps sp ∧ mg x = some (.ref f) ∧ PySem.W.keepIn K (.ref f) = true ∧ KBn K fd ps 0 ks g (fun _ zs => gV zs)
section
variable {X : Cx} {CX : CXT} {k j : Nat} {x : Str} {ps ks : List Str} {sp : Sp} {E : XK} {p pos : Pos} {kws : List Keyword} {tk : TA} {gV : List V → List V}
theorem pe_kk (c : ClK X.prog X.w X.K X.mg X.base CX k x ps ks gV sp) (hr : Room j X.A) (hk : k ≤ j) (hx : Passes CX X E) (hkw : PK X kws tk) (hg : Gl X x := by rfl)
    (hall : (backToKw pos (keywordEach kws X.env)).all (·.1.isSome) = true := by rfl) (hks : (backToKw pos (keywordEach kws X.env)).filterMap (·.1) = ks := by rfl) (hdb : (x == ("__debug__" : Str)) = false := by decide)
    (hpl : ((backTo pos (starEach [] X.env)).any (·.1) || (backToKw pos (keywordEach kws X.env)).any (·.1.isNone)) = false := by rfl) :
    PE X (.Call (.Name x p) [] kws pos) (tKK sp ks.length gV E tk) := by
  obtain ⟨f, fd, g, F, hm, hkeep, hb⟩ := c.ex
  constructor
  intro pins s σ H Q I h
  refine wpAny_Call_Name_kw (ld_glob I hg hm ?_ hdb)
  refine PySem.W.callWith_KW0 (h₀ := X.base) I.ok.mod.kin hkeep hall (thn (hkw.run pos pins s σ H _ I h) ?_) hpl
  rintro ws s1 ⟨zs, H1, I1, rz, hl, q⟩
  refine ⟨I1.kIn, ?_⟩
  rw [hks]
  exact run_fnN (us := []) (vs := []) F (hr.mono hk) hb hx I1 .nil rz rfl hl q
end
section
variable {P : Program} {w : World} {K : PySem.W.Frag} {mg : Str → Option Value} {base : Heap} {CX : CXT} {k : Nat} {x qual : Str} {params : Arguments} {body : List Stmt} {scope : Scope} {f : Addr} {fd : FuncData} {ps ks : List Str} {sp : Sp}
/-- the keywords of a def without defaults: perm tells which keyword fills each parameter -/
theorem ClK.of (F : FunD K x qual params body scope [] [] f fd) (c : FnOk P w K mg base CX k f fd ps sp) (g : mg x = some (.ref f)) (perm : {α : Type} → List α → List α)
    (hrel : ∀ {zs : List V} {ws : List Value}, Vals zs ws → Vals (perm zs) (perm ws))
    (h : ∀ (kV doc pm : Value) (an : Option Addr) (cdv ct : Value) (ws : List Value), ws.length = ks.length → bindArgs (PySem.W.fnOf x qual params body scope .none kV doc pm an cdv ct) ⟨[], ks.zip ws⟩ = pure (ps.zip (perm ws))) :
    ClK P w K mg base CX k x ps ks perm sp := by
  have kp := F.kp
  obtain ⟨oc, od, dV, kV, doc, pm, an, cdv, ct, osl, rfl, lk, hcd, hD, hK⟩ := F.ex
  rcases hD with ⟨_, rfl⟩ | ⟨e, _⟩
  · refine ⟨f, _, fun _ ws => perm ws, c, g, kp, ⟨fun s us ws X l1 l2 => ?_, fun _ r2 => hrel r2⟩⟩
    obtain rfl := List.length_eq_zero_iff.mp l1
    exact .of_eq (h kV doc pm an cdv ct ws l2)
  · exact absurd rfl e
/-- the same, of a def known by its name -/
theorem ClK.by (hF : ∃ fd, FunD K x qual params body scope [] [] f fd) (g : mg x = some (.ref f)) (c : Cl P w K mg base CX k x ps sp) (perm : {α : Type} → List α → List α)
    (hrel : ∀ {zs : List V} {ws : List Value}, Vals zs ws → Vals (perm zs) (perm ws))
    (h : ∀ (kV doc pm : Value) (an : Option Addr) (cdv ct : Value) (ws : List Value), ws.length = ks.length → bindArgs (PySem.W.fnOf x qual params body scope .none kV doc pm an cdv ct) ⟨[], ks.zip ws⟩ = pure (ps.zip (perm ws))) :
    ClK P w K mg base CX k x ps ks perm sp := by
  obtain ⟨fd, F⟩ := hF
  obtain ⟨f2, fd2, F2, g2, _, _, oc2, od2, osl2, l2⟩ := c.ex
  rw [g] at g2
  cases g2
  obtain ⟨oc, od, osl, l1⟩ := funD_at F
  rw [l1] at l2
  cases l2
  exact ClK.of F F2 g perm hrel h
end
/-! ### {k: v for a in x for b in y}, no tests -/
abbrev dcT (kx vx t0 i0 t1 i1 : Expr) (scope : Scope) (pos : Pos) : Expr := .DictComp kx vx [⟨t0, i0, [], 0⟩, ⟨t1, i1, [], 0⟩] scope pos
theorem dcT_out (kx vx t0 i0 t1 i1 : Expr) (scope : Scope) (pos : Pos) (it acc : Value) (env : Env) :
    compTurn (dcT kx vx t0 i0 t1 i1 scope pos) 0 it acc env = (do
      standAt i0.pos
      match ← pyNext it with
      | none => pure (.done .next)
      | some u =>
        letOwnedTupleGo t0 it u
        assign t0 env u
        let mut go := true
        for c in ([] : List Expr) do
          if go then go ← isTrue c env (eval c env)
        if go then
          let src ← eval i1 env
          standAt i1.pos
          let src ← foldedSetIterable i1 env src
          let _ ← runOwn (.compStart (dcT kx vx t0 i0 t1 i1 scope pos) 1 (← holding [src] (pyIter src)) acc env) env
        again (.compLoop (dcT kx vx t0 i0 t1 i1 scope pos) 0 it acc env)) := by rfl
theorem dcT_in (kx vx t0 i0 t1 i1 : Expr) (scope : Scope) (pos : Pos) (it : Value) (D : Addr) (env : Env) :
    compTurn (dcT kx vx t0 i0 t1 i1 scope pos) 1 it (.ref D) env = (do
      standAt i1.pos
      match ← pyNext it with
      | none => pure (.done .next)
      | some u =>
        letOwnedTupleGo t1 it u
        assign t1 env u
        let mut go := true
        for c in ([] : List Expr) do
          if go then go ← isTrue c env (eval c env)
        if go then
          (do
            let key ← eval kx env
            let val ← holding [key] (eval vx env)
            standAt { kx.pos with endLine := vx.pos.endLine, endCol := vx.pos.endCol }
            holding [key, val] (dictSet D key val))
        again (.compLoop (dcT kx vx t0 i0 t1 i1 scope pos) 1 it (.ref D) env)) := by rfl
section
variable {P : Program} {w : World} {A : Around} {R : Result → Shared → Prop} {s : Shared} {kx vx t0 i0 t1 i1 : Expr} {scope : Scope} {pos : Pos} {it : Value} {D : Addr} {env : Env}
theorem noted_any {α : Type} {t : Sem α} {Q : α → Shared → Prop} {E : Value → Shared → Prop} (h : wpAny (model P w) A t Q (fun _ _ => False) s) : wpAny (model P w) A t Q E s := wpAny_mono h (fun _ _ q => q) fun _ _ q => q.elim
theorem dcT_loop0 (hs : ∀ x, foldedSetIterable i1 env x = pure x) (J : Nat → Shared → Prop)
    (turn : ∀ n s, J n s → wpAny (model P w) A (pyNext it) (fun r s1 => match r with
      | none => R (.ok .next) s1
      | some u => wpAny (model P w) A (letOwnedTupleGo t0 it u) (fun _ s2 => wpAny (model P w) A (assign t0 env u) (fun _ s3 => wpAny (model P w) A (eval i1 env) (fun x s4 => wpAny (model P w) A (pyIter x) (fun z s5 =>
          codeAny (model P w) A (.compStart (dcT kx vx t0 i0 t1 i1 scope pos) 1 z (.ref D) env) (fun r s' => match r with
            | .ok _ => ∃ m, m < n ∧ J m s'
            | .error _ => False) s5) (fun _ _ => False) s4) (fun _ _ => False) s3) (fun _ _ => False) s2) (fun _ _ => False) s1) (fun _ _ => False) s)
    (n : Nat) (h : J n s) : codeAny (model P w) A (.compLoop (dcT kx vx t0 i0 t1 i1 scope pos) 0 it (.ref D) env) R s := by
  refine codeAny_loop rfl J (fun n s hJ => ?_) n h
  refine (show wpAny _ A ((compTurn (dcT kx vx t0 i0 t1 i1 scope pos) 0 it (.ref D) env).onRaise (fun x => do noteFrame x env; theTreesLotGoes x)) _ _ s from wpAny_noted ?_)
  rw [dcT_out]
  refine wpAny_bind (wpAny_standAt (wpAny_bind (noted_any (thn (turn n s hJ) fun r s1 h1 => ?_))))
  cases r with
  | none => exact wpAny_pure h1
  | some u =>
    refine wpAny_bind (noted_any (thn h1 fun _ s2 h2 => wpAny_bind (noted_any (thn h2 fun _ s3 h3 => ?_))))
    refine wpAny_bind (wpAny_tests_nil ?_)
    refine wpAny_bind (noted_any (thn h3 fun x s4 h4 => wpAny_bind (wpAny_standAt (wpAny_bind (wpAny_of_eq (hs x) (wpAny_bind (wpAny_holding (noted_any (thn h4 fun z s5 h5 => ?_)))))))))
    refine wpAny_bind (wpAny_runOwn ?_)
    rw [Around.mark_none]
    refine codeAny_mono h5 fun r s' hr => ?_
    cases r with
    | error e => exact False.elim hr
    | ok f => first | exact wpAny_pure ⟨rfl, hr⟩ | exact wpAny_bind (wpAny_pure (wpAny_pure ⟨rfl, hr⟩))
theorem dcT_loop1 (J : Nat → Shared → Prop)
    (turn : ∀ n s, J n s → wpAny (model P w) A (pyNext it) (fun r s1 => match r with
      | none => R (.ok .next) s1
      | some u => wpAny (model P w) A (letOwnedTupleGo t1 it u) (fun _ s2 => wpAny (model P w) A (assign t1 env u) (fun _ s3 => wpAny (model P w) A (eval kx env) (fun key s4 => wpAny (model P w) A (eval vx env) (fun val s5 =>
          wpAny (model P w) A (dictSet D key val) (fun _ s6 => ∃ m, m < n ∧ J m s6) (fun _ _ => False) s5) (fun _ _ => False) s4) (fun _ _ => False) s3) (fun _ _ => False) s2) (fun _ _ => False) s1) (fun _ _ => False) s)
    (n : Nat) (h : J n s) : codeAny (model P w) A (.compLoop (dcT kx vx t0 i0 t1 i1 scope pos) 1 it (.ref D) env) R s := by
  refine codeAny_loop rfl J (fun n s hJ => ?_) n h
  refine (show wpAny _ A ((compTurn (dcT kx vx t0 i0 t1 i1 scope pos) 1 it (.ref D) env).onRaise (fun x => do noteFrame x env; theTreesLotGoes x)) _ _ s from wpAny_noted ?_)
  rw [dcT_in]
  refine wpAny_bind (wpAny_standAt (wpAny_bind (noted_any (thn (turn n s hJ) fun r s1 h1 => ?_))))
  cases r with
  | none => exact wpAny_pure h1
  | some u =>
    refine wpAny_bind (noted_any (thn h1 fun _ s2 h2 => wpAny_bind (noted_any (thn h2 fun _ s3 h3 => ?_))))
    refine wpAny_bind (wpAny_tests_nil ?_)
    exact wpAny_bind (wpAny_bind (noted_any (thn h3 fun key s4 h4 => wpAny_bind (wpAny_holding (noted_any (thn h4 fun val s5 h5 => wpAny_bind (wpAny_standAt (wpAny_holding (noted_any (thn h5 fun _ s6 h6 => wpAny_pure ⟨rfl, h6⟩))))))))))
theorem dcT_start1 (h0 : codeAny (model P w) A (.compLoop (dcT kx vx t0 i0 t1 i1 scope pos) 1 it (.ref D) env) R s)
    (h : wpAny (model P w) A (pyIter it) (fun z s' => codeAny (model P w) A (.compLoop (dcT kx vx t0 i0 t1 i1 scope pos) 1 z (.ref D) env) R s') (notedBy (model P w) A env fun x s' => R (.error x) s') s) :
    codeAny (model P w) A (.compStart (dcT kx vx t0 i0 t1 i1 scope pos) 1 it (.ref D) env) R s := by
  refine codeAny_of_tree ?_
  refine (show wpAny _ _ ((compStart (dcT kx vx t0 i0 t1 i1 scope pos) 1 it (.ref D) env).onRaise (fun x => do noteFrame x env; standAt theWindowsPlace)) _ _ s from wpAny_notedAt ?_)
  unfold compStart
  refine (show wpAny _ _ (ask >>= _) _ _ s from wpAny_bind (wpAny_askSetting (wpAny_ite ?_)))
  split
  · first | exact wpAny_bind (wpAny_pure (wpAny_pure (And.intro rfl h0))) | exact wpAny_pure (And.intro rfl h0)
  · first
      | exact wpAny_bind (wpAny_rule (wpAny_bind (wpAny_standAt (wpAny_bind (thn h fun z s' h' => wpAny_pure (And.intro rfl h'))))))
      | (refine wpAny_bind (wpAny_rule ?_); refine (show wpAny _ _ (standAt i1.pos >>= _) _ _ s from wpAny_bind (wpAny_standAt (wpAny_bind (thn h fun z s' h' => wpAny_pure (And.intro rfl h'))))))
end
section
variable {X : Cx}
/-- the reading: behind the first target's store the second source's own loop, from which Nx is reached; D the new dict -/
def tDc2 (wi : TI) (g : TG) (wj : TI) (gj : TG) (tk tv : TE) (vs us : List Nat) : TE := fun σ H Q => wi σ H fun J H1 => ∀ D, H1 D = none → ∃ W : Nat → Nat → Hp → Prop, (∃ m, W 0 m (upd H1 D (.dK []))) ∧ ∀ i m H, W i m H →
  (J.stop i H ∧ Q (.ref D) H) ∨ (J.go i H ∧ ∃ Nx : Hp → Prop, (∀ H', Nx H' → ∃ m', m' < m ∧ W (i + 1) m' H') ∧ ∀ x H', J.yld i H x H' → g x (wipe σ vs) H' fun σ2 H2 => wipe σ2 vs = wipe σ vs ∧
    wj σ2 H2 fun L H3 => ∃ U : Nat → Nat → Hp → Prop, (∃ m, U 0 m H3) ∧ ∀ j k H, U j k H → (L.stop j H ∧ Nx H) ∨ (L.go j H ∧ ∃ Ny : Hp → Prop, (∀ H', Ny H' → ∃ k', k' < k ∧ U (j + 1) k' H') ∧
      ∀ x H', L.yld j H x H' → gj x (wipe σ2 us) H' fun σ3 H5 => wipe σ3 us = wipe σ2 us ∧ tk σ3 H5 fun y H6 => tv σ3 H6 fun z H7 => ∃ kvs k, y = kV k ∧ H7 D = some (.dK kvs) ∧ kvs.length < sizeLine ∧ Ny (upd H7 D (.dK (putK kvs k z)))))
/-- a block's rules, for every state in which the block may begin -/
abbrev InBlk (X : Cx) (scope : Scope) (R : Cx → Prop) : Prop := ∀ (s : Shared) (H : Hp) (C : Addr) (cl : List (Str × Addr)) (fp : List Addr), R (X.blk s H scope (compEnvC scope cl C X.env) fp)
theorem pe_dc2 {kx vx tg iter tj itj : Expr} {scope : Scope} {own : List (Str × Nat)} {us : List Nat} {pos : Pos} {wi wj : TI} {g gj : TG} {tk tv : TE} (hc : X.calm = true) (hN : X.N.Nodup) (hi : PI X tg iter wi) (ok : BlkOk X.N X.env.scope scope own) (hv : ∀ i ∈ us, i ∈ own.map (·.2))
    (hg : InBlk X scope fun Y => PG Y tg g) (hj : InBlk X scope fun Y => PI Y tj itj wj) (hgj : InBlk X scope fun Y => PG Y tj gj) (hk : InBlk X scope fun Y => PE Y kx tk) (he : InBlk X scope fun Y => PE Y vx tv)
    (hs : ∀ x, foldedSetIterable iter X.env x = pure x := by intro _; rfl) (hsj : ∀ env x, foldedSetIterable itj env x = pure x := by intro _ _; rfl) :
    PE X (dcT kx vx tg iter tj itj scope pos) (tDc2 wi g wj gj tk tv (own.map (·.2)) us) := by
  constructor
  intro pins s σ H Q I h
  rw [arm_eval_DictComp]
  have hfree : ∀ y ∈ scope.names, y.2 = .free → ∃ c, X.env.cells.lookup y.1 = some c := fun y hy e => (ok.free y hy e).elim (fun z => I.ok.has _ (.inl z)) fun z => I.ok.has _ (.inr z)
  refine wpAny_comprehension_free (use := none) rfl hs (closure_ok hfree) ok.kind (fun y hy e => by rw [ok.uniq y hy, e]) (thn (hi.run pins s σ H _ I h) fun xv s1 hx => thn hx ?_)
  rintro itv s2 ⟨it, fp, tn, J, H2, rfl, I2, T, st2, f2, q⟩
  refine wpAny_newObj_type (newEnv_comp ?_)
  generalize hD : s2.heap.objs.size = D
  obtain ⟨W, ⟨m0, w0⟩, turn⟩ := q D (I2.hok.fresh (Nat.le_of_eq hD))
  generalize hs3 : ({ s2 with heap := s2.heap.push { cls := .type "dict", data := .dict #[] } } : Shared) = s3
  have h3 : s3.heap = s2.heap.push { cls := .type "dict", data := .dict #[] } := by rw [← hs3]
  have I3 : Inv X pins σ (upd H2 D (.dK [])) s3 := by
    rw [← hs3]
    exact I2.laid (t' := s2.toks) (fun b o e => Heap.get?_push_of_some _ e) (Nat.le_of_eq hD) (by rw [← hD]; exact dk_empty s2.heap I2.big)
  have f3 : ∀ b ∈ fp, FpOk X pins (upd H2 D (.dK [])) b ∧ b < s3.heap.objs.size := fun b hb => by
    obtain ⟨o, e, _⟩ := T.obj _ _ st2 b hb
    have lt := Heap.lt_size e
    exact ⟨⟨(upd_ne (by rw [← hD]; exact Nat.ne_of_lt lt)).trans (f2 b hb).1, (f2 b hb).2⟩, by rw [h3, Heap.size_push]; exact Nat.lt_succ_of_lt lt⟩
  have st3 : tn 0 s3.heap := T.keep _ _ _ st2 fun b _ o e => by rw [h3]; exact Heap.get?_push_of_some _ e
  have I4 := block_start I3 ok hN f3
  -- the block's own context
  have start : ∀ B : List (Str × Addr), B = cellsFrom (s3.heap.objs.size + 1) scope.names (cloFrom X.env.cells scope.names []) → ∀ ce, ce = compEnvC scope B s3.heap.objs.size X.env →
      codeAny (model X.prog X.w) X.A (.compStart (dcT kx vx tg iter tj itj scope pos) 0 (.ref it) (.ref D) ce) (compPost (model X.prog X.w) X.A X.xe none (EP X pins σ Q) (.ref D) s3.heap.objs.size) { s3 with heap := pushCells (s3.heap.push { cls := .type "dict", data := .dict #[] }) scope.names } := by
    rintro B hB ce hce
    have pg := hg s3 (upd H2 D (.dK [])) s3.heap.objs.size B fp
    have pj := hj s3 (upd H2 D (.dK [])) s3.heap.objs.size B fp
    have pgj := hgj s3 (upd H2 D (.dK [])) s3.heap.objs.size B fp
    have pk := hk s3 (upd H2 D (.dK [])) s3.heap.objs.size B fp
    have pe := he s3 (upd H2 D (.dK [])) s3.heap.objs.size B fp
    rw [← hB, ← hce] at I4
    rw [← hce] at pg pj pgj pk pe
    have cL : ce.locals = s3.heap.objs.size := by rw [hce]; rfl
    have nfp : ∀ b ∈ fp, (upd H2 D (.dK [])) b = none := fun b hb => (f3 b hb).1.1
    generalize hH3 : upd H2 D (.dK []) = H3 at I3 I4 pg pj pgj pk pe w0 nfp f3
    generalize hs4 : ({ s3 with heap := pushCells (s3.heap.push { cls := .type "dict", data := .dict #[] }) scope.names } : Shared) = s4 at I4 ⊢
    have st4 : tn 0 s4.heap := T.keep _ _ _ st3 fun b _ o e => by rw [← hs4]; exact pushCells_keeps _ _ _ _ (Heap.get?_push_of_some _ e)
    generalize hY : X.blk s3 H3 scope ce fp = Y at I4 pg pj pgj pk pe
    have yA : Y.A = X.A := by rw [← hY]
    have yp : Y.prog = X.prog := by rw [← hY]
    have yw : Y.w = X.w := by rw [← hY]
    have yK : Y.K = X.K := by rw [← hY]
    have yc : Y.calm = true := by rw [← hY]; exact hc
    have yx : Y.xe = fun _ _ => False := by rw [← hY]
    have yex : Y.ex = fp := by rw [← hY]
    have yenv : Y.env = ce := by rw [← hY]
    have ypn : Y.pn = [] := by rw [← hY]
    subst hY
    have stat : ∀ {σ' : L2.St} {H' : Hp} {s' : Shared}, Inv (X.blk s3 H3 scope ce fp) [] σ' H' s' → (∀ b ∈ fp, H' b = none) → ∀ b ∈ fp, FpOk (X.blk s3 H3 scope ce fp) [] H' b := fun {σ' H' s'} I' hn b hb =>
      ⟨hn b hb, (I'.ok.exf b hb).1, I'.ok.exfs b hb, .inl hb, fun x c e => (I'.ok.exf b hb).2 x c e, fun p hp => by cases hp⟩
    -- what stands between two turns of the outer loop
    let Wait : Nat → Shared → Prop := fun n s' => ∃ i H', Inv (X.blk s3 H3 scope ce fp) [] (wipe σ (own.map (·.2))) H' s' ∧ tn i s'.heap ∧ (∀ b ∈ fp, H' b = none) ∧ W i n H'
    have loop : codeAny (model X.prog X.w) X.A (.compLoop (dcT kx vx tg iter tj itj scope pos) 0 (.ref it) (.ref D) ce) (compPost (model X.prog X.w) X.A X.xe none (EP X pins σ Q) (.ref D) s3.heap.objs.size) s4 := by
      refine dcT_loop0 (hsj ce) Wait ?_ m0 ⟨0, H3, I4, st4, nfp, w0⟩
      rintro n s5 ⟨i, H5, I5, st5, n5, w5⟩
      rcases turn i n H5 w5 with ⟨stop, qq⟩ | ⟨go, Nx, hNx, step⟩
      · refine thnF (T.done (X.blk s3 H3 scope ce fp) rfl rfl rfl hc i [] s5 _ H5 (fun _ _ => False) I5 (stat I5 n5) st5 stop) ?_
        rintro r s6 ⟨rfl, I6⟩
        have I7 : Inv X pins σ H5 s6 := I3.call' (ch := fp) I6.os I6.base I6.hok I6.bare fun b hb => ⟨(f3 b hb).1.2.2.2.1, (f3 b hb).1.2.1, (f3 b hb).1.2.2.2.2.1, (f3 b hb).1.2.2.2.2.2⟩
        have nC : H5 s3.heap.objs.size = none := by rw [← cL]; exact I6.free
        obtain ⟨m, hn, _⟩ := I6.loc
        obtain ⟨_, g1, g2, g3, g4, g5⟩ := I3.fpOk (Nat.le_refl _) nC
        refine ⟨m, (by rw [← cL]; exact hn), fun h'' sb => ?_⟩
        exact ⟨.ref D, H5, I7.turned (t' := s6.toks) (fun b o hb e => (sb.2 b hb).trans e) nC g1 g3 g4 g5, rfl, qq⟩
      · refine thnF (T.item (X.blk s3 H3 scope ce fp) rfl rfl rfl hc i [] s5 _ H5 (fun _ _ => False) I5 (stat I5 n5) st5 go) ?_
        rintro r s6 ⟨u, rfl, h6⟩
        refine thnF h6 ?_
        rintro _ s7 ⟨x, H7, I7, r7, y7, st7, n7⟩
        refine thnF (pg.run _ s7 _ H7 x u _ (I7.pinned (stat I7 n7) (T.obj _ _ st7)) r7 (step x H7 y7)) ?_
        rintro _ s8 ⟨σ8, H8, I8, hw8, q8⟩
        have fin : ∀ {σ9 : L2.St} {s' : Shared} {H' : Hp}, Inv (X.blk s3 H3 scope ce fp) ([] ++ pinsAt fp s7.heap) σ9 H' s' → (wipe σ (own.map (·.2))).length = σ9.length → (∀ (j : Nat) v, (wipe σ (own.map (·.2)))[j]? = some (some v) → σ9[j]? = some (some v)) → Nx H' → ∃ m, m < n ∧ Wait m s' := by
          intro σ9 s' H' I' hl hk nx
          obtain ⟨m', hm, w'⟩ := hNx H' nx
          have held : ∀ b ∈ fp, ∀ o, s7.heap.get? b = some o → s'.heap.get? b = some o ∧ H' b = none := fun b hb o e => ⟨(I'.pin (b, o) (List.mem_append_right _ (List.mem_append_right _ (mem_pinsAt hb e)))).1, (I'.pin (b, o) (List.mem_append_right _ (List.mem_append_right _ (mem_pinsAt hb e)))).2.1⟩
          refine ⟨m', hm, i + 1, H', (I'.unpinned (pins := [])).weak hl hk, T.keep _ _ _ st7 fun b hb o e => (held b hb o e).1, fun b hb => ?_, w'⟩
          obtain ⟨o, e, _⟩ := T.obj _ _ st7 b hb
          exact (held b hb o e).2
        have hl8 : (wipe σ (own.map (·.2))).length = σ8.length := by rw [← hw8, wipe_length]
        have hk9 : ∀ (j : Nat) v, (wipe σ (own.map (·.2)))[j]? = some (some v) → (wipe σ8 us)[j]? = some (some v) := fun j v e => by
          rw [← hw8] at e
          obtain ⟨e1, e2⟩ := wipe_some e
          exact (wipe_out fun z => e2 (hv j z)).trans e1
        refine thnF (pj.run _ s8 σ8 H8 _ I8 q8) fun xv s10 hx => thnF hx ?_
        rintro itv s11 ⟨it1, fp1, tn1, L, H11, rfl, I11, T1, st11, f11, U, ⟨m1, w1⟩, turn1⟩
        have stat1 : ∀ {H' : Hp}, (∀ b ∈ fp1, H' b = none) → ∀ b ∈ fp1, FpOk (X.blk s3 H3 scope ce fp) ([] ++ pinsAt fp s7.heap) H' b := fun hn b hb => ⟨hn b hb, (f11 b hb).2⟩
        let Wait1 : Nat → Shared → Prop := fun k s' => ∃ j H', Inv (X.blk s3 H3 scope ce fp) ([] ++ pinsAt fp s7.heap) (wipe σ8 us) H' s' ∧ tn1 j s'.heap ∧ (∀ b ∈ fp1, H' b = none) ∧ U j k H'
        have inner : codeAny (model X.prog X.w) X.A (.compLoop (dcT kx vx tg iter tj itj scope pos) 1 (.ref it1) (.ref D) ce) (fun r s' => match r with
            | .ok _ => ∃ m, m < n ∧ Wait m s'
            | .error _ => False) s11 := by
          refine dcT_loop1 Wait1 ?_ m1 ⟨0, H11, I11.weak (wipe_length _ _) (fun j v e => (wipe_some e).1), st11, fun b hb => (f11 b hb).1, w1⟩
          rintro k s12 ⟨j, H12, I12, st12, n12, w12⟩
          rcases turn1 j k H12 w12 with ⟨stop1, nx1⟩ | ⟨go1, Ny, hNy, step1⟩
          · refine thnF (T1.done (X.blk s3 H3 scope ce fp) rfl rfl rfl hc j _ s12 (wipe σ8 us) H12 (fun _ _ => False) I12 (stat1 n12) st12 stop1) ?_
            rintro r s13 ⟨rfl, I13⟩
            exact fin I13 (hl8.trans (wipe_length σ8 us).symm) hk9 nx1
          · refine thnF (T1.item (X.blk s3 H3 scope ce fp) rfl rfl rfl hc j _ s12 (wipe σ8 us) H12 (fun _ _ => False) I12 (stat1 n12) st12 go1) ?_
            rintro r s13 ⟨u1, rfl, h13⟩
            refine thnF h13 ?_
            rintro _ s14 ⟨x1, H14, I14, r14, y14, st14, n14⟩
            refine thnF (pgj.run _ s14 (wipe σ8 us) H14 x1 u1 _ (I14.pinned (stat1 n14) (T1.obj _ _ st14)) r14 (step1 x1 H14 y14)) ?_
            rintro _ s15 ⟨σ15, H15, I15, hw15, q15⟩
            refine thnF (pk.run _ s15 σ15 H15 _ I15 q15) ?_
            rintro kv s16 ⟨yk, H16, I16, rk, q16⟩
            refine thnF (pe.run _ s16 σ15 H16 _ I16 q16) ?_
            rintro vv s17 ⟨yv, H17, I17, rv, kvs, kk, rfl, hD17, hz17, ny⟩
            refine d_dictSet (X := X.blk s3 H3 scope ce fp) I17 hD17 hz17 rk rv fun s18 I18 => ?_
            obtain ⟨m', hm, w'⟩ := hNy _ ny
            have held : ∀ b ∈ fp1, ∀ o, s14.heap.get? b = some o → s18.heap.get? b = some o ∧ (upd H17 D (.dK (putK kvs kk yv))) b = none := fun b hb o e => ⟨(I18.pin (b, o) (List.mem_append_right _ (List.mem_append_right _ (mem_pinsAt hb e)))).1, (I18.pin (b, o) (List.mem_append_right _ (List.mem_append_right _ (mem_pinsAt hb e)))).2.1⟩
            refine ⟨m', hm, j + 1, _, I18.unpinned.weak (by rw [← hw15, wipe_length]) (fun j v e => by rw [← hw15] at e; exact (wipe_some e).1), T1.keep _ _ _ st14 fun b hb o e => (held b hb o e).1, fun b hb => ?_, w'⟩
            obtain ⟨o, e, _⟩ := T1.obj _ _ st14 b hb
            exact (held b hb o e).2
        exact dcT_start1 inner (T1.self X.A 0 _ _ _ st11 inner)
    exact codeAny_compStart_dict loop (T.self X.A 0 _ _ _ st4 loop)
  exact start _ rfl _ rfl
end
/-! ### dicts whose keys are pairs of texts -/
abbrev kP (p : Str × Str) : List L2.Key := [.inr p.1, .inr p.2]
abbrev enP (p : Str × Str) : PyData := .tuple [.str p.1, .str p.2]
theorem kt_zs {H : Hp} : ∀ {kvs : List (List L2.Key × V)} {xs : List (List L2.Key × Addr × Value)} {ks : List (Str × Str)}, KT H kvs xs → kvs.map (·.1) = ks.map kP →
    ∃ zs : List (V × (Str × Str)), zs.map (·.2) = ks ∧ zs.map (·.1) = (xs.map fun x => x.2.1).map V.ref ∧ ∀ z ∈ zs, IsPair H z.1 z.2
  | _, _, [], .nil, _ => ⟨[], rfl, rfl, fun z hz => nomatch hz⟩
  | _, _, _ :: _, .nil, h => nomatch h
  | _, _, [], .cons _ _, h => nomatch h
  | p :: kvs, q :: xs, k :: ks, .cons r t, h => by
    have h1 : p.1 = kP k := (List.cons.inj h).1
    obtain ⟨zs, e1, e2, e3⟩ := kt_zs t (List.cons.inj h).2
    refine ⟨(V.ref q.2.1, k) :: zs, congrArg (k :: ·) e1, congrArg (V.ref q.2.1 :: ·) e2, fun z hz => ?_⟩
    rcases List.mem_cons.mp hz with hz | hz
    · rw [hz]
      refine ⟨q.2.1, rfl, ?_⟩
      rw [r.2.1, h1]
      rfl
    · exact e3 z hz
theorem raw_refs {P : Program} {w : World} {es : Array DictEntry} {xs : List (List L2.Key × Addr × Value)} {acc : Array Value} (he : es.toList = xs.map (entryOfKey (tupleKind (mixKind P w)))) (hl : acc.size = xs.length)
    (h : ∀ (j : Nat) (v : Value), acc[j]? = some v → ∃ en : DictEntry, es[j]? = some en ∧ v = en.key) : acc.toList = (xs.map fun x => x.2.1).map Value.ref := by
  refine List.ext_getElem? fun j => ?_
  rw [List.map_map, List.getElem?_map, Array.getElem?_toList]
  cases hj : acc[j]? with
  | none =>
    have h1 : xs.length ≤ j := by rw [← hl]; exact Array.getElem?_eq_none_iff.mp hj
    rw [List.getElem?_eq_none h1]
    rfl
  | some v =>
    obtain ⟨en, hen, rfl⟩ := h j v hj
    have q := entry_at he j
    rw [hen] at q
    cases hb : xs[j]? with
    | none => rw [hb] at q; cases q
    | some b =>
      rw [hb] at q
      rw [show en = entryOfKey (tupleKind (mixKind P w)) b from Option.some.inj q]
      rfl
theorem vals_ref : ∀ l : List Addr, Vals (l.map V.ref) (l.map Value.ref)
  | [] => .nil
  | _ :: l => .cons rfl (vals_ref l)
theorem reads_pair {h : Heap} {v : Value} {a b : Str} {as : List Addr} (r : Reads h v (.tuple [.str a, .str b]) as) : as = [] := by
  have key : ∀ l : List Value, ReadsAll h l [.str a, .str b] as → as = [] := by
    intro l r2
    cases r2 with
    | cons q1 q2 =>
      cases q1
      cases q2 with
      | cons q3 q4 =>
        cases q3
        cases q4
        rfl
  cases r with
  | tuple _ _ _ r2 => exact key _ r2
theorem alikeP (zs : List (V × (Str × Str))) : PySem.W.AllAlike (zs.map fun z => enP z.2) := PySem.W.AllAlike.of (enc := fun z : V × (Str × Str) => enP z.2) fun b b' => by simp [PySem.W.alike, PySem.W.alikeAll]
theorem sortP (zs : List (V × (Str × Str))) : PySem.W.Sortable (zs.map fun z => enP z.2) := PySem.W.Sortable.tuples (enc := fun z : V × (Str × Str) => enP z.2) fun b => ⟨_, _, rfl⟩
theorem depthP (p : Str × Str) : (enP p).depth = 1 := by simp [PyData.depth, PyData.depthAll]
def rSortDT : List V → Hp → VK → Prop := fun vs H Q => ∃ (d : Addr) (ks : List (Str × Str)) (kvs : List (List L2.Key × V)), vs = [.ref d] ∧ H d = some (.dT kvs) ∧ kvs.map (·.1) = ks.map kP ∧
  ∀ (zs : List (V × (Str × Str))) (p : Addr), zs.map (·.2) = ks → (∀ z ∈ zs, IsPair H z.1 z.2) → H p = none → Q (.ref p) (upd H p (.lst ((sortBy enP zs).map (·.1))))
section
variable {X : Cx}
theorem cr_sortedDT (hc : X.calm = true) (hu : X.A.units + 65 < cLine) : CallR X (.builtin "sorted") rSortDT := by
  rintro pins s σ H us0 us Q I r ⟨d, ks, kvs, rfl, hd, hk, q⟩
  obtain ⟨u0, rfl, r0⟩ := vals1 r
  cases (show u0 = Value.ref d from r0)
  obtain ⟨hz, hs, xs, pr, o, es, ep, ho, hx, hdt, he, hn⟩ := (show ObjOk X.prog X.w H s.heap d (.dT kvs) from I.hok d _ hd)
  obtain ⟨zs, z1, z2, z3⟩ := kt_zs pr hk
  have l1 : es.size = xs.length := size_of_entries he
  have l2 : kvs.length = xs.length := Paired.length pr
  have l3 : zs.length = xs.length := by
    have e := congrArg List.length z2
    rw [List.length_map, List.length_map, List.length_map] at e
    exact e
  have hzl : zs.length ≤ sizeLine := by omega
  refine Calls.call_function_entry PyProof.Rows.kind_sorted PyProof.Rows.plain_sorted PyProof.Rows.entry_sorted (PyProof.Rows.args_sorted1 _) ?_
  unfold Builtin.«sorted»
  refine wpAny_bind (m := checkCount "sorted" 1 1 _) (wpAny_pure (wpAny_bind (PySem.W.kdu_collect (A := X.A.in1) (kdl_raw hs hx hdt) (I.ok.hd hc) ho (by omega) fun h' tk acc hkp hit => ?_)))
  have ea := raw_refs he (hit.1.trans l1) hit.2
  have rv : Vals (zs.map (·.1)) acc.toList := by rw [z2, ea]; exact vals_ref _
  have I1 : Inv X pins σ H { s with heap := h', toks := tk } := I.kept hkp
  have hal : acc.toList.length = zs.length := by rw [← rv.length, List.length_map]
  refine wpAny_bind (wpAny_newList ?_ (by omega))
  have hoL : (h'.push (seqObj "list" acc.toList.toArray 0)).get? h'.objs.size = some (seqObj "list" acc.toList.toArray 0) := Heap.get?_push_size _ rfl
  have I2 : Inv X pins σ H { s with heap := h'.push (seqObj "list" acc.toList.toArray 0), toks := tk } := I1.kept fun b u e => Heap.get?_push_of_some _ e
  refine (show wpAny _ _ _ _ _ { s with heap := h'.push (seqObj "list" acc.toList.toArray 0), toks := tk } from wpAny_bind (wpAny_holding ?_))
  refine PySem.W.list_sort_data (A := X.A.in1) (enc := fun z : V × (Str × Str) => enP z.2) (s := { s with heap := h'.push (seqObj "list" acc.toList.toArray 0), toks := tk }) hoL (each_rel rv)
    ((each_rel rv).mono fun u z hz => ?_) (alikeP zs) (sortP zs) hzl (fun z _ => by rw [depthP]; show X.A.units + 1 + 1 + 1 < _; omega) fun out hol heo => ?_
  · obtain ⟨as, ra⟩ := Dp.reads I2 (enP z.2) z.1 u (dp_pair (z3 z hz.2)) hz.1
    exact ⟨as, ra, by rw [reads_pair ra]; simp⟩
  · obtain ⟨c, hc'⟩ := PyProof.Rows.sortedHeap_at (vs := acc.toList) (out := out.toArray) hoL
    have hl2 : ((sortBy enP zs).map (·.1)).length ≤ sizeLine := by
      rw [List.length_map, List.length_mergeSort]
      exact hzl
    refine wpAny_pure ⟨_, rfl, .ref h'.objs.size, upd H h'.objs.size (.lst ((sortBy enP zs).map (·.1))), I1.laid (t' := tk) (fun b u e => ?_) (Nat.le_refl _) ?_, rfl, q zs _ z1 z3 (I1.hok.fresh (Nat.le_refl _))⟩
    · have hb : b < h'.objs.size := Heap.lt_size e
      rw [PyProof.Rows.sortedHeap_old (Nat.ne_of_lt hb) (by rw [size_push']; exact Nat.lt_succ_of_lt hb)]
      exact Heap.get?_push_of_some _ e
    · exact ⟨hl2, out, c, vals_each heo, hc'⟩
end
/-! ### dict(pairs), the keys pairs of texts -/
/-- one entry of the argument: the tuple at t of the key at b and the value v -/
structure PT where
  t : Addr
  b : Addr
  k : Str × Str
  v : V
/-- what stands of it -/
def PT.At (H : Hp) (x : PT) : Prop := H x.t = some (.tup [.ref x.b, x.v]) ∧ H x.b = some (.tup [.str x.k.1, .str x.k.2])
/-- a dict's entries, stored one behind another -/
def mergeT (ps : List ((Str × Str) × V)) : List (List L2.Key × V) := ps.foldl (fun acc p => putK acc (kP p.1) p.2) []
def rDictP2 : List V → Hp → VK → Prop := fun vs H Q => ∃ (a : Addr) (ts : List PT), vs = [.ref a] ∧ H a = some (.lst (ts.map fun x => V.ref x.t)) ∧ (∀ x ∈ ts, x.At H) ∧
  ∀ p, H p = none → Q (.ref p) (upd H p (.dT (mergeT (ts.map fun x => (x.k, x.v)))))
section
variable {X : Cx} {pins : List (Addr × Obj)} {σ : L2.St} {H : Hp} {s : Shared}
theorem pts_vals (I : Inv X pins σ H s) : ∀ ts : List PT, (∀ x ∈ ts, x.At H) → ∃ ps : List (List L2.Key × Addr × Value), ps.length = ts.length ∧ ∀ (j : Nat) (x : PT), ts[j]? = some x → ∃ u, ps[j]? = some (kP x.k, x.b, u) ∧ RelV x.v u ∧ PairAt s.heap x.t (.ref x.b) u
  | [], _ => ⟨[], rfl, fun j x h => by cases h⟩
  | y :: ts, h => by
    obtain ⟨ps, l, q⟩ := pts_vals I ts fun x hx => h x (List.mem_cons_of_mem _ hx)
    obtain ⟨h1, _⟩ := h y List.mem_cons_self
    obtain ⟨_, its, rv, o, ho, hc, n, hd⟩ := (show ObjOk X.prog X.w H s.heap y.t (.tup [.ref y.b, y.v]) from I.hok _ _ h1)
    obtain ⟨u1, u, rfl, r1, r2⟩ := vals2 rv
    cases (show u1 = Value.ref y.b from r1)
    refine ⟨(kP y.k, y.b, u) :: ps, congrArg Nat.succ l, fun j x hx => ?_⟩
    cases j with
    | zero =>
      obtain rfl : y = x := Option.some.inj hx
      exact ⟨u, rfl, r2, .inl ⟨o, ho, hc, n, hd⟩⟩
    | succ j => exact q j x hx
theorem kt_merge : ∀ {ts : List PT} {acc : List (List L2.Key × V)} {xs : List (List L2.Key × Addr × Value)} {ps : List (List L2.Key × Addr × Value)}, ps.length = ts.length →
    (∀ (j : Nat) (x : PT), ts[j]? = some x → ∃ u, ps[j]? = some (kP x.k, x.b, u) ∧ RelV x.v u ∧ H x.b = some (.tup [.str x.k.1, .str x.k.2])) → KT H acc xs →
    KT H ((ts.map fun x => (x.k, x.v)).foldl (fun acc p => putK acc (kP p.1) p.2) acc) (ps.foldl (fun acc p => storedH acc p.1 p.2.1 p.2.2) xs)
  | [], acc, xs, [], _, _, r => r
  | [], _, _, _ :: _, l, _, _ => nomatch l
  | _ :: _, _, _, [], l, _, _ => nomatch l
  | y :: ts, acc, xs, p :: ps, l, h, r => by
    obtain ⟨u, e1, e2, e3⟩ := h 0 y rfl
    obtain rfl : p = (kP y.k, y.b, u) := Option.some.inj e1
    exact kt_merge (ts := ts) (ps := ps) (Nat.succ.inj l) (fun j x hx => h (j + 1) x hx) (KT.put r (kP y.k) (show H y.b = some (.tup ((kP y.k).map kV)) from e3) e2)
theorem mergeT_len (ps : List ((Str × Str) × V)) : ∀ acc : List (List L2.Key × V), (ps.foldl (fun acc p => putK acc (kP p.1) p.2) acc).length ≤ acc.length + ps.length := by
  induction ps with
  | nil => exact fun acc => Nat.le_refl _
  | cons p ps ih =>
    intro acc
    have h1 := ih (putK acc (kP p.1) p.2)
    have h2 := length_putK acc (kP p.1) p.2
    rw [List.foldl_cons, List.length_cons]
    omega
theorem cr_dictP2 (hc : X.calm = true) (hu : X.A.units + 65 < cLine) : CallR X (.type "dict") rDictP2 := by
  rintro pins s σ H us0 us Q I r ⟨a, ts, rfl, ha, ht, q⟩
  obtain ⟨u0, rfl, r0⟩ := vals1 r
  cases (show u0 = Value.ref a from r0)
  obtain ⟨hz, its, n, rv, ho⟩ := (show ObjOk X.prog X.w H s.heap a (.lst (ts.map fun x => V.ref x.t)) from I.hok a _ ha)
  obtain ⟨ps, hl, hp⟩ := pts_vals I ts ht
  have ei : its = ts.map fun x => Value.ref x.t := by
    have e : Vals ((ts.map fun x => x.t).map V.ref) its := by rw [List.map_map]; exact rv
    have e2 := refs_at e
    rw [e2, List.map_map]
    rfl
  rw [List.length_map] at hz
  have pit : PairItems s.heap its.toArray (fun j => ((ts[j]?).map (·.t)).getD 0) (ps.map fun q => (Value.ref q.2.1, q.2.2)) := by
    refine ⟨by rw [ei, List.size_toArray, List.length_map, List.length_map, hl], fun j k v e => ?_⟩
    rw [List.getElem?_map] at e
    cases ej : ts[j]? with
    | none =>
      have h1 := List.getElem?_eq_none_iff.mp ej
      rw [List.getElem?_eq_none (by omega)] at e
      cases e
    | some x =>
      obtain ⟨u, e1, e2, e3⟩ := hp j x ej
      rw [e1] at e
      obtain ⟨rfl, rfl⟩ : Value.ref x.b = k ∧ u = v := by
        have z := Option.some.inj e
        exact ⟨congrArg Prod.fst z, congrArg Prod.snd z⟩
      have et : ((ts[j]?).map (·.t)).getD 0 = x.t := by rw [ej]; rfl
      refine ⟨?_, by show PairAt s.heap (((ts[j]?).map (·.t)).getD 0) _ _; rw [et]; exact e3⟩
      show its.toArray[j]? = some (Value.ref (((ts[j]?).map (·.t)).getD 0))
      rw [et, ei, List.getElem?_toArray, List.getElem?_map, ej]
      rfl
  refine call_dict_pairsH (knd := tupleKind (mixKind X.prog X.w)) (ps := ps) (PairArg.list a its.toArray _ (ps.map fun q => (Value.ref q.2.1, q.2.2))) (I.ok.hd hc) ?_ ⟨⟨_, n, ho, rfl, rfl, rfl⟩, pit⟩ ⟨by rw [List.length_map], fun i key v e => ?_⟩ (fun h' hk x hx => ?_) (by rw [List.length_map, hl]; exact hz) fun h' tk hd hk => ?_
  · exact tupleKind_room_in1 (A := X.A.in1) (by show X.A.units + 1 + 1 < _; omega)
  · have e : (ps.map fun q => (Value.ref q.2.1, q.2.2))[i]? = some (key, v) := e
    obtain ⟨⟨k, b, u⟩, e1, e2⟩ : ∃ d, ps[i]? = some d ∧ (key, v) = (Value.ref d.2.1, d.2.2) := by
      rw [List.getElem?_map] at e
      cases ej : ps[i]? with
      | none => rw [ej] at e; cases e
      | some d => rw [ej] at e; exact ⟨d, rfl, (Option.some.inj e).symm⟩
    exact ⟨k, b, by rw [e1, show v = u from congrArg Prod.snd e2], congrArg Prod.fst e2⟩
  · obtain ⟨j, hj⟩ := List.getElem?_of_mem hx
    have hjl : j < ts.length := by have := (List.getElem?_eq_some_iff.mp hj).1; omega
    obtain ⟨u, e1, _, _⟩ := hp j ts[j] (List.getElem?_eq_getElem hjl)
    rw [hj] at e1
    obtain rfl := Option.some.inj e1
    exact key_of (I.hok.kept fun b o e => hk b o (Nat.ne_of_lt (Heap.lt_size e)) (by simp) e) (ht _ (List.getElem_mem hjl)).2
  · have kt : KT H (mergeT (ts.map fun x => (x.k, x.v))) (storedAllH [] ps) := kt_merge hl (fun j x hx => by
      obtain ⟨u, e1, e2, _⟩ := hp j x hx
      exact ⟨u, e1, e2, (ht x (List.mem_of_getElem? hx)).2⟩) .nil
    have hn : H s.heap.objs.size = none := I.hok.fresh (Nat.le_refl _)
    obtain ⟨o, es, ep, g1, g2, g3, g4, _, g5⟩ := hd
    have hlen : (mergeT (ts.map fun x => (x.k, x.v))).length ≤ sizeLine := by
      have := mergeT_len (ts.map fun x => (x.k, x.v)) []
      rw [List.length_map, List.length_nil] at this
      exact Nat.le_trans (by unfold mergeT; omega) hz
    refine ⟨.ref s.heap.objs.size, upd H s.heap.objs.size (.dT (mergeT (ts.map fun x => (x.k, x.v)))), I.laid (t' := tk) (fun b u e => hk b u (by simp) e) (Nat.le_refl _) ?_, rfl, q _ hn⟩
    exact ⟨hlen, beq_eq_false_iff_ne.mpr (Nat.ne_of_gt I.big), storedAllH [] ps, KT.keeps kt (fun b ys e => same_new hn _ _ e), o, es, ep, g1, g2, g3, g4, g5⟩
end
/-! ### list(d.items()), the keys pairs of texts -/
theorem range_map_get {α : Type} {n : Nat} {f : Nat → α} {j : Nat} (h : j < n) : ((List.range n).map f)[j]? = some (f j) := by
  rw [List.getElem?_map, List.getElem?_range h]
  rfl
def rItemsLT : List V → Hp → VK → Prop := fun vs H Q => ∃ (p0 d : Addr) (ks : List (Str × Str)) (kvs : List (List L2.Key × V)), vs = [.ref p0] ∧ H p0 = some (L2.DX.itemsO p0 d) ∧ H d = some (.dT kvs) ∧ kvs.map (·.1) = ks.map kP ∧
  ∀ (H' : Hp) (p : Addr) (ts : List PT), Same H H' → H p = none → H' p = some (.lst (ts.map fun x => V.ref x.t)) → (∀ x ∈ ts, x.At H') → (ts.map fun x => (kP x.k, x.v)) = kvs → Q (.ref p) H'
section
variable {X : Cx}
theorem cr_itemsLT (hc : X.calm = true) : CallR X (.type "list") rItemsLT := by
  rintro pins s σ H us0 us Q I r ⟨p0, d, ks, kvs, rfl, hp0, hd, hk, q⟩
  obtain ⟨u0, rfl, r0⟩ := vals1 r
  cases (show u0 = Value.ref p0 from r0)
  have view : s.heap.IsItemsView p0 d := (show ObjOk X.prog X.w H s.heap p0 (L2.DX.itemsO p0 d) from I.hok p0 _ hp0).1
  obtain ⟨z, hsm, xs, rel, o, es, ep, ho, hx, hdat, hes, his, hn⟩ := dt_of I.hok hd
  have l1 : kvs.length = xs.length := Paired.length rel
  have l2 : es.size = xs.length := size_of_entries hes
  have l3 : ks.length = kvs.length := by
    have e := congrArg List.length hk
    rw [List.length_map, List.length_map] at e
    exact e.symm
  refine PySem.W.dil_call (I.ok.hd hc) view ⟨o, ho, hx, hdat⟩ (by omega) fun h' tk acc c as hkp hS hl hG hacc => ?_
  have nd : as.Nodup := List.Pairwise.imp (fun h => Nat.ne_of_lt h) hG.rise
  have nS : H s.heap.objs.size = none := I.hok.fresh (Nat.le_refl _)
  have I1 : Inv X pins σ (upd H s.heap.objs.size (.lst (as.map V.ref))) { s with heap := h', toks := tk } :=
    I.laid (t' := tk) hkp (Nat.le_refl _) ⟨by rw [List.length_map]; omega, acc.toList, c, by rw [hacc]; exact vals_ref as, by rw [Array.toArray_toList]; exact hS⟩
  let f : Nat → PT := fun j => ⟨as.getD j 0, (xs.getD j ([], 0, Value.none)).2.1, ks.getD j (⟨#[]⟩, ⟨#[]⟩), (kvs.getD j ([], V.non)).2⟩
  -- what stands at the j-th places
  have at_ : ∀ j, j < as.length → ∃ (a b : Addr) (k : Str × Str) (v : V) (u : Value), as[j]? = some a ∧ kvs[j]? = some (kP k, v) ∧ f j = ⟨a, b, k, v⟩ ∧ H b = some (.tup ((kP k).map kV)) ∧ RelV v u ∧ h'.get? a = some { cls := .type "tuple", data := .seq #[Value.ref b, u] } := by
    intro j hj
    have ha : as[j]? = some as[j] := List.getElem?_eq_getElem hj
    have hjk : j < kvs.length := by omega
    have hjx : j < xs.length := by omega
    have hjs : j < ks.length := by omega
    obtain ⟨q0, e0, r1, r2, r3⟩ := paired_get rel (List.getElem?_eq_getElem hjk)
    have ex : xs[j]? = some q0 := e0
    have ek : kvs[j].1 = kP ks[j] := by
      have e := congrArg (fun l => l[j]?) hk
      simp only [List.getElem?_map, List.getElem?_eq_getElem hjk, List.getElem?_eq_getElem hjs, Option.map_some, Option.some.injEq] at e
      exact e
    obtain ⟨hje, hg⟩ := hG.pairs j as[j] ha
    have ee : es[j]? = some (entryOfKey (tupleKind (mixKind X.prog X.w)) q0) := by rw [entry_at hes j, ex]; rfl
    have ee2 : es[j] = entryOfKey (tupleKind (mixKind X.prog X.w)) q0 := by
      rw [Array.getElem?_eq_getElem hje] at ee
      exact Option.some.inj ee
    refine ⟨as[j], q0.2.1, ks[j], kvs[j].2, q0.2.2, ha, ?_, ?_, ?_, r3, ?_⟩
    · rw [List.getElem?_eq_getElem hjk, ← ek]
    · show PT.mk _ _ _ _ = _
      rw [List.getD_eq_getElem?_getD, List.getD_eq_getElem?_getD, List.getD_eq_getElem?_getD, List.getD_eq_getElem?_getD, ha, ex, List.getElem?_eq_getElem hjs, List.getElem?_eq_getElem hjk]
      rfl
    · rw [← ek]
      exact r2
    · rw [ee2] at hg
      exact hg
  obtain ⟨H2, I2, k2, a2⟩ := L2.DX.takeT (P := fun a vs => ∃ j, j < as.length ∧ (f j).t = a ∧ vs = [V.ref (f j).b, (f j).v]) I as _ I1 nd fun a ha => by
    obtain ⟨j, hj⟩ := List.getElem?_of_mem ha
    have hjl := (List.getElem?_eq_some_iff.mp hj).1
    obtain ⟨a', b, k, v, u, e1, _, e3, e4, e5, e6⟩ := at_ j hjl
    rw [hj] at e1
    obtain rfl := Option.some.inj e1
    have lo := hG.above a ha
    refine ⟨Nat.le_of_lt lo, (upd_ne (Nat.ne_of_gt lo)).trans (I.hok.fresh (Nat.le_of_lt lo)), [V.ref b, v], ⟨j, hjl, by rw [e3], by rw [e3]⟩, fun H2 => ?_⟩
    exact ⟨le_sl (by show 2 ≤ _; decide), [Value.ref b, u], .cons rfl (.cons e5 .nil), ⟨_, e6, rfl, _, rfl⟩⟩
  have s2 : Same H H2 := fun b o e => k2 b o (same_new nS _ _ e)
  have et : ((List.range as.length).map f).map (fun x => V.ref x.t) = as.map V.ref := by
    refine List.ext_getElem? fun j => ?_
    rw [List.map_map, List.getElem?_map, List.getElem?_map]
    by_cases hj : j < as.length
    · obtain ⟨a', b, k, v, u, e1, _, e3, _⟩ := at_ j hj
      rw [List.getElem?_range hj, e1]
      show some (V.ref (f j).t) = _
      rw [e3]
      rfl
    · rw [List.getElem?_eq_none (by rw [List.length_range]; omega), List.getElem?_eq_none (by omega)]
      rfl
  refine ⟨.ref s.heap.objs.size, H2, I2, rfl, q H2 _ ((List.range as.length).map f) s2 nS (by rw [et]; exact k2 _ _ upd_same) (fun x hx => ?_) ?_⟩
  · obtain ⟨j, hj, rfl⟩ := List.mem_map.mp hx
    have hj := List.mem_range.mp hj
    obtain ⟨a', b, k, v, u, e1, _, e3, e4, _⟩ := at_ j hj
    obtain ⟨vs, ⟨i, hi, f1, rfl⟩, g2⟩ := a2 a' (List.mem_of_getElem? e1)
    have eij : i = j := by
      obtain ⟨a2', b2, k3, v2, u2, d1, _, d3, _⟩ := at_ i hi
      rw [d3] at f1
      have f1 : a2' = a' := f1
      rw [f1] at d1
      exact nd_ix nd d1 e1
    subst eij
    rw [e3] at g2 ⊢
    exact ⟨g2, s2 _ _ e4⟩
  · refine List.ext_getElem? fun j => ?_
    rw [List.map_map, List.getElem?_map]
    by_cases hj : j < as.length
    · obtain ⟨a', b, k, v, u, _, e2, e3, _⟩ := at_ j hj
      rw [List.getElem?_range hj, e2]
      show some (kP (f j).k, (f j).v) = _
      rw [e3]
    · rw [List.getElem?_eq_none (by rw [List.length_range]; omega), List.getElem?_eq_none (by omega)]
      rfl
end
/-! ### loops and comprehensions over any walk of n turns -/
section
variable {J : It} {g : TG}
theorem lc_gen {tt : TT} {te : TE} {vs : List Nat} {σ : L2.St} {H1 : Hp} {D : Addr} {Qd : Hp → Prop} (n : Nat) (Pv : Nat → Hp → Prop) (h0 : Pv 0 (upd H1 D (.lst [])))
    (hg : ∀ i H, i < n → Pv i H → J.go i H) (hz : ∀ H, Pv n H → J.stop n H ∧ Qd H)
    (hs : ∀ i H x H', i < n → Pv i H → J.yld i H x H' → g x (wipe σ vs) H' fun σ2 H2 => wipe σ2 vs = wipe σ vs ∧ tt σ2 H2 fun b H3 =>
      if b = true then te σ2 H3 fun y H4 => ∃ acc, H4 D = some (.lst acc) ∧ acc.length < sizeLine ∧ Pv (i + 1) (upd H4 D (.lst (acc ++ [y]))) else Pv (i + 1) H3) :
    ∃ W : Nat → Nat → Hp → Prop, (∃ m, W 0 m (upd H1 D (.lst []))) ∧ ∀ i m H, W i m H →
      (J.stop i H ∧ Qd H) ∨ (J.go i H ∧ ∃ Nx : Hp → Prop, (∀ H', Nx H' → ∃ m', m' < m ∧ W (i + 1) m' H') ∧ ∀ x H', J.yld i H x H' → g x (wipe σ vs) H' fun σ2 H2 => wipe σ2 vs = wipe σ vs ∧ tt σ2 H2 fun b H3 =>
        if b = true then te σ2 H3 fun y H4 => ∃ acc, H4 D = some (.lst acc) ∧ acc.length < sizeLine ∧ Nx (upd H4 D (.lst (acc ++ [y]))) else Nx H3) := by
  refine ⟨fun i m H => m + i = n ∧ Pv i H, ⟨n, rfl, h0⟩, fun i m H ⟨e, p⟩ => ?_⟩
  rcases Nat.lt_or_ge i n with h | h
  · exact .inr ⟨hg i H h p, Pv (i + 1), fun H' p' => ⟨m - 1, by omega, by omega, p'⟩, fun x H' y => hs i H x H' h p y⟩
  · have ei : i = n := by omega
    rw [ei] at p ⊢
    exact .inl (hz H p)
theorem dc_gen {tt : TT} {tk tv : TE} {vs : List Nat} {σ : L2.St} {H1 : Hp} {D : Addr} {Qd : Hp → Prop} (n : Nat) (Pv : Nat → Hp → Prop) (h0 : Pv 0 (upd H1 D (.dK [])))
    (hg : ∀ i H, i < n → Pv i H → J.go i H) (hz : ∀ H, Pv n H → J.stop n H ∧ Qd H)
    (hs : ∀ i H x H', i < n → Pv i H → J.yld i H x H' → g x (wipe σ vs) H' fun σ2 H2 => wipe σ2 vs = wipe σ vs ∧ tt σ2 H2 fun b H3 =>
      if b = true then tk σ2 H3 fun y H4 => tv σ2 H4 fun z H5 => ∃ kvs k, y = kV k ∧ H5 D = some (.dK kvs) ∧ kvs.length < sizeLine ∧ Pv (i + 1) (upd H5 D (.dK (putK kvs k z))) else Pv (i + 1) H3) :
    ∃ W : Nat → Nat → Hp → Prop, (∃ m, W 0 m (upd H1 D (.dK []))) ∧ ∀ i m H, W i m H →
      (J.stop i H ∧ Qd H) ∨ (J.go i H ∧ ∃ Nx : Hp → Prop, (∀ H', Nx H' → ∃ m', m' < m ∧ W (i + 1) m' H') ∧ ∀ x H', J.yld i H x H' → g x (wipe σ vs) H' fun σ2 H2 => wipe σ2 vs = wipe σ vs ∧ tt σ2 H2 fun b H3 =>
        if b = true then tk σ2 H3 fun y H4 => tv σ2 H4 fun z H5 => ∃ kvs k, y = kV k ∧ H5 D = some (.dK kvs) ∧ kvs.length < sizeLine ∧ Nx (upd H5 D (.dK (putK kvs k z))) else Nx H3) := by
  refine ⟨fun i m H => m + i = n ∧ Pv i H, ⟨n, rfl, h0⟩, fun i m H ⟨e, p⟩ => ?_⟩
  rcases Nat.lt_or_ge i n with h | h
  · exact .inr ⟨hg i H h p, Pv (i + 1), fun H' p' => ⟨m - 1, by omega, by omega, p'⟩, fun x H' y => hs i H x H' h p y⟩
  · have ei : i = n := by omega
    rw [ei] at p ⊢
    exact .inl (hz H p)
theorem for_gen {tb : TS} {D : Ends} {σ : L2.St} {H : Hp} (n : Nat) (Pv : Nat → L2.St → Hp → Prop) (h0 : Pv 0 σ H) (hg : ∀ i σ H, i < n → Pv i σ H → J.go i H) (hz : ∀ σ H, Pv n σ H → J.stop n H ∧ D.nx σ H)
    (hs : ∀ i σ H x H', i < n → Pv i σ H → J.yld i H x H' → g x σ H' fun σ2 H2 => tb { D with nx := Pv (i + 1), ct := Pv (i + 1), bk := D.nx } σ2 H2) :
    ∃ W : Nat → Nat → L2.St → Hp → Prop, (∃ m, W 0 m σ H) ∧ ∀ i m σ H, W i m σ H →
      (J.stop i H ∧ D.nx σ H) ∨ (J.go i H ∧ ∃ N : L2.St → Hp → Prop, (∀ σ' H', N σ' H' → ∃ m', m' < m ∧ W (i + 1) m' σ' H') ∧ ∀ x H', J.yld i H x H' → g x σ H' fun σ2 H2 => tb { D with nx := N, ct := N, bk := D.nx } σ2 H2) := by
  refine ⟨fun i m σ H => m + i = n ∧ Pv i σ H, ⟨n, rfl, h0⟩, fun i m σ H ⟨e, p⟩ => ?_⟩
  rcases Nat.lt_or_ge i n with h | h
  · exact .inr ⟨hg i σ H h p, Pv (i + 1), fun σ' H' p' => ⟨m - 1, by omega, by omega, p'⟩, fun x H' y => hs i σ H x H' h p y⟩
  · have ei : i = n := by omega
    rw [ei] at p ⊢
    exact .inl (hz σ H p)
end
/-! ### known answers -/
theorem iteB0 {b : Bool} {A B : Prop} (e : b = false) (h : B) : if b = true then A else B := by
  rw [e]
  exact iteF h
theorem iteB1 {b : Bool} {A B : Prop} (e : b = true) (h : A) : if b = true then A else B := by
  rw [e]
  exact iteT h
theorem dT {p : Prop} [Decidable p] (h : p) : decide p = true := decide_eq_true h
theorem dF {p : Prop} [Decidable p] (h : ¬ p) : decide p = false := decide_eq_false h
theorem nT {p : Prop} [Decidable p] (h : p) : (!decide p) = false := by rw [decide_eq_true h]; rfl
theorem nF {p : Prop} [Decidable p] (h : ¬ p) : (!decide p) = true := by rw [decide_eq_false h]; rfl
/-- an expression that is never reached -/
theorem pe_never {X : Cx} {e : Expr} : PE X e (fun _ _ _ => False) := ⟨fun _ _ _ _ _ _ h => h.elim⟩
theorem pe_gc {X : Cx} {x : Str} {v : V} {pos : Pos} (hg : Gl X x) (h : ∃ u, X.mg x = some u ∧ RelV v u) (hd : (x == ("__debug__" : Str)) = false := by decide) : PE X (.Name x pos) (tC v) := by
  obtain ⟨u, a, b⟩ := h
  exact pe_glob hg a b hd
/-! ### numbers and names -/
def spIsNumber (K : PySem.W.Frag) : Sp := fun vs H Q _ => ∃ x : V, vs = [x] ∧ ((∃ i : Int, x = .int i ∧ Q (.bl (decide (0 ≤ i))) H) ∨ ∃ t, Tag t ∧ t ≠ "int" ∧ TyX K H x (.type t) ∧ Q (.bl false) H)
def SMALLs : Str := "abcdefghijklmnopqrstuvwxyz"
def FIGURESs : Str := "0123456789"
def nameOk (n : Str) : Bool := decide (0 < n.length) && decide (n.length ≤ 12) && (match n.cps[0]? with
  | some c => decide (c ∈ SMALLs.cps.toList)
  | none => false) && n.cps.toList.all fun c => decide (c ∈ (SMALLs ++ FIGURESs).cps.toList)
def spIsName : Sp := fun vs H Q _ => ∃ n : Str, vs = [.str n] ∧ nameOk n = true ∧ ∀ H', Same H H' → Q (.bl true) H'
theorem all_true_bs (n : Nat) : (List.replicate n true).all id = true := by
  induction n with
  | zero => rfl
  | succ n ih => rw [List.replicate_succ, List.all_cons, ih]; rfl
theorem rep_map {α : Type} (x : α) (n : Nat) (f : α → V) : List.replicate n (f x) = (List.replicate n x).map f := by rw [List.map_replicate]
theorem nameOk_get {n : Str} (h : nameOk n = true) : 0 < n.length ∧ n.length ≤ 12 ∧ (∃ c, n.cps[0]? = some c ∧ c ∈ SMALLs.cps.toList) ∧ ∀ c ∈ n.cps.toList, c ∈ (SMALLs ++ FIGURESs).cps.toList := by
  unfold nameOk at h
  rw [Bool.and_eq_true, Bool.and_eq_true, Bool.and_eq_true] at h
  obtain ⟨⟨⟨h1, h2⟩, h3⟩, h4⟩ := h
  refine ⟨of_decide_eq_true h1, of_decide_eq_true h2, ?_, fun c hc => of_decide_eq_true (List.all_eq_true.mp h4 c hc)⟩
  cases e : n.cps[0]? with
  | none => rw [e] at h3; cases h3
  | some c => rw [e] at h3; exact ⟨c, rfl, of_decide_eq_true h3⟩
section
variable {P : Program} {w : World} {K : PySem.W.Frag} {mg : Str → Option Value} {base : Heap}
theorem cl_is_number (T : Top K mg) : Cl P w K mg base CX0 2 "is_number" ["thing"] (spIsNumber K) := by
  have C_is_integer := cl_is_integer (P := P) (w := w) (base := base) T
  refine Cl.of T.f_is_number T.g_is_number sc_is_number (fun _ _ _ _ _ _ us hl => match us, hl with | [_], _ => rfl) (fun vs H Q E h => ?_) (fun cdv A outer s H vs Q E hr h => ?_)
  · obtain ⟨x, rfl, _⟩ := h
    rfl
  · obtain ⟨x, rfl, h⟩ := h
    refine ⟨_, (pss_one (ps_ret (pe_and (pe_k C_is_integer hr (by decide) pass0 (pa_cons (pv 0) pa_nil)) (pe_one (pe_cmpR op_ge (pv 0) pe_int (nomark _)))))), ?_⟩
    rcases h with ⟨i, rfl, q⟩ | ⟨t, tg, ht, ty, q⟩
    · exact ⟨_, rfl, _, "int", rfl, .inr (.inr (.inl rfl)), .base (.int i), _, rfl, iteT ⟨_, rfl, _, _, rfl, rfl, q⟩⟩
    · exact ⟨_, rfl, _, t, rfl, tg, ty, _, rfl, by rw [decide_eq_false ht]; exact iteF q⟩
theorem cl_is_name (T : Top K mg) : Cl P w K mg base CX0 1 "is_name" ["thing"] spIsName := by
  refine Cl.of T.f_is_name T.g_is_name sc_is_name (fun _ _ _ _ _ _ us hl => match us, hl with | [_], _ => rfl) (fun vs H Q E h => ?_) (fun cdv A outer s H vs Q E hr h => ?_)
  · obtain ⟨x, rfl, _⟩ := h
    rfl
  · obtain ⟨n, rfl, hn, k⟩ := h
    obtain ⟨h1, h2, ⟨c, hc, hcS⟩, h4⟩ := nameOk_get hn
    refine ⟨_, (pss_cons (ps_if (PW.pt (pw_or (pt_not (pt_val (pe_callB call_isi (by rfl) T.z_isinstance (by decide +kernel) (pa_cons (pv 0) (pa_cons (pe_bltn (v := .ty "str") (by rfl) T.z_str (by decide +kernel) rfl) pa_nil))))) (pw_or (pt_not (pt_chain op_lt op_le pe_int (pe_callB call_len_str (by rfl) T.z_len (by decide +kernel) (pa_cons (pv 0) pa_nil)) pe_int)) (pw_or1 (pt_cmpR op_notIn_sign (pe_item_str (pv 0) pe_int (fun _ _ => rfl)) (pe_gc rfl (gstr T.g_SMALL)) rfl)))))
      (pss_one (ps_ret pe_bl))
      pss_nil)
      (pss_one (ps_ret (pe_callB (cr_all rfl) (by rfl) T.z_all (by decide +kernel) (pa_cons (pe_lc (own := [("sign", 1)]) (g := gName 1) (tt := tYes) rfl sc_is_name.nd (pi_str (pv 0)) (blkOk_by (own := [("sign", 1)]) (N := N_is_name) (sc := defScope s_is_name) (by decide +kernel)) (fun _ _ _ _ _ => (pg_name (i := 1) sc_is_name.nd rfl (Or.inl rfl))) (fun _ _ _ _ _ => pts_nil) (fun _ _ _ _ _ => (pe_cmpR op_in_sign (pv 1) (pe_op op_add_str (pe_gc rfl (gstr T.g_SMALL)) (pe_gc rfl (gstr T.g_FIGURES))) rfl))) pa_nil))))), ?_⟩
    refine ⟨_, rfl, _, _, .type "str", .type "str", true, rfl, .ty _, .base (.str _), kit_ty (by decide +kernel), ?_⟩
    refine ⟨_, rfl, iteF ?_⟩
    refine ⟨_, rfl, n, rfl, Nat.le_trans h2 (le_sl (by decide)), 0, _, rfl, rfl, ?_⟩
    refine ⟨_, rfl, ?_⟩
    refine iteB1 (dT (show (0 : Int) < (n.length : Nat) by omega)) ⟨_, _, rfl, rfl, _, rfl, ?_⟩
    refine iteB0 (nT (show ((n.length : Nat) : Int) ≤ 12 by omega)) ?_
    refine ⟨_, rfl, n, 0, c, rfl, rfl, Int.le_refl _, by decide, by omega, hc, c, _, rfl, rfl, _, rfl, ?_⟩
    refine iteB0 (nT (show c ∈ SMALLs.cps.toList from hcS)) ?_
    refine ⟨_, rfl, n, rfl, fun D hD => ?_⟩
    refine lc_gen (J := Its n) n.cps.size (fun i H2 => Same H H2 ∧ H2 D = some (.lst (List.replicate i (.bl true)))) ⟨same_new hD, upd_same⟩ (fun i H2 hi _ => hi) (fun H2 ⟨s2, h2⟩ => ⟨Nat.le_refl _, ?_⟩) ?_
    · refine ⟨D, List.replicate n.cps.size true, rfl, SqL.of (by rw [h2, rep_map true _ V.bl]), ?_⟩
      rw [all_true_bs]
      exact k H2 s2
    · rintro i H2 x H3 hi ⟨s2, h2⟩ ⟨rfl, c', hc', rfl⟩
      refine ⟨rfl, _, rfl, _, _, rfl, rfl, by decide, c', _, rfl, rfl, ?_⟩
      refine ⟨_, h2, ?_, same_upd s2 hD, ?_⟩
      · rw [List.length_replicate]
        have : n.cps.size = n.length := rfl
        exact lt_sl (by omega)
      · have e := dT (show c' ∈ (SMALLs ++ FIGURESs).cps.toList from h4 c' (Array.mem_toList_iff.mpr (Array.mem_of_getElem? hc')))
        rw [upd_same, List.replicate_succ', ← e]
        rfl
end
/-! ### enumerate of a tuple -/
theorem meets_enumT (a : Addr) (items : Array Value) (n : Nat) (dct : Option Addr) (sl : Array (Option Value)) :
    Meets (Builtin.«enumerate.__new__» ⟨[.type "enumerate", .ref a], []⟩) (fun _ R s => s.heap.get? a = some { cls := .type "tuple", dict := dct, data := .seq items n, slots := sl } ∧
      R (.ok (.ret (.ref (s.heap.push { cls := .type "tuple_iterator", data := .fields #[.ref a, .int 0 0] }).objs.size)))
        { s with heap := (s.heap.push { cls := .type "tuple_iterator", data := .fields #[.ref a, .int 0 0] }).push { cls := .type "enumerate", data := .fields #[.none, .bool false, .ref s.heap.objs.size, rawInt 0, .none, .none] } }) :=
  .of_wp fun prog w A R s h => by
    obtain ⟨hp, g, d, tk, os⟩ := s
    obtain ⟨hl, h⟩ := h
    have hsub := sub_enumerate
    have hT : Heap.IsTuple (Shared.heap ⟨hp, g, d, tk, os⟩) a items := ⟨_, hl, rfl, n, rfl⟩
    wp_walk using AutoSeq1.wpAny_loadPart' hl
    refine wpAny_stack_any fun st => wpAny_pure ?_
    split
    · rename_i c _ _ _ _ _
      cases (c == Value.type "enumerate") <;>
      · wp_walk using AutoSeq1.wpAny_loadPart' hl, wpAny_pyIter_tuple hT
        exact ⟨_, rfl, h⟩
    · wp_walk using AutoSeq1.wpAny_loadPart' hl, wpAny_pyIter_tuple hT
      exact ⟨_, rfl, h⟩
theorem call_enumT {prog : Program} {w : World} {A : Around} {E : Value → Shared → Prop} {s : Shared} {a : Addr} {items : Array Value} {Q : Value → Shared → Prop} (hL : s.heap.IsTuple a items)
    (h : ∀ h', IsEnum h' (s.heap.objs.size + 1) s.heap.objs.size 0 .none → h'.IsTupleIter s.heap.objs.size a 0 → h'.objs.size = s.heap.objs.size + 2 →
      (∀ b o, s.heap.get? b = some o → h'.get? b = some o) → Q (.ref (s.heap.objs.size + 1)) { s with heap := h' }) :
    wpAny (model prog w) A (call (.type "enumerate") [.ref a]) Q E s := by
  obtain ⟨⟨c, dct, dt, sl⟩, hl, hc, n, hd⟩ := hL
  obtain rfl : c = .type "tuple" := hc
  obtain rfl : dt = .seq items n := hd
  refine callType_new F.called_enumerate (by decide) (F.typeCall_enumerate_1 _) (F.newCall_enumerate_1 _) (fun obj => F.args_object_init_2 obj _) F.entry_enumerate_new (meets_enumT a items n dct sl) ⟨hl, ?_⟩
  have hz : (s.heap.push { cls := .type "tuple_iterator", data := .fields #[.ref a, .int 0 0] }).objs.size = s.heap.objs.size + 1 := Heap.size_push ..
  show _ ∧ _
  have he : IsEnum ((s.heap.push { cls := .type "tuple_iterator", data := .fields #[.ref a, .int 0 0] }).push
      { cls := .type "enumerate", data := .fields #[.none, .bool false, .ref s.heap.objs.size, rawInt 0, .none, .none] }) (s.heap.objs.size + 1) s.heap.objs.size 0 .none := by
    rw [← hz]
    exact Heap.get?_push_size _ rfl
  rw [hz]
  exact ⟨⟨_, he, rfl⟩, h _ he ⟨_, Heap.get?_push_of_some _ (Heap.get?_push_size _ rfl), rfl, rfl⟩ (by rw [Heap.size_push, hz]) fun b o x => Heap.get?_push_of_some _ (Heap.get?_push_of_some _ x)⟩
/-- as Ite, over a tuple -/
def IteT (K : PySem.W.Frag) (a : Addr) : It :=
  ⟨fun i H => ∃ (xs : List V) (x : V), SqT K H a xs ∧ xs[i]? = some x, fun i H v H' => ∃ T x, v = .ref T ∧ H T = none ∧ H' = upd H T (.tup [.int (i : Nat), x]) ∧ ∀ xs, SqT K H a xs → xs[i]? = some x, fun i H => ∃ xs : List V, SqT K H a xs ∧ xs.length ≤ i⟩
theorem turn_enumT {P : Program} {w : World} {K : PySem.W.Frag} {elts : List Expr} {kk : Nat} {tpos : Pos} (a e it : Addr) :
    Turn P w K (.Tuple elts kk tpos) (IteT K a) [e, it] e (fun i h => (∃ old, IsEnum h e it ((i : Nat) : Int) old) ∧ h.IsTupleIter it a i ∧ e ≠ it ∧ a ≠ it) where
  mem := List.mem_cons_self
  obj := fun i h st b hb => by
    obtain ⟨⟨old, he⟩, ⟨o, ho, hc, hd⟩, _⟩ := st
    rcases (show b = e ∨ b = it by simpa using hb) with rfl | rfl
    · exact ⟨_, he, fun v q => nomatch q⟩
    · exact ⟨o, ho, fun v q => by rw [hd] at q; cases q⟩
  keep := fun i h h' st k => by
    obtain ⟨⟨old, he⟩, hi, hne⟩ := st
    exact ⟨⟨old, k e (by simp) _ he⟩, hi.at fun o q => k it (by simp) o q, hne⟩
  item := by
    intro X hP hw hK hc i pins s σ H E I hf st hg
    subst hP hw hK
    obtain ⟨⟨old, he⟩, hit, hne, hai⟩ := st
    obtain ⟨xs, x, hq, hx⟩ := hg
    obtain ⟨its, rv, p, hz⟩ := I.tuple hq
    have p : s.heap.IsTuple a its.toArray := p
    obtain ⟨u, hu, ru⟩ := rv.get hx
    have hu' : its.toArray[i]? = some u := by simpa using hu
    have hel : e < s.heap.objs.size := Heap.lt_size he
    have hil : it < s.heap.objs.size := by obtain ⟨_, q, _⟩ := hit; exact Heap.lt_size q
    have hae : e ≠ a := fun z => by
      subst z
      obtain ⟨o, q, c, _⟩ := p
      rw [show s.heap.get? e = some _ from he] at q
      obtain rfl := Option.some.inj q
      exact absurd c (by simp)
    refine wpAny_pyNext_enum_itemD (Draws.tuple (A := X.A.in1) (I.ok.hd hc) it a hai its.toArray) he ⟨hit, p⟩ (by have := (Array.getElem?_eq_some_iff.mp hu').1; exact this) hne (by simp [hne, hae]) fun y h' tk hy ho st' hT hsz hk => ?_
    obtain rfl : u = y := Option.some.inj (hu'.symm.trans hy)
    refine ⟨_, rfl, wpAny_letOwnedTupleGo_enum (s := { s with heap := h', toks := tk + 1 }) ho fun h'' he' sb => ?_⟩
    have hT2 : h''.get? s.heap.objs.size = some { cls := .type "tuple", data := .seq #[.int i tk, u] } := (sb.2 _ (Nat.ne_of_gt hel)).trans hT
    have new : ObjOk X.prog X.w (upd H s.heap.objs.size (.tup [.int (i : Nat), x])) h'' s.heap.objs.size (.tup [.int (i : Nat), x]) :=
      ⟨by show 2 ≤ sizeLine; decide, [.int i tk, u], .cons ⟨_, rfl⟩ (.cons ru .nil), ⟨_, hT2, rfl, _, rfl⟩⟩
    have I1 : Inv X pins σ (upd H s.heap.objs.size (.tup [.int (i : Nat), x])) { s with heap := h'', toks := tk + 1 } :=
      I.turnedNew (t' := tk + 1) (ch := [e, it]) (fun b ob hb q => (sb.2 b (fun z => hb (by simp [z]))).trans (hk b ob (fun z => hb (by simp [z])) (fun z => hb (by simp [z])) q)) hf (Nat.le_refl _) new
    refine ⟨.ref s.heap.objs.size, _, I1, rfl, ⟨_, x, rfl, I.hok.fresh (Nat.le_refl _), rfl, fun ys hy => by rw [I.tuple_inj hy hq]; exact hx⟩, ⟨⟨u, ?_⟩, st'.1.at fun o q => (sb.2 it (Ne.symm hne)).trans q, hne, hai⟩, fun b hb => ?_⟩
    · rw [show ((i + 1 : Nat) : Int) = (i : Int) + 1 by omega]
      exact he'
    · have hb' : b < s.heap.objs.size := by
        rcases (show b = e ∨ b = it by simpa using hb) with rfl | rfl
        · exact hel
        · exact hil
      rw [upd_ne (Nat.ne_of_lt hb')]
      exact (hf b hb).1
  done := by
    intro X hP hw hK hc i pins s σ H E I hf st hg
    subst hP hw hK
    obtain ⟨⟨old, he⟩, hit, hne, hai⟩ := st
    obtain ⟨xs, hq, hx⟩ := hg
    obtain ⟨its, rv, p, hz⟩ := I.tuple hq
    have p : s.heap.IsTuple a its.toArray := p
    obtain ⟨f0, f1, f2, f3, f4, f5⟩ := hf it (by simp)
    have hl := rv.length
    have hT : s.TypeIs (.ref e) "enumerate" := ⟨_, he, rfl⟩
    unfold pyNext
    refine wpAny_bind (wpAny_attempt (wpAny_callSpecial?_slot (name := Str.ofString "__next__") hT F.slot_enumerate_next
      (wpAny_call_entry F.slot_enumerate_next hT F.entry_enumerate_next ?_ (F.args_enumerate_next_1 _))))
    show wpAny _ _ (field (.ref e) 2 >>= _) _ _ _
    refine wpAny_bind (wpAny_field he rfl (x := .ref it) rfl ?_)
    refine wpAny_bind (wpAny_nextOf_tuple_end (A := X.A.in1) (I.ok.hd hc) hit p (by simp; omega) fun h' x he' hx' => ?_)
    obtain ⟨o, ho, hcl⟩ := hx'
    refine wpAny_bind (wpAny_isInstance (T := "StopIteration") (b := true) ⟨o, ho, hcl⟩ isSubtype_stop ?_)
    exact wpAny_pure ⟨rfl, I.turned (t' := s.toks) (fun b o hb q => he' b o hb q) f0 f1 f3 f4 f5⟩
  self := fun A i s Q E st h => let ⟨⟨_, he⟩, _⟩ := st; wpAny_pyIter_enum he h
def iEnumA (K : PySem.W.Frag) (ta : TA) : TI := fun σ H R => ta σ H fun vs H1 => ∃ a xs, vs = [.ref a] ∧ ((SqL K H1 a xs ∧ R (Ite K a) H1) ∨ (SqT K H1 a xs ∧ R (IteT K a) H1))
theorem pi_enumA {X : Cx} {e : Expr} {ta : TA} {p pos tpos : Pos} {elts : List Expr} {kk : Nat} (hg : Gl X "enumerate") (hm : X.mg "enumerate" = none) (ha : PA X [e] ta) (hs : starEach [e] X.env = [(false, eval e X.env)] := by rfl) :
    PI X (.Tuple elts kk tpos) (.Call (.Name "enumerate" p) [e] [] pos) (iEnumA X.K ta) := by
  refine ⟨fun pins s σ H R I h => ?_⟩
  refine Call_ (ld_blt I hg hm boot_enumerate (PyProof.Rows.callWith_type1 (thn (ha.run pos pins s σ H _ I h) fun us s1 ⟨vs, H1, I1, r1, q1⟩ => ?_) hs rfl))
  obtain ⟨a, xs, ex, q⟩ := q1
  subst ex
  obtain ⟨u0, rfl, r0⟩ := vals1 r1
  cases (show u0 = Value.ref a from r0)
  have fp : ∀ b ∈ [s1.heap.objs.size + 1, s1.heap.objs.size], FpOk X pins H1 b := fun b hb => by
    have hle : s1.heap.objs.size ≤ b := by
      rcases (show b = s1.heap.objs.size + 1 ∨ b = s1.heap.objs.size by simpa using hb) with z | z <;> omega
    exact I1.fpOk hle (I1.hok.fresh hle)
  rcases q with ⟨hq, q⟩ | ⟨hq, q⟩
  · obtain ⟨its, rv, p', hz⟩ := I1.list hq
    refine call_enumerate_list p'.isList fun h' he hit hsz hk => wpAny_pyIter_enum he ?_
    exact ⟨s1.heap.objs.size + 1, _, _, _, H1, rfl, I1.kept (t' := s1.toks) hk, turn_enum a _ _, ⟨⟨.none, he⟩, hit, Nat.succ_ne_self _⟩, fp, q⟩
  · obtain ⟨its, rv, p', hz⟩ := I1.tuple hq
    have p' : s1.heap.IsTuple a its.toArray := p'
    refine call_enumT p' fun h' he hit hsz hk => wpAny_pyIter_enum he ?_
    have hlt : a < s1.heap.objs.size := by obtain ⟨_, q, _⟩ := p'; exact Heap.lt_size q
    exact ⟨s1.heap.objs.size + 1, _, _, _, H1, rfl, I1.kept (t' := s1.toks) hk, turn_enumT a _ _, ⟨⟨.none, he⟩, hit, Nat.succ_ne_self _, Nat.ne_of_lt hlt⟩, fp, q⟩
/-! ### one of two readings -/
theorem pe_or2 {X : Cx} {e : Expr} {t t' : TE} (h : PE X e t) (h' : PE X e t') : PE X e (fun σ H Q => t σ H Q ∨ t' σ H Q) :=
  ⟨fun pins s σ H Q I q => q.elim (h.run pins s σ H Q I) (h'.run pins s σ H Q I)⟩
theorem pi_or2 {X : Cx} {tg e : Expr} {t t' : TI} (h : PI X tg e t) (h' : PI X tg e t') : PI X tg e (fun σ H Q => t σ H Q ∨ t' σ H Q) :=
  ⟨fun pins s σ H Q I q => q.elim (h.run pins s σ H Q I) (h'.run pins s σ H Q I)⟩
theorem pc_or2 {X : Cx} {op : CmpOp} {a b : Expr} {t t' : TE} (h : PC X op a b t) (h' : PC X op a b t') : PC X op a b (fun σ H Q => t σ H Q ∨ t' σ H Q) :=
  ⟨fun pins s σ H Q I q => q.elim (h.run pins s σ H Q I) (h'.run pins s σ H Q I)⟩
/-! ### a list or a tuple -/
def SqA (K : PySem.W.Frag) (H : Hp) (a : Addr) (xs : List V) : Prop := SqL K H a xs ∨ SqT K H a xs
section
variable {K : PySem.W.Frag} {H H' : Hp} {a : Addr} {xs : List V}
theorem SqA.same (e : Same H H') (h : SqA K H a xs) : SqA K H' a xs := h.elim (fun q => .inl (e.seq q)) (fun q => .inr (Same.seqT e q))
theorem SqA.ty (h : SqA K H a xs) : ∃ t, Tag t ∧ (t = "list" ∨ t = "tuple") ∧ TyX K H (.ref a) (.type t) := by
  rcases h with h | h
  · exact ⟨"list", .inr (.inr (.inr (.inr (.inl rfl)))), .inl rfl, TyX.ofL h⟩
  · exact ⟨"tuple", .inr (.inr (.inr (.inr (.inr (.inl rfl))))), .inr rfl, TyX.ofT h⟩
theorem SqA.rd {σ : L2.St} {R : It → Hp → Prop} {i : Nat} (h : SqA K H a xs) (hi : σ[i]? = some (some (.ref a))) (k : ∀ J G, L2.Walk J xs.length G (YAt xs) → (∀ H', Same H H' → G H') → R J H) :
    iList K (tVar i) σ H R ∨ iTup K (tVar i) σ H R := by
  rcases h with h | h
  · exact .inl ⟨_, hi, a, rfl, ⟨xs, h⟩, k _ _ walk_list fun H' e => e.seq h⟩
  · exact .inr ⟨_, hi, a, rfl, ⟨xs, h⟩, k _ _ walk_tup fun H' e => Same.seqT e h⟩
theorem walk_enumT : L2.Walk (IteT K a) xs.length (fun H => SqT K H a xs) (YPair (fun i => some (.int (i : Nat))) (fun i => xs[i]?)) := by
  refine ⟨fun i _ hi q => ⟨xs, xs[i], q, by simp [hi]⟩, fun _ q => ⟨xs, q, Nat.le_refl _⟩, fun i H v H' _ q y => ?_⟩
  obtain ⟨T, x, h1, h2, h3, h4⟩ := y
  exact ⟨T, .int (i : Nat), x, h1, h2, h3, rfl, h4 xs q⟩
theorem SqA.en {σ : L2.St} {R : It → Hp → Prop} {i : Nat} (h : SqA K H a xs) (hi : σ[i]? = some (some (.ref a))) (k : ∀ J G, L2.Walk J xs.length G (YPair (fun i => some (.int (i : Nat))) (fun i => xs[i]?)) → (∀ H', Same H H' → G H') → R J H) :
    iEnumA K (tCons (tVar i) tNil) σ H R := by
  rcases h with h | h
  · exact ⟨_, hi, a, xs, rfl, .inl ⟨h, k _ _ walk_enum fun H' e => e.seq h⟩⟩
  · exact ⟨_, hi, a, xs, rfl, .inr ⟨h, k _ _ walk_enumT fun H' e => Same.seqT e h⟩⟩
end
/-- as_tuples of a text: itself; of two texts: a new pair -/
def spTups0 : Sp := fun vs H Q _ => ∃ x : Str, vs = [.str x] ∧ ∀ H', Same H H' → Q (.str x) H'
def spTups1 (K : PySem.W.Frag) : Sp := fun vs H Q _ => ∃ (a : Addr) (p : Str × Str), vs = [.ref a] ∧ SqA K H a [.str p.1, .str p.2] ∧ ∀ H' t, Same H H' → H t = none → H' t = some (.tup [.str p.1, .str p.2]) → Q (.ref t) H'
theorem tgS : Tag "str" := .inr (.inr (.inr (.inl rfl)))
section
variable {P : Program} {w : World} {K : PySem.W.Frag} {mg : Str → Option Value} {base : Heap}
theorem cl_tups0 (T : Top K mg) : Cl P w K mg base CX0 2 "as_tuples" ["thing"] spTups0 := by
  have C_is_list := cl_is_list (P := P) (w := w) (base := base) T
  refine Cl.of T.f_as_tuples T.g_as_tuples sc_as_tuples (fun _ _ _ _ _ _ us hl => match us, hl with | [_], _ => rfl) (fun vs H Q E h => ?_) (fun cdv A outer s H vs Q E hr h => ?_)
  · obtain ⟨x, rfl, _⟩ := h
    rfl
  · obtain ⟨x, rfl, k⟩ := h
    refine ⟨_, (pss_one (ps_ret (pe_ifExp (pt_val (pe_k C_is_list hr (by decide) pass0 (pa_cons (pv 0) pa_nil))) pe_never (pv 0)))), ?_⟩
    refine ⟨_, rfl, _, "str", rfl, tgS, .base (.str x), fun H1 s1 => ⟨_, rfl, ?_⟩⟩
    exact iteB0 (dF (by decide)) ⟨_, rfl, k H1 s1⟩
theorem cl_tups1 (T : Top K mg) : Cl P w K mg base CX0 3 "as_tuples" ["thing"] (spTups1 K) := by
  have C_is_list := cl_is_list (P := P) (w := w) (base := base) T
  have C_as_tuples := cl_tups0 (P := P) (w := w) (base := base) T
  refine Cl.of T.f_as_tuples T.g_as_tuples sc_as_tuples (fun _ _ _ _ _ _ us hl => match us, hl with | [_], _ => rfl) (fun vs H Q E h => ?_) (fun cdv A outer s H vs Q E hr h => ?_)
  · obtain ⟨a, p, rfl, _⟩ := h
    rfl
  · obtain ⟨a, p, rfl, ha, k⟩ := h
    refine ⟨_, (pss_one (ps_ret (pe_ifExp (pt_val (pe_k C_is_list hr (by decide) pass0 (pa_cons (pv 0) pa_nil))) (pe_callTy call_tuple_of (by rfl) T.z_tuple (by decide +kernel) (pa_cons (pe_lc (own := [("part", 1)]) (g := gName 1) (tt := tYes) rfl sc_as_tuples.nd (pi_or2 (pi_list (pv 0)) (pi_tup (pv 0))) (blkOk_by (own := [("part", 1)]) (N := N_as_tuples) (sc := defScope s_as_tuples) (by decide +kernel)) (fun _ _ _ _ _ => (pg_name (i := 1) sc_as_tuples.nd rfl (Or.inl rfl))) (fun _ _ _ _ _ => pts_nil) (fun _ _ _ _ _ => (pe_k C_as_tuples hr (by decide) pass0 (pa_cons (pv 1) pa_nil)))) pa_nil)) (pv 0)))), ?_⟩
    obtain ⟨t, tg, ht, ty⟩ := ha.ty
    refine ⟨_, rfl, _, t, rfl, tg, ty, fun H1 s1 => ⟨_, rfl, iteB1 (dT ht) ?_⟩⟩
    refine SqA.rd (ha.same s1) rfl fun J G wk hG D hD => ?_
    refine lc_it wk (fun i H2 => Same H1 H2 ∧ H2 D = some (.lst ([V.str p.1, V.str p.2].take i))) ⟨same_new hD, upd_same⟩ (fun i H2 _ h => hG _ h.1) ?_ (fun H2 ⟨s2, h2⟩ => ?_)
    · rintro i x H2 H3 hi ⟨s2, h2⟩ ⟨rfl, hx⟩
      have hl := get_lt hx
      obtain ⟨y, rfl⟩ : ∃ y, x = V.str y := by
        rcases i with _ | _ | i
        · exact ⟨_, (Option.some.inj hx).symm⟩
        · exact ⟨_, (Option.some.inj hx).symm⟩
        · exact absurd hi (by simp)
      refine ⟨rfl, _, rfl, y, rfl, fun H4 s4 => ⟨_, s4 _ _ h2, ?_, same_upd (s2.trans s4) hD, ?_⟩⟩
      · rw [List.length_take]
        exact lt_sl (by simp only [List.length_cons, List.length_nil]; omega)
      · rw [upd_same, take_snoc hx]
    · refine ⟨D, [V.str p.1, V.str p.2], rfl, .inl ⟨SqL.of h2, fun l hl => ?_⟩⟩
      exact k _ l ((s1.trans s2).trans (same_new hl)) (s1.free (s2.free hl)) upd_same
end
/-! ### the rules with their row's fragment said: within a comprehension the frame differs, the fragment doesn't -/
section
variable {X : Cx} (K : PySem.W.Frag)
theorem in_K (h : X.K = K := by rfl) : OpR X (compareOp .In) (rIn K false) := h ▸ op_in_seq
theorem nin_K (h : X.K = K := by rfl) : OpR X (compareOp .NotIn) (rIn K true) := h ▸ op_notIn_seq
theorem isi_K (h : X.K = K := by rfl) : CallR X (.builtin "isinstance") (rIsi K) := h ▸ call_isi
theorem isiT_K (h : X.K = K := by rfl) : CallR X (.builtin "isinstance") (rIsiT K) := h ▸ call_isiT
theorem len_K (h : X.K = K := by rfl) : CallR X (.builtin "len") (fun xs H Q => ∃ p ys, xs = [.ref p] ∧ (SqL K H p ys ∨ SqT K H p ys) ∧ Q (.int ys.length) H) := h ▸ call_len_seq
theorem ixl_K (h : X.K = K := by rfl) : IxR X (rIxL K) := h ▸ ix_list
theorem ixt_K (h : X.K = K := by rfl) : IxR X (rIxT K) := h ▸ ix_tup
theorem sl_K (h : X.K = K := by rfl) : SlR X (rSlL K) := h ▸ sl_list
theorem eqD_K (hu : X.A.units + 64 < cLine) (h : X.K = K := by rfl) : OpR X (compareOp .Eq) (rEqD K) := h ▸ op_eqD hu
theorem neD_K (hu : X.A.units + 64 < cLine) (h : X.K = K := by rfl) : OpR X (compareOp .NotEq) (rNeD K) := h ▸ op_neD hu
theorem all_K (hc : X.calm = true) (h : X.K = K := by rfl) : CallR X (.builtin "all") (rAll K) := h ▸ cr_all hc
theorem any_K (hc : X.calm = true) (h : X.K = K := by rfl) : CallR X (.builtin "any") (rAny K) := h ▸ cr_any hc
theorem sum_K (hc : X.calm = true) (h : X.K = K := by rfl) : CallR X (.builtin "sum") (rSum K) := h ▸ cr_sum hc
theorem max_K (hc : X.calm = true) (h : X.K = K := by rfl) : CallR X (.builtin "max") (rMax K) := h ▸ cr_max hc
theorem min_K (hc : X.calm = true) (h : X.K = K := by rfl) : CallR X (.builtin "min") (rMin K) := h ▸ cr_min hc
theorem lof_K (h : X.K = K := by rfl) : CallR X (.type "list") (fun xs H Q => ∃ p ys, xs = [.ref p] ∧ (SqL K H p ys ∨ SqT K H p ys) ∧ ∀ l, H l = none → Q (.ref l) (upd H l (.lst ys))) := h ▸ call_list_of
theorem tof_K (h : X.K = K := by rfl) : CallR X (.type "tuple") (fun xs H Q => ∃ p ys, xs = [.ref p] ∧ ((SqL K H p ys ∧ ∀ l, H l = none → Q (.ref l) (upd H l (.tup ys))) ∨ (SqT K H p ys ∧ Q (.ref p) H))) := h ▸ call_tuple_of
theorem pi_K {tg e : Expr} {te : TE} (he : PE X e te) (h : X.K = K := by rfl) : PI X tg e (iList K te) := h ▸ pi_list he
theorem pit_K {tg e : Expr} {te : TE} (he : PE X e te) (h : X.K = K := by rfl) : PI X tg e (iTup K te) := h ▸ pi_tup he
theorem pia_K {tg e : Expr} {te : TE} (he : PE X e te) (h : X.K = K := by rfl) : PI X tg e (fun σ H R => iList K te σ H R ∨ iTup K te σ H R) := pi_or2 (pi_K K he h) (pit_K K he h)
/-- over a list or a tuple, as any walk -/
def iSeq (K : PySem.W.Frag) (te : TE) : TI := fun σ H R => te σ H fun x H1 => ∃ a xs H0, x = .ref a ∧ SqA K H0 a xs ∧ Same H0 H1 ∧ ∀ J G, L2.Walk J xs.length G (YAt xs) → (∀ H', Same H0 H' → G H') → R J H1
def iEnu (K : PySem.W.Frag) (ta : TA) : TI := fun σ H R => ta σ H fun vs H1 => ∃ a xs H0, vs = [.ref a] ∧ SqA K H0 a xs ∧ Same H0 H1 ∧ ∀ J G, L2.Walk J xs.length G (YPair (fun i => some (.int (i : Nat))) (fun i => xs[i]?)) → (∀ H', Same H0 H' → G H') → R J H1
theorem pis_K {tg e : Expr} {te : TE} (he : PE X e te) (h : X.K = K := by rfl) : PI X tg e (iSeq K te) := by
  subst h
  refine ⟨fun pins s σ H R I h => ?_⟩
  refine thn (he.run pins s σ H _ I h) fun v s1 ⟨y, H1, I1, r1, a, xs, H0, ey, ha, s0, q⟩ => ?_
  subst ey
  cases (show v = Value.ref a from r1)
  have fp : ∀ b ∈ [s1.heap.objs.size], FpOk X pins H1 b := fun b hb => by
    rw [List.mem_singleton.mp hb]
    exact I1.fpOk (Nat.le_refl _) (I1.hok.fresh (Nat.le_refl _))
  rcases ha with ha | ha
  · obtain ⟨its, rv, p, _⟩ := I1.list (s0.seq ha)
    exact wpAny_pyIter_list p.isList ⟨_, _, _, _, H1, rfl, I1.kept (t' := s1.toks) fun b o e => Heap.get?_push_of_some _ e, turn_list a _, ⟨_, Heap.get?_push_size _ rfl, rfl, rfl⟩, fp, q _ _ walk_list fun H' e => e.seq ha⟩
  · obtain ⟨its, rv, p, _⟩ := I1.tuple (Same.seqT s0 ha)
    exact wpAny_pyIter_tuple (show s1.heap.IsTuple a its.toArray from p) ⟨_, _, _, _, H1, rfl, I1.kept (t' := s1.toks) fun b o e => Heap.get?_push_of_some _ e, turn_tuple a _, ⟨_, Heap.get?_push_size _ rfl, rfl, rfl⟩, fp, q _ _ walk_tup fun H' e => Same.seqT e ha⟩
theorem pie_K {e : Expr} {ta : TA} {p pos tpos : Pos} {elts : List Expr} {kk : Nat} (hg : Gl X "enumerate") (hm : X.mg "enumerate" = none) (ha : PA X [e] ta) (h : X.K = K := by rfl) (hs : starEach [e] X.env = [(false, eval e X.env)] := by rfl) :
    PI X (.Tuple elts kk tpos) (.Call (.Name "enumerate" p) [e] [] pos) (iEnu K ta) := by
  subst h
  refine ⟨fun pins s σ H R I h => ?_⟩
  refine Call_ (ld_blt I hg hm boot_enumerate (PyProof.Rows.callWith_type1 (thn (ha.run pos pins s σ H _ I h) fun us s1 ⟨vs, H1, I1, r1, q1⟩ => ?_) hs rfl))
  obtain ⟨a, xs, H0, ex, hq, s0, q⟩ := q1
  subst ex
  obtain ⟨u0, rfl, r0⟩ := vals1 r1
  cases (show u0 = Value.ref a from r0)
  have fp : ∀ b ∈ [s1.heap.objs.size + 1, s1.heap.objs.size], FpOk X pins H1 b := fun b hb => by
    have hle : s1.heap.objs.size ≤ b := by
      rcases (show b = s1.heap.objs.size + 1 ∨ b = s1.heap.objs.size by simpa using hb) with z | z <;> omega
    exact I1.fpOk hle (I1.hok.fresh hle)
  rcases hq with hq | hq
  · obtain ⟨its, rv, p', _⟩ := I1.list (s0.seq hq)
    refine call_enumerate_list p'.isList fun h' he hit hsz hk => wpAny_pyIter_enum he ?_
    exact ⟨s1.heap.objs.size + 1, _, _, _, H1, rfl, I1.kept (t' := s1.toks) hk, turn_enum a _ _, ⟨⟨.none, he⟩, hit, Nat.succ_ne_self _⟩, fp, q _ _ walk_enum fun H' e => e.seq hq⟩
  · obtain ⟨its, rv, p', _⟩ := I1.tuple (Same.seqT s0 hq)
    have p' : s1.heap.IsTuple a its.toArray := p'
    refine call_enumT p' fun h' he hit hsz hk => wpAny_pyIter_enum he ?_
    have hlt : a < s1.heap.objs.size := by obtain ⟨_, q, _⟩ := p'; exact Heap.lt_size q
    exact ⟨s1.heap.objs.size + 1, _, _, _, H1, rfl, I1.kept (t' := s1.toks) hk, turn_enumT a _ _, ⟨⟨.none, he⟩, hit, Nat.succ_ne_self _, Nat.ne_of_lt hlt⟩, fp, q _ _ walk_enumT fun H' e => Same.seqT e hq⟩
theorem fld_K {e : Expr} {f : Str} {pos : Pos} {ta : TE} (he : PE X e ta) (hb : attributeBase e f X.env (eval e X.env) = eval e X.env) (h : X.K = K := by rfl) : PE X (.Attribute e f pos) (tFld K ta f) := h ▸ pe_fld he hb
theorem pgt_K {es : List Expr} {k : Nat} {pos : Pos} {t : TGs} {n : Nat} (hc : X.calm = true) (hp : PGs X es t) (h : X.K = K := by rfl)
    (hn : (assignEach es X.env).length = n := by rfl) (hst : (assignEach es X.env).findIdx? (·.1) = none := by rfl) : PG X (.Tuple es k pos) (gTup K n t) := h ▸ pg_tup hc hp hn hst
theorem bm_K {o e : Expr} {es : List Expr} {to : TE} {t : TA} {name : Str} {apos cpos : Pos} {M id : String} {r : V → List V → Hp → VK → Prop} (pa : PlainAttrs M) (slot : Slot M name id) (hty : typeOf (.builtin id) = pure (.type "method_descriptor")) (hm : MtR X id r)
    (ho : PE X o to) (ha : PA X (e :: es) t) (h : X.K = K := by rfl) (hbase : attributeBase o name X.env (eval o X.env) = eval o X.env := by rfl)
    (hfew : ((backTo cpos (starEach (e :: es) X.env)).all (fun x => !x.1) && (backToKw cpos (keywordEach [] X.env)).all (fun x => x.1.isSome)
      && decide ((e :: es).length + ([] : List Keyword).length + (if ([] : List Keyword).isEmpty then 0 else 1) < 30)) = true := by rfl)
    (hline : (apos.endLine == cpos.line) = true := by rfl) (hs : starEach (e :: es) X.env = (false, eval e X.env) :: starEach es X.env := by rfl) (hplain : (backTo cpos (starEach es X.env)).any (·.1) = false := by rfl) :
    PE X (.Call (.Attribute o name apos) (e :: es) [] cpos) (tBM K M r to t) := h ▸ pe_bm pa slot hty hm ho ha hbase hfew hline hs hplain
theorem bm0_K {o : Expr} {to : TE} {name : Str} {apos cpos : Pos} {M id : String} {r : V → List V → Hp → VK → Prop} (pa : PlainAttrs M) (slot : Slot M name id) (hty : typeOf (.builtin id) = pure (.type "method_descriptor")) (hm : MtR X id r)
    (ho : PE X o to) (h : X.K = K := by rfl) (hbase : attributeBase o name X.env (eval o X.env) = eval o X.env := by rfl) (hline : (apos.endLine == cpos.line) = true := by rfl) :
    PE X (.Call (.Attribute o name apos) [] [] cpos) (tBM0 K M r to) := h ▸ pe_bm0 pa slot hty hm ho hbase hline
theorem zipA_K {e e2 : Expr} {ta : TA} {p pos tpos : Pos} {elts : List Expr} {kk : Nat} (hg : Gl X "zip") (hm : X.mg "zip" = none) (ha : PA X [e, e2] ta) (h : X.K = K := by rfl)
    (hs : starEach [e, e2] X.env = (false, eval e X.env) :: starEach [e2] X.env := by rfl) (hpl : (backTo pos (starEach [e2] X.env)).any (·.1) = false := by rfl) :
    PI X (.Tuple elts kk tpos) (.Call (.Name "zip" p) [e, e2] [] pos) (RZ.iZipA K ta) := h ▸ RZ.pi_zipA hg hm ha hs hpl
end
/-! ### slices, texts among texts, sorted texts -/
theorem cutV_to {xs : List V} {i : Nat} (h : i ≤ xs.length) : cutV xs none (some ((i : Nat) : Int)) = xs.take i := by
  unfold cutV
  rw [HT.sIx_nat, HT.sIx_none, Nat.min_eq_left h]
  rfl
theorem cutV_from {xs : List V} (i : Nat) (h : i ≤ xs.length) : cutV xs (some ((i : Nat) : Int)) none = xs.drop i := by
  unfold cutV
  rw [HT.sIx_nat, HT.sIx_none, Nat.min_eq_left h]
  exact List.take_of_length_le (by rw [List.length_drop]; omega)
theorem flat_strs (l : List Str) : (l.map V.str).all flatV = true := by
  rw [List.all_eq_true]
  intro v hv
  obtain ⟨s, _, rfl⟩ := List.mem_map.mp hv
  rfl
theorem inV_str (x : Str) (l : List Str) : inV (.str x) (l.map V.str) = decide (x ∈ l) := by
  induction l with
  | nil => rfl
  | cons y l ih =>
    show (eqV (.str y) (.str x) || inV (.str x) (l.map V.str)) = _
    rw [ih]
    have e : eqV (.str y) (.str x) = decide (y = x) := by
      by_cases z : y = x
      · subst z
        rw [decide_eq_true rfl]
        show (y == y) = true
        exact beq_self_eq_true y
      · rw [decide_eq_false z]
        exact beq_eq_false_iff_ne.mpr z
    rw [e]
    by_cases z : y = x
    · subst z
      rw [decide_eq_true rfl, decide_eq_true List.mem_cons_self]
      rfl
    · rw [decide_eq_false z]
      show decide (x ∈ l) = _
      exact decide_eq_decide.mpr ⟨List.mem_cons_of_mem _, fun h => (List.mem_cons.mp h).resolve_left (fun q => z q.symm)⟩
abbrev zN (ns : List Str) : List (V × Str) := ns.map fun s => (V.str s, s)
/-- texts, sorted -/
def sortN (ns : List Str) : List Str := (sortBy PyData.str (zN ns)).map (·.2)
theorem zN_fst (ns : List Str) : (zN ns).map (·.1) = ns.map V.str := by rw [List.map_map]; rfl
theorem zN_snd (ns : List Str) : (zN ns).map (·.2) = ns := by rw [List.map_map]; exact List.map_id ns
theorem zN_mem {ns : List Str} {z : V × Str} (h : z ∈ zN ns) : z.1 = .str z.2 := by
  obtain ⟨s, _, rfl⟩ := List.mem_map.mp h
  rfl
theorem sortN_fst (ns : List Str) : (sortBy PyData.str (zN ns)).map (·.1) = (sortN ns).map V.str := by
  unfold sortN
  rw [List.map_map]
  refine List.map_congr_left fun z hz => ?_
  exact zN_mem ((List.mergeSort_perm _ _).mem_iff.mp hz)
theorem sortN_perm (ns : List Str) : (sortN ns).Perm ns := by
  have h := (List.mergeSort_perm (zN ns) (PySem.W.dataLe false fun z : V × Str => PyData.str z.2)).map (·.2)
  rw [zN_snd] at h
  exact h
theorem sortN_mem {ns : List Str} {x : Str} : x ∈ sortN ns ↔ x ∈ ns := (sortN_perm ns).mem_iff
theorem sortN_nodup {ns : List Str} (h : ns.Nodup) : (sortN ns).Nodup := (sortN_perm ns).nodup_iff.mpr h
theorem sortN_len (ns : List Str) : (sortN ns).length = ns.length := (sortN_perm ns).length_eq
theorem alikeS (zs : List (V × Str)) : PySem.W.AllAlike (zs.map fun z => PyData.str z.2) := PySem.W.AllAlike.of (enc := fun z : V × Str => PyData.str z.2) fun b b' => by simp [PySem.W.alike]
theorem sortableS (zs : List (V × Str)) : PySem.W.Sortable (zs.map fun z => PyData.str z.2) := PySem.W.Sortable.others (enc := fun z : V × Str => PyData.str z.2) fun b => ⟨by simp, by simp⟩
theorem depthS (s : Str) : (PyData.str s).depth = 0 := by simp [PyData.depth]
theorem sortS_rd {K : PySem.W.Frag} {H : Hp} {a : Addr} {ns : List Str} {Q : VK} (h : SqL K H a (ns.map V.str)) (k : ∀ p, H p = none → Q (.ref p) (upd H p (.lst ((sortN ns).map V.str)))) : rSortD K PyData.str [V.ref a] H Q := by
  refine ⟨a, zN ns, rfl, by rw [zN_fst]; exact h, fun z hz => by rw [zN_mem hz]; exact .str _, alikeS _, sortableS _, fun z _ => by rw [depthS]; exact Nat.zero_le _, fun p hp => ?_⟩
  rw [sortN_fst]
  exact k p hp
/-! ### the debate's own checks -/
def spStatements (K : PySem.W.Frag) : Sp := fun vs H Q _ => ∃ (a : Addr) (ns : List Str), vs = [.ref a] ∧ SqL K H a (ns.map V.str) ∧ ns.Nodup ∧ (∀ n ∈ ns, nameOk n = true) ∧ ns.length ≤ 10 ∧
  ∀ H' p, Same H H' → H p = none → H' p = some (.lst ((sortN ns).map V.str)) → Q (.ref p) H'
def spPairOf (K : PySem.W.Frag) : Sp := fun vs H Q _ => ∃ (t a : Addr) (p : Str × Str) (ns : List Str), vs = [.ref t, .ref a] ∧ SqA K H t [.str p.1, .str p.2] ∧ SqL K H a (ns.map V.str) ∧ p.1 ∈ ns ∧ p.2 ∈ ns ∧ ∀ H', Same H H' → Q (.bl true) H'
section
variable {P : Program} {w : World} {K : PySem.W.Frag} {mg : Str → Option Value} {base : Heap}
theorem tgI : Tag "int" := .inr (.inr (.inl rfl))
theorem cl_statements (T : Top K mg) : Cl P w K mg base CX0 2 "checked_statements" ["statements"] (spStatements K) := by
  have C_is_list := cl_is_list (P := P) (w := w) (base := base) T
  have C_is_name := cl_is_name (P := P) (w := w) (base := base) T
  refine Cl.of T.f_checked_statements T.g_checked_statements sc_checked_statements (fun _ _ _ _ _ _ us hl => match us, hl with | [_], _ => rfl) (fun vs H Q E h => ?_) (fun cdv A outer s H vs Q E hr h => ?_)
  · obtain ⟨a, ns, rfl, _⟩ := h
    rfl
  · obtain ⟨a, ns, rfl, hS, nd, ok, hl, k⟩ := h
    refine ⟨_, (pss_cons (ps_if (pt_not (pt_val (pe_k C_is_list hr (by decide) pass0 (pa_cons (pv 0) pa_nil))))
    (pss_one ps_never)
    pss_nil)
    (pss_cons (ps_for PassesOwn.never rfl (pi_enum (by rfl) T.z_enumerate (pa_cons (pv 0) pa_nil)) (pgt_K K rfl (pgs_cons (pg_name (i := 1) sc_checked_statements.nd rfl (Or.inl rfl)) (pgs_cons (pg_name (i := 2) sc_checked_statements.nd rfl (Or.inl rfl)) pgs_nil)))
    (pss_one (ps_if (PW.pt (pw_or (pt_not (pt_val (pe_k C_is_name hr (by decide) pass0 (pa_cons (pv 2) pa_nil)))) (pw_or1 (pt_cmpR (in_K K) (pv 2) (pe_slice (sl_K K) (pv 0) po_none (po_some (pv 1))) rfl))))
    (pss_one ps_never)
    pss_nil)))
    (pss_one (ps_ret (pe_callB (cr_sortedD PyData.str (hu65 hr)) (by rfl) T.z_sorted (by decide +kernel) (pa_cons (pv 0) pa_nil)))))), ?_⟩
    refine ⟨_, rfl, _, "list", rfl, .inr (.inr (.inr (.inr (.inl rfl)))), TyX.ofL hS, fun H1 s1 => ⟨_, rfl, ?_⟩⟩
    refine iteB0 (nT (.inl rfl)) ?_
    refine ⟨_, rfl, a, _, rfl, s1.seq hS, ?_⟩
    refine for_it walk_enum (fun i σ H2 => Same H H2 ∧ ∃ u v, σ = [some (.ref a), u, v]) ⟨s1, _, _, rfl⟩ (fun i σ H2 _ h => h.1.seq hS) ?_ ?_
    · rintro i x σ H2 H3 hi ⟨s2, u, v, rfl⟩ ⟨t, x0, y0, rfl, ht, rfl, ex, ey⟩
      obtain rfl := Option.some.inj ex
      obtain ⟨n, hn, rfl⟩ := get_map ey
      have s3 : Same H2 (upd H2 t (.tup [.int (i : Nat), .str n])) := same_new ht
      have hil := get_lt hn
      have hm : n ∈ ns := List.mem_of_getElem? hn
      refine ⟨t, _, rfl, SqT.of upd_same, rfl, _, _, rfl, _, _, rfl, rfl, _, rfl, n, rfl, ok n hm, fun H4 s4 => ⟨_, rfl, ?_⟩⟩
      refine iteB0 rfl ?_
      refine ⟨_, rfl, _, rfl, _, rfl, _, rfl, a, _, rfl, (s2.trans (s3.trans s4)).seq hS, fun p hp => ?_⟩
      rw [cutV_to (by rw [List.length_map]; omega), ← List.map_take]
      refine ⟨p, _, rfl, .inl (SqL.of upd_same), rfl, flat_strs _, _, rfl, ?_⟩
      refine iteB0 ?_ ⟨s2.trans (s3.trans (s4.trans (same_new hp))), _, _, rfl⟩
      show inV (.str n) _ = false
      rw [inV_str]
      refine dF fun h => ?_
      obtain ⟨j, hj⟩ := List.getElem?_of_mem h
      have hji : j < i := by have := get_lt hj; rw [List.length_take] at this; omega
      rw [List.getElem?_take_of_lt hji] at hj
      have := (List.getElem?_inj (by omega) nd).mp (hj.trans hn.symm)
      omega
    · rintro σ H2 ⟨s2, u, v, rfl⟩
      exact ⟨_, rfl, sortS_rd (s2.seq hS) fun p hp => k _ p (s2.trans (same_new hp)) (s2.free hp) upd_same⟩
theorem cl_pair_of (T : Top K mg) : Cl P w K mg base CX0 2 "is_pair_of" ["thing", "statements"] (spPairOf K) := by
  have C_is_list := cl_is_list (P := P) (w := w) (base := base) T
  refine Cl.of T.f_is_pair_of T.g_is_pair_of sc_is_pair_of (fun _ _ _ _ _ _ us hl => match us, hl with | [_, _], _ => rfl) (fun vs H Q E h => ?_) (fun cdv A outer s H vs Q E hr h => ?_)
  · obtain ⟨t, a, p, ns, rfl, _⟩ := h
    rfl
  · obtain ⟨t, a, p, ns, rfl, hT, hS, h1, h2, k⟩ := h
    refine ⟨_, (pss_one (ps_ret (pe_and (pe_k C_is_list hr (by decide) pass0 (pa_cons (pv 0) pa_nil)) (pe_and (pe_cmpR op_eq (pe_callB (len_K K) (by rfl) T.z_len (by decide +kernel) (pa_cons (pv 0) pa_nil)) pe_int (nomark _)) (pe_one (pe_callB (all_K K rfl) (by rfl) T.z_all (by decide +kernel) (pa_cons (pe_lc (own := [("one", 2)]) (g := gName 2) (tt := tYes) rfl sc_is_pair_of.nd (pis_K K (pv 0)) (blkOk_by (own := [("one", 2)]) (N := N_is_pair_of) (sc := defScope s_is_pair_of) (by decide +kernel)) (fun _ _ _ _ _ => (pg_name (i := 2) sc_is_pair_of.nd rfl (Or.inl rfl))) (fun _ _ _ _ _ => pts_nil) (fun _ _ _ _ _ => (pe_and (pe_callB (isi_K K) (by rfl) T.z_isinstance (by decide +kernel) (pa_cons (pv 2) (pa_cons (pe_bltn (v := .ty "str") (by rfl) T.z_str (by decide +kernel) rfl) pa_nil))) (pe_one (pe_cmpR (in_K K) (pv 2) (pv 1) rfl))))) pa_nil))))))), ?_⟩
    obtain ⟨ty, tg, htg, hty⟩ := hT.ty
    refine ⟨_, rfl, _, ty, rfl, tg, hty, fun H1 s1 => ⟨_, rfl, iteB1 (dT htg) ?_⟩⟩
    refine ⟨_, rfl, t, _, rfl, hT.same s1, rfl, _, rfl, iteB1 (dT rfl) ?_⟩
    refine ⟨_, rfl, t, _, H1, rfl, hT.same s1, fun _ _ e => e, fun J G wk hG D hD => ?_⟩
    refine lc_it wk (fun i H2 => Same H1 H2 ∧ H2 D = some (.lst (List.replicate i (.bl true)))) ⟨same_new hD, upd_same⟩ (fun i H2 _ h => hG _ h.1) ?_ (fun H2 ⟨s2, h2⟩ => ?_)
    · rintro i x H2 H3 hi ⟨s2, h2⟩ ⟨rfl, hx⟩
      obtain ⟨y, rfl, hy⟩ : ∃ y, x = V.str y ∧ y ∈ ns := by
        rcases i with _ | _ | i
        · exact ⟨_, (Option.some.inj hx).symm, h1⟩
        · exact ⟨_, (Option.some.inj hx).symm, ‹_›⟩
        · exact absurd hi (by simp)
      refine ⟨rfl, _, rfl, _, _, .type "str", .type "str", true, rfl, .ty _, .base (.str _), kit_ty (by decide +kernel), _, rfl, iteT ?_⟩
      refine ⟨_, rfl, _, rfl, a, _, rfl, .inl ((s1.trans s2).seq hS), rfl, flat_strs _, ?_⟩
      refine ⟨_, h2, ?_, same_upd s2 hD, ?_⟩
      · rw [List.length_replicate]
        exact lt_sl (by simp only [List.length_cons, List.length_nil] at hi; omega)
      · rw [upd_same, List.replicate_succ']
        show some (HO.lst (_ ++ [V.bl (inV (.str y) (ns.map V.str))])) = _
        rw [inV_str, dT hy]
    · refine ⟨D, [true, true], rfl, SqL.of h2, k _ (s1.trans s2)⟩
end
/-- a list or tuple of two texts -/
abbrev W2 := Addr × (Str × Str)
def IsW2 (K : PySem.W.Frag) (H : Hp) (x : W2) : Prop := SqA K H x.1 [.str x.2.1, .str x.2.2]
def spObjs (K : PySem.W.Frag) : Sp := fun vs H Q _ => ∃ (o a : Addr) (ws : List W2) (ns : List Str), vs = [.ref o, .ref a] ∧ SqA K H o (ws.map fun x => V.ref x.1) ∧ (∀ x ∈ ws, IsW2 K H x) ∧ SqL K H a (ns.map V.str) ∧
  (∀ x ∈ ws, x.2.1 ∈ ns ∧ x.2.2 ∈ ns) ∧ (ws.map (·.2)).Nodup ∧ ws.length ≤ 200 ∧ ∀ (H' : Hp) (p : Addr) (zs : List (V × (Str × Str))), Same H H' → H p = none → Lof H' IsPair p zs → (zs.map (·.2)).Perm (ws.map (·.2)) → Q (.ref p) H'
/-- the dict of pairs seen so far -/
abbrev seenP (ps : List (Str × Str)) : List (List L2.Key × V) := ps.map fun p => (kP p, .bl true)
theorem kP_inj {p q : Str × Str} (h : kP p = kP q) : p = q := by
  have h1 := (List.cons.inj h).1
  have h2 := (List.cons.inj (List.cons.inj h).2).1
  exact Prod.ext (Sum.inr.inj h1) (Sum.inr.inj h2)
theorem valV_mapP (f : Str × Str → V) (q : Str × Str) : ∀ ps : List (Str × Str), valV (ps.map fun p => (kP p, f p)) (kP q) = if q ∈ ps then some (f q) else none
  | [] => by rw [if_neg (fun h => nomatch h)]; rfl
  | p :: ps => by
    have ih := valV_mapP f q ps
    rw [List.map_cons]
    by_cases e : p = q
    · subst e
      rw [if_pos List.mem_cons_self]
      exact valV_pos (p := (kP p, f p)) rfl
    · rw [valV_neg (p := (kP p, f p)) (fun z => e (kP_inj z)), ih]
      by_cases m : q ∈ ps
      · rw [if_pos m, if_pos (List.mem_cons_of_mem _ m)]
      · rw [if_neg m, if_neg fun h => (List.mem_cons.mp h).elim (fun z => e z.symm) m]
theorem nodup_take_not {α : Type} {l : List α} {i : Nat} {x : α} (nd : l.Nodup) (h : l[i]? = some x) : ¬ x ∈ l.take i := by
  intro hm
  obtain ⟨j, hj⟩ := List.getElem?_of_mem hm
  have hi := get_lt h
  have hji : j < i := by have := get_lt hj; rw [List.length_take] at this; omega
  rw [List.getElem?_take_of_lt hji] at hj
  have := (List.getElem?_inj (by omega) nd).mp (hj.trans h.symm)
  omega
section
variable {P : Program} {w : World} {K : PySem.W.Frag} {mg : Str → Option Value} {base : Heap}
theorem cl_objs (T : Top K mg) : Cl P w K mg base CX0 4 "checked_objections" ["objections", "statements"] (spObjs K) := by
  have C_is_list := cl_is_list (P := P) (w := w) (base := base) T
  have C_is_pair_of := cl_pair_of (P := P) (w := w) (base := base) T
  have C_as_tuples := cl_tups1 (P := P) (w := w) (base := base) T
  refine Cl.of T.f_checked_objections T.g_checked_objections sc_checked_objections (fun _ _ _ _ _ _ us hl => match us, hl with | [_, _], _ => rfl) (fun vs H Q E h => ?_) (fun cdv A outer s H vs Q E hr h => ?_)
  · obtain ⟨o, a, ws, ns, rfl, _⟩ := h
    rfl
  · obtain ⟨o, a, ws, ns, rfl, hO, hW, hS, hm, nd, hl, k⟩ := h
    refine ⟨_, (pss_cons (ps_if (pt_not (pt_val (pe_k C_is_list hr (by decide) pass0 (pa_cons (pv 0) pa_nil))))
    (pss_one ps_never)
    pss_nil)
    (pss_cons (ps_set (i := 2) sc_checked_objections.nd rfl (Or.inl rfl) pe_dnewT)
    (pss_cons (ps_for PassesOwn.never rfl (pie_K K (by rfl) T.z_enumerate (pa_cons (pv 0) pa_nil)) (pgt_K K rfl (pgs_cons (pg_name (i := 3) sc_checked_objections.nd rfl (Or.inl rfl)) (pgs_cons (pg_name (i := 4) sc_checked_objections.nd rfl (Or.inl rfl)) pgs_nil)))
    (pss_cons (ps_if (PW.pt (pw_or (pt_not (pt_val (pe_k C_is_pair_of hr (by decide) pass0 (pa_cons (pv 4) (pa_cons (pv 1) pa_nil))))) (pw_or1 (pt_cmp (pc_din (hu_of hr) (pe_k C_as_tuples hr (by decide) pass0 (pa_cons (pv 4) pa_nil)) (pv 2))))))
    (pss_one ps_never)
    pss_nil)
    (pss_one (ps_dput (hu_of hr) (pv 2) (pe_k C_as_tuples hr (by decide) pass0 (pa_cons (pv 4) pa_nil)) pe_bl rfl))))
    (pss_one (ps_ret (pe_callB (cr_sortedDT rfl (hu65 hr)) (by rfl) T.z_sorted (by decide +kernel) (pa_cons (pv 2) pa_nil))))))), ?_⟩
    obtain ⟨ty, tg, htg, hty⟩ := hO.ty
    refine ⟨_, rfl, _, ty, rfl, tg, hty, fun H1 s1 => ⟨_, rfl, ?_⟩⟩
    refine iteB0 (nT htg) ?_
    intro d hd
    have hd0 : H d = none := s1.free hd
    have s1' : Same H (upd H1 d (.dT [])) := s1.trans (same_new hd)
    refine ⟨_, rfl, o, _, H, rfl, hO, s1', fun J G wk hG => ?_⟩
    refine for_it wk (fun i σ H2 => Same H H2 ∧ H2 d = some (.dT (seenP ((ws.map (·.2)).take i))) ∧ ∃ u v, σ = [some (.ref o), some (.ref a), some (.ref d), u, v]) ⟨s1', upd_same, _, _, rfl⟩ (fun i σ H2 _ h => ?_) ?_ ?_
    · exact hG _ h.1
    · rintro i x σ H2 H3 hi ⟨s2, h2, u, v, rfl⟩ ⟨t, x0, y0, rfl, ht, rfl, ex, ey⟩
      obtain rfl := Option.some.inj ex
      obtain ⟨n, hn, rfl⟩ := get_map ey
      have s3 : Same H2 (upd H2 t (.tup [.int (i : Nat), .ref n.1])) := same_new ht
      have s23 := s2.trans s3
      have hmn : n ∈ ws := List.mem_of_getElem? hn
      have hnW := hW n hmn
      have hil := get_lt hn
      have en : (ws.map (·.2))[i]? = some n.2 := by rw [List.getElem?_map, hn]; rfl
      have nn := nodup_take_not nd en
      have vn : valV (seenP ((ws.map (·.2)).take i)) (kP n.2) = none := by rw [valV_mapP (fun _ => .bl true), if_neg nn]
      refine ⟨t, _, rfl, SqT.of upd_same, rfl, _, _, rfl, _, _, rfl, rfl, _, rfl, _, rfl, n.1, a, n.2, ns, rfl, hnW.same s23, s23.seq hS, (hm n hmn).1, (hm n hmn).2, fun H4 s4 => ⟨_, rfl, ?_⟩⟩
      have s34 := s3.trans s4
      refine iteB0 rfl ?_
      refine ⟨_, rfl, n.1, n.2, rfl, hnW.same (s2.trans s34), fun H5 t1 s5 ht1 h5 => ?_⟩
      refine ⟨_, rfl, d, _, rfl, DGet.t (k := kP n.2) (s5 _ _ (s34 _ _ h2)) h5, _, rfl, ?_⟩
      rw [vn]
      refine iteF ?_
      refine ⟨_, rfl, _, rfl, n.1, n.2, rfl, hnW.same (s2.trans (s34.trans s5)), fun H6 t2 s6 ht2 h6 => ?_⟩
      have s36 := s34.trans (s5.trans s6)
      refine ⟨d, _, rfl, DPut.t (k := kP n.2) (s36 _ _ h2) h6 ?_, same_upd (s2.trans s36) hd0, ?_, _, _, rfl⟩
      · rw [List.length_map, List.length_take]
        exact lt_sl (by omega)
      · rw [upd_same, putK_new _ vn, take_snoc en]
        unfold seenP
        rw [List.map_append]
        rfl
    · rintro σ H2 ⟨s2, h2, u, v, rfl⟩
      rw [List.length_map, List.take_of_length_le (by rw [List.length_map]; exact Nat.le_refl _)] at h2
      refine ⟨_, rfl, d, ws.map (·.2), _, rfl, h2, by rw [List.map_map]; rfl, fun zs p ez hz hp => k _ p (sortBy enP zs) (s2.trans (same_new hp)) (s2.free hp) ⟨upd_same, fun z hz1 => ?_⟩ ?_⟩
      · exact (hz z ((List.mergeSort_perm _ _).mem_iff.mp hz1)).same (same_new hp)
      · rw [← ez]
        exact (List.mergeSort_perm _ _).map _
end
/-! ### the debate's object -/
def tors (ps : List (Str × Str)) (s : Str) : List Str := (ps.filter fun p => decide (p.2 = s)).map (·.1)
def ted (ps : List (Str × Str)) (s : Str) : List Str := (ps.filter fun p => decide (p.1 = s)).map (·.2)
abbrev rowsK (sn : List Str) (g : Str → Addr) : List (L2.Key × V) := sn.map fun s => (.inr s, .ref (g s))
def Deb (K : PySem.W.Frag) (H : Hp) (x : Addr) (sn : List Str) (ps : List (Str × Str)) : Prop :=
  ∃ (dx so oo ro jo : Addr) (zs : List (V × (Str × Str))) (g1 g2 : Str → Addr), H x = some (.ins (He.ga K "Debate") dx [("own_statements", .ref so), ("own_objections", .ref oo), ("own_objectors", .ref ro), ("own_objected", .ref jo)]) ∧
    H so = some (.lst (sn.map V.str)) ∧ Lof H IsPair oo zs ∧ zs.map (·.2) = ps ∧ H ro = some (.dK (rowsK sn g1)) ∧ H jo = some (.dK (rowsK sn g2)) ∧
    (∀ s ∈ sn, H (g1 s) = some (.lst ((tors ps s).map V.str)) ∧ H (g2 s) = some (.lst ((ted ps s).map V.str))) ∧ sn.Nodup ∧ sn.length ≤ 10 ∧ ps.Nodup ∧ ps.length ≤ 200 ∧ ∀ p ∈ ps, p.1 ∈ sn ∧ p.2 ∈ sn
theorem Deb.same {K : PySem.W.Frag} {H H' : Hp} {x : Addr} {sn : List Str} {ps : List (Str × Str)} (e : Same H H') (h : Deb K H x sn ps) : Deb K H' x sn ps := by
  obtain ⟨dx, so, oo, ro, jo, zs, g1, g2, h1, h2, h3, h4, h5, h6, h7, h8⟩ := h
  exact ⟨dx, so, oo, ro, jo, zs, g1, g2, e _ _ h1, e _ _ h2, h3.pairs e, h4, e _ _ h5, e _ _ h6, fun s hs => ⟨e _ _ (h7 s hs).1, e _ _ (h7 s hs).2⟩, h8⟩
theorem valV_rows (g : Str → Addr) (q : Str) : ∀ sn : List Str, valV (rowsK sn g) (.inr q) = if q ∈ sn then some (.ref (g q)) else none
  | [] => by rw [if_neg (fun h => nomatch h)]; rfl
  | s :: sn => by
    have ih := valV_rows g q sn
    show valV ((Sum.inr s, V.ref (g s)) :: rowsK sn g) (.inr q) = _
    by_cases e : s = q
    · subst e
      rw [if_pos List.mem_cons_self]
      exact valV_pos (p := ((Sum.inr s : L2.Key), V.ref (g s))) rfl
    · rw [valV_neg (p := ((Sum.inr s : L2.Key), V.ref (g s))) (fun z => e (Sum.inr.inj z)), ih]
      by_cases m : q ∈ sn
      · rw [if_pos m, if_pos (List.mem_cons_of_mem _ m)]
      · rw [if_neg m, if_neg fun h => (List.mem_cons.mp h).elim (fun z => e z.symm) m]
theorem dget_k {H : Hp} {a : Addr} {kvs : List (L2.Key × V)} {k : L2.Key} {v : V} (e : H a = some (.dK kvs)) (h : valV kvs k = some v) : DGet H a (kV k) (some v) := h ▸ DGet.k e
theorem dget_t {H : Hp} {a b : Addr} {kvs : List (List L2.Key × V)} {k : List L2.Key} {v : V} (e : H a = some (.dT kvs)) (eb : H b = some (.tup (k.map kV))) (h : valV kvs k = some v) : DGet H a (.ref b) (some v) := h ▸ DGet.t e eb
theorem pfl {f : Str} {v : V} : ∀ {fs : List (Str × V)} {n : Nat}, fs.length < n → (putF f v fs).length < n + 1
  | [], n, h => Nat.succ_lt_succ h
  | (g, x) :: r, 0, h => absurd h (Nat.not_lt_zero _)
  | (g, x) :: r, n + 1, h => by
    unfold putF
    by_cases e : g = f
    · rw [if_pos e]
      exact Nat.lt_succ_of_lt h
    · rw [if_neg e]
      exact Nat.succ_lt_succ (pfl (Nat.lt_of_succ_lt_succ h))
theorem fields4 (a b c d : V) : putF "own_objected" d (putF "own_objectors" c (putF "own_objections" b (putF "own_statements" a []))) = [(Str.ofString "own_statements", a), (Str.ofString "own_objections", b), (Str.ofString "own_objectors", c), (Str.ofString "own_objected", d)] := by rfl
/-- H without p -/
def hid1 (p : Addr) (H : Hp) : Hp := fun b => if b = p then none else H b
theorem hid1_at (p : Addr) (H : Hp) : hid1 p H p = none := if_pos rfl
theorem hid1_ne {p b : Addr} {H : Hp} (h : b ≠ p) : hid1 p H b = H b := if_neg h
theorem hid1_le (p : Addr) (H : Hp) : Same (hid1 p H) H := fun b o e => by
  by_cases h : b = p
  · rw [h, hid1_at] at e; cases e
  · rw [hid1_ne h] at e; exact e
theorem hid1_of {p : Addr} {H0 H : Hp} (h0 : H0 p = none) (e : Same H0 H) : Same H0 (hid1 p H) := fun b o q => by
  rw [hid1_ne (ne_of_none q h0)]
  exact e _ _ q
section
variable {K : PySem.W.Frag}
/-- {s: [] for s in the texts}: new rows -/
theorem dc_rows {a D : Addr} {σ : L2.St} {H1 : Hp} {j : Nat} {Qd : Hp → Prop} (sn : List Str) (hS : SqL K H1 a (sn.map V.str)) (hD : H1 D = none) (nd : sn.Nodup) (hl : sn.length ≤ 10) (hj : j < σ.length)
    (done : ∀ H g, Same H1 H → H D = some (.dK (rowsK sn g)) → (∀ s ∈ sn, H (g s) = some (.lst []) ∧ H1 (g s) = none ∧ g s ≠ D) → (∀ s ∈ sn, ∀ t ∈ sn, g s = g t → s = t) → Qd H) :
    ∃ W : Nat → Nat → Hp → Prop, (∃ m, W 0 m (upd H1 D (.dK []))) ∧ ∀ i m H, W i m H →
      ((Itl K a).stop i H ∧ Qd H) ∨ ((Itl K a).go i H ∧ ∃ Nx : Hp → Prop, (∀ H', Nx H' → ∃ m', m' < m ∧ W (i + 1) m' H') ∧ ∀ x H', (Itl K a).yld i H x H' → gName j x (wipe σ [j]) H' fun σ2 H2 => wipe σ2 [j] = wipe σ [j] ∧ tYes σ2 H2 fun b H3 =>
        if b = true then tVar j σ2 H3 fun y H4 => tLst tNil σ2 H4 fun z H5 => ∃ kvs k, y = kV k ∧ H5 D = some (.dK kvs) ∧ kvs.length < sizeLine ∧ Nx (upd H5 D (.dK (putK kvs k z))) else Nx H3) := by
  refine dc_gen (J := Itl K a) sn.length (fun i H => Same H1 H ∧ ∃ g, H D = some (.dK (rowsK (sn.take i) g)) ∧ (∀ s ∈ sn.take i, H (g s) = some (.lst []) ∧ H1 (g s) = none ∧ g s ≠ D) ∧ ∀ s ∈ sn.take i, ∀ t ∈ sn.take i, g s = g t → s = t)
    ⟨same_new hD, fun _ => D, upd_same, (fun s h => nomatch h), (fun s h => nomatch h)⟩ (fun i H hi h => ?_) (fun H h => ?_) ?_
  · exact (walk_list (K := K) (a := a) (xs := sn.map V.str)).goes i H (by rw [List.length_map]; exact hi) (h.1.seq hS)
  · obtain ⟨s1, g, h1, h2, h3⟩ := h
    rw [List.take_length] at h1 h2 h3
    have st := (walk_list (K := K) (a := a) (xs := sn.map V.str)).stops H (s1.seq hS)
    rw [List.length_map] at st
    exact ⟨st, done H g s1 h1 h2 h3⟩
  · rintro i H x H' hi ⟨s1, g, h1, h2, h3⟩ y
    obtain ⟨rfl, hx⟩ := (walk_list (K := K) (a := a) (xs := sn.map V.str)).yields i H x H' (by rw [List.length_map]; exact hi) (s1.seq hS) y
    obtain ⟨s, hs, rfl⟩ := get_map hx
    have ns := nodup_take_not nd hs
    refine ⟨?_, .str s, ?_, le_sl (Nat.zero_le _), fun q hq => ⟨rowsK (sn.take i) g, .inr s, rfl, same_new hq _ _ h1, ?_, ?_⟩⟩
    · show (List.set (List.set _ j _) j none) = _
      rw [List.set_set]
      show List.set (List.set σ j none) j none = List.set σ j none
      rw [List.set_set]
    · show (List.set (List.set σ j none) j (some (.str s)))[j]? = _
      rw [List.set_set, List.getElem?_set_self hj]
    · rw [List.length_map, List.length_take]
      exact lt_sl (by omega)
    · have hqD : q ≠ D := (ne_of_none h1 hq).symm
      have hq1 : H1 q = none := s1.free hq
      have vn : valV (rowsK (sn.take i) g) (.inr s) = none := by rw [valV_rows, if_neg ns]
      refine ⟨same_upd (s1.trans (same_new hq)) hD, fun t => if t = s then q else g t, ?_, fun t ht => ?_, fun t ht u hu e => ?_⟩
      · rw [upd_same, putK_new _ vn, take_snoc hs]
        refine congrArg (fun l => some (HO.dK l)) ?_
        show _ = List.map _ (_ ++ [s])
        rw [List.map_append]
        refine congr (congrArg _ (List.map_congr_left fun t ht => ?_)) ?_
        · have hts : t ≠ s := fun z => ns (z ▸ ht)
          show _ = (Sum.inr t, V.ref (if t = s then q else g t))
          rw [if_neg hts]
        · show _ = [(Sum.inr s, V.ref (if s = s then q else g s))]
          rw [if_pos rfl]
      · rw [take_snoc hs] at ht
        rcases List.mem_append.mp ht with ht | ht
        · have hts : t ≠ s := fun z => ns (z ▸ ht)
          simp only [if_neg hts]
          obtain ⟨a1, a2, a3⟩ := h2 t ht
          exact ⟨(upd_ne a3).trans (same_new hq _ _ a1), a2, a3⟩
        · rw [List.mem_singleton.mp ht]
          simp only [if_true]
          exact ⟨(upd_ne hqD).trans upd_same, hq1, hqD⟩
      · rw [take_snoc hs] at ht hu
        have fr : ∀ t ∈ sn.take i, g t ≠ q := fun t ht => ne_of_none (h2 t ht).1 hq
        rcases List.mem_append.mp ht with ht | ht <;> rcases List.mem_append.mp hu with hu | hu
        · have hts : t ≠ s := fun z => ns (z ▸ ht)
          have hus : u ≠ s := fun z => ns (z ▸ hu)
          simp only [if_neg hts, if_neg hus] at e
          exact h3 t ht u hu e
        · have hts : t ≠ s := fun z => ns (z ▸ ht)
          rw [List.mem_singleton.mp hu] at e
          simp only [if_neg hts, if_true] at e
          exact absurd e (fr t ht)
        · have hus : u ≠ s := fun z => ns (z ▸ hu)
          rw [List.mem_singleton.mp ht] at e
          simp only [if_neg hus, if_true] at e
          exact absurd e.symm (fr u hu)
        · rw [List.mem_singleton.mp ht, List.mem_singleton.mp hu]
theorem tors_snoc (ps : List (Str × Str)) (p : Str × Str) (s : Str) : tors (ps ++ [p]) s = if p.2 = s then tors ps s ++ [p.1] else tors ps s := by
  unfold tors
  rw [List.filter_append, List.map_append]
  by_cases h : p.2 = s
  · rw [if_pos h, List.filter_cons_of_pos (by simp [h])]
    rfl
  · rw [if_neg h, List.filter_cons_of_neg (by simp [h])]
    exact List.append_nil _
theorem ted_snoc (ps : List (Str × Str)) (p : Str × Str) (s : Str) : ted (ps ++ [p]) s = if p.1 = s then ted ps s ++ [p.2] else ted ps s := by
  unfold ted
  rw [List.filter_append, List.map_append]
  by_cases h : p.1 = s
  · rw [if_pos h, List.filter_cons_of_pos (by simp [h])]
    rfl
  · rw [if_neg h, List.filter_cons_of_neg (by simp [h])]
    exact List.append_nil _
theorem tors_len (ps : List (Str × Str)) (s : Str) : (tors ps s).length ≤ ps.length := by
  unfold tors
  rw [List.length_map]
  exact List.length_filter_le _ _
theorem ted_len (ps : List (Str × Str)) (s : Str) : (ted ps s).length ≤ ps.length := by
  unfold ted
  rw [List.length_map]
  exact List.length_filter_le _ _
def spInit (K : PySem.W.Frag) : Sp := fun vs H Q _ => ∃ (x dx na o : Addr) (ns : List Str) (ws : List W2) (H0 : Hp), vs = [.ref x, .ref na, .ref o] ∧ H0 x = none ∧ Same H0 H ∧ H x = some (.ins (He.ga K "Debate") dx []) ∧
  SqL K H0 na (ns.map V.str) ∧ ns.Nodup ∧ (∀ n ∈ ns, nameOk n = true) ∧ ns.length ≤ 10 ∧ SqA K H0 o (ws.map fun x => V.ref x.1) ∧ (∀ x ∈ ws, IsW2 K H0 x) ∧ (∀ x ∈ ws, x.2.1 ∈ ns ∧ x.2.2 ∈ ns) ∧ (ws.map (·.2)).Nodup ∧ ws.length ≤ 200 ∧
  ∀ (H' : Hp) (ps : List (Str × Str)), Same H0 H' → (∀ B : Hp, (∀ b, B b = H' b ∨ ∃ xs, H0 b = some (.lst xs)) → Deb K B x (sortN ns) ps) → ps.Perm (ws.map (·.2)) → Q .non H'
theorem IsW2.same {H H' : Hp} {x : W2} (e : Same H H') (h : IsW2 K H x) : IsW2 K H' x := SqA.same e h
end
section
variable {P : Program} {w : World} {K : PySem.W.Frag} {mg : Str → Option Value} {base : Heap}
theorem ok_init (T : Top K mg) : ∃ fd, FnOk P w K mg base CX0 5 (He.ma K (He.ga K "Debate") "__init__") fd ["self", "statements", "objections"] (spInit K) ∧ L2.Binds K fd ["self", "statements", "objections"] [] := by
  have C_checked_statements := cl_statements (P := P) (w := w) (base := base) T
  have C_checked_objections := cl_objs (P := P) (w := w) (base := base) T
  obtain ⟨fd, F⟩ := T.f_Debate_init
  refine ⟨fd, F.ok sc_Debate_init (fun vs H Q E h => ?_) (fun cdv A outer s H vs Q E hr h => ?_), F.bindsN (fun _ _ _ _ _ _ us hl => match us, hl with | [_, _, _], _ => rfl)⟩
  · obtain ⟨x, dx, na, o, ns, ws, H0, rfl, _⟩ := h
    rfl
  · obtain ⟨x, dx, na, o, ns, ws, H0, rfl, hx0, s0, hx, hS, nd, ok, hl, hO, hW, hm, nw, hwl, k⟩ := h
    suffices hb : ∃ t, PSs (cxOf CX0 P w K mg base N_Debate_init "Debate.__init__" (defScope s_Debate_init) (He.ma K (He.ga K "Debate") "__init__") cdv A outer s H E).nox (defBody s_Debate_init) t ∧ t { nx := fun _ H' => Q .non H', rt := Q } (start N_Debate_init [.ref x, .ref na, .ref o]) H by
      obtain ⟨t, a, b⟩ := hb
      exact ⟨t, a.nox, b⟩
    refine ⟨_, (pss_cons (ps_fld (pv 0) (pe_k C_checked_statements hr (by decide) pass0 (pa_cons (pv 1) pa_nil)) rfl)
    (pss_cons (ps_fld (pv 0) (pe_k C_checked_objections hr (by decide) pass0 (pa_cons (pv 2) (pa_cons (fld_K K (pv 0) rfl) pa_nil))) rfl)
    (pss_cons (ps_fld (pv 0) (pe_dc (own := [("statement", 5)]) (g := gName 5) (tt := tYes) rfl sc_Debate_init.nd (pi_K K (fld_K K (pv 0) rfl)) (blkOk_by (own := [("statement", 5)]) (N := N_Debate_init) (sc := defScope s_Debate_init) (by decide +kernel)) (fun _ _ _ _ _ => (pg_name (i := 5) sc_Debate_init.nd rfl (Or.inl rfl))) (fun _ _ _ _ _ => pts_nil) (fun _ _ _ _ _ => (pv 5)) (fun _ _ _ _ _ => (pe_lst pa_nil))) rfl)
    (pss_cons (ps_fld (pv 0) (pe_dc (own := [("statement", 5)]) (g := gName 5) (tt := tYes) rfl sc_Debate_init.nd (pi_K K (fld_K K (pv 0) rfl)) (blkOk_by (own := [("statement", 5)]) (N := N_Debate_init) (sc := defScope s_Debate_init) (by decide +kernel)) (fun _ _ _ _ _ => (pg_name (i := 5) sc_Debate_init.nd rfl (Or.inl rfl))) (fun _ _ _ _ _ => pts_nil) (fun _ _ _ _ _ => (pv 5)) (fun _ _ _ _ _ => (pe_lst pa_nil))) rfl)
    (pss_one (ps_for PassesOwn.never rfl (pi_K K (fld_K K (pv 0) rfl)) (pgt_K K rfl (pgs_cons (pg_name (i := 3) sc_Debate_init.nd rfl (Or.inl rfl)) (pgs_cons (pg_name (i := 4) sc_Debate_init.nd rfl (Or.inl rfl)) pgs_nil)))
    (pss_cons (ps_expr (bm_K K PySem.F.plainAttrs_list PySem.F.slot_list_append PySem.F.type_list_append mt_append (pe_dget (hu_of hr) (fld_K K (pv 0) rfl) (pv 4) (fun _ _ => rfl)) (pa_cons (pv 3) pa_nil)))
    (pss_one (ps_expr (bm_K K PySem.F.plainAttrs_list PySem.F.slot_list_append PySem.F.type_list_append mt_append (pe_dget (hu_of hr) (fld_K K (pv 0) rfl) (pv 3) (fun _ _ => rfl)) (pa_cons (pv 4) pa_nil))))))))))), ?_⟩
    -- self.own_statements = ..
    refine ⟨_, rfl, na, ns, rfl, s0.seq hS, nd, ok, hl, fun H1 so s1 hso e1 => ?_⟩
    refine ⟨_, rfl, x, _, dx, [], rfl, s1 _ _ hx, T.c_Debate, T.n_own_statements, by decide, ?_⟩
    have t1 : Same H0 (upd H1 x (.ins (He.ga K "Debate") dx [("own_statements", .ref so)])) := same_upd (s0.trans s1) hx0
    have xso : so ≠ x := (ne_of_none hx hso).symm
    -- self.own_objections = ..
    refine ⟨_, rfl, _, rfl, x, _, dx, _, _, rfl, upd_same, T.c_Debate, T.n_own_statements, rfl, o, so, ws, sortN ns, rfl, hO.same t1, fun z hz => (hW z hz).same t1, SqL.of ((upd_ne xso).trans e1), fun z hz => ⟨sortN_mem.mpr (hm z hz).1, sortN_mem.mpr (hm z hz).2⟩, nw, hwl, fun H2 oo zs s2 hoo e2 pe => ?_⟩
    refine ⟨_, rfl, x, _, dx, _, rfl, s2 _ _ upd_same, T.c_Debate, T.n_own_objections, Nat.lt_of_lt_of_le (pfl (n := 1) Nat.zero_lt_one) (by decide), ?_⟩
    have xoo : oo ≠ x := (ne_of_none upd_same hoo).symm
    have nds : (sortN ns).Nodup := sortN_nodup nd
    have lns : (sortN ns).length ≤ 10 := by rw [sortN_len]; exact hl
    -- what stands from here on, the object itself aside
    have tB : Same H0 (hid1 x H2) := hid1_of hx0 (t1.trans s2)
    generalize hB : hid1 x H2 = B at tB
    have Bx : B x = none := by rw [← hB]; exact hid1_at x H2
    have BH : ∀ o, Same B (upd H2 x o) := fun o => by rw [← hB]; exact same_upd (hid1_le x H2) (hid1_at x H2)
    have Bso : B so = some (.lst ((sortN ns).map V.str)) := by rw [← hB, hid1_ne xso]; exact s2 _ _ ((upd_ne xso).trans e1)
    have Boo : Lof B IsPair oo zs := by
      refine ⟨by rw [← hB, hid1_ne xoo]; exact e2.1, fun z hz => ?_⟩
      obtain ⟨t, et, ht⟩ := e2.2 z hz
      refine ⟨t, et, ?_⟩
      rw [← hB, hid1_ne (ne_of ht (s2 _ _ upd_same) (by intro z; cases z))]
      exact ht
    have hps : ∀ p ∈ zs.map (·.2), p.1 ∈ sortN ns ∧ p.2 ∈ sortN ns := fun p hp => by
      obtain ⟨z, hz, ez⟩ := List.mem_map.mp (pe.mem_iff.mp hp)
      rw [← ez]
      exact ⟨sortN_mem.mpr (hm z hz).1, sortN_mem.mpr (hm z hz).2⟩
    -- self.own_objectors = ..
    refine ⟨_, rfl, x, _, dx, _, _, rfl, upd_same, T.c_Debate, T.n_own_statements, rfl, so, rfl, ⟨_, SqL.of (BH _ _ _ Bso)⟩, fun D1 hD1 => ?_⟩
    refine dc_rows (K := K) (j := 5) (sortN ns) (SqL.of (BH _ _ _ Bso)) hD1 nds lns (show 5 < 6 by decide) fun H3 g1 s3 d1 r1 i1 => ?_
    refine ⟨_, rfl, x, _, dx, _, rfl, s3 _ _ upd_same, T.c_Debate, T.n_own_objectors, Nat.lt_of_lt_of_le (pfl (n := 2) (pfl (n := 1) Nat.zero_lt_one)) (by decide), ?_⟩
    have t3 : ∀ o, Same B (upd H3 x o) := fun o => same_upd ((BH _).trans s3) Bx
    have xD1 : D1 ≠ x := (ne_of_none upd_same hD1).symm
    have xg1 : ∀ s ∈ sortN ns, g1 s ≠ x := fun s hs => (ne_of_none upd_same (r1 s hs).2.1).symm
    -- self.own_objected = ..
    refine ⟨_, rfl, x, _, dx, _, _, rfl, upd_same, T.c_Debate, T.n_own_statements, rfl, so, rfl, ⟨_, SqL.of (t3 _ _ _ Bso)⟩, fun D2 hD2 => ?_⟩
    refine dc_rows (K := K) (j := 5) (sortN ns) (SqL.of (t3 _ _ _ Bso)) hD2 nds lns (show 5 < 6 by decide) fun H4 g2 s4 d2 r2 i2 => ?_
    refine ⟨_, rfl, x, _, dx, _, rfl, s4 _ _ upd_same, T.c_Debate, T.n_own_objected, Nat.lt_of_lt_of_le (pfl (n := 3) (pfl (n := 2) (pfl (n := 1) Nat.zero_lt_one))) (by decide), ?_⟩
    have t4 : ∀ o, Same B (upd H4 x o) := fun o => same_upd ((t3 _).trans s4) Bx
    have xD2 : D2 ≠ x := (ne_of_none upd_same hD2).symm
    have xg2 : ∀ s ∈ sortN ns, g2 s ≠ x := fun s hs => (ne_of_none upd_same (r2 s hs).2.1).symm
    have g12 : ∀ s ∈ sortN ns, ∀ t ∈ sortN ns, g1 s ≠ g2 t := fun s hs t ht => ne_of_none ((upd_ne (xg1 s hs)).trans (r1 s hs).1) (r2 t ht).2.1
    -- the loop
    refine ⟨_, rfl, x, _, dx, _, _, rfl, upd_same, T.c_Debate, T.n_own_objections, rfl, oo, rfl, ⟨_, SqL.of (t4 _ _ _ Boo.1)⟩, ?_⟩
    rw [fields4]
    refine for_it walk_list (fun i σ H5 => Same B H5 ∧ H5 x = some (.ins (He.ga K "Debate") dx [("own_statements", .ref so), ("own_objections", .ref oo), ("own_objectors", .ref D1), ("own_objected", .ref D2)]) ∧
      H5 D1 = some (.dK (rowsK (sortN ns) g1)) ∧ H5 D2 = some (.dK (rowsK (sortN ns) g2)) ∧ (∀ s ∈ sortN ns, H5 (g1 s) = some (.lst ((tors ((zs.map (·.2)).take i) s).map V.str)) ∧ H5 (g2 s) = some (.lst ((ted ((zs.map (·.2)).take i) s).map V.str))) ∧
      ∃ u v y, σ = [some (.ref x), some (.ref na), some (.ref o), u, v, y]) ?_ (fun i σ H5 _ h => SqL.of (h.1 _ _ Boo.1)) ?_ ?_
    · refine ⟨t4 _, upd_same, (upd_ne xD1).trans (s4 _ _ ((upd_ne xD1).trans d1)), (upd_ne xD2).trans d2, fun s hs => ⟨?_, ?_⟩, _, _, _, rfl⟩
      · exact (upd_ne (xg1 s hs)).trans (s4 _ _ ((upd_ne (xg1 s hs)).trans (r1 s hs).1))
      · exact (upd_ne (xg2 s hs)).trans (r2 s hs).1
    · rintro i v0 σ H5 H6 hi ⟨s5, x5, e1', e2', rr, u, v, y, rfl⟩ ⟨rfl, hv⟩
      obtain ⟨z, hz, rfl⟩ := get_map hv
      obtain ⟨t, et, ht⟩ := Boo.2 z (List.mem_of_getElem? hz)
      have ep : (zs.map (·.2))[i]? = some z.2 := by rw [List.getElem?_map, hz]; rfl
      obtain ⟨m1, m2⟩ := hps z.2 (List.mem_of_getElem? ep)
      have pl : (zs.map (·.2)).length ≤ 200 := by rw [pe.length_eq, List.length_map]; exact hwl
      have l1 : ∀ s, ((tors ((zs.map (·.2)).take i) s).map V.str).length < sizeLine := fun s => by
        have := tors_len ((zs.map (·.2)).take i) s
        rw [List.length_take] at this
        rw [List.length_map]
        exact lt_sl (by omega)
      have l2 : ∀ s, ((ted ((zs.map (·.2)).take i) s).map V.str).length < sizeLine := fun s => by
        have := ted_len ((zs.map (·.2)).take i) s
        rw [List.length_take] at this
        rw [List.length_map]
        exact lt_sl (by omega)
      obtain ⟨q1, q2⟩ := rr z.2.2 m2
      obtain ⟨q3, q4⟩ := rr z.2.1 m1
      refine ⟨t, _, et, SqT.of (s5 _ _ ht), rfl, _, _, rfl, _, _, rfl, rfl, ?_⟩
      refine ⟨_, rfl, x, _, dx, _, _, rfl, x5, T.c_Debate, T.n_own_objectors, rfl, _, rfl, D1, .ref (g1 z.2.2), rfl, dget_k (k := .inr z.2.2) e1' (by rw [valV_rows, if_pos m2]), .inl ⟨rfl, _, SqL.of q1⟩, _, rfl, _, _, _, rfl, rfl, q1, l1 _, ?_⟩
      have n1 : g2 z.2.1 ≠ g1 z.2.2 := (g12 _ m2 _ m1).symm
      have xa : x ≠ g1 z.2.2 := ne_of x5 q1 (by intro z; cases z)
      have xb : x ≠ g2 z.2.1 := ne_of x5 q4 (by intro z; cases z)
      have D1a : D1 ≠ g1 z.2.2 := ne_of e1' q1 (by intro z; cases z)
      have D1b : D1 ≠ g2 z.2.1 := ne_of e1' q4 (by intro z; cases z)
      have D2a : D2 ≠ g1 z.2.2 := ne_of e2' q1 (by intro z; cases z)
      have D2b : D2 ≠ g2 z.2.1 := ne_of e2' q4 (by intro z; cases z)
      have Ba : B (g1 z.2.2) = none := (BH _).free (r1 _ m2).2.1
      have Bb : B (g2 z.2.1) = none := (t3 _).free (r2 _ m1).2.1
      refine ⟨_, rfl, x, _, dx, _, _, rfl, (upd_ne xa).trans x5, T.c_Debate, T.n_own_objected, rfl, _, rfl, D2, .ref (g2 z.2.1), rfl, dget_k (k := .inr z.2.1) ((upd_ne D2a).trans e2') (by rw [valV_rows, if_pos m1]), .inl ⟨rfl, _, SqL.of ((upd_ne n1).trans q4)⟩, _, rfl, _, _, _, rfl, rfl, (upd_ne n1).trans q4, l2 _, ?_⟩
      refine ⟨same_upd (same_upd s5 Ba) Bb, (upd_ne xb).trans ((upd_ne xa).trans x5), (upd_ne D1b).trans ((upd_ne D1a).trans e1'), (upd_ne D2b).trans ((upd_ne D2a).trans e2'), fun s hs => ?_, _, _, _, rfl⟩
      rw [take_snoc ep, tors_snoc, ted_snoc]
      obtain ⟨w1, w2⟩ := rr s hs
      refine ⟨(upd_ne (g12 _ hs _ m1)).trans ?_, ?_⟩
      · by_cases e : z.2.2 = s
        · subst e
          rw [if_pos rfl, upd_same, List.map_append]
          rfl
        · rw [if_neg e, upd_ne fun q => e (i1 _ hs _ m2 q).symm]
          exact w1
      · by_cases e : z.2.1 = s
        · subst e
          rw [if_pos rfl, upd_same, List.map_append]
          rfl
        · rw [if_neg e, upd_ne fun q => e (i2 _ hs _ m1 q).symm, upd_ne (g12 _ m2 _ hs).symm]
          exact w2
    · rintro σ H5 ⟨s5, x5, e1', e2', rr, u, v, y, rfl⟩
      rw [List.length_map, show zs.length = (zs.map (·.2)).length from (List.length_map _).symm, List.take_length] at rr
      have s05 := tB.trans s5
      refine k H5 (zs.map (·.2)) s05 (fun Z hZ => ?_) pe
      have at0 : ∀ b o, H5 b = some o → H0 b = none → Z b = some o := fun b o e n => by
        rcases hZ b with z | ⟨xs, z⟩
        · exact z.trans e
        · rw [n] at z
          cases z
      have at1 : ∀ b o, H5 b = some o → (∀ xs, o ≠ .lst xs) → Z b = some o := fun b o e n => by
        rcases hZ b with z | ⟨xs, z⟩
        · exact z.trans e
        · rw [s05 _ _ z] at e
          exact absurd (Option.some.inj e).symm (n xs)
      have b5 := Boo.pairs s5
      refine ⟨dx, so, oo, D1, D2, zs, g1, g2, at0 _ _ x5 hx0, at0 _ _ (s5 _ _ Bso) (s0.free hso), ⟨at0 _ _ b5.1 (t1.free hoo), fun z hz => ?_⟩, rfl, at1 _ _ e1' (fun _ z => nomatch z), at1 _ _ e2' (fun _ z => nomatch z),
        fun s hs => ⟨at0 _ _ (rr s hs).1 (tB.free ((BH _).free (r1 _ hs).2.1)), at0 _ _ (rr s hs).2 (tB.free ((t3 _).free (r2 _ hs).2.1))⟩, nds, lns, pe.nodup_iff.mpr nw, by rw [pe.length_eq, List.length_map]; exact hwl, hps⟩
      obtain ⟨t, et, ht⟩ := b5.2 z hz
      exact ⟨t, et, at1 _ _ ht fun _ z => nomatch z⟩
end
/-- the dict with these texts put in -/
def dset (ks : List Str) : List (L2.Key × V) := ks.foldl (fun acc s => putK acc (.inr s) (.bl true)) []
theorem dset_snoc (ks : List Str) (s : Str) : dset (ks ++ [s]) = putK (dset ks) (.inr s) (.bl true) := by
  unfold dset
  rw [List.foldl_append]
  rfl
theorem dset_len : ∀ (ks : List Str) (acc : List (L2.Key × V)), (ks.foldl (fun acc s => putK acc (.inr s) (.bl true)) acc).length ≤ acc.length + ks.length
  | [], acc => Nat.le_refl _
  | s :: ks, acc => by
    have h := dset_len ks (putK acc (.inr s) (.bl true))
    have h2 := length_putK acc (.inr s : L2.Key) (.bl true)
    rw [List.foldl_cons, List.length_cons]
    omega
theorem dset_val (ks : List Str) (q : Str) : valV (dset ks) (.inr q) = if q ∈ ks then some (.bl true) else none := by
  have key : ∀ (ks : List Str) (acc : List (L2.Key × V)), valV (ks.foldl (fun acc s => putK acc (.inr s) (.bl true)) acc) (.inr q) = if q ∈ ks then some (.bl true) else valV acc (.inr q) := by
    intro ks
    induction ks with
    | nil => intro acc; rw [if_neg (fun h => nomatch h)]; rfl
    | cons s ks ih =>
      intro acc
      rw [List.foldl_cons, ih, valV_put]
      by_cases h : q ∈ ks
      · rw [if_pos h, if_pos (List.mem_cons_of_mem _ h)]
      · rw [if_neg h]
        by_cases e : q = s
        · rw [if_pos (congrArg Sum.inr e), if_pos (e ▸ List.mem_cons_self)]
        · rw [if_neg (fun z => e (Sum.inr.inj z)), if_neg fun z => (List.mem_cons.mp z).elim e h]
  exact key ks []
def hits (ps : List (Str × Str)) (ms : List Str) : List Str := ms.flatMap (ted ps)
theorem hits_snoc (ps : List (Str × Str)) (ms : List Str) (m : Str) : hits ps (ms ++ [m]) = hits ps ms ++ ted ps m := by
  unfold hits
  rw [List.flatMap_append]
  simp
theorem hits_len (ps : List (Str × Str)) : ∀ ms : List Str, (hits ps ms).length ≤ ms.length * ps.length
  | [] => Nat.zero_le _
  | m :: ms => by
    have h := hits_len ps ms
    have h2 := ted_len ps m
    show ((m :: ms).flatMap (ted ps)).length ≤ _
    rw [List.flatMap_cons, List.length_append, List.length_cons, Nat.succ_mul]
    have : (ms.flatMap (ted ps)).length = (hits ps ms).length := rfl
    omega
def spHitBy (K : PySem.W.Frag) : Sp := fun vs H Q _ => ∃ (x a : Addr) (sn : List Str) (ps : List (Str × Str)) (ms : List Str), vs = [.ref x, .ref a] ∧ Deb K H x sn ps ∧ SqL K H a (ms.map V.str) ∧ (∀ m ∈ ms, m ∈ sn) ∧ ms.length ≤ 10 ∧
  ∀ H' p, Same H H' → H p = none → H' p = some (.dK (dset (hits ps ms))) → Q (.ref p) H'
section
variable {P : Program} {w : World} {K : PySem.W.Frag} {mg : Str → Option Value} {base : Heap}
theorem cl_hit_by (T : Top K mg) : Cl P w K mg base CX0 1 "hit_by" ["debate", "members"] (spHitBy K) := by
  refine Cl.of T.f_hit_by T.g_hit_by sc_hit_by (fun _ _ _ _ _ _ us hl => match us, hl with | [_, _], _ => rfl) (fun vs H Q E h => ?_) (fun cdv A outer s H vs Q E hr h => ?_)
  · obtain ⟨x, a, sn, ps, ms, rfl, _⟩ := h
    rfl
  · obtain ⟨x, a, sn, ps, ms, rfl, hD, hM, hsub, hl, k⟩ := h
    refine ⟨_, (pss_one (ps_ret (pe_dc2 (own := [("member", 2), ("other", 3)]) (us := [3]) (g := gName 2) (gj := gName 3) rfl sc_hit_by.nd (pi_K K (pv 1)) (blkOk_by (own := [("member", 2), ("other", 3)]) (N := N_hit_by) (sc := defScope s_hit_by) (by decide +kernel)) (by decide) (fun _ _ _ _ _ => (pg_name (i := 2) sc_hit_by.nd rfl (Or.inl rfl))) (fun _ _ _ _ _ => (pi_K K (pe_dget (hu_of hr) (fld_K K (pv 0) rfl) (pv 2) (fun _ _ => rfl)))) (fun _ _ _ _ _ => (pg_name (i := 3) sc_hit_by.nd rfl (Or.inl rfl))) (fun _ _ _ _ _ => (pv 3)) (fun _ _ _ _ _ => pe_bl)))), ?_⟩
    obtain ⟨dx, so, oo, ro, jo, zs, g1, g2, d1, d2, d3, d4, d5, d6, d7, d8, d9, d10, d11, d12⟩ := hD
    refine ⟨_, rfl, a, rfl, ⟨_, hM⟩, fun D hD => ?_⟩
    have bd : ∀ i m, ms[i]? = some m → ((hits ps (ms.take i)).length + (ted ps m).length) < sizeLine := fun i m hm => by
      have h1 := hits_len ps (ms.take i)
      have h2 := ted_len ps m
      have h3 : (ms.take i).length ≤ 10 := by rw [List.length_take]; omega
      have h4 : (ms.take i).length * ps.length ≤ 10 * 200 := Nat.mul_le_mul h3 d11
      exact lt_sl (by omega)
    refine ⟨fun i m H2 => m + i = ms.length ∧ Same H H2 ∧ H2 D = some (.dK (dset (hits ps (ms.take i)))), ⟨_, rfl, same_new hD, upd_same⟩, ?_⟩
    rintro i m H2 ⟨em, s2, h2⟩
    rcases Nat.lt_or_ge i ms.length with hi | hi
    · refine .inr ⟨(walk_list (K := K) (a := a) (xs := ms.map V.str)).goes i H2 (by rw [List.length_map]; exact hi) (s2.seq hM), fun H3 => Same H H3 ∧ H3 D = some (.dK (dset (hits ps (ms.take (i + 1))))), fun H3 h => ⟨m - 1, by omega, by omega, h⟩, fun v H3 y => ?_⟩
      obtain ⟨rfl, hv⟩ := (walk_list (K := K) (a := a) (xs := ms.map V.str)).yields i H2 v H3 (by rw [List.length_map]; exact hi) (s2.seq hM) y
      obtain ⟨s, hs, rfl⟩ := get_map hv
      have hsn := hsub s (List.mem_of_getElem? hs)
      have row := s2 _ _ (d7 s hsn).2
      refine ⟨rfl, _, rfl, x, _, dx, _, _, rfl, s2 _ _ d1, T.c_Debate, T.n_own_objected, rfl, _, rfl, jo, .ref (g2 s), rfl, dget_k (k := .inr s) (s2 _ _ d6) (by rw [valV_rows, if_pos hsn]), g2 s, rfl, ⟨_, SqL.of row⟩, ?_⟩
      refine ⟨fun j k H4 => k + j = (ted ps s).length ∧ Same H H4 ∧ H4 D = some (.dK (dset (hits ps (ms.take i) ++ (ted ps s).take j))), ⟨_, rfl, s2, by rw [List.take_zero, List.append_nil]; exact h2⟩, ?_⟩
      rintro j n H4 ⟨en, s4, h4⟩
      have w4 := walk_list (K := K) (a := g2 s) (xs := (ted ps s).map V.str)
      have r4 : SqL K H4 (g2 s) ((ted ps s).map V.str) := SqL.of (s4 _ _ (d7 s hsn).2)
      rcases Nat.lt_or_ge j (ted ps s).length with hj | hj
      · refine .inr ⟨w4.goes j H4 (by rw [List.length_map]; exact hj) r4, fun H5 => Same H H5 ∧ H5 D = some (.dK (dset (hits ps (ms.take i) ++ (ted ps s).take (j + 1)))), fun H5 h => ⟨n - 1, by omega, by omega, h⟩, fun v H5 y => ?_⟩
        obtain ⟨rfl, hv⟩ := w4.yields j H4 v H5 (by rw [List.length_map]; exact hj) r4 y
        obtain ⟨o, ho, rfl⟩ := get_map hv
        refine ⟨rfl, _, rfl, _, .inr o, rfl, h4, ?_, same_upd s4 hD, ?_⟩
        · have b1 := bd i s hs
          have b2 := dset_len (hits ps (ms.take i) ++ (ted ps s).take j) []
          rw [List.length_append, List.length_take, List.length_nil] at b2
          refine Nat.lt_of_le_of_lt b2 ?_
          omega
        · rw [upd_same, take_snoc ho, ← List.append_assoc, dset_snoc]
      · have ej : j = (ted ps s).length := by omega
        subst ej
        rw [List.take_length] at h4
        have st := w4.stops H4 r4
        rw [List.length_map] at st
        exact .inl ⟨st, s4, by rw [take_snoc hs, hits_snoc]; exact h4⟩
    · have ei : i = ms.length := by omega
      subst ei
      rw [List.take_length] at h2
      have st := (walk_list (K := K) (a := a) (xs := ms.map V.str)).stops H2 (s2.seq hM)
      rw [List.length_map] at st
      exact .inl ⟨st, k H2 D s2 hD h2⟩
end
/-! ### plain: calm, answered -/
theorem mem_tors {ps : List (Str × Str)} {s m : Str} : m ∈ tors ps s ↔ (m, s) ∈ ps := by
  unfold tors
  rw [List.mem_map]
  constructor
  · rintro ⟨p, hp, rfl⟩
    rw [List.mem_filter] at hp
    obtain ⟨h1, h2⟩ := hp
    rw [← of_decide_eq_true h2]
    exact h1
  · intro h
    exact ⟨(m, s), List.mem_filter.mpr ⟨h, decide_eq_true rfl⟩, rfl⟩
theorem mem_ted {ps : List (Str × Str)} {s m : Str} : m ∈ ted ps s ↔ (s, m) ∈ ps := by
  unfold ted
  rw [List.mem_map]
  constructor
  · rintro ⟨p, hp, rfl⟩
    rw [List.mem_filter] at hp
    obtain ⟨h1, h2⟩ := hp
    rw [← of_decide_eq_true h2]
    exact h1
  · intro h
    exact ⟨(s, m), List.mem_filter.mpr ⟨h, decide_eq_true rfl⟩, rfl⟩
theorem mem_hits {ps : List (Str × Str)} {ms : List Str} {s : Str} : s ∈ hits ps ms ↔ ∃ m ∈ ms, (m, s) ∈ ps := by
  unfold hits
  rw [List.mem_flatMap]
  exact ⟨fun ⟨m, h, q⟩ => ⟨m, h, mem_ted.mp q⟩, fun ⟨m, h, q⟩ => ⟨m, h, mem_ted.mpr q⟩⟩
def answB (ps : List (Str × Str)) (ms : List Str) : Bool := ms.all fun m => (tors ps m).all fun o => decide (o ∈ hits ps ms)
def calmAll (ps : List (Str × Str)) (l : List Str) : Bool := ps.all fun p => !(decide (p.1 ∈ l) && decide (p.2 ∈ l))
def calmB (ps : List (Str × Str)) (l : List Str) (s : Str) : Bool := !decide (s ∈ tors ps s) && !(l.any fun m => decide (m ∈ tors ps s) || decide (m ∈ ted ps s))
def heldB (ps : List (Str × Str)) (l : List Str) : Bool := calmAll ps l && answB ps l
theorem calmAll_iff {ps : List (Str × Str)} {l : List Str} : calmAll ps l = true ↔ ∀ p ∈ ps, ¬ (p.1 ∈ l ∧ p.2 ∈ l) := by
  unfold calmAll
  rw [List.all_eq_true]
  refine ⟨fun h p hp q => ?_, fun h p hp => ?_⟩
  · have := h p hp
    rw [decide_eq_true q.1, decide_eq_true q.2] at this
    exact absurd this (by decide)
  · by_cases a : p.1 ∈ l
    · have b : ¬ p.2 ∈ l := fun b => h p hp ⟨a, b⟩
      rw [decide_eq_false b, Bool.and_false]
      rfl
    · rw [decide_eq_false a]
      rfl
theorem calmB_iff {ps : List (Str × Str)} {l : List Str} {s : Str} : calmB ps l s = true ↔ (s, s) ∉ ps ∧ ∀ m ∈ l, (m, s) ∉ ps ∧ (s, m) ∉ ps := by
  unfold calmB
  rw [Bool.and_eq_true, Bool.not_eq_true', Bool.not_eq_true', decide_eq_false_iff_not, mem_tors, List.any_eq_false]
  refine and_congr Iff.rfl (forall_congr' fun m => forall_congr' fun hm => ?_)
  rw [Bool.or_eq_true, decide_eq_true_iff, decide_eq_true_iff, mem_tors, mem_ted, not_or]
theorem calmAll_snoc (ps : List (Str × Str)) (l : List Str) (s : Str) : calmAll ps (l ++ [s]) = (calmAll ps l && calmB ps l s) := by
  rw [Bool.eq_iff_iff, Bool.and_eq_true, calmAll_iff, calmAll_iff, calmB_iff]
  constructor
  · intro h
    refine ⟨fun p hp q => h p hp ⟨List.mem_append_left _ q.1, List.mem_append_left _ q.2⟩, fun hp => h _ hp ⟨List.mem_append_right _ List.mem_cons_self, List.mem_append_right _ List.mem_cons_self⟩, fun m hm => ⟨fun hp => ?_, fun hp => ?_⟩⟩
    · exact h _ hp ⟨List.mem_append_left _ hm, List.mem_append_right _ List.mem_cons_self⟩
    · exact h _ hp ⟨List.mem_append_right _ List.mem_cons_self, List.mem_append_left _ hm⟩
  · rintro ⟨h1, h2, h3⟩ p hp ⟨q1, q2⟩
    rcases List.mem_append.mp q1 with q1 | q1 <;> rcases List.mem_append.mp q2 with q2 | q2
    · exact h1 p hp ⟨q1, q2⟩
    · have := (h3 _ q1).1
      rw [← List.mem_singleton.mp q2] at this
      exact this hp
    · have := (h3 _ q2).2
      rw [← List.mem_singleton.mp q1] at this
      exact this hp
    · apply h2
      have e1 := List.mem_singleton.mp q1
      have e2 := List.mem_singleton.mp q2
      rw [← e2]
      rw [← e2] at e1
      have : p = (p.2, p.2) := Prod.ext e1 rfl
      rw [← this]
      exact hp
theorem calm_filter (ps : List (Str × Str)) (A : List (List Str)) (s : Str) : (A ++ A.map (· ++ [s])).filter (calmAll ps) = A.filter (calmAll ps) ++ ((A.filter (calmAll ps)).filter fun l => calmB ps l s).map (· ++ [s]) := by
  rw [List.filter_append, List.filter_map, List.filter_filter]
  congr 2
  refine List.filter_congr fun l _ => ?_
  show calmAll ps (l ++ [s]) = _
  rw [calmAll_snoc, Bool.and_comm]
/-! ### lots, sorted -/
abbrev enL (l : List Str) : PyData := .list (l.map .str)
theorem alike_strs : ∀ a b : List Str, PySem.W.alikeAll (a.map .str) (b.map .str) = true
  | [], _ => by simp [PySem.W.alikeAll]
  | _ :: _, [] => by simp [PySem.W.alikeAll]
  | x :: a, y :: b => by
    show PySem.W.alikeAll (.str x :: a.map .str) (.str y :: b.map .str) = true
    rw [PySem.W.alikeAll, alike_strs a b]
    simp [PySem.W.alike]
theorem depth_strs : ∀ a : List Str, PyData.depthAll (a.map .str) = 0
  | [] => by simp [PyData.depthAll]
  | x :: a => by
    show PyData.depthAll (.str x :: a.map .str) = 0
    simp [PyData.depthAll, PyData.depth, depth_strs a]
theorem alikeL (zs : List (V × List Str)) : PySem.W.AllAlike (zs.map fun z => enL z.2) := PySem.W.AllAlike.of (enc := fun z : V × List Str => enL z.2) fun b b' => by
  show PySem.W.alike (.list _) (.list _) = true
  rw [PySem.W.alike]
  exact alike_strs _ _
theorem sortL (zs : List (V × List Str)) : PySem.W.Sortable (zs.map fun z => enL z.2) := PySem.W.Sortable.others (enc := fun z : V × List Str => enL z.2) fun b => ⟨by simp, by simp⟩
theorem depthL (l : List Str) : (enL l).depth = 1 := by
  show (PyData.list _).depth = 1
  rw [PyData.depth, depth_strs]
theorem sortL_rd {K : PySem.W.Frag} {H : Hp} {a : Addr} {zs : List (V × List Str)} {Q : VK} (h : Lof H IsLot a zs) (k : ∀ p, H p = none → Q (.ref p) (upd H p (.lst ((sortBy enL zs).map (·.1))))) : rSortD K enL [V.ref a] H Q :=
  ⟨a, zs, rfl, SqL.of h.1, fun z hz => dp_lot (h.2 z hz), alikeL _, sortL _, fun z _ => by rw [depthL]; decide, k⟩
theorem sortBy_mem {α : Type} {en : α → PyData} {zs : List (V × α)} {z : V × α} : z ∈ sortBy en zs ↔ z ∈ zs := (List.mergeSort_perm _ _).mem_iff
def spUnans (K : PySem.W.Frag) : Sp := fun vs H Q _ => ∃ (x a : Addr) (sn : List Str) (ps : List (Str × Str)) (ms : List Str), vs = [.ref x, .ref a] ∧ Deb K H x sn ps ∧ SqL K H a (ms.map V.str) ∧ (∀ m ∈ ms, m ∈ sn) ∧ ms.length ≤ 10 ∧
  ∀ H', Same H H' → (answB ps ms = true → Q .non H') ∧ (answB ps ms = false → ∀ t, Q (.ref t) H')
def spCalm (K : PySem.W.Frag) : Sp := fun vs H Q _ => ∃ (x a : Addr) (s : Str) (sn : List Str) (ps : List (Str × Str)) (l : List Str), vs = [.ref x, .ref a, .str s] ∧ Deb K H x sn ps ∧ SqL K H a (l.map V.str) ∧ s ∈ sn ∧ l.length ≤ 10 ∧ ∀ H', Same H H' → Q (.bl (calmB ps l s)) H'
def spHeld (K : PySem.W.Frag) : Sp := fun vs H Q _ => ∃ (x : Addr) (sn : List Str) (ps : List (Str × Str)), vs = [.ref x] ∧ Deb K H x sn ps ∧
  ∀ H' p zs, Same H H' → H p = none → Lof H' IsLot p zs → (∀ l, l ∈ zs.map (·.2) ↔ l ∈ subs sn ∧ heldB ps l = true) → zs.length ≤ 1024 → Q (.ref p) H'
section
variable {P : Program} {w : World} {K : PySem.W.Frag} {mg : Str → Option Value} {base : Heap}
theorem cl_unans (T : Top K mg) : Cl P w K mg base CX0 2 "unanswered_in" ["debate", "members"] (spUnans K) := by
  have C_hit_by := cl_hit_by (P := P) (w := w) (base := base) T
  refine Cl.of T.f_unanswered_in T.g_unanswered_in sc_unanswered_in (fun _ _ _ _ _ _ us hl => match us, hl with | [_, _], _ => rfl) (fun vs H Q E h => ?_) (fun cdv A outer s H vs Q E hr h => ?_)
  · obtain ⟨x, a, sn, ps, ms, rfl, _⟩ := h
    rfl
  · obtain ⟨x, a, sn, ps, ms, rfl, hD, hM, hsub, hl, k⟩ := h
    refine ⟨_, (pss_cons (ps_set (i := 2) sc_unanswered_in.nd rfl (Or.inl rfl) (pe_k C_hit_by hr (by decide) pass0 (pa_cons (pv 0) (pa_cons (pv 1) pa_nil))))
    (pss_cons (ps_for PassesOwn.never rfl (pi_K K (pv 1)) (pg_name (i := 3) sc_unanswered_in.nd rfl (Or.inl rfl))
    (pss_one (ps_for PassesOwn.never rfl (pi_K K (pe_dget (hu_of hr) (fld_K K (pv 0) rfl) (pv 3) (fun _ _ => rfl))) (pg_name (i := 4) sc_unanswered_in.nd rfl (Or.inl rfl))
    (pss_one (ps_if (pt_cmp (pc_dnotin (hu_of hr) (pv 4) (pv 2)))
    (pss_one (ps_ret (pe_tup (pa_cons (pv 3) (pa_cons (pv 4) pa_nil)))))
    pss_nil)))))
    (pss_one (ps_ret pe_non)))), ?_⟩
    refine ⟨_, rfl, _, rfl, x, a, sn, ps, ms, rfl, hD, hM, hsub, hl, fun H1 d s1 hd h1 => ?_⟩
    refine ⟨_, rfl, a, rfl, ⟨_, s1.seq hM⟩, ?_⟩
    refine for_it walk_list (fun i σ H2 => Same H1 H2 ∧ (∀ m ∈ ms.take i, ∀ o ∈ tors ps m, o ∈ hits ps ms) ∧ ∃ u v, σ = [some (.ref x), some (.ref a), some (.ref d), u, v]) ⟨fun _ _ e => e, (fun m h => nomatch h), _, _, rfl⟩ (fun i σ H2 _ h => (s1.trans h.1).seq hM) ?_ ?_
    · rintro i v0 σ H2 H3 hi ⟨s2, ok, u, v, rfl⟩ ⟨rfl, hv⟩
      obtain ⟨m, hm, rfl⟩ := get_map hv
      have hms : m ∈ sn := hsub m (List.mem_of_getElem? hm)
      obtain ⟨dx, so, oo, ro, jo, zs, g1, g2, d1, d2, d3, d4, d5, d6, d7, d8⟩ := (hD.same s1).same s2
      have row := (d7 m hms).1
      refine ⟨_, rfl, x, _, dx, _, _, rfl, d1, T.c_Debate, T.n_own_objectors, rfl, _, rfl, ro, .ref (g1 m), rfl, dget_k (k := .inr m) d5 (by rw [valV_rows, if_pos hms]), g1 m, rfl, ⟨_, SqL.of row⟩, ?_⟩
      refine for_it walk_list (fun j σ H4 => Same H3 H4 ∧ (∀ o ∈ (tors ps m).take j, o ∈ hits ps ms) ∧ ∃ v, σ = [some (.ref x), some (.ref a), some (.ref d), some (.str m), v]) ⟨fun _ _ e => e, (fun o h => nomatch h), _, rfl⟩ (fun j σ H4 _ h => SqL.of (h.1 _ _ row)) ?_ ?_
      · rintro j v0 σ H4 H5 hj ⟨s4, ok4, v, rfl⟩ ⟨rfl, hv⟩
        obtain ⟨o, ho, rfl⟩ := get_map hv
        refine ⟨_, rfl, _, rfl, d, _, rfl, DGet.k (k := .inr o) (s4 _ _ (s2 _ _ h1)), _, rfl, ?_⟩
        rw [dset_val]
        by_cases ho2 : o ∈ hits ps ms
        · rw [if_pos ho2]
          refine iteF ⟨s4, fun q hq => ?_, _, rfl⟩
          rw [take_snoc ho] at hq
          rcases List.mem_append.mp hq with hq | hq
          · exact ok4 q hq
          · rw [List.mem_singleton.mp hq]
            exact ho2
        · rw [if_neg ho2]
          refine iteT ⟨_, rfl, _, rfl, le_sl (by show 2 ≤ _; decide), fun t ht => ?_⟩
          refine (k _ ((s1.trans (s2.trans s4)).trans (same_new ht))).2 ?_ t
          rw [← Bool.not_eq_true]
          intro z
          unfold answB at z
          rw [List.all_eq_true] at z
          have z2 := List.all_eq_true.mp (z m (List.mem_of_getElem? hm)) o (List.mem_of_getElem? ho)
          exact ho2 (of_decide_eq_true z2)
      · rintro σ H4 ⟨s4, ok4, v, rfl⟩
        rw [List.length_map, List.take_length] at ok4
        refine ⟨s2.trans s4, fun q hq => ?_, _, _, rfl⟩
        rw [take_snoc hm] at hq
        rcases List.mem_append.mp hq with hq | hq
        · exact ok q hq
        · rw [List.mem_singleton.mp hq]
          exact ok4
    · rintro σ H2 ⟨s2, ok, u, v, rfl⟩
      rw [List.length_map, List.take_length] at ok
      refine (k _ (s1.trans s2)).1 ?_
      unfold answB
      exact List.all_eq_true.mpr fun m hm => List.all_eq_true.mpr fun o ho => decide_eq_true (ok m hm o ho)
theorem cl_calm (T : Top K mg) : Cl P w K mg base CX0 1 "calm_with" ["debate", "lot", "statement"] (spCalm K) := by
  refine Cl.of T.f_calm_with T.g_calm_with sc_calm_with (fun _ _ _ _ _ _ us hl => match us, hl with | [_, _, _], _ => rfl) (fun vs H Q E h => ?_) (fun cdv A outer s H vs Q E hr h => ?_)
  · obtain ⟨x, a, s, sn, ps, l, rfl, _⟩ := h
    rfl
  · obtain ⟨x, a, s0, sn, ps, l, rfl, hD, hM, hs, hl, k⟩ := h
    refine ⟨_, (pss_cons (ps_asg (pe_tup (pa_cons (pe_dget (hu_of hr) (fld_K K (pv 0) rfl) (pv 2) (fun _ _ => rfl)) (pa_cons (pe_dget (hu_of hr) (fld_K K (pv 0) rfl) (pv 2) (fun _ _ => rfl)) pa_nil))) (pgt_K K rfl (pgs_cons (pg_name (i := 3) sc_calm_with.nd rfl (Or.inr rfl)) (pgs_cons (pg_name (i := 4) sc_calm_with.nd rfl (Or.inr rfl)) pgs_nil))))
    (pss_one (ps_ret (pe_and (pe_cmpR (nin_K K) (pv 2) (pv 3) rfl) (pe_one (pe_not (pe_callB (any_K K rfl) (by rfl) T.z_any (by decide +kernel) (pa_cons (pe_lc (own := [("member", 5)]) (g := gName 5) (tt := tYes) rfl sc_calm_with.nd (pi_K K (pv 1)) (blkOk_by (own := [("member", 5)]) (N := N_calm_with) (sc := defScope s_calm_with) (by decide +kernel)) (fun _ _ _ _ _ => (pg_name (i := 5) sc_calm_with.nd rfl (Or.inl rfl))) (fun _ _ _ _ _ => pts_nil) (fun _ _ _ _ _ => (pe_or (pe_cmpR (in_K K) (pv 5) (pv 3) rfl) (pe_one (pe_cmpR (in_K K) (pv 5) (pv 4) rfl))))) pa_nil)))))))), ?_⟩
    obtain ⟨dx, so, oo, ro, jo, zs, g1, g2, d1, d2, d3, d4, d5, d6, d7, d8⟩ := hD
    obtain ⟨r1, r2⟩ := d7 s0 hs
    refine ⟨_, rfl, x, _, dx, _, _, rfl, d1, T.c_Debate, T.n_own_objectors, rfl, _, rfl, ro, .ref (g1 s0), rfl, dget_k (k := .inr s0) d5 (by rw [valV_rows, if_pos hs]), ?_⟩
    refine ⟨_, rfl, x, _, dx, _, _, rfl, d1, T.c_Debate, T.n_own_objected, rfl, _, rfl, jo, .ref (g2 s0), rfl, dget_k (k := .inr s0) d6 (by rw [valV_rows, if_pos hs]), ?_⟩
    refine ⟨le_sl (by show 2 ≤ _; decide), fun t ht => ?_⟩
    have s1 : Same H (upd H t (.tup [.ref (g1 s0), .ref (g2 s0)])) := same_new ht
    refine ⟨t, _, rfl, SqT.of upd_same, rfl, _, _, rfl, _, _, rfl, rfl, ?_⟩
    refine ⟨_, rfl, _, rfl, g1 s0, _, rfl, .inl (SqL.of (s1 _ _ r1)), rfl, flat_strs _, _, rfl, ?_⟩
    have e1 : (if true = true then !inV (.str s0) ((tors ps s0).map V.str) else inV (.str s0) ((tors ps s0).map V.str)) = !decide (s0 ∈ tors ps s0) := by
      rw [if_pos rfl, inV_str]
    by_cases hq : s0 ∈ tors ps s0
    · have e2 : calmB ps l s0 = false := by
        unfold calmB
        rw [decide_eq_true hq]
        rfl
      refine iteB0 (by rw [e1, decide_eq_true hq]; rfl) ?_
      rw [← e2]
      exact k _ s1
    · refine iteB1 (by rw [e1, decide_eq_false hq]; rfl) ?_
      refine ⟨_, rfl, a, rfl, ⟨_, s1.seq hM⟩, fun D hD => ?_⟩
      let f : Str → Bool := fun m => decide (m ∈ tors ps s0) || decide (m ∈ ted ps s0)
      refine lc_map V.str l (fun m => .bl (f m)) (s1.seq hM) hD (lt_sl (by omega)) (fun m hm H2 k1 s2 kk => ⟨rfl, ?_⟩) fun H2 s2 h2 => ?_
      · refine ⟨_, rfl, _, rfl, g1 s0, _, rfl, .inl (SqL.of (s2 _ _ (s1 _ _ r1))), rfl, flat_strs _, _, rfl, ?_⟩
        have e3 : (if false = true then !inV (.str m) ((tors ps s0).map V.str) else inV (.str m) ((tors ps s0).map V.str)) = decide (m ∈ tors ps s0) := by
          rw [if_neg Bool.false_ne_true, inV_str]
        by_cases hm1 : m ∈ tors ps s0
        · refine iteB1 (by rw [e3, decide_eq_true hm1]) (kk _ _ (fun _ _ e => e) ?_)
          show V.bl true = .bl (decide (m ∈ tors ps s0) || decide (m ∈ ted ps s0))
          rw [decide_eq_true hm1]
          rfl
        · refine iteB0 (by rw [e3, decide_eq_false hm1]) ?_
          refine ⟨_, rfl, _, rfl, g2 s0, _, rfl, .inl (SqL.of (s2 _ _ (s1 _ _ r2))), rfl, flat_strs _, kk _ _ (fun _ _ e => e) ?_⟩
          show V.bl (inV (.str m) ((ted ps s0).map V.str)) = .bl (decide (m ∈ tors ps s0) || decide (m ∈ ted ps s0))
          rw [inV_str, decide_eq_false hm1]
          rfl
      · refine ⟨D, l.map f, rfl, SqL.of (by rw [h2, List.map_map]; rfl), _, rfl, ?_⟩
        have e4 : (!((l.map f).any id)) = calmB ps l s0 := by
          unfold calmB
          rw [decide_eq_false hq, List.any_map]
          rfl
        rw [e4]
        exact k _ (s1.trans s2)
end
theorem fmIf {α β : Type} (p : α → Bool) (f : α → β) : ∀ l : List α, l.filterMap (fun z => if p z = true then some (f z) else none) = (l.filter p).map f
  | [] => rfl
  | a :: l => by
    rw [List.filterMap_cons, List.filter_cons]
    cases e : p a with
    | true => exact congrArg (f a :: ·) (fmIf p f l)
    | false => exact fmIf p f l
theorem snd_of_fst {zs : List (V × List Str)} : (sortBy enL zs).map (·.2) |>.Perm (zs.map (·.2)) := (List.mergeSort_perm _ _).map _
section
variable {P : Program} {w : World} {K : PySem.W.Frag} {mg : Str → Option Value} {base : Heap}
theorem cl_held (T : Top K mg) : Cl P w K mg base CX0 3 "held_lots" ["debate"] (spHeld K) := by
  have C_calm_with := cl_calm (P := P) (w := w) (base := base) T
  have C_unanswered_in := cl_unans (P := P) (w := w) (base := base) T
  refine Cl.of T.f_held_lots T.g_held_lots sc_held_lots (fun _ _ _ _ _ _ us hl => match us, hl with | [_], _ => rfl) (fun vs H Q E h => ?_) (fun cdv A outer s H vs Q E hr h => ?_)
  · obtain ⟨x, sn, ps, rfl, _⟩ := h
    rfl
  · obtain ⟨x, sn, ps, rfl, hD, k⟩ := h
    refine ⟨_, (pss_cons (ps_set (i := 1) sc_held_lots.nd rfl (Or.inl rfl) (pe_lst (pa_cons (pe_lst pa_nil) pa_nil)))
    (pss_cons (ps_for PassesOwn.never rfl (pi_K K (fld_K K (pv 0) rfl)) (pg_name (i := 2) sc_held_lots.nd rfl (Or.inr rfl))
    (pss_one (ps_expr (bm_K K PySem.F.plainAttrs_list PySem.F.slot_list_extend PySem.F.type_list_extend mt_extend (pv 1) (pa_cons (pe_lc (own := [("lot", 3)]) (g := gName 3) rfl sc_held_lots.nd (pi_K K (pv 1)) (blkOk_by (own := [("lot", 3)]) (N := N_held_lots) (sc := defScope s_held_lots) (by decide +kernel)) (fun _ _ _ _ _ => (pg_name (i := 3) sc_held_lots.nd rfl (Or.inl rfl))) (fun _ _ _ _ _ => pts_one (pt_val (pe_k C_calm_with hr (by decide) pass0 (pa_cons (pv 0) (pa_cons (pv 3) (pa_cons (pv 2) pa_nil)))))) (fun _ _ _ _ _ => (pe_op op_cat (pv 3) (pe_lst (pa_cons (pv 2) pa_nil))))) pa_nil)))))
    (pss_one (ps_ret (pe_callB (cr_sortedD enL (hu65 hr)) (by rfl) T.z_sorted (by decide +kernel) (pa_cons (pe_lc (own := [("lot", 3)]) (g := gName 3) rfl sc_held_lots.nd (pi_K K (pv 1)) (blkOk_by (own := [("lot", 3)]) (N := N_held_lots) (sc := defScope s_held_lots) (by decide +kernel)) (fun _ _ _ _ _ => (pg_name (i := 3) sc_held_lots.nd rfl (Or.inl rfl))) (fun _ _ _ _ _ => pts_one (pt_cmpR op_isN (pe_k C_unanswered_in hr (by decide) pass0 (pa_cons (pv 0) (pa_cons (pv 3) pa_nil))) pe_non (nomark _))) (fun _ _ _ _ _ => (pv 3))) pa_nil)))))), ?_⟩
    have hD0 := hD
    obtain ⟨dx, so, oo, ro, jo, zs0, g1, g2, d1, d2, d3, d4, d5, d6, d7, d8, d9, _⟩ := hD
    -- found = [[]]
    refine ⟨le_sl (Nat.zero_le _), fun t0 ht0 => ⟨le_sl (by show 1 ≤ _; decide), fun p hp0 => ?_⟩⟩
    have hp : H p = none := (same_new ht0).free hp0
    have s0 : Same H (upd (upd H t0 (.lst [])) p (.lst [.ref t0])) := (same_new ht0).trans (same_new hp0)
    refine ⟨_, rfl, x, _, dx, _, _, rfl, s0 _ _ d1, T.c_Debate, T.n_own_statements, rfl, so, rfl, ⟨_, SqL.of (s0 _ _ d2)⟩, for_list (K := K) (a := so) (xs := sn.map V.str)
      (fun i σ H1 => ∃ (v : Option V) (zs : List (V × List Str)), σ = [some (.ref x), some (.ref p), v, none] ∧ Same H H1 ∧ H1 p = some (.lst (zs.map (·.1))) ∧ zs.map (·.2) = (subs (sn.take i)).filter (calmAll ps) ∧ ∀ z ∈ zs, NewLot H p H1 z.1 z.2)
      ⟨none, [(.ref t0, [])], rfl, s0, upd_same, ?_, fun z hz => ?_⟩ (fun i σ H1 _ ⟨_, _, _, s1, _⟩ => SqL.of (s1 _ _ d2)) ?_ ?_⟩
    · have : calmAll ps [] = true := calmAll_iff.mpr fun p _ q => nomatch q.1
      show [[]] = ([[]] : List (List Str)).filter (calmAll ps)
      rw [List.filter_cons_of_pos this]
      rfl
    · rw [List.mem_singleton.mp hz]
      exact ⟨t0, rfl, ht0, ne_of_none upd_same hp0, same_new hp0 _ _ upd_same⟩
    · rintro i y σ H1 hi ⟨v, zs, rfl, s1, h1, e1, n1⟩
      obtain ⟨s, hs, rfl⟩ := get_map hi
      have hil := get_lt hs
      have hms : s ∈ sn := List.mem_of_getElem? hs
      have sl : (subs (sn.take i)).length = 2 ^ i := by rw [subs_len, List.length_take, Nat.min_eq_left (Nat.le_of_lt hil)]
      have hi10 : 2 ^ i ≤ 512 := pow_le (m := 9) (by omega)
      have zl : zs.length ≤ 512 := by
        have q := congrArg List.length e1
        rw [List.length_map] at q
        have q2 := List.length_filter_le (calmAll ps) (subs (sn.take i))
        omega
      refine ⟨_, rfl, .inl ⟨rfl, _, SqL.of h1⟩, _, rfl, p, rfl, ⟨_, SqL.of h1⟩, fun D hD => ?_⟩
      refine lc_rel (K := K) (a := p) (fun z : V × List Str => z.1) zs (fun z => if calmB ps z.2 s = true then some (z.2 ++ [s]) else none) (fun H2 v l => NewLot H1 D H2 v l) (SqL.of h1) hD (lt_sl (by omega)) (fun _ _ _ _ e r => r.same e) ?_ ?_
      · intro z hz H2 acc k1 k0 s2 h2 kk kn
        obtain ⟨t, et, ht, np, ho⟩ := n1 z hz
        have zx : z.2.length ≤ 10 := by
          have hm : z.2 ∈ subs (sn.take i) := (List.mem_filter.mp (by rw [← e1]; exact List.mem_map_of_mem hz)).1
          have q := (subs_sub hm).length_le
          rw [List.length_take] at q
          omega
        have ez : z.1 = .ref t := et
        refine ⟨rfl, _, rfl, _, rfl, _, rfl, x, t, s, sn, ps, z.2, by rw [← ez], (hD0.same s1).same s2, SqL.of (s2 _ _ ho), hms, zx, fun H3 s3 => ⟨_, rfl, ?_⟩⟩
        refine ite2 (fun hc => ?_) fun hc => ?_
        · refine ⟨_, rfl, _, rfl, le_sl (by show 1 ≤ _; decide), fun q hq => ⟨t, q, z.2.map V.str, [V.str s], ez, rfl, same_new hq _ _ (s3 _ _ (s2 _ _ ho)), upd_same, le_sl (by show (z.2.map V.str).length + 1 ≤ _; rw [List.length_map]; omega), fun r hr2 => ?_⟩⟩
          have hr1 : H3 r = none := (same_new hq).free hr2
          refine kk _ _ _ (s3.trans ((same_new hq).trans (same_new hr2))) (if_pos hc) ⟨r, rfl, (s2.trans s3).free hr1, (ne_of_none (s3 _ _ h2) hr1).symm, by rw [upd_same, List.map_append]; rfl⟩
        · exact kn _ s3 (if_neg hc)
      · intro H2 ws s2 h2 e2 n2
        have e3 : ws.map (·.2) = (((subs (sn.take i)).filter (calmAll ps)).filter fun l => calmB ps l s).map (· ++ [s]) := by
          rw [e2, fmIf (fun z : V × List Str => calmB ps z.2 s) (fun z => z.2 ++ [s]), ← e1, List.filter_map, List.map_map]
          rfl
        have wl : ws.length ≤ 512 := by
          have q := congrArg List.length e3
          rw [List.length_map, List.length_map] at q
          have q2 := List.length_filter_le (fun l => calmB ps l s) ((subs (sn.take i)).filter (calmAll ps))
          have q3 := List.length_filter_le (calmAll ps) (subs (sn.take i))
          omega
        have pD : p ≠ D := ne_of_none h1 hD
        refine ⟨p, D, _, _, rfl, rfl, s2 _ _ h1, h2, le_sl (by rw [List.length_map, List.length_map]; omega), ?_⟩
        refine ⟨some (.str s), zs ++ ws, rfl, same_upd (s1.trans s2) hp, ?_, ?_, fun z hz => ?_⟩
        · rw [upd_same, List.map_append]
        · rw [List.map_append, e1, e3, take_snoc hs, subs_snoc, calm_filter]
        · rcases List.mem_append.mp hz with hz | hz
          · exact (n1 z hz).same fun c o hc e => (upd_ne hc).trans (s2 c o e)
          · obtain ⟨t, a1, a2, _, a3⟩ := n2 z hz
            have tp : t ≠ p := (ne_of_none h1 a2).symm
            exact ⟨t, a1, s1.free a2, tp, (upd_ne tp).trans a3⟩
    · rintro σ H1 ⟨v, zs, rfl, s1, h1, e1, n1⟩
      rw [List.length_map, List.take_length] at e1
      have zl : zs.length ≤ 1024 := by
        have q := congrArg List.length e1
        rw [List.length_map] at q
        have q2 := List.length_filter_le (calmAll ps) (subs sn)
        have q3 := subs_len sn
        have q4 : 2 ^ sn.length ≤ 1024 := pow_le (m := 10) d9
        omega
      refine ⟨_, rfl, p, rfl, ⟨_, SqL.of h1⟩, fun D hD => ?_⟩
      refine lc_rel (K := K) (a := p) (fun z : V × List Str => z.1) zs (fun z => if answB ps z.2 = true then some z.2 else none) (fun H2 v l => ∃ t, v = .ref t ∧ t ≠ D ∧ H2 t = some (.lst (l.map V.str))) (SqL.of h1) hD (lt_sl (by omega))
        (fun _ _ _ _ e r => by obtain ⟨t, a1, a2, a3⟩ := r; exact ⟨t, a1, a2, e _ _ a2 a3⟩) ?_ ?_
      · intro z hz H2 acc k1 k0 s2 h2 kk kn
        obtain ⟨t, et, ht, np, ho⟩ := n1 z hz
        have ez : z.1 = .ref t := et
        have hm : z.2 ∈ subs sn := (List.mem_filter.mp (by rw [← e1]; exact List.mem_map_of_mem hz)).1
        have hsub := subs_sub hm
        refine ⟨rfl, _, rfl, _, rfl, x, t, sn, ps, z.2, by rw [← ez], (hD0.same s1).same s2, SqL.of (s2 _ _ ho), fun m q => hsub.subset q, Nat.le_trans hsub.length_le d9, fun H3 s3 => ⟨fun q => ?_, fun q u => ?_⟩⟩
        · refine ⟨rfl, _, rfl, ?_⟩
          refine iteB1 (dT rfl) ⟨_, rfl, kk _ z.2 _ s3 (if_pos q) ⟨t, ez, ne_of_none ho hD, s3 _ _ (s2 _ _ ho)⟩⟩
        · refine ⟨rfl, _, rfl, ?_⟩
          refine iteB0 (dF (by intro z; cases z)) (kn _ s3 (if_neg ?_))
          rw [q]
          decide
      · intro H2 ws s2 h2 e2 n2
        have e3 : ws.map (·.2) = ((subs sn).filter (calmAll ps)).filter (answB ps) := by
          rw [e2, fmIf (fun z : V × List Str => answB ps z.2) (fun z => z.2), ← e1, List.filter_map]
          rfl
        refine sortL_rd ⟨h2, fun z hz => ?_⟩ fun q hq => ?_
        · obtain ⟨t, a1, _, a3⟩ := n2 z hz
          exact ⟨t, a1, a3⟩
        · refine k _ q (sortBy enL ws) ((s1.trans s2).trans (same_new hq)) ((s1.trans s2).free hq) ⟨upd_same, fun z hz => ?_⟩ (fun l => ?_) ?_
          · obtain ⟨t, a1, _, a3⟩ := n2 z (sortBy_mem.mp hz)
            exact ⟨t, a1, same_new hq _ _ a3⟩
          · rw [snd_of_fst.mem_iff, e3, List.filter_filter, List.mem_filter]
            unfold heldB
            rw [Bool.and_comm]
          · rw [List.length_mergeSort]
            have q1 := congrArg List.length e3
            rw [List.length_map, ← e1] at q1
            have q2 := List.length_filter_le (answB ps) (zs.map (·.2))
            rw [List.length_map] at q2
            omega
end
/-! ### own errors -/
/-- an error's __init__ that stores its argument as thing -/
def spErr (C : Addr) : Sp := fun vs H Q _ => ∃ (a : Addr) (v : V), vs = [.ref a, v] ∧ H a = some (exo a C none) ∧ ∀ d, H d = none → d ≠ a → Q .non (upd (upd H d (exd d [("thing", v)])) a (exo a C (some d)))
theorem err_rd {C : Addr} {v : V} {H1 : Hp} {Q : XK} (h : ∀ d H', Same H1 H' → H1 d = none → H' d = some (.xd [("thing", v)]) → Q (.ref C) (some d) H') :
    [v].length ≤ 1000 ∧ ∀ a, H1 a = none → spErr C (.ref a :: ([v] ++ [])) (upd H1 a (exo a C none))
      (fun v H2 => v = .non ∧ ∃ (d : Addr) (fs : List (Str × V)), H2 a = some (exo a C (some d)) ∧ H2 d = some (exd d fs) ∧ H1 d = none ∧ Q (.ref C) (some d) (upd (del H2 a) d (.xd fs))) (fun _ _ _ => False) := by
  refine ⟨by show 1 ≤ 1000; decide, fun a ha => ⟨a, v, rfl, upd_same, fun d hd da => ⟨rfl, d, _, upd_same, (upd_ne da).trans upd_same, ?_, ?_⟩⟩⟩
  · rw [upd_ne da] at hd
    exact hd
  · rw [upd_ne da] at hd
    refine h d _ (fun b o e => ?_) hd upd_same
    have h1 : b ≠ d := ne_of_none e hd
    have h2 : b ≠ a := ne_of_none e ha
    rw [upd_ne h1, del_ne h2, upd_ne h2, upd_ne h1, upd_ne h2]
    exact e
section
variable {P : Program} {w : World} {K : PySem.W.Frag} {mg : Str → Option Value} {base : Heap}
theorem ok_BadNumber (T : Top K mg) : ∃ fd, FnOk P w K mg base CX0 1 (He.ma K (He.ga K "BadNumber") "__init__") fd ["self", "thing"] (spErr (He.ga K "BadNumber")) ∧ L2.Binds K fd ["self", "thing"] [] := by
  obtain ⟨fd, F⟩ := T.f_BadNumber_init
  refine ⟨fd, F.ok sc_BadNumber_init (fun vs H Q E h => ?_) (fun cdv A outer s H vs Q E hr h => ?_), F.bindsN (fun _ _ _ _ _ _ us hl => match us, hl with | [_, _], _ => rfl)⟩
  · obtain ⟨a, v, rfl, _⟩ := h
    rfl
  · obtain ⟨a, v, rfl, ha, k⟩ := h
    suffices hb : ∃ t, PSs (cxOf CX0 P w K mg base N_BadNumber_init "BadNumber.__init__" (defScope s_BadNumber_init) (He.ma K (He.ga K "BadNumber") "__init__") cdv A outer s H E).nox (defBody s_BadNumber_init) t ∧ t { nx := fun _ H' => Q .non H', rt := Q } (start N_BadNumber_init [.ref a, v]) H by
      obtain ⟨t, p, q⟩ := hb
      exact ⟨t, p.nox, q⟩
    refine ⟨_, pss_one (ps_ost (pv 0) (pv 1)), ?_⟩
    exact ⟨_, rfl, _, rfl, a, _, rfl, T.e_BadNumber.oex, T.e_BadNumber.thing, .inl ⟨ha, fun d hd da => k d hd da⟩⟩
theorem ok_BadWeights (T : Top K mg) : ∃ fd, FnOk P w K mg base CX0 1 (He.ma K (He.ga K "BadWeights") "__init__") fd ["self", "thing"] (spErr (He.ga K "BadWeights")) ∧ L2.Binds K fd ["self", "thing"] [] := by
  obtain ⟨fd, F⟩ := T.f_BadWeights_init
  refine ⟨fd, F.ok sc_BadWeights_init (fun vs H Q E h => ?_) (fun cdv A outer s H vs Q E hr h => ?_), F.bindsN (fun _ _ _ _ _ _ us hl => match us, hl with | [_, _], _ => rfl)⟩
  · obtain ⟨a, v, rfl, _⟩ := h
    rfl
  · obtain ⟨a, v, rfl, ha, k⟩ := h
    suffices hb : ∃ t, PSs (cxOf CX0 P w K mg base N_BadWeights_init "BadWeights.__init__" (defScope s_BadWeights_init) (He.ma K (He.ga K "BadWeights") "__init__") cdv A outer s H E).nox (defBody s_BadWeights_init) t ∧ t { nx := fun _ H' => Q .non H', rt := Q } (start N_BadWeights_init [.ref a, v]) H by
      obtain ⟨t, p, q⟩ := hb
      exact ⟨t, p.nox, q⟩
    refine ⟨_, pss_one (ps_ost (pv 0) (pv 1)), ?_⟩
    exact ⟨_, rfl, _, rfl, a, _, rfl, T.e_BadWeights.oex, T.e_BadWeights.thing, .inl ⟨ha, fun d hd da => k d hd da⟩⟩
theorem ok_NoStatement (T : Top K mg) : ∃ fd, FnOk P w K mg base CX0 1 (He.ma K (He.ga K "NoStatement") "__init__") fd ["self", "thing"] (spErr (He.ga K "NoStatement")) ∧ L2.Binds K fd ["self", "thing"] [] := by
  obtain ⟨fd, F⟩ := T.f_NoStatement_init
  refine ⟨fd, F.ok sc_NoStatement_init (fun vs H Q E h => ?_) (fun cdv A outer s H vs Q E hr h => ?_), F.bindsN (fun _ _ _ _ _ _ us hl => match us, hl with | [_, _], _ => rfl)⟩
  · obtain ⟨a, v, rfl, _⟩ := h
    rfl
  · obtain ⟨a, v, rfl, ha, k⟩ := h
    suffices hb : ∃ t, PSs (cxOf CX0 P w K mg base N_NoStatement_init "NoStatement.__init__" (defScope s_NoStatement_init) (He.ma K (He.ga K "NoStatement") "__init__") cdv A outer s H E).nox (defBody s_NoStatement_init) t ∧ t { nx := fun _ H' => Q .non H', rt := Q } (start N_NoStatement_init [.ref a, v]) H by
      obtain ⟨t, p, q⟩ := hb
      exact ⟨t, p.nox, q⟩
    refine ⟨_, pss_one (ps_ost (pv 0) (pv 1)), ?_⟩
    exact ⟨_, rfl, _, rfl, a, _, rfl, T.e_NoStatement.oex, T.e_NoStatement.thing, .inl ⟨ha, fun d hd da => k d hd da⟩⟩
end
def spWay : Sp := fun vs H Q _ => vs = [.str "held"] ∧ Q (.str "held") H
/-- a statement of the debate: itself; else NoStatement -/
def spStatement (K : PySem.W.Frag) : Sp := fun vs H Q E => ∃ (x : Addr) (v : V) (sn : List Str) (ps : List (Str × Str)), vs = [.ref x, v] ∧ Deb K H x sn ps ∧ ((∃ s, v = .str s ∧ ∃ c, c = decide (s ∈ sn) ∧ ((c = true → Q v H) ∧ (c = false → ∀ d H', Same H H' → H d = none → H' d = some (.xd [("thing", v)]) → E (.ref (He.ga K "NoStatement")) (some d) H'))) ∨
  (∃ t, Tag t ∧ t ≠ "str" ∧ TyX K H v (.type t) ∧ ∀ d H', Same H H' → H d = none → H' d = some (.xd [("thing", v)]) → E (.ref (He.ga K "NoStatement")) (some d) H'))
def spLots (K : PySem.W.Frag) : Sp := fun vs H Q _ => ∃ (x : Addr) (sn : List Str) (ps : List (Str × Str)), vs = [.ref x, .str "held"] ∧ Deb K H x sn ps ∧
  ∀ H' p zs, Same H H' → Lof H' IsLot p zs → (∀ l, l ∈ zs.map (·.2) ↔ l ∈ subs sn ∧ heldB ps l = true) → zs.length ≤ 1024 → Q (.ref p) H'
def spStands (K : PySem.W.Frag) : Sp := fun vs H Q _ => ∃ (x : Addr) (s : Str) (sn : List Str) (ps : List (Str × Str)), vs = [.ref x, .str "held", .str s, .str "some"] ∧ Deb K H x sn ps ∧ s ∈ sn ∧
  ∀ H', Same H H' → Q (.bl (decide (∃ l ∈ subs sn, heldB ps l = true ∧ s ∈ l))) H'
section
variable {P : Program} {w : World} {K : PySem.W.Frag} {mg : Str → Option Value} {base : Heap}
theorem cl_way (T : Top K mg) : Cl P w K mg base CX0 1 "checked_way" ["way"] spWay := by
  refine Cl.of T.f_checked_way T.g_checked_way sc_checked_way (fun _ _ _ _ _ _ us hl => match us, hl with | [_], _ => rfl) (fun vs H Q E h => ?_) (fun cdv A outer s H vs Q E hr h => ?_)
  · obtain ⟨rfl, _⟩ := h
    rfl
  · obtain ⟨rfl, k⟩ := h
    refine ⟨_, (pss_cons (ps_if (PW.pt (pw_or (pt_not (pt_val (pe_callB (isi_K K) (by rfl) T.z_isinstance (by decide +kernel) (pa_cons (pv 0) (pa_cons (pe_bltn (v := .ty "str") (by rfl) T.z_str (by decide +kernel) rfl) pa_nil))))) (pw_or1 (pt_cmpR (nin_K K) (pv 0) (pe_gc (v := .ref (He.ga K "WAYS")) rfl ⟨_, T.g_WAYS, rfl⟩) rfl))))
    (pss_one ps_never)
    pss_nil)
    (pss_one (ps_ret (pv 0)))), ?_⟩
    refine ⟨_, rfl, _, _, .type "str", .type "str", true, rfl, .ty _, .base (.str _), kit_ty (by decide +kernel), _, rfl, iteB0 rfl ?_⟩
    refine ⟨_, rfl, _, _, rfl, .inr (T.ways H), rfl, by decide +kernel, _, rfl, iteB0 (by decide +kernel) ?_⟩
    exact ⟨_, rfl, k⟩
theorem cl_statement (T : Top K mg) : Cl P w K mg base (L2.CX P w) 3 "checked_statement" ["debate", "statement"] (spStatement K) := by
  obtain ⟨fd_NoStatement, OK_NoStatement, B_NoStatement⟩ := ok_NoStatement (P := P) (w := w) (base := base) T
  refine Cl.ofX T.f_checked_statement T.g_checked_statement sc_checked_statement (fun _ _ _ _ _ _ us hl => match us, hl with | [_, _], _ => rfl) (fun vs H Q E h => ?_) (fun cdv A outer s H vs Q E hr h => ?_)
  · obtain ⟨x, v, sn, ps, rfl, _⟩ := h
    rfl
  · obtain ⟨x, v, sn, ps, rfl, hD, h⟩ := h
    refine ⟨_, (pss_cons (ps_if (PW.pt (pw_or (pt_not (pt_val (pe_callB (isi_K K) (by rfl) T.z_isinstance (by decide +kernel) (pa_cons (pv 1) (pa_cons (pe_bltn (v := .ty "str") (by rfl) T.z_str (by decide +kernel) rfl) pa_nil))))) (pw_or1 (pt_cmp (pc_dnotin (hu_of hr) (pv 1) (fld_K K (pv 0) rfl))))))
    (pss_one (ps_raise rfl (takes_of rfl rfl rfl rfl) (pmk_oex T.e_NoStatement.oex T.e_NoStatement.ini T.e_NoStatement.fn OK_NoStatement (hr.mono (by decide)) B_NoStatement .nil (fun _ _ _ _ _ _ _ h => h.elim) rfl T.g_NoStatement (pa_cons (pv 1) pa_nil))))
    pss_nil)
    (pss_one (ps_ret (pv 1)))), ?_⟩
    rcases h with ⟨s, rfl, c, ec, k1, k0⟩ | ⟨t, tg, ht, ty, k0⟩
    · refine ⟨_, rfl, _, _, .type "str", .type "str", true, rfl, .ty _, .base (.str _), kit_ty (by decide +kernel), _, rfl, iteB0 rfl ?_⟩
      obtain ⟨dx, so, oo, ro, jo, zs, g1, g2, d1, d2, d3, d4, d5, d6, d7, d8⟩ := hD
      refine ⟨_, rfl, _, rfl, x, _, dx, _, _, rfl, d1, T.c_Debate, T.n_own_objectors, rfl, ro, _, rfl, DGet.k (k := .inr s) d5, _, rfl, ?_⟩
      rw [valV_rows]
      by_cases hs : s ∈ sn
      · rw [if_pos hs]
        exact iteF ⟨_, rfl, k1 (by rw [ec, decide_eq_true hs])⟩
      · rw [if_neg hs]
        exact iteT ⟨_, rfl, err_rd (k0 (by rw [ec, decide_eq_false hs]))⟩
    · refine ⟨_, rfl, _, _, .type t, .type "str", false, rfl, .ty _, ty, kit_ty (by rcases tg with rfl | rfl | rfl | rfl | rfl | rfl | rfl <;> first | exact absurd rfl ht | decide +kernel), _, rfl, iteB1 rfl ?_⟩
      exact ⟨_, rfl, err_rd k0⟩
theorem cl_lots (T : Top K mg) : Cl P w K mg base CX0 4 "lots_in" ["debate", "way"] (spLots K) := by
  have C_held_lots := cl_held (P := P) (w := w) (base := base) T
  refine Cl.of T.f_lots_in T.g_lots_in sc_lots_in (fun _ _ _ _ _ _ us hl => match us, hl with | [_, _], _ => rfl) (fun vs H Q E h => ?_) (fun cdv A outer s H vs Q E hr h => ?_)
  · obtain ⟨x, sn, ps, rfl, _⟩ := h
    rfl
  · obtain ⟨x, sn, ps, rfl, hD, k⟩ := h
    refine ⟨_, (pss_cons (ps_if (pt_cmpR op_eq (pv 1) pe_str (nomark _))
    (pss_one (ps_ret pe_never))
    pss_nil)
    (pss_cons (ps_if (pt_cmpR (in_K K) (pv 1) (pe_tup (pa_cons pe_str (pa_cons pe_str pa_nil))) rfl)
    (pss_cons (ps_set (i := 2) sc_lots_in.nd rfl (Or.inl rfl) pe_never)
    (pss_one (ps_ret pe_never)))
    pss_nil)
    (pss_cons (ps_set (i := 2) sc_lots_in.nd rfl (Or.inl rfl) (pe_k C_held_lots hr (by decide) pass0 (pa_cons (pv 0) pa_nil)))
    (pss_cons (ps_if (pt_cmpR op_eq (pv 1) pe_str (nomark _))
    (pss_one (ps_ret pe_never))
    pss_nil)
    (pss_one (ps_ret (pe_ifExp (pt_cmpR op_eq (pv 1) pe_str (nomark _)) pe_never (pv 2)))))))), ?_⟩
    refine ⟨_, rfl, rfl, _, rfl, iteB0 (by decide +kernel) ?_⟩
    refine ⟨_, rfl, le_sl (by show 2 ≤ _; decide), fun t ht => ?_⟩
    refine ⟨t, _, rfl, .inr (SqT.of upd_same), rfl, by decide +kernel, _, rfl, iteB0 (by decide +kernel) ?_⟩
    have s1 : Same H (upd H t (.tup [.str "calm", .str "settled"])) := same_new ht
    refine ⟨_, rfl, x, sn, ps, rfl, hD.same s1, fun H1 p zs s2 hp l1 l2 l3 => ?_⟩
    refine ⟨_, rfl, rfl, _, rfl, iteB0 (by decide +kernel) ?_⟩
    refine ⟨_, rfl, rfl, _, rfl, iteB0 (by decide +kernel) ?_⟩
    exact ⟨_, rfl, k _ p zs (s1.trans s2) l1 l2 l3⟩
theorem cl_stands (T : Top K mg) : Cl P w K mg base (L2.CX P w) 5 "stands" ["debate", "way", "statement", "how"] (spStands K) := by
  have C_checked_way := cl_way (P := P) (w := w) (base := base) T
  have C_checked_statement := cl_statement (P := P) (w := w) (base := base) T
  have C_lots_in := cl_lots (P := P) (w := w) (base := base) T
  refine Cl.ofX T.f_stands T.g_stands sc_stands (fun _ _ _ _ _ _ us hl => match us, hl with | [_, _, _, _], _ => rfl) (fun vs H Q E h => ?_) (fun cdv A outer s H vs Q E hr h => ?_)
  · obtain ⟨x, s, sn, ps, rfl, _⟩ := h
    rfl
  · obtain ⟨x, s0, sn, ps, rfl, hD, hs, k⟩ := h
    refine ⟨_, (pss_cons (ps_asg (pe_tup (pa_cons (pe_k C_checked_way hr (by decide) pass0 (pa_cons (pv 1) pa_nil)) (pa_cons (pe_k C_checked_statement hr (by decide) (passes_call (takes_of rfl rfl rfl rfl) (fun _ _ _ _ h => h)) (pa_cons (pv 0) (pa_cons (pv 2) pa_nil))) pa_nil))) (pgt_K K rfl (pgs_cons (pg_name (i := 4) sc_stands.nd rfl (Or.inl rfl)) (pgs_cons (pg_name (i := 5) sc_stands.nd rfl (Or.inr rfl)) pgs_nil))))
    (pss_cons (ps_if (PW.pt (pw_or (pt_not (pt_val (pe_callB (isi_K K) (by rfl) T.z_isinstance (by decide +kernel) (pa_cons (pv 3) (pa_cons (pe_bltn (v := .ty "str") (by rfl) T.z_str (by decide +kernel) rfl) pa_nil))))) (pw_or1 (pt_cmpR (nin_K K) (pv 3) (pe_tup (pa_cons pe_str (pa_cons pe_str (pa_cons pe_str pa_nil)))) rfl))))
    (pss_one ps_never)
    pss_nil)
    (pss_cons (ps_setLc (i := 6) (own := [("lot", 7)]) (g := gName 7) (tt := tYes) rfl sc_stands.nd rfl rfl (sw_true rfl rfl rfl (by decide +kernel)) (pi_K K (pe_k C_lots_in hr (by decide) pass0 (pa_cons (pv 0) (pa_cons (pv 4) pa_nil)))) (blkOk_by (own := [("lot", 7)]) (N := N_stands) (sc := defScope s_stands) (by decide +kernel)) (fun _ _ _ _ _ => (pg_name (i := 7) sc_stands.nd rfl (Or.inl rfl))) (fun _ _ _ _ _ => pts_nil) (fun _ _ _ _ _ => (pe_cmpR (in_K K) (pv 5) (pv 7) rfl)))
    (pss_one (ps_ret (pe_ifExp (pt_cmpR op_eq (pv 3) pe_str (nomark _)) (pe_callB (any_K K rfl) (by rfl) T.z_any (by decide +kernel) (pa_cons (pv 6) pa_nil)) pe_never)))))), ?_⟩
    refine ⟨_, rfl, rfl, ?_⟩
    refine ⟨_, rfl, _, rfl, x, _, sn, ps, rfl, hD, .inl ⟨s0, rfl, _, rfl, fun _ => ?_, fun z => absurd z (by rw [decide_eq_true hs]; decide)⟩⟩
    refine ⟨le_sl (by show 2 ≤ _; decide), fun t ht => ?_⟩
    have s1 : Same H (upd H t (.tup [.str "held", .str s0])) := same_new ht
    refine ⟨t, _, rfl, SqT.of upd_same, rfl, _, _, rfl, _, _, rfl, rfl, ?_⟩
    refine ⟨_, rfl, _, _, .type "str", .type "str", true, rfl, .ty _, .base (.str _), kit_ty (by decide +kernel), _, rfl, iteB0 rfl ?_⟩
    refine ⟨_, rfl, le_sl (by show 3 ≤ _; decide), fun t2 ht2 => ?_⟩
    refine ⟨t2, _, rfl, .inr (SqT.of upd_same), rfl, by decide +kernel, _, rfl, iteB0 (by decide +kernel) ?_⟩
    have s2 := s1.trans (same_new (o := .tup [.str "some", .str "all", .str "none"]) ht2)
    refine ⟨_, rfl, _, rfl, x, sn, ps, rfl, hD.same s2, fun H1 p zs s3 l1 l2 l3 => ?_⟩
    refine ⟨p, rfl, ⟨_, SqL.of l1.1⟩, fun D hD2 => ?_⟩
    refine lc_map (fun z : V × List Str => z.1) zs (fun z => .bl (decide (s0 ∈ z.2))) (SqL.of l1.1) hD2 (lt_sl (by omega)) (fun z hz H2 k1 s4 kk => ⟨rfl, ?_⟩) fun H2 s4 h2 => ?_
    · obtain ⟨t, et, ht⟩ := l1.2 z hz
      refine ⟨_, rfl, _, rfl, t, _, et, .inl (SqL.of (s4 _ _ ht)), rfl, flat_strs _, kk _ _ (fun _ _ e => e) ?_⟩
      show V.bl (inV (.str s0) (z.2.map V.str)) = _
      rw [inV_str]
    · refine ⟨_, rfl, rfl, _, rfl, iteB1 (by decide +kernel) ?_⟩
      refine ⟨_, rfl, D, zs.map (fun z => decide (s0 ∈ z.2)), rfl, SqL.of (by rw [h2, List.map_map]; rfl), ?_⟩
      have e : (zs.map (fun z => decide (s0 ∈ z.2))).any id = decide (∃ l ∈ subs sn, heldB ps l = true ∧ s0 ∈ l) := by
        rw [Bool.eq_iff_iff, decide_eq_true_iff, List.any_map, List.any_eq_true]
        constructor
        · rintro ⟨z, hz, q⟩
          obtain ⟨q1, q2⟩ := (l2 z.2).mp (List.mem_map_of_mem hz)
          exact ⟨z.2, q1, q2, of_decide_eq_true q⟩
        · rintro ⟨l, q1, q2, q3⟩
          obtain ⟨z, hz, rfl⟩ := List.mem_map.mp ((l2 l).mpr ⟨q1, q2⟩)
          exact ⟨z, hz, decide_eq_true q3⟩
      rw [e]
      exact k _ ((s2.trans s3).trans s4)
end
def overB (ps : List (Str × Str)) (ms : List Str) (p : Str × Str) : Bool := decide (p.2 ∈ ms) && (decide (p.1 ∈ ms) || !decide (p.1 ∈ hits ps ms))
def over (ps : List (Str × Str)) (ms : List Str) : List (Str × Str) := ps.filter (overB ps ms)
def hitQ (ps : List (Str × Str)) (ms : List Str) : List Str := (ps.filter fun p => decide (p.1 ∈ ms)).map (·.2)
theorem hitQ_snoc (ps : List (Str × Str)) (ms : List Str) (p : Str × Str) : hitQ (ps ++ [p]) ms = if p.1 ∈ ms then hitQ ps ms ++ [p.2] else hitQ ps ms := by
  unfold hitQ
  rw [List.filter_append, List.map_append]
  by_cases h : p.1 ∈ ms
  · rw [if_pos h, List.filter_cons_of_pos (by simp [h])]
    rfl
  · rw [if_neg h, List.filter_cons_of_neg (by simp [h])]
    exact List.append_nil _
theorem hitQ_len (ps : List (Str × Str)) (ms : List Str) : (hitQ ps ms).length ≤ ps.length := by
  unfold hitQ
  rw [List.length_map]
  exact List.length_filter_le _ _
theorem mem_hitQ {ps : List (Str × Str)} {ms : List Str} {s : Str} : s ∈ hitQ ps ms ↔ s ∈ hits ps ms := by
  rw [mem_hits]
  unfold hitQ
  rw [List.mem_map]
  constructor
  · rintro ⟨p, hp, rfl⟩
    obtain ⟨h1, h2⟩ := List.mem_filter.mp hp
    exact ⟨p.1, of_decide_eq_true h2, h1⟩
  · rintro ⟨m, hm, hp⟩
    exact ⟨(m, s), List.mem_filter.mpr ⟨hp, decide_eq_true hm⟩, rfl⟩
theorem some_val {ks : List Str} {s : Str} : (valV (dset ks) (.inr s)).isSome = decide (s ∈ ks) := by
  rw [dset_val]
  by_cases h : s ∈ ks
  · rw [if_pos h, decide_eq_true h]; rfl
  · rw [if_neg h, decide_eq_false h]; rfl
def spOver (K : PySem.W.Frag) : Sp := fun vs H Q _ => ∃ (x a : Addr) (sn : List Str) (ps : List (Str × Str)) (ms : List Str), vs = [.ref x, .str "held", .ref a] ∧ Deb K H x sn ps ∧ SqL K H a (ms.map V.str) ∧
  ∀ H' p zs, Same H H' → H p = none → Lof H' IsPair p zs → zs.map (·.2) = over ps ms → Q (.ref p) H'
theorem pt_never {X : Cx} {e : Expr} : L2.PT X e (fun _ _ _ => False) := ⟨fun _ _ _ _ _ _ h => h.elim⟩
section
variable {P : Program} {w : World} {K : PySem.W.Frag} {mg : Str → Option Value} {base : Heap}
theorem cl_over (T : Top K mg) : Cl P w K mg base CX0 1 "overheard_in" ["debate", "way", "members"] (spOver K) := by
  refine Cl.of T.f_overheard_in T.g_overheard_in sc_overheard_in (fun _ _ _ _ _ _ us hl => match us, hl with | [_, _, _], _ => rfl) (fun vs H Q E h => ?_) (fun cdv A outer s H vs Q E hr h => ?_)
  · obtain ⟨x, a, sn, ps, ms, rfl, _⟩ := h
    rfl
  · obtain ⟨x, a, sn, ps, ms, rfl, hD, hM, k⟩ := h
    refine ⟨_, (pss_cons (ps_set (i := 3) sc_overheard_in.nd rfl (Or.inr rfl) (pe_dc (own := [("one", 6), ("other", 7)]) (g := gTup K 2 (gCons (gName 6) (gCons (gName 7) gNil))) rfl sc_overheard_in.nd (pi_K K (fld_K K (pv 0) rfl)) (blkOk_by (own := [("one", 6), ("other", 7)]) (N := N_overheard_in) (sc := defScope s_overheard_in) (by decide +kernel)) (fun _ _ _ _ _ => (pgt_K K rfl (pgs_cons (pg_name (i := 6) sc_overheard_in.nd rfl (Or.inl rfl)) (pgs_cons (pg_name (i := 7) sc_overheard_in.nd rfl (Or.inl rfl)) pgs_nil)))) (fun _ _ _ _ _ => pts_one (pt_cmpR (in_K K) (pv 6) (pv 2) rfl)) (fun _ _ _ _ _ => (pv 7)) (fun _ _ _ _ _ => pe_bl)))
    (pss_cons (ps_setLc (i := 4) (own := [("one", 6)]) (g := gName 6) rfl sc_overheard_in.nd rfl rfl (sw_true rfl rfl rfl (by decide +kernel)) (pi_K K (fld_K K (pv 0) rfl)) (blkOk_by (own := [("one", 6)]) (N := N_overheard_in) (sc := defScope s_overheard_in) (by decide +kernel)) (fun _ _ _ _ _ => (pg_name (i := 6) sc_overheard_in.nd rfl (Or.inl rfl))) (fun _ _ _ _ _ => pts_one (pt_cmpR (nin_K K) (pv 6) (pv 2) rfl)) (fun _ _ _ _ _ => (pv 6)))
    (pss_cons (ps_if (PW.pt (pw_and (pt_cmpR op_eq (pv 1) pe_str (nomark _)) (pw_and1 pt_never)))
    (pss_one (ps_ret pe_non))
    pss_nil)
    (pss_cons (ps_setLc (i := 5) (own := [("pair", 8)]) (g := gName 8) rfl sc_overheard_in.nd rfl rfl (sw_true rfl rfl rfl (by decide +kernel)) (pi_K K (fld_K K (pv 0) rfl)) (blkOk_by (own := [("pair", 8)]) (N := N_overheard_in) (sc := defScope s_overheard_in) (by decide +kernel)) (fun _ _ _ _ _ => (pg_name (i := 8) sc_overheard_in.nd rfl (Or.inl rfl))) (fun _ _ _ _ _ => pts_one (pt_cmpR (in_K K) (pe_ix (ixt_K K) (pv 8) pe_int (fun _ _ => rfl)) (pv 2) rfl)) (fun _ _ _ _ _ => (pv 8)))
    (pss_one (ps_ret (pe_lc (own := [("pair", 8)]) (g := gName 8) rfl sc_overheard_in.nd (pi_K K (pv 5)) (blkOk_by (own := [("pair", 8)]) (N := N_overheard_in) (sc := defScope s_overheard_in) (by decide +kernel)) (fun _ _ _ _ _ => (pg_name (i := 8) sc_overheard_in.nd rfl (Or.inl rfl))) (fun _ _ _ _ _ => pts_one (PW.pt (pw_or (pt_cmpR (in_K K) (pe_ix (ixt_K K) (pv 8) pe_int (fun _ _ => rfl)) (pv 2) rfl) (pw_or1 (PW.pt (pw_and (pt_cmpR op_eq (pv 1) pe_str (nomark _)) (pw_and1 (pt_cmp (pc_dnotin (hu_of hr) (pe_ix (ixt_K K) (pv 8) pe_int (fun _ _ => rfl)) (pv 3)))))))))) (fun _ _ _ _ _ => (pv 8))))))))), ?_⟩
    obtain ⟨dx, so, oo, ro, jo, zs, g1, g2, d1, d2, d3, d4, d5, d6, d7, d8, d9, d10, d11, d12⟩ := hD
    have zl : zs.length ≤ 200 := by
      have e := congrArg List.length d4
      rw [List.length_map] at e
      omega
    -- hit
    refine ⟨_, rfl, x, _, dx, _, _, rfl, d1, T.c_Debate, T.n_own_objections, rfl, oo, rfl, ⟨_, SqL.of d3.1⟩, fun D hDn => ?_⟩
    refine dc_gen (J := Itl K oo) zs.length (fun i H2 => Same H H2 ∧ H2 D = some (.dK (dset (hitQ (ps.take i) ms)))) ⟨same_new hDn, upd_same⟩ (fun i H2 hi h => ?_) (fun H1 h => ?_) ?_
    · exact (walk_list (K := K) (a := oo) (xs := zs.map (·.1))).goes i H2 (by rw [List.length_map]; exact hi) (SqL.of (h.1 _ _ d3.1))
    · obtain ⟨s1, h1⟩ := h
      have st := (walk_list (K := K) (a := oo) (xs := zs.map (·.1))).stops H1 (SqL.of (s1 _ _ d3.1))
      rw [List.length_map] at st
      refine ⟨st, ?_⟩
      rw [show zs.length = ps.length by rw [← d4, List.length_map], List.take_length] at h1
      -- outside
      refine ⟨_, rfl, x, _, dx, _, _, rfl, s1 _ _ d1, T.c_Debate, T.n_own_statements, rfl, so, rfl, ⟨_, SqL.of (s1 _ _ d2)⟩, fun D2 hD2 => ?_⟩
      refine lc_fm V.str sn (fun s => if s ∈ ms then none else some (.str s)) (SqL.of (s1 _ _ d2)) hD2 (lt_sl (by omega)) (fun s hs H2 k1 k0 s2 kk kn => ?_) fun H2 s2 h2 => ?_
      · refine ⟨rfl, _, rfl, _, rfl, a, _, rfl, .inl ((s1.trans s2).seq hM), rfl, flat_strs _, _, rfl, ?_⟩
        have e : (if true = true then !inV (.str s) (ms.map V.str) else inV (.str s) (ms.map V.str)) = !decide (s ∈ ms) := by rw [if_pos rfl, inV_str]
        by_cases q : s ∈ ms
        · exact iteB0 (by rw [e, decide_eq_true q]; rfl) (kn _ (fun _ _ e => e) (if_pos q))
        · exact iteB1 (by rw [e, decide_eq_false q]; rfl) ⟨_, rfl, kk _ _ (fun _ _ e => e) (if_neg q)⟩
      · -- way == 'settled'
        refine ⟨_, rfl, rfl, _, rfl, iteB0 (by decide +kernel) (iteF ?_)⟩
        -- pairs
        have s02 := s1.trans s2
        refine ⟨_, rfl, x, _, dx, _, _, rfl, s02 _ _ d1, T.c_Debate, T.n_own_objections, rfl, oo, rfl, ⟨_, SqL.of (s02 _ _ d3.1)⟩, fun D3 hD3 => ?_⟩
        refine lc_fm (fun z : V × (Str × Str) => z.1) zs (fun z => if decide (z.2.2 ∈ ms) = true then some z.1 else none) (SqL.of (s02 _ _ d3.1)) hD3 (lt_sl (by omega)) (fun z hz H3 k1 k0 s3 kk kn => ?_) fun H3 s3 h3 => ?_
        · obtain ⟨t, et, ht⟩ := d3.2 z hz
          refine ⟨rfl, _, rfl, t, _, 1, .str z.2.2, et, rfl, SqT.of (s3 _ _ (s02 _ _ ht)), atI_nat (j := 1) rfl, _, rfl, a, _, rfl, .inl ((s02.trans s3).seq hM), rfl, flat_strs _, _, rfl, ?_⟩
          have e : (if false = true then !inV (.str z.2.2) (ms.map V.str) else inV (.str z.2.2) (ms.map V.str)) = decide (z.2.2 ∈ ms) := by rw [if_neg Bool.false_ne_true, inV_str]
          by_cases q : z.2.2 ∈ ms
          · exact iteB1 (by rw [e, decide_eq_true q]) ⟨_, rfl, kk _ _ (fun _ _ e => e) (if_pos (decide_eq_true q))⟩
          · exact iteB0 (by rw [e, decide_eq_false q]) (kn _ (fun _ _ e => e) (if_neg (by rw [decide_eq_false q]; decide)))
        · rw [fmIf (fun z : V × (Str × Str) => decide (z.2.2 ∈ ms)) (fun z => z.1)] at h3
          have s03 := s02.trans s3
          refine ⟨_, rfl, D3, rfl, ⟨_, SqL.of h3⟩, fun D4 hD4 => ?_⟩
          refine lc_fm (fun z : V × (Str × Str) => z.1) (zs.filter fun z => decide (z.2.2 ∈ ms)) (fun z => if (decide (z.2.1 ∈ ms) || !decide (z.2.1 ∈ hits ps ms)) = true then some z.1 else none) (SqL.of h3) hD4 (lt_sl (by have := List.length_filter_le (fun z : V × (Str × Str) => decide (z.2.2 ∈ ms)) zs; omega)) (fun z hz H4 k1 k0 s4 kk kn => ?_) fun H4 s4 h4 => ?_
          · obtain ⟨t, et, ht⟩ := d3.2 z (List.mem_filter.mp hz).1
            refine ⟨rfl, _, rfl, t, _, 0, .str z.2.1, et, rfl, SqT.of (s4 _ _ (s03 _ _ ht)), atI_nat (j := 0) rfl, _, rfl, a, _, rfl, .inl ((s03.trans s4).seq hM), rfl, flat_strs _, _, rfl, ?_⟩
            have e : (if false = true then !inV (.str z.2.1) (ms.map V.str) else inV (.str z.2.1) (ms.map V.str)) = decide (z.2.1 ∈ ms) := by rw [if_neg Bool.false_ne_true, inV_str]
            by_cases q : z.2.1 ∈ ms
            · exact iteB1 (by rw [e, decide_eq_true q]) ⟨_, rfl, kk _ _ (fun _ _ e => e) (if_pos (by rw [decide_eq_true q]; rfl))⟩
            · refine iteB0 (by rw [e, decide_eq_false q]) ?_
              refine ⟨_, rfl, rfl, _, rfl, iteB1 (by decide +kernel) ?_⟩
              refine ⟨_, rfl, t, _, 0, .str z.2.1, et, rfl, SqT.of (s4 _ _ (s03 _ _ ht)), atI_nat (j := 0) rfl, _, rfl, D, _, rfl, DGet.k (k := .inr z.2.1) (s4 _ _ (s3 _ _ (s2 _ _ h1))), _, rfl, ?_⟩
              rw [some_val]
              by_cases q2 : z.2.1 ∈ hits ps ms
              · exact iteB0 (nT (mem_hitQ.mpr q2)) (kn _ (fun _ _ e => e) (if_neg (by rw [decide_eq_false q, decide_eq_true q2]; decide)))
              · exact iteB1 (nF fun z => q2 (mem_hitQ.mp z)) ⟨_, rfl, kk _ _ (fun _ _ e => e) (if_pos (by rw [decide_eq_false q, decide_eq_false q2]; rfl))⟩
          · rw [fmIf (fun z : V × (Str × Str) => decide (z.2.1 ∈ ms) || !decide (z.2.1 ∈ hits ps ms)) (fun z => z.1), List.filter_filter] at h4
            refine k H4 D4 (zs.filter fun z => overB ps ms z.2) (s03.trans s4) (s03.free hD4) ⟨?_, fun z hz => (d3.2 z (List.mem_filter.mp hz).1).same (s03.trans s4)⟩ ?_
            · rw [h4]
              refine congrArg (fun l : List (V × (Str × Str)) => some (HO.lst (l.map (fun z => z.1)))) (List.filter_congr fun z _ => ?_)
              exact Bool.and_comm _ _
            · unfold over
              rw [← d4, List.filter_map]
              rfl
    · rintro i H2 v H3 hi ⟨s2, h2⟩ y
      obtain ⟨rfl, hv⟩ := (walk_list (K := K) (a := oo) (xs := zs.map (·.1))).yields i H2 v H3 (by rw [List.length_map]; exact hi) (SqL.of (s2 _ _ d3.1)) y
      obtain ⟨z, hz, rfl⟩ := get_map hv
      obtain ⟨t, et, ht⟩ := d3.2 z (List.mem_of_getElem? hz)
      have ep : ps[i]? = some z.2 := by rw [← d4, List.getElem?_map, hz]; rfl
      refine ⟨t, _, et, SqT.of (s2 _ _ ht), rfl, _, _, rfl, _, _, rfl, rfl, rfl, _, rfl, _, rfl, a, _, rfl, .inl (s2.seq hM), rfl, flat_strs _, _, rfl, ?_⟩
      have e : (if false = true then !inV (.str z.2.1) (ms.map V.str) else inV (.str z.2.1) (ms.map V.str)) = decide (z.2.1 ∈ ms) := by rw [if_neg Bool.false_ne_true, inV_str]
      by_cases q : z.2.1 ∈ ms
      · refine iteB1 (by rw [e, decide_eq_true q]) ⟨_, rfl, _, .inr z.2.2, rfl, h2, ?_, same_upd s2 hDn, ?_⟩
        · have b1 := dset_len (hitQ (ps.take i) ms) []
          have b2 := hitQ_len (ps.take i) ms
          rw [List.length_take] at b2
          rw [List.length_nil] at b1
          exact Nat.lt_of_le_of_lt b1 (lt_sl (by omega))
        · rw [upd_same, take_snoc ep, hitQ_snoc, if_pos q, dset_snoc]
      · refine iteB0 (by rw [e, decide_eq_false q]) ⟨s2, ?_⟩
        rw [take_snoc ep, hitQ_snoc, if_neg q]
        exact h2
end
/-- all lots, in the order of their texts -/
def lotsOf (sn : List Str) : List (List Str) := (subs sn).mergeSort (PySem.W.dataLe false enL)
theorem sortBy_snd {α : Type} (en : α → PyData) (zs : List (V × α)) : (sortBy en zs).map (·.2) = (zs.map (·.2)).mergeSort (PySem.W.dataLe false en) := List.map_mergeSort fun _ _ _ _ => rfl
theorem lotsOf_perm (sn : List Str) : (lotsOf sn).Perm (subs sn) := List.mergeSort_perm _ _
def price (ps : List (Str × Str)) (f : Str × Str → Int) (l : List Str) : Int := ((over ps l).map f).sum
def NewPrice (H H' : Hp) (v : V) (q : Int × List Str) : Prop := ∃ t l, v = .ref t ∧ H t = none ∧ H l = none ∧ H' t = some (.tup [.int q.1, .ref l]) ∧ H' l = some (.lst (q.2.map V.str))
theorem NewPrice.same {H H1 H2 : Hp} {v : V} {q : Int × List Str} (e : Same H1 H2) (h : NewPrice H H1 v q) : NewPrice H H2 v q := by
  obtain ⟨t, l, a, b, c, d, f⟩ := h
  exact ⟨t, l, a, b, c, e _ _ d, e _ _ f⟩
/-- weights for these pairs -/
def Wt (H : Hp) (wa : Addr) (ps : List (Str × Str)) (f : Str × Str → Int) : Prop := ∃ kvs, H wa = some (.dT kvs) ∧ ∀ p ∈ ps, valV kvs (kP p) = some (.int (f p))
theorem Wt.same {H H' : Hp} {wa : Addr} {ps : List (Str × Str)} {f : Str × Str → Int} (e : Same H H') (h : Wt H wa ps f) : Wt H' wa ps f := by
  obtain ⟨kvs, a, b⟩ := h
  exact ⟨kvs, e _ _ a, b⟩
abbrev pricesOf (sn : List Str) (ps : List (Str × Str)) (f : Str × Str → Int) : List (Int × List Str) := (lotsOf sn).map fun l => (price ps f l, l)
def spPrices (K : PySem.W.Frag) : Sp := fun vs H Q _ => ∃ (x wa : Addr) (sn : List Str) (ps : List (Str × Str)) (f : Str × Str → Int), vs = [.ref x, .ref wa] ∧ Deb K H x sn ps ∧ Wt H wa ps f ∧
  ∀ (H' : Hp) (p : Addr) (zs : List (V × (Int × List Str))), Same H H' → H p = none → H' p = some (.lst (zs.map (·.1))) → zs.map (·.2) = pricesOf sn ps f → (∀ z ∈ zs, NewPrice H H' z.1 z.2) → Q (.ref p) H'
section
variable {P : Program} {w : World} {K : PySem.W.Frag} {mg : Str → Option Value} {base : Heap}
theorem cl_prices (T : Top K mg) : Cl P w K mg base CX0 2 "all_prices" ["debate", "weights"] (spPrices K) := by
  have C_all_parts := cl_all_parts (P := P) (w := w) (base := base) T
  have C_overheard_in := cl_over (P := P) (w := w) (base := base) T
  refine Cl.of T.f_all_prices T.g_all_prices sc_all_prices (fun _ _ _ _ _ _ us hl => match us, hl with | [_, _], _ => rfl) (fun vs H Q E h => ?_) (fun cdv A outer s H vs Q E hr h => ?_)
  · obtain ⟨x, wa, sn, ps, f, rfl, _⟩ := h
    rfl
  · obtain ⟨x, wa, sn, ps, f, rfl, hD, hW, k⟩ := h
    refine ⟨_, (pss_cons (ps_set (i := 2) sc_all_prices.nd rfl (Or.inl rfl) (pe_lst pa_nil))
    (pss_cons (ps_for PassesOwn.never rfl (pi_K K (pe_callB (cr_sortedD enL (hu65 hr)) (by rfl) T.z_sorted (by decide +kernel) (pa_cons (pe_k C_all_parts hr (by decide) pass0 (pa_cons (fld_K K (pv 0) rfl) pa_nil)) pa_nil))) (pg_name (i := 3) sc_all_prices.nd rfl (Or.inl rfl))
    (pss_one (ps_expr (bm_K K PySem.F.plainAttrs_list PySem.F.slot_list_append PySem.F.type_list_append mt_append (pv 2) (pa_cons (pe_tup (pa_cons (pe_callB (sum_K K rfl) (by rfl) T.z_sum (by decide +kernel) (pa_cons (pe_lc (own := [("pair", 4)]) (g := gName 4) (tt := tYes) rfl sc_all_prices.nd (pi_K K (pe_k C_overheard_in hr (by decide) pass0 (pa_cons (pv 0) (pa_cons pe_str (pa_cons (pv 3) pa_nil))))) (blkOk_by (own := [("pair", 4)]) (N := N_all_prices) (sc := defScope s_all_prices) (by decide +kernel)) (fun _ _ _ _ _ => (pg_name (i := 4) sc_all_prices.nd rfl (Or.inl rfl))) (fun _ _ _ _ _ => pts_nil) (fun _ _ _ _ _ => (pe_dget (hu_of hr) (pv 1) (pv 4) (fun _ _ => rfl)))) pa_nil)) (pa_cons (pv 3) pa_nil))) pa_nil)))))
    (pss_one (ps_ret (pv 2))))), ?_⟩
    have hD0 := hD
    obtain ⟨dx, so, oo, ro, jo, zs0, g1, g2, d1, d2, d3, d4, d5, d6, d7, d8, d9, d10, d11, d12⟩ := hD
    refine ⟨le_sl (Nat.zero_le _), fun p hp => ?_⟩
    have s0 : Same H (upd H p (.lst [])) := same_new hp
    refine ⟨_, rfl, x, _, dx, _, _, rfl, s0 _ _ d1, T.c_Debate, T.n_own_statements, rfl, so, sn, rfl, SqL.of (s0 _ _ d2), d9, fun H1 q zs s1 hq h1 e1 n1 => ?_⟩
    refine ⟨q, zs, rfl, SqL.of h1, fun z hz => dp_lot (n1 z hz).is, alikeL _, sortL _, (fun z _ => by rw [depthL]; decide), fun q2 hq2 => ?_⟩
    -- the lots' own heap, found aside
    have s01 := s0.trans s1
    have np : ∀ z ∈ zs, ∃ t, z.1 = .ref t ∧ H t = none ∧ t ≠ p ∧ H1 t = some (.lst (z.2.map V.str)) := fun z hz => by
      obtain ⟨t, a1, a2, _, a4⟩ := n1 z hz
      have tp : t ≠ p := (ne_of_none upd_same a2).symm
      rw [upd_ne tp] at a2
      exact ⟨t, a1, a2, tp, a4⟩
    have p1 : H1 p = some (.lst []) := s1 _ _ upd_same
    have pq2 : q2 ≠ p := (ne_of_none p1 hq2).symm
    have s2 : Same H1 (upd H1 q2 (.lst ((sortBy enL zs).map (·.1)))) := same_new hq2
    have tB : Same H (hid1 p (upd H1 q2 (.lst ((sortBy enL zs).map (·.1))))) := hid1_of hp (s01.trans s2)
    have Bq : hid1 p (upd H1 q2 (.lst ((sortBy enL zs).map (·.1)))) q2 = some (.lst ((sortBy enL zs).map (·.1))) := by rw [hid1_ne pq2, upd_same]
    have Bz : ∀ z ∈ sortBy enL zs, ∃ t, z.1 = .ref t ∧ H t = none ∧ t ≠ p ∧ hid1 p (upd H1 q2 (.lst ((sortBy enL zs).map (·.1)))) t = some (.lst (z.2.map V.str)) := fun z hz => by
      obtain ⟨t, a1, a2, a3, a4⟩ := np z (sortBy_mem.mp hz)
      exact ⟨t, a1, a2, a3, by rw [hid1_ne a3]; exact s2 _ _ a4⟩
    have BH : ∀ o, Same (hid1 p (upd H1 q2 (.lst ((sortBy enL zs).map (·.1))))) (upd (upd H1 q2 (.lst ((sortBy enL zs).map (·.1)))) p o) := fun o => same_upd (hid1_le _ _) (hid1_at _ _)
    have B0 : Same (hid1 p (upd H1 q2 (.lst ((sortBy enL zs).map (·.1))))) (upd H1 q2 (.lst ((sortBy enL zs).map (·.1)))) := hid1_le _ _
    have eL : (sortBy enL zs).map (·.2) = lotsOf sn := by rw [sortBy_snd, e1]; rfl
    have zl : (sortBy enL zs).length ≤ 1024 := by
      rw [List.length_mergeSort, ← List.length_map (f := (·.2)), e1, subs_len]
      exact pow_le (m := 10) d9
    have p2 : upd H1 q2 (.lst ((sortBy enL zs).map (·.1))) p = some (.lst []) := s2 _ _ p1
    generalize hBB : hid1 p (upd H1 q2 (.lst ((sortBy enL zs).map (·.1)))) = B at tB Bq Bz BH B0
    generalize hHH : upd H1 q2 (.lst ((sortBy enL zs).map (·.1))) = H2 at B0 p2
    refine ⟨q2, rfl, ⟨_, SqL.of (B0 _ _ Bq)⟩, ?_⟩
    have Bp : B p = none := by rw [← hBB]; exact hid1_at _ _
    refine for_it walk_list (fun i σ H3 => Same B H3 ∧ (∃ acc : List (V × (Int × List Str)), H3 p = some (.lst (acc.map (·.1))) ∧ acc.map (·.2) = ((lotsOf sn).take i).map (fun l => (price ps f l, l)) ∧ ∀ z ∈ acc, NewPrice H (hid1 p H3) z.1 z.2) ∧ ∃ u, σ = [some (.ref x), some (.ref wa), some (.ref p), u, none])
      ⟨B0, ⟨[], p2, rfl, fun z hz => nomatch hz⟩, _, rfl⟩ (fun i σ H3 _ h => SqL.of (h.1 _ _ Bq)) ?_ ?_
    · rintro i v0 σ H3 H4 hi ⟨s3, ⟨acc, h3, e3, n3⟩, u, rfl⟩ ⟨rfl, hv⟩
      obtain ⟨z, hz, rfl⟩ := get_map hv
      obtain ⟨t, et, ht, htp, hBt⟩ := Bz z (List.mem_of_getElem? hz)
      have el : (lotsOf sn)[i]? = some z.2 := by rw [← eL, List.getElem?_map, hz]; rfl
      have s03 := tB.trans s3
      have il := get_lt hz
      refine ⟨_, rfl, .inl ⟨rfl, _, SqL.of h3⟩, _, rfl, _, rfl, x, t, sn, ps, z.2, by rw [← et], hD0.same s03, SqL.of (s3 _ _ hBt), fun H5 o ys s5 ho l5 e5 => ?_⟩
      refine ⟨o, rfl, ⟨_, SqL.of l5.1⟩, fun D hDn => ?_⟩
      have ysl : ys.length ≤ 200 := by
        have q := congrArg List.length e5
        rw [List.length_map] at q
        have q2 := List.length_filter_le (overB ps z.2) ps
        have : (over ps z.2).length = (ps.filter (overB ps z.2)).length := rfl
        omega
      refine lc_map (fun y : V × (Str × Str) => y.1) ys (fun y => .int (f y.2)) (SqL.of l5.1) hDn (lt_sl (by omega)) (fun y hy H6 k1 s6 kk => ⟨rfl, ?_⟩) fun H6 s6 h6 => ?_
      · obtain ⟨b, eb, hb⟩ := l5.2 y hy
        obtain ⟨kvs, w1, w2⟩ := hW.same (s03.trans (s5.trans s6))
        have hm : y.2 ∈ ps := (List.mem_filter.mp (by rw [show List.filter (overB ps z.2) ps = over ps z.2 from rfl, ← e5]; exact List.mem_map_of_mem hy)).1
        refine ⟨_, rfl, _, rfl, wa, .int (f y.2), rfl, ?_, kk _ _ (fun _ _ e => e) rfl⟩
        show DGet H6 wa y.1 _
        rw [eb]
        exact dget_t (k := kP y.2) w1 (s6 _ _ hb) (w2 _ hm)
      · refine ⟨D, ys.map (fun y => f y.2), rfl, SqL.of (by rw [h6, List.map_map]; rfl), ?_⟩
        have es : (ys.map (fun y => f y.2)).sum = price ps f z.2 := by
          unfold price
          rw [← e5, List.map_map]
          rfl
        rw [es]
        refine ⟨_, rfl, le_sl (by show 2 ≤ _; decide), fun r hr' => ?_⟩
        have s56 := s5.trans s6
        have s47 := s56.trans (same_new (o := .tup [.int (price ps f z.2), z.1]) hr')
        have p7 := s47 _ _ h3
        have hrH : H r = none := s03.free (s56.free hr')
        have rp : r ≠ p := (ne_of_none (s56 _ _ h3) hr').symm
        have al : acc.length = i := by
          have q := congrArg List.length e3
          rw [List.length_map, List.length_map, List.length_take] at q
          have := get_lt el
          omega
        refine ⟨p, _, _, rfl, rfl, p7, by rw [List.length_map]; exact lt_sl (by omega), same_upd (s3.trans s47) Bp, ⟨acc ++ [(.ref r, (price ps f z.2, z.2))], ?_, ?_, fun y hy => ?_⟩, _, rfl⟩
        · rw [upd_same, List.map_append]
          rfl
        · rw [List.map_append, e3, take_snoc el, List.map_append]
          rfl
        · have hh : ∀ a o, a ≠ p → (upd H6 r (.tup [.int (price ps f z.2), z.1])) a = some o → hid1 p (upd (upd H6 r (.tup [.int (price ps f z.2), z.1])) p (.lst (acc.map (·.1) ++ [.ref r]))) a = some o := fun a o na e => by
            rw [hid1_ne na, upd_ne na]
            exact e
          rcases List.mem_append.mp hy with hy | hy
          · obtain ⟨t', l', a1, a2, a3, a4, a5⟩ := n3 y hy
            have x1 : t' ≠ p := fun z => by rw [z, hid1_at] at a4; cases a4
            have x2 : l' ≠ p := fun z => by rw [z, hid1_at] at a5; cases a5
            rw [hid1_ne x1] at a4
            rw [hid1_ne x2] at a5
            exact ⟨t', l', a1, a2, a3, hh _ _ x1 (s47 _ _ a4), hh _ _ x2 (s47 _ _ a5)⟩
          · rw [List.mem_singleton.mp hy]
            refine ⟨r, t, rfl, hrH, ht, hh _ _ rp ?_, hh _ _ htp (s47 _ _ (s3 _ _ hBt))⟩
            rw [upd_same, et]
    · rintro σ H3 ⟨s3, ⟨acc, h3, e3, n3⟩, u, rfl⟩
      rw [List.length_map, ← List.length_map (f := (·.2)), eL, List.take_length] at e3
      refine ⟨_, rfl, k H3 p acc (tB.trans s3) hp h3 e3 fun z hz => ?_⟩
      exact (n3 z hz).same (hid1_le _ _)
end
/-! ### a tuple looked up among keys that are numbers and texts: never there -/
/-- a key that is no object -/
def flatKey (v : Value) : Prop := ∃ k : L2.Key, keyIs k v = true
section
variable {prog : Program} {w : World} {A : Around} {E : Value → Shared → Prop} {s : Shared}
theorem quiet_flat {v : Value} {Q : Bool → Shared → Prop} (h : flatKey v) (q : Q true s) : wpAny (model prog w) A (eqIsQuiet 8 v) Q E s := by
  obtain ⟨k, hk⟩ := h
  rcases keyIs_shape hk with ⟨i, t, _, rfl⟩ | ⟨x, t, _, rfl⟩
  · unfold eqIsQuiet
    exact wpAny_pure q
  · unfold eqIsQuiet
    exact wpAny_pure q
theorem mayTell_flat {a : Addr} {k : List L2.Key} {stored : List Value} {Q : Bool → Shared → Prop} (hkey : (tupleKind (mixKind prog w)).is s.heap k a) (hst : ∀ v ∈ stored, flatKey v) (q : Q false s) :
    wpAny (model prog w) A (tableMayTell (.ref a) stored) Q E s := by
  unfold tableMayTell
  split
  · exact wpAny_pure q
  · refine wpAny_bind ((tupleKind (mixKind prog w)).quiet hkey ?_)
    rw [if_neg (by simp)]
    refine wpAny_bind ?_
    refine wpAny_forIn_list _ (fun rest r s' => s' = s ∧ r = (none, ()) ∧ ∀ v ∈ rest, flatKey v) _ ?_ ?_ _ _ ⟨rfl, rfl, hst⟩
    · rintro x rest r s' ⟨rfl, rfl, hr⟩
      refine wpAny_bind (quiet_flat (hr x List.mem_cons_self) ?_)
      simp only [Bool.not_true, Bool.false_eq_true, if_false]
      exact wpAny_pure ⟨rfl, rfl, fun v hv => hr v (List.mem_cons_of_mem _ hv)⟩
    · rintro r s' ⟨rfl, rfl, _⟩
      exact wpAny_pure q
theorem eq_flat {v : Value} {a : Addr} {k : List L2.Key} {Q : Bool → Shared → Prop} (hu : A.units < cLine) (h : flatKey v) (hkey : (tupleKind (mixKind prog w)).is s.heap k a) (q : Q false s) : wpAny (model prog w) A (eqBool v (.ref a)) Q E s := by
  obtain ⟨o, its, n, h1, h2, h3, _⟩ := hkey
  have ht : s.heap.IsTuple a its := ⟨o, h1, h2, n, h3⟩
  obtain ⟨j, hj⟩ := h
  rcases keyIs_shape hj with ⟨i, t, _, rfl⟩ | ⟨x, t, _, rfl⟩
  · exact SeqAt.EqAt.int_tuple i t ht hu _ _ _ _ q
  · exact SeqAt.EqAt.str_tuple x t ht hu _ _ _ _ q
theorem find_flat {d a : Addr} {o : Obj} {es : Array DictEntry} {ep : Nat} {k : List L2.Key} {Q : Option Nat → Shared → Prop} (hu : A.units < cLine) (hkey : (tupleKind (mixKind prog w)).is s.heap k a)
    (ho : s.heap.get? d = some o) (hd : o.data = .dict es ep) (he : ∀ e ∈ es, flatKey e.key) (h : Q none s) : wpAny (model prog w) A (dictFind d (.ref a) ((tupleKind (mixKind prog w)).hash k)) Q E s := by
  have nref : ∀ v b, flatKey v → v ≠ .ref b := fun v b ⟨j, hj⟩ e => by
    rcases keyIs_shape hj with ⟨i, t, _, rfl⟩ | ⟨x, t, _, rfl⟩ <;> cases e
  have hany : ¬ (es.any fun e => e.key == Value.ref a && e.hash != (tupleKind (mixKind prog w)).hash k) = true := by
    rw [← Array.any_toList, List.any_eq_true]
    rintro ⟨e, hin, hc⟩
    simp only [Bool.and_eq_true, beq_iff_eq] at hc
    exact nref _ _ (he e (Array.mem_toList_iff.mp hin)) hc.1
  have hst : ∀ v ∈ (placesWithHash es.size (fun i => es[i]?.map (·.hash)) ((tupleKind (mixKind prog w)).hash k)).filterMap (fun i => es[i]?.map (·.key)), flatKey v := by
    intro v hv
    obtain ⟨i, _, hi⟩ := List.mem_filterMap.mp hv
    cases hei : es[i]? with
    | none => rw [hei] at hi; cases hi
    | some e =>
      rw [hei] at hi
      obtain rfl : e.key = v := by simpa using hi
      exact he e (Array.mem_of_getElem? hei)
  unfold dictFind
  try with_reducible refine wpAny_holding ?_
  refine wpAny_bind (wpAny_dictEntries ho hd ?_)
  dsimp only
  rw [if_neg (show ¬ ((Value.ref a :: (placesWithHash es.size (fun i => es[i]?.map (·.hash)) ((tupleKind (mixKind prog w)).hash k)).filterMap (fun i => es[i]?.map (·.key))).all carriedByValue) = true by simp [carriedByValue])]
  rw [if_neg hany]
  by_cases hone : (((placesWithHash es.size (fun i => es[i]?.map (·.hash)) ((tupleKind (mixKind prog w)).hash k)).filterMap (fun i => es[i]?.map (·.key))) == [Value.ref a]) = true <;>
  (first | rw [if_pos hone] | rw [if_neg hone]) <;> (first | refine wpAny_bind (wpAny_pure ?_) | refine wpAny_bind (mayTell_flat hkey hst ?_)) <;> (
    rw [if_neg (by simp)]
    refine wpAny_bind ?_
    refine wpAny_forIn_list _ (fun rest b s' => s' = s ∧ b = (none, none)) _ ?_ ?_ _ _ ⟨rfl, rfl⟩
    · rintro x rest b s' ⟨rfl, rfl⟩
      cases hex : es[x]? with
      | none =>
        dsimp only
        exact wpAny_pure ⟨rfl, rfl⟩
      | some e =>
        dsimp only
        by_cases hh : (e.hash == (tupleKind (mixKind prog w)).hash k) = true
        · rw [if_pos hh]
          refine wpAny_bind (wpAny_dictEpoch ho hd (wpAny_bind (eq_flat hu (he e (Array.mem_of_getElem? hex)) hkey (wpAny_bind (wpAny_dictEpoch ho hd ?_)))))
          show wpAny _ _ (if (ep != ep) = true then _ else _) _ E _
          rw [if_neg (by simp)]
          simp only [Bool.false_eq_true, if_false]
          refine wpAny_bind (wpAny_rule ?_)
          first | rw [if_neg (by simp)] | skip
          first
            | exact wpAny_pure ⟨rfl, rfl⟩
            | exact wpAny_bind (wpAny_pure (wpAny_pure ⟨rfl, rfl⟩))
        · rw [if_neg hh]
          exact wpAny_pure ⟨rfl, rfl⟩
    · rintro b s' ⟨rfl, rfl⟩
      exact wpAny_pure h)
theorem get_flat {d a : Addr} {o : Obj} {es : Array DictEntry} {ep : Nat} {k : List L2.Key} {Q : Option Value → Shared → Prop} (hu : A.units + 1 < cLine) (hkey : (tupleKind (mixKind prog w)).is s.heap k a)
    (ho : s.heap.get? d = some o) (hd : o.data = .dict es ep) (he : ∀ e ∈ es, flatKey e.key) (h : ∀ t, Q none { s with toks := t }) : wpAny (model prog w) A (dictGet d (.ref a)) Q E s := by
  unfold dictGet
  try with_reducible refine wpAny_holding ?_
  exact wpAny_bind ((tupleKind (mixKind prog w)).pyHash (by show A.units < cLine; omega) hkey (wpAny_bind (find_flat (s := { s with toks := s.toks + (tupleKind (mixKind prog w)).draws k }) (by omega) hkey ho hd he (wpAny_pure (h _)))))
theorem has_flat {d a : Addr} {o : Obj} {es : Array DictEntry} {ep : Nat} {k : List L2.Key} {Q : Bool → Shared → Prop} (hu : A.units + 2 < cLine) (hkey : (tupleKind (mixKind prog w)).is s.heap k a)
    (ho : s.heap.get? d = some o) (hc : o.ExactDict) (hd : o.data = .dict es ep) (hm : (d == sysModules) = false) (he : ∀ e ∈ es, flatKey e.key) (h : ∀ t, Q false { s with toks := t }) : wpAny (model prog w) A (contains (.ref d) (.ref a)) Q E s := by
  have hT : s.TypeIs (.ref d) "dict" := ⟨o, ho, hc.1⟩
  unfold contains
  try with_reducible refine wpAny_holding ?_
  refine wpAny_bind (wpAny_specialOf hT slot_dict_contains.lookup ?_)
  show wpAny _ _ (if (some (Value.builtin "dict.__contains__") == some Value.none) = true then _ else _) _ E s
  rw [if_neg (by rw [beq_builtin_none]; exact Bool.false_ne_true)]
  refine wpAny_bind (wpAny_callSpecialUnlessNone?_slot (name := Str.ofString "__contains__") hT slot_dict_contains
    (wpAny_call_entry slot_dict_contains hT entry_dict_contains ?_ (args_dict_contains _ _)))
  show wpAny _ _ (dictGet d (.ref a) >>= _) _ _ s
  refine wpAny_bind (get_flat (A := A.in1) (by show A.units + 1 + 1 < cLine; omega) hkey ho hd he fun t => ?_)
  show wpAny _ _ (Builtin.Dict.pendingKey? d (.ref a) >>= _) _ _ _
  exact wpAny_bind (wpAny_pendingKey_other hm (wpAny_pure ⟨_, rfl, wpAny_truthy_bool (h t)⟩))
end
section
variable {X : Cx} {i o : Expr} {ty td : TE}
/-- the dict's keys as Values -/
theorem dk_flat {pins : List (Addr × Obj)} {σ : L2.St} {H : Hp} {s : Shared} {d : Addr} {kvs : List (L2.Key × V)} (I : Inv X pins σ H s) (e : H d = some (.dK kvs)) :
    (d == sysModules) = false ∧ ∃ o es ep, s.heap.get? d = some o ∧ o.ExactDict ∧ o.data = .dict es ep ∧ ∀ e ∈ es, flatKey e.key := by
  obtain ⟨_, hm, vs, _, dd⟩ := dk_of I.hok e
  obtain ⟨o, es, ep, ho, hx, hdt, hk, _, _⟩ := dd
  refine ⟨hm, o, es, ep, ho, hx, hdt, fun e he => ?_⟩
  obtain ⟨k, h1, _⟩ := hk e he
  exact ⟨k, h1⟩
def tInF (ty td : TE) (neg : Bool) : TE := fun σ H Q => ty σ H fun y H1 => td σ H1 fun x H2 => ∃ (a b : Addr) (kvs : List (L2.Key × V)) (k : List L2.Key), x = .ref a ∧ y = .ref b ∧ H2 a = some (.dK kvs) ∧ H2 b = some (.tup (k.map kV)) ∧ Q (.bl neg) H2
theorem pc_inF (hu : X.A.units + 2 < cLine) (hi : PE X i ty) (ho : PE X o td) : PC X .In i o (tInF ty td false) := by
  refine ⟨fun pins s σ H Q I h => ?_⟩
  refine thn (hi.run pins s σ H _ I h) fun iv s1 ⟨y, H1, I1, ry, q1⟩ => thn (ho.run pins s1 σ H1 _ I1 q1) fun u s2 ⟨x, H2, I2, rx, a, b, kvs, k, ex, ey, ha, hb, q⟩ => ?_
  subst ex ey
  cases (show u = Value.ref a from rx)
  cases (show iv = Value.ref b from ry)
  obtain ⟨hm, ob, es, ep, e1, e2, e3, e4⟩ := dk_flat I2 ha
  show wpAny _ _ (do return Value.bool (← contains (.ref a) (.ref b))) _ _ _
  exact wpAny_bind (has_flat hu (key_of I2.hok hb) e1 e2 e3 hm e4 fun t => wpAny_pure ⟨.bl false, H2, I2.tok t, rfl, q⟩)
theorem pc_notinF (hu : X.A.units + 2 < cLine) (hi : PE X i ty) (ho : PE X o td) : PC X .NotIn i o (tInF ty td true) := by
  refine ⟨fun pins s σ H Q I h => ?_⟩
  refine thn (hi.run pins s σ H _ I h) fun iv s1 ⟨y, H1, I1, ry, q1⟩ => thn (ho.run pins s1 σ H1 _ I1 q1) fun u s2 ⟨x, H2, I2, rx, a, b, kvs, k, ex, ey, ha, hb, q⟩ => ?_
  subst ex ey
  cases (show u = Value.ref a from rx)
  cases (show iv = Value.ref b from ry)
  obtain ⟨hm, ob, es, ep, e1, e2, e3, e4⟩ := dk_flat I2 ha
  show wpAny _ _ (do return Value.bool (!(← contains (.ref a) (.ref b)))) _ _ _
  exact wpAny_bind (has_flat hu (key_of I2.hok hb) e1 e2 e3 hm e4 fun t => wpAny_pure ⟨.bl true, H2, I2.tok t, rfl, q⟩)
end
/-- a value in a dict of weights: a number, or a thing that is none -/
def IntOr (K : PySem.W.Frag) (H : Hp) (v : V) : Prop := (∃ i, v = .int i) ∨ ∃ t, Tag t ∧ t ≠ "int" ∧ TyX K H v (.type t)
theorem IntOr.same {K : PySem.W.Frag} {H H' : Hp} {v : V} (e : Same H H') (h : IntOr K H v) : IntOr K H' v := h.elim .inl fun ⟨t, a, b, c⟩ => .inr ⟨t, a, b, TyX.same e c⟩
def weightB : V → Bool
  | .int i => decide (1 ≤ i)
  | _ => false
/-- these entries are weights for these pairs -/
def okT (ps : List (Str × Str)) (kvs : List (List L2.Key × V)) : Bool := decide (kvs.length = ps.length) && ps.all fun p => match valV kvs (kP p) with
  | some v => weightB v
  | none => false
/-- a thing that may be weights, and whether it is -/
inductive WTh (K : PySem.W.Frag) (H : Hp) (ps : List (Str × Str)) : V → Bool → Prop
  | no {v : V} {t : String} : Tag t → t ≠ "dict" → TyX K H v (.type t) → WTh K H ps v false
  | txt {a : Addr} {kvs : List (L2.Key × V)} : H a = some (.dK kvs) → ps ≠ [] → WTh K H ps (.ref a) false
  | tup {a : Addr} {kvs : List (List L2.Key × V)} : H a = some (.dT kvs) → (∀ p v, valV kvs (kP p) = some v → IntOr K H v) → WTh K H ps (.ref a) (okT ps kvs)
theorem WTh.same {K : PySem.W.Frag} {H H' : Hp} {ps : List (Str × Str)} {v : V} {b : Bool} (e : Same H H') (h : WTh K H ps v b) : WTh K H' ps v b := by
  cases h with
  | no a b c => exact .no a b (TyX.same e c)
  | txt a b => exact .txt (e _ _ a) b
  | tup a b => exact .tup (e _ _ a) fun p v q => (b p v q).same e
/-- the error of bad weights -/
def BadW (K : PySem.W.Frag) (H : Hp) (x : Str) (v : V) (E : XK) : Prop := ∀ d H', Same H H' → H d = none → H' d = some (.xd [("thing", v)]) → E (.ref (He.ga K x)) (some d) H'
theorem BadW.of {K : PySem.W.Frag} {H H1 : Hp} {x : Str} {v : V} {E : XK} (e : Same H H1) (h : BadW K H x v E) : BadW K H1 x v E := fun d H' s hd h' => h d H' (e.trans s) (e.free hd) h'
def spWeights (K : PySem.W.Frag) : Sp := fun vs H Q E => ∃ (x : Addr) (v : V) (sn : List Str) (ps : List (Str × Str)) (b : Bool), vs = [.ref x, v] ∧ Deb K H x sn ps ∧ WTh K H ps v b ∧ (b = true → ∀ H', Same H H' → Q v H') ∧ (b = false → BadW K H "BadWeights" v E)
theorem okT_get {ps : List (Str × Str)} {kvs : List (List L2.Key × V)} (h : okT ps kvs = true) : kvs.length = ps.length ∧ ∀ p ∈ ps, ∃ i, valV kvs (kP p) = some (.int i) ∧ 1 ≤ i := by
  obtain ⟨h1, h2⟩ := Bool.and_eq_true_iff.mp h
  refine ⟨of_decide_eq_true h1, fun p hp => ?_⟩
  have h3 := List.all_eq_true.mp h2 p hp
  cases e : valV kvs (kP p) with
  | none => rw [e] at h3; cases h3
  | some v =>
    rw [e] at h3
    cases v with
    | int i => exact ⟨i, rfl, of_decide_eq_true h3⟩
    | _ => cases h3
theorem okT_bad {ps : List (Str × Str)} {kvs : List (List L2.Key × V)} {p : Str × Str} (hp : p ∈ ps) (h : ∀ i, valV kvs (kP p) = some (.int i) → ¬ 1 ≤ i) : okT ps kvs = false := by
  cases e : okT ps kvs with
  | false => rfl
  | true =>
    obtain ⟨i, a, b⟩ := (okT_get e).2 p hp
    exact absurd b (h i a)
section
variable {P : Program} {w : World} {K : PySem.W.Frag} {mg : Str → Option Value} {base : Heap}
theorem cl_weights (T : Top K mg) : Cl P w K mg base (L2.CX P w) 3 "checked_weights" ["debate", "weights"] (spWeights K) := by
  have C_is_integer := cl_is_integer (P := P) (w := w) (base := base) T
  obtain ⟨fd_BadWeights, OK_BadWeights, B_BadWeights⟩ := ok_BadWeights (P := P) (w := w) (base := base) T
  refine Cl.ofX T.f_checked_weights T.g_checked_weights sc_checked_weights (fun _ _ _ _ _ _ us hl => match us, hl with | [_, _], _ => rfl) (fun vs H Q E h => ?_) (fun cdv A outer s H vs Q E hr h => ?_)
  · obtain ⟨x, v, sn, ps, b, rfl, _⟩ := h
    rfl
  · obtain ⟨x, v, sn, ps, b, rfl, hD, hW, kt, kf⟩ := h
    refine ⟨_, (pss_cons (ps_if (PW.pt (pw_or (pt_not (pt_val (pe_callB (isi_K K) (by rfl) T.z_isinstance (by decide +kernel) (pa_cons (pv 1) (pa_cons (pe_bltn (v := .ty "dict") (by rfl) T.z_dict (by decide +kernel) rfl) pa_nil))))) (pw_or1 (pt_cmpR op_ne (pe_callB (CallR.or call_lenD call_len_dT) (by rfl) T.z_len (by decide +kernel) (pa_cons (pv 1) pa_nil)) (pe_callB (len_K K) (by rfl) T.z_len (by decide +kernel) (pa_cons (fld_K K (pv 0) rfl) pa_nil)) (nomark _)))))
    (pss_one (ps_raise rfl (takes_of rfl rfl rfl rfl) (pmk_oex T.e_BadWeights.oex T.e_BadWeights.ini T.e_BadWeights.fn OK_BadWeights (hr.mono (by decide)) B_BadWeights .nil (fun _ _ _ _ _ _ _ h => h.elim) rfl T.g_BadWeights (pa_cons (pv 1) pa_nil))))
    pss_nil)
    (pss_cons (ps_for (passes_of rfl) rfl (pi_K K (fld_K K (pv 0) rfl)) (pg_name (i := 2) sc_checked_weights.nd rfl (Or.inl rfl))
    (pss_one (ps_if (PW.pt (pw_or (pt_cmp (pc_or2 (pc_dnotin (hu_of hr) (pv 2) (pv 1)) (pc_notinF (Nat.lt_of_le_of_lt (Nat.add_le_add_left (by decide) _) (hu65 hr)) (pv 2) (pv 1)))) (pw_or (pt_not (pt_val (pe_k C_is_integer hr (by decide) pass0 (pa_cons (pe_dget (hu_of hr) (pv 1) (pv 2) (fun _ _ => rfl)) pa_nil)))) (pw_or1 (pt_cmpR op_lt (pe_dget (hu_of hr) (pv 1) (pv 2) (fun _ _ => rfl)) pe_int (nomark _))))))
    (pss_one (ps_raise rfl (takes_of rfl rfl rfl rfl) (pmk_oex T.e_BadWeights.oex T.e_BadWeights.ini T.e_BadWeights.fn OK_BadWeights (hr.mono (by decide)) B_BadWeights .nil (fun _ _ _ _ _ _ _ h => h.elim) rfl T.g_BadWeights (pa_cons (pv 1) pa_nil))))
    pss_nil)))
    (pss_one (ps_ret (pv 1))))), ?_⟩
    have hD0 := hD
    obtain ⟨dx, so, oo, ro, jo, zs, g1, g2, d1, d2, d3, d4, d5, d6, d7, d8, d9, d10, d11, d12⟩ := hD
    have lz : zs.length = ps.length := by rw [← d4, List.length_map]
    -- isinstance
    cases hW with
    | @no _ t tg ht ty =>
      refine ⟨_, rfl, _, _, .type t, .type "dict", false, rfl, .ty _, ty, kit_ty (by rcases tg with rfl | rfl | rfl | rfl | rfl | rfl | rfl <;> first | exact absurd rfl ht | decide +kernel), _, rfl, iteB1 rfl ?_⟩
      exact ⟨_, rfl, err_rd (kf rfl)⟩
    | @txt a kvs ha hps =>
      refine ⟨_, rfl, _, _, .type "dict", .type "dict", true, rfl, .ty _, .base (.dK ha), kit_ty (by decide +kernel), _, rfl, iteB0 rfl ?_⟩
      refine ⟨_, rfl, .inl ⟨a, kvs, rfl, ha, _, rfl, x, _, dx, _, _, rfl, d1, T.c_Debate, T.n_own_objections, rfl, oo, _, rfl, .inl (SqL.of d3.1), rfl, _, rfl, ?_⟩⟩
      rw [List.length_map]
      by_cases hl : ((kvs.length : Nat) : Int) = (zs.length : Nat)
      · refine iteB0 (nT (by rw [hl])) ?_
        refine ⟨_, rfl, x, _, dx, _, _, rfl, d1, T.c_Debate, T.n_own_objections, rfl, oo, rfl, ⟨_, SqL.of d3.1⟩, ?_⟩
        refine for_it walk_list (fun i σ H2 => i = 0 ∧ H2 = H ∧ ∃ u, σ = [some (.ref x), some (.ref a), u]) ⟨rfl, rfl, _, rfl⟩ (fun i σ H2 _ h => by rw [h.2.1]; exact SqL.of d3.1) ?_ ?_
        · rintro i v0 σ H2 H3 hi ⟨rfl, rfl, u, rfl⟩ ⟨rfl, hv⟩
          obtain ⟨z, hz, rfl⟩ := get_map hv
          obtain ⟨t, et, ht⟩ := d3.2 z (List.mem_of_getElem? hz)
          refine .inr ⟨_, rfl, _, rfl, a, t, kvs, kP z.2, rfl, et, ha, ht, _, rfl, iteT ?_⟩
          exact ⟨_, rfl, err_rd (kf rfl)⟩
        · rintro σ H2 ⟨h0, _⟩
          rw [List.length_map] at h0
          exact absurd (List.length_eq_zero_iff.mp (lz ▸ h0)) hps
      · refine iteB1 (nF fun z => hl (V.int.inj z)) ?_
        exact ⟨_, rfl, err_rd (kf rfl)⟩
    | @tup a kvs ha hv =>
      refine ⟨_, rfl, _, _, .type "dict", .type "dict", true, rfl, .ty _, .base (.dT ha), kit_ty (by decide +kernel), _, rfl, iteB0 rfl ?_⟩
      refine ⟨_, rfl, .inr ⟨a, kvs, rfl, ha, _, rfl, x, _, dx, _, _, rfl, d1, T.c_Debate, T.n_own_objections, rfl, oo, _, rfl, .inl (SqL.of d3.1), rfl, _, rfl, ?_⟩⟩
      rw [List.length_map]
      by_cases hl : ((kvs.length : Nat) : Int) = (zs.length : Nat)
      · refine iteB0 (nT (by rw [hl])) ?_
        refine ⟨_, rfl, x, _, dx, _, _, rfl, d1, T.c_Debate, T.n_own_objections, rfl, oo, rfl, ⟨_, SqL.of d3.1⟩, ?_⟩
        refine for_it walk_list (fun i σ H2 => Same H H2 ∧ (∀ p ∈ ps.take i, ∃ i, valV kvs (kP p) = some (.int i) ∧ 1 ≤ i) ∧ ∃ u, σ = [some (.ref x), some (.ref a), u]) ⟨fun _ _ e => e, (fun p h => nomatch h), _, rfl⟩ (fun i σ H2 _ h => SqL.of (h.1 _ _ d3.1)) ?_ ?_
        · rintro i v0 σ H2 H3 hi ⟨s2, ok, u, rfl⟩ ⟨rfl, hv0⟩
          obtain ⟨z, hz, rfl⟩ := get_map hv0
          obtain ⟨t, et, ht⟩ := d3.2 z (List.mem_of_getElem? hz)
          have ep : ps[i]? = some z.2 := by rw [← d4, List.getElem?_map, hz]; rfl
          have hm : z.2 ∈ ps := List.mem_of_getElem? ep
          have ha2 := s2 _ _ ha
          have ht2 : H3 t = some (.tup ((kP z.2).map kV)) := s2 _ _ ht
          have bad : (∀ i, valV kvs (kP z.2) = some (.int i) → ¬ 1 ≤ i) → BadW K H3 "BadWeights" (.ref a) E := fun q => (kf (okT_bad hm q)).of s2
          refine .inl ⟨_, rfl, _, rfl, a, valV kvs (kP z.2), rfl, ?_, _, rfl, ?_⟩
          · show DGet H3 a z.1 _
            rw [et]
            exact DGet.t (k := kP z.2) ha2 ht2
          cases ev : valV kvs (kP z.2) with
          | none =>
            refine iteB1 rfl ⟨_, rfl, err_rd (bad fun i q => ?_)⟩
            rw [ev] at q
            cases q
          | some v =>
            refine iteB0 rfl ?_
            have dg : DGet H3 a z.1 (some v) := by
              rw [et]
              exact dget_t (k := kP z.2) ha2 ht2 ev
            refine ⟨_, rfl, _, rfl, a, v, rfl, dg, ?_⟩
            rcases (hv z.2 v ev).same s2 with ⟨j, rfl⟩ | ⟨t', tg, htn, ty⟩
            · refine ⟨_, "int", rfl, tgI, .base (.int j), _, rfl, iteB0 rfl ?_⟩
              refine ⟨_, rfl, _, rfl, a, _, rfl, dg, j, 1, rfl, rfl, _, rfl, ?_⟩
              by_cases hj : j < 1
              · refine iteB1 (dT hj) ⟨_, rfl, err_rd (bad fun i q => ?_)⟩
                rw [ev] at q
                obtain rfl := V.int.inj (Option.some.inj q)
                omega
              · refine iteB0 (dF hj) ⟨s2, fun p hp => ?_, _, rfl⟩
                rw [take_snoc ep] at hp
                rcases List.mem_append.mp hp with hp | hp
                · exact ok p hp
                · rw [List.mem_singleton.mp hp]
                  exact ⟨j, ev, by omega⟩
            · refine ⟨_, t', rfl, tg, ty, _, rfl, iteB1 (nF htn) ⟨_, rfl, err_rd (bad fun i q => ?_)⟩⟩
              rw [ev] at q
              obtain rfl := Option.some.inj q
              cases ty with
              | base b => cases b; exact absurd rfl htn
        · rintro σ H2 ⟨s2, ok, u, rfl⟩
          rw [List.length_map, lz, List.take_length] at ok
          refine ⟨_, rfl, kt ?_ _ s2⟩
          unfold okT
          rw [decide_eq_true (show kvs.length = ps.length by omega), Bool.true_and, List.all_eq_true]
          intro p hp
          obtain ⟨i, e1, e2⟩ := ok p hp
          rw [e1]
          exact decide_eq_true e2
      · refine iteB1 (nF fun z => hl (V.int.inj z)) ⟨_, rfl, err_rd (kf ?_)⟩
        unfold okT
        rw [decide_eq_false (show ¬ kvs.length = ps.length by omega)]
        rfl
end
theorem lay_ints : ∀ ns : List Int, PyData.canLayAll0 (ns.map .int) = true
  | [] => by simp [PyData.canLayAll0]
  | n :: ns => by
    show PyData.canLayAll0 (.int n :: ns.map .int) = true
    rw [PyData.canLayAll0, lay_ints ns]
    simp [PyData.canLay0]
theorem depth_ints0 : ∀ ns : List Int, PyData.depthAll (ns.map .int) = 0
  | [] => by simp [PyData.depthAll]
  | n :: ns => by
    show PyData.depthAll (.int n :: ns.map .int) = 0
    simp [PyData.depthAll, PyData.depth, depth_ints0 ns]
theorem shaped_ints (ns : List Int) : SeqAt.shaped (.list (ns.map .int)) = true := by
  unfold SeqAt.shaped
  rw [PyData.canLay0, lay_ints, PyData.depth, depth_ints0]
  rfl
theorem dpAll_ints {K : PySem.W.Frag} {H : Hp} : ∀ l : List Int, DpAll K H (l.map V.int) (l.map PyData.int)
  | [] => .nil
  | x :: l => .cons (.int x) (dpAll_ints l)
theorem eqv_nil (ns : List Int) : PyData.eqv (.list (ns.map .int)) (.list []) = ns.isEmpty := by
  cases ns with
  | nil => simp [PyData.eqv, PyData.eqvAll]
  | cons n ns => simp [PyData.eqv, PyData.eqvAll]
def IsMin (m : Int) (l : List Int) : Prop := m ∈ l ∧ ∀ y ∈ l, m ≤ y
def IsMax (m : Int) (l : List Int) : Prop := m ∈ l ∧ ∀ y ∈ l, y ≤ m
theorem IsMin.eq {m n : Int} {l : List Int} (h : IsMin m l) (g : IsMin n l) : m = n := by
  have := h.2 n g.1
  have := g.2 m h.1
  omega
theorem IsMax.eq {m n : Int} {l : List Int} (h : IsMax m l) (g : IsMax n l) : m = n := by
  have := h.2 n g.1
  have := g.2 m h.1
  omega
/-- a thing that may be a budget; a thing that may be a statement -/
def BTh (K : PySem.W.Frag) (H : Hp) (v : V) (b : Bool) : Prop := (∃ i : Int, v = .int i ∧ b = decide (0 ≤ i)) ∨ ∃ t, Tag t ∧ t ≠ "int" ∧ TyX K H v (.type t) ∧ b = false
def STh (K : PySem.W.Frag) (H : Hp) (sn : List Str) (v : V) (b : Bool) : Prop := (∃ s : Str, v = .str s ∧ b = decide (s ∈ sn)) ∨ ∃ t, Tag t ∧ t ≠ "str" ∧ TyX K H v (.type t) ∧ b = false
theorem BTh.same {K : PySem.W.Frag} {H H' : Hp} {v : V} {b : Bool} (e : Same H H') (h : BTh K H v b) : BTh K H' v b := h.elim .inl fun ⟨t, a, b, c, d⟩ => .inr ⟨t, a, b, TyX.same e c, d⟩
theorem STh.same {K : PySem.W.Frag} {H H' : Hp} {sn : List Str} {v : V} {b : Bool} (e : Same H H') (h : STh K H sn v b) : STh K H' sn v b := h.elim .inl fun ⟨t, a, b, c, d⟩ => .inr ⟨t, a, b, TyX.same e c, d⟩
def spBudget (K : PySem.W.Frag) : Sp := fun vs H Q E => ∃ (v : V) (b : Bool), vs = [v] ∧ BTh K H v b ∧ (b = true → Q v H) ∧ (b = false → BadW K H "BadNumber" v E)
/-- the prices of the lots with s -/
def mine (sn : List Str) (ps : List (Str × Str)) (f : Str × Str → Int) (s : Str) : List (Int × List Str) := (pricesOf sn ps f).filter fun q => decide (s ∈ q.2)
/-- what the three have in common: the checks in their order, then the walk over the prices -/
def Chk (K : PySem.W.Frag) (vs : List V) (v u : V) (x : Addr) (H : Hp) (E : XK) (k : (sn : List Str) → (ps : List (Str × Str)) → (f : Str × Str → Int) → (s : Str) → Prop) : Prop :=
  ∃ (sn : List Str) (ps : List (Str × Str)) (b c : Bool), Deb K H x sn ps ∧ WTh K H ps v b ∧ (b = false → BadW K H "BadWeights" v E) ∧ (b = true → STh K H sn u c ∧ (c = false → BadW K H "NoStatement" u E) ∧ (c = true → ∃ wa f s, v = .ref wa ∧ Wt H wa ps f ∧ u = .str s ∧ k sn ps f s))
def spPricesW (K : PySem.W.Frag) : Sp := fun vs H Q E => ∃ (x : Addr) (v u : V), vs = [.ref x, v, u] ∧ Chk K vs v u x H E fun sn ps f s =>
  ∀ (H' : Hp) (p : Addr) (zs : List (V × (Int × List Str))), Same H H' → H p = none → H' p = some (.lst (zs.map (·.1))) → zs.map (·.2) = mine sn ps f s → (∀ z ∈ zs, NewPrice H H' z.1 z.2) → Q (.ref p) H'
def spLeast (K : PySem.W.Frag) : Sp := fun vs H Q E => ∃ (x : Addr) (v u : V), vs = [.ref x, v, u] ∧ Chk K vs v u x H E fun sn ps f s => mine sn ps f s ≠ [] ∧
  ∀ (H' : Hp) (m : Int), Same H H' → IsMin m ((mine sn ps f s).map (·.1)) → Q (.int m) H'
def spCheapest (K : PySem.W.Frag) : Sp := fun vs H Q E => ∃ (x : Addr) (v u : V), vs = [.ref x, v, u] ∧ Chk K vs v u x H E fun sn ps f s => mine sn ps f s ≠ [] ∧
  ∀ (H' : Hp) (m : Int) (q : Int × List Str) (t : Addr), Same H H' → IsMin m ((mine sn ps f s).map (·.1)) → ((mine sn ps f s).filter fun q => decide (q.1 = m))[0]? = some q → H t = none → H' t = some (.lst (q.2.map V.str)) → Q (.ref t) H'
def spMost (K : PySem.W.Frag) : Sp := fun vs H Q E => ∃ (x : Addr) (v u w : V) (d : Bool), vs = [.ref x, v, u, w] ∧ BTh K H w d ∧ Chk K vs v u x H E fun sn ps f s => (d = false → BadW K H "BadNumber" w E) ∧ ∀ B : Int, w = .int B → d = true →
  ∀ H' : Hp, Same H H' → (((mine sn ps f s).filter fun q => decide (q.1 ≤ B)) = [] → Q .non H') ∧ ∀ m, IsMax m (((mine sn ps f s).filter fun q => decide (q.1 ≤ B)).map fun q => ((q.2.length : Nat) : Int)) → Q (.int m) H'
/-- the lot of a price's tuple -/
def lotV (H : Hp) : V → V
  | .ref t => match H t with
    | some (.tup [_, l]) => l
    | _ => .non
  | _ => .non
theorem lotV_eq {H : Hp} {t : Addr} {x l : V} (h : H t = some (.tup [x, l])) : lotV H (.ref t) = l := by
  show (match H t with
    | some (.tup [_, l]) => l
    | _ => .non) = l
  rw [h]
theorem mine_len {sn : List Str} {ps : List (Str × Str)} {f : Str × Str → Int} {s : Str} (h : sn.length ≤ 10) : (mine sn ps f s).length ≤ 1024 := by
  unfold mine
  refine Nat.le_trans (List.length_filter_le _ _) ?_
  rw [List.length_map, (lotsOf_perm sn).length_eq, subs_len]
  exact pow_le (m := 10) h
theorem Deb.len {K : PySem.W.Frag} {H : Hp} {x : Addr} {sn : List Str} {ps : List (Str × Str)} (h : Deb K H x sn ps) : sn.length ≤ 10 := by
  obtain ⟨dx, so, oo, ro, jo, zs, g1, g2, d1, d2, d3, d4, d5, d6, d7, d8, d9, _⟩ := h
  exact d9
section
variable {P : Program} {w : World} {K : PySem.W.Frag} {mg : Str → Option Value} {base : Heap}
theorem cl_budget (T : Top K mg) : Cl P w K mg base (L2.CX P w) 3 "checked_budget" ["budget"] (spBudget K) := by
  have C_is_number := cl_is_number (P := P) (w := w) (base := base) T
  obtain ⟨fd_BadNumber, OK_BadNumber, B_BadNumber⟩ := ok_BadNumber (P := P) (w := w) (base := base) T
  refine Cl.ofX T.f_checked_budget T.g_checked_budget sc_checked_budget (fun _ _ _ _ _ _ us hl => match us, hl with | [_], _ => rfl) (fun vs H Q E h => ?_) (fun cdv A outer s H vs Q E hr h => ?_)
  · obtain ⟨v, b, rfl, _⟩ := h
    rfl
  · obtain ⟨v, b, rfl, hB, kt, kf⟩ := h
    refine ⟨_, (pss_cons (ps_if (pt_not (pt_val (pe_k C_is_number hr (by decide) pass0 (pa_cons (pv 0) pa_nil))))
    (pss_one (ps_raise rfl (takes_of rfl rfl rfl rfl) (pmk_oex T.e_BadNumber.oex T.e_BadNumber.ini T.e_BadNumber.fn OK_BadNumber (hr.mono (by decide)) B_BadNumber .nil (fun _ _ _ _ _ _ _ h => h.elim) rfl T.g_BadNumber (pa_cons (pv 0) pa_nil))))
    pss_nil)
    (pss_one (ps_ret (pv 0)))), ?_⟩
    rcases hB with ⟨i, rfl, rfl⟩ | ⟨t, tg, ht, ty, rfl⟩
    · refine ⟨_, rfl, _, rfl, .inl ⟨i, rfl, _, rfl, ?_⟩⟩
      by_cases h0 : 0 ≤ i
      · exact iteB0 (nT h0) ⟨_, rfl, kt (dT h0)⟩
      · exact iteB1 (nF h0) ⟨_, rfl, err_rd (kf (dF h0))⟩
    · exact ⟨_, rfl, _, rfl, .inr ⟨t, tg, ht, ty, _, rfl, iteB1 rfl ⟨_, rfl, err_rd (kf rfl)⟩⟩⟩
theorem cl_pricesW (T : Top K mg) : Cl P w K mg base (L2.CX P w) 4 "prices_with" ["debate", "weights", "statement"] (spPricesW K) := by
  have C_checked_weights := cl_weights (P := P) (w := w) (base := base) T
  have C_checked_statement := cl_statement (P := P) (w := w) (base := base) T
  have C_all_prices := cl_prices (P := P) (w := w) (base := base) T
  refine Cl.ofX T.f_prices_with T.g_prices_with sc_prices_with (fun _ _ _ _ _ _ us hl => match us, hl with | [_, _, _], _ => rfl) (fun vs H Q E h => ?_) (fun cdv A outer s H vs Q E hr h => ?_)
  · obtain ⟨x, v, u, rfl, _⟩ := h
    rfl
  · obtain ⟨x, v, u, rfl, sn, ps, b, c, hD, hW, k0, k1⟩ := h
    refine ⟨_, (pss_cons (ps_set (i := 3) sc_prices_with.nd rfl (Or.inl rfl) (pe_k C_checked_weights hr (by decide) (passes_call (takes_of rfl rfl rfl rfl) (fun _ _ _ _ h => h)) (pa_cons (pv 0) (pa_cons (pv 1) pa_nil))))
    (pss_cons (ps_set (i := 4) sc_prices_with.nd rfl (Or.inr rfl) (pe_k C_checked_statement hr (by decide) (passes_call (takes_of rfl rfl rfl rfl) (fun _ _ _ _ h => h)) (pa_cons (pv 0) (pa_cons (pv 2) pa_nil))))
    (pss_one (ps_ret (pe_lc (own := [("price", 5), ("lot", 6)]) (g := gTup K 2 (gCons (gName 5) (gCons (gName 6) gNil))) rfl sc_prices_with.nd (pi_K K (pe_k C_all_prices hr (by decide) pass0 (pa_cons (pv 0) (pa_cons (pv 3) pa_nil)))) (blkOk_by (own := [("price", 5), ("lot", 6)]) (N := N_prices_with) (sc := defScope s_prices_with) (by decide +kernel)) (fun _ _ _ _ _ => (pgt_K K rfl (pgs_cons (pg_name (i := 5) sc_prices_with.nd rfl (Or.inl rfl)) (pgs_cons (pg_name (i := 6) sc_prices_with.nd rfl (Or.inl rfl)) pgs_nil)))) (fun _ _ _ _ _ => pts_one (pt_cmpR (in_K K) (pv 4) (pv 6) rfl)) (fun _ _ _ _ _ => (pe_tup (pa_cons (pv 5) (pa_cons (pv 6) pa_nil))))))))), ?_⟩
    refine ⟨_, rfl, _, rfl, x, v, sn, ps, b, rfl, hD, hW, fun hb H1 s1 => ?_, k0⟩
    obtain ⟨hS, k2, k3⟩ := k1 hb
    refine ⟨_, rfl, _, rfl, x, u, sn, ps, rfl, hD.same s1, ?_⟩
    rcases hS with ⟨s, rfl, rfl⟩ | ⟨t, tg, ht, ty, rfl⟩
    · refine .inl ⟨s, rfl, _, rfl, fun hc => ?_, fun hc => (k2 hc).of s1⟩
      obtain ⟨wa, f, s', rfl, hWt, es, k⟩ := k3 hc
      obtain rfl := V.str.inj es
      refine ⟨_, rfl, _, rfl, x, wa, sn, ps, f, rfl, hD.same s1, hWt.same s1, fun H2 p zs s2 hp h2 e2 n2 => ?_⟩
      refine ⟨p, rfl, ⟨_, SqL.of h2⟩, fun D hDn => ?_⟩
      have zl : zs.length ≤ 1024 := by
        have q := congrArg List.length e2
        rw [List.length_map, List.length_map, (lotsOf_perm sn).length_eq, subs_len] at q
        have := pow_le hD.len
        omega
      have s02 := s1.trans s2
      refine lc_rel (K := K) (a := p) (fun z : V × (Int × List Str) => z.1) zs (fun z => if decide (s ∈ z.2.2) = true then some z.2 else none)
        (fun H3 v q => ∃ t l, v = .ref t ∧ H t = none ∧ H l = none ∧ t ≠ D ∧ l ≠ D ∧ H3 t = some (.tup [.int q.1, .ref l]) ∧ H3 l = some (.lst (q.2.map V.str))) (SqL.of h2) hDn (lt_sl (by omega))
        (fun _ _ _ _ e r => by obtain ⟨t, l, a1, a2, a3, a4, a5, a6, a7⟩ := r; exact ⟨t, l, a1, a2, a3, a4, a5, e _ _ a4 a6, e _ _ a5 a7⟩) ?_ ?_
      · intro z hz H3 acc kk1 kk0 s3 h3 kk kn
        obtain ⟨t, l, et, a2, a3, a4, a5⟩ := n2 z hz
        have a4' := s3 _ _ a4
        have a5' := s3 _ _ a5
        refine ⟨t, _, et, SqT.of a4', rfl, _, _, rfl, _, _, rfl, rfl, rfl, _, rfl, _, rfl, l, _, rfl, .inl (SqL.of a5'), rfl, flat_strs _, _, rfl, ?_⟩
        have e : (if false = true then !inV (.str s) (z.2.2.map V.str) else inV (.str s) (z.2.2.map V.str)) = decide (s ∈ z.2.2) := by rw [if_neg Bool.false_ne_true, inV_str]
        by_cases q : s ∈ z.2.2
        · refine iteB1 (by rw [e, decide_eq_true q]) ⟨_, rfl, _, rfl, le_sl (by show 2 ≤ _; decide), fun r hr' => ?_⟩
          exact kk _ z.2 _ (same_new hr') (if_pos (decide_eq_true q)) ⟨r, l, rfl, s02.free (s3.free hr'), s1.free a3, (ne_of_none h3 hr').symm, ne_of_none a5 hDn, upd_same, same_new hr' _ _ a5'⟩
        · exact iteB0 (by rw [e, decide_eq_false q]) (kn _ (fun _ _ e => e) (if_neg (by rw [decide_eq_false q]; decide)))
      · intro H3 ws s3 h3 e3 n3
        refine k H3 D ws (s02.trans s3) (s02.free hDn) h3 ?_ fun z hz => ?_
        · rw [e3, fmIf (fun z : V × (Int × List Str) => decide (s ∈ z.2.2)) (fun z => z.2)]
          unfold mine
          rw [← e2, List.filter_map]
          rfl
        · obtain ⟨t, l, a1, a2, a3, _, _, a6, a7⟩ := n3 z hz
          exact ⟨t, l, a1, a2, a3, a6, a7⟩
    · exact .inr ⟨t, tg, ht, TyX.same s1 ty, (k2 rfl).of s1⟩
theorem Chk.imp {K : PySem.W.Frag} {vs : List V} {v u : V} {x : Addr} {H : Hp} {E : XK} {k k' : (sn : List Str) → (ps : List (Str × Str)) → (f : Str × Str → Int) → (s : Str) → Prop} (h : ∀ sn ps f s, sn.length ≤ 10 → k sn ps f s → k' sn ps f s) (c : Chk K vs v u x H E k) :
    Chk K vs v u x H E k' := by
  obtain ⟨sn, ps, b, c, hD, hW, k0, k1⟩ := c
  refine ⟨sn, ps, b, c, hD, hW, k0, fun hb => ?_⟩
  obtain ⟨hS, k2, k3⟩ := k1 hb
  refine ⟨hS, k2, fun hc => ?_⟩
  obtain ⟨wa, f, s, e1, e2, e3, e4⟩ := k3 hc
  exact ⟨wa, f, s, e1, e2, e3, h _ _ _ _ hD.len e4⟩
theorem cl_least (T : Top K mg) : Cl P w K mg base (L2.CX P w) 5 "least_budget" ["debate", "weights", "statement"] (spLeast K) := by
  have C_prices_with := cl_pricesW (P := P) (w := w) (base := base) T
  refine Cl.ofX T.f_least_budget T.g_least_budget sc_least_budget (fun _ _ _ _ _ _ us hl => match us, hl with | [_, _, _], _ => rfl) (fun vs H Q E h => ?_) (fun cdv A outer s H vs Q E hr h => ?_)
  · obtain ⟨x, v, u, rfl, _⟩ := h
    rfl
  · obtain ⟨x, v, u, rfl, h⟩ := h
    refine ⟨_, (pss_one (ps_ret (pe_callB (min_K K rfl) (by rfl) T.z_min (by decide +kernel) (pa_cons (pe_lc (own := [("price", 3), ("lot", 4)]) (g := gTup K 2 (gCons (gName 3) (gCons (gName 4) gNil))) (tt := tYes) rfl sc_least_budget.nd (pi_K K (pe_k C_prices_with hr (by decide) (passes_call (takes_of rfl rfl rfl rfl) (fun _ _ _ _ h => h)) (pa_cons (pv 0) (pa_cons (pv 1) (pa_cons (pv 2) pa_nil))))) (blkOk_by (own := [("price", 3), ("lot", 4)]) (N := N_least_budget) (sc := defScope s_least_budget) (by decide +kernel)) (fun _ _ _ _ _ => (pgt_K K rfl (pgs_cons (pg_name (i := 3) sc_least_budget.nd rfl (Or.inl rfl)) (pgs_cons (pg_name (i := 4) sc_least_budget.nd rfl (Or.inl rfl)) pgs_nil)))) (fun _ _ _ _ _ => pts_nil) (fun _ _ _ _ _ => (pv 3))) pa_nil)))), ?_⟩
    refine ⟨_, rfl, _, rfl, _, rfl, x, v, u, rfl, h.imp fun sn ps f s hl k H1 p zs s1 hp h1 e1 n1 => ?_⟩
    have zl : zs.length ≤ 1024 := by
      have q := mine_len (ps := ps) (f := f) (s := s) hl
      rw [← e1, List.length_map] at q
      exact q
    refine ⟨p, rfl, ⟨_, SqL.of h1⟩, fun D hDn => ?_⟩
    refine lc_map (fun z : V × (Int × List Str) => z.1) zs (fun z => .int z.2.1) (SqL.of h1) hDn (lt_sl (by omega)) (fun z hz H2 k1 s2 kk => ?_) fun H2 s2 h2 => ?_
    · obtain ⟨t, l, et, a2, a3, a4, a5⟩ := n1 z hz
      exact ⟨t, _, et, SqT.of (s2 _ _ a4), rfl, _, _, rfl, _, _, rfl, rfl, rfl, _, rfl, kk _ _ (fun _ _ e => e) rfl⟩
    · have e2 : zs.map (fun z => z.2.1) = (mine sn ps f s).map (·.1) := by rw [← e1, List.map_map]; rfl
      refine ⟨D, zs.map (fun z => z.2.1), rfl, SqL.of (by rw [h2, List.map_map]; rfl), ?_, fun m hm hle => ?_⟩
      · rw [e2, List.length_map]
        exact List.length_pos_iff.mpr k.1
      · rw [e2] at hm hle
        exact k.2 _ m (s1.trans s2) ⟨hm, hle⟩
theorem cl_cheapest (T : Top K mg) : Cl P w K mg base (L2.CX P w) 5 "cheapest_lot" ["debate", "weights", "statement"] (spCheapest K) := by
  have C_prices_with := cl_pricesW (P := P) (w := w) (base := base) T
  refine Cl.ofX T.f_cheapest_lot T.g_cheapest_lot sc_cheapest_lot (fun _ _ _ _ _ _ us hl => match us, hl with | [_, _, _], _ => rfl) (fun vs H Q E h => ?_) (fun cdv A outer s H vs Q E hr h => ?_)
  · obtain ⟨x, v, u, rfl, _⟩ := h
    rfl
  · obtain ⟨x, v, u, rfl, h⟩ := h
    refine ⟨_, (pss_cons (ps_set (i := 3) sc_cheapest_lot.nd rfl (Or.inl rfl) (pe_k C_prices_with hr (by decide) (passes_call (takes_of rfl rfl rfl rfl) (fun _ _ _ _ h => h)) (pa_cons (pv 0) (pa_cons (pv 1) (pa_cons (pv 2) pa_nil)))))
    (pss_cons (ps_set (i := 4) sc_cheapest_lot.nd rfl (Or.inr rfl) (pe_callB (min_K K rfl) (by rfl) T.z_min (by decide +kernel) (pa_cons (pe_lc (own := [("price", 5), ("lot", 6)]) (g := gTup K 2 (gCons (gName 5) (gCons (gName 6) gNil))) (tt := tYes) rfl sc_cheapest_lot.nd (pi_K K (pv 3)) (blkOk_by (own := [("price", 5), ("lot", 6)]) (N := N_cheapest_lot) (sc := defScope s_cheapest_lot) (by decide +kernel)) (fun _ _ _ _ _ => (pgt_K K rfl (pgs_cons (pg_name (i := 5) sc_cheapest_lot.nd rfl (Or.inl rfl)) (pgs_cons (pg_name (i := 6) sc_cheapest_lot.nd rfl (Or.inl rfl)) pgs_nil)))) (fun _ _ _ _ _ => pts_nil) (fun _ _ _ _ _ => (pv 5))) pa_nil)))
    (pss_one (ps_ret (pe_ix (ixl_K K) (pe_lc (own := [("price", 5), ("lot", 6)]) (g := gTup K 2 (gCons (gName 5) (gCons (gName 6) gNil))) rfl sc_cheapest_lot.nd (pi_K K (pv 3)) (blkOk_by (own := [("price", 5), ("lot", 6)]) (N := N_cheapest_lot) (sc := defScope s_cheapest_lot) (by decide +kernel)) (fun _ _ _ _ _ => (pgt_K K rfl (pgs_cons (pg_name (i := 5) sc_cheapest_lot.nd rfl (Or.inl rfl)) (pgs_cons (pg_name (i := 6) sc_cheapest_lot.nd rfl (Or.inl rfl)) pgs_nil)))) (fun _ _ _ _ _ => pts_one (pt_cmpR op_eq (pv 5) (pv 4) (nomark _))) (fun _ _ _ _ _ => (pv 6))) pe_int (fun _ _ => rfl)))))), ?_⟩
    refine ⟨_, rfl, _, rfl, _, rfl, x, v, u, rfl, h.imp fun sn ps f s hl k H1 p zs s1 hp h1 e1 n1 => ?_⟩
    have zl : zs.length ≤ 1024 := by
      have q := mine_len (ps := ps) (f := f) (s := s) hl
      rw [← e1, List.length_map] at q
      exact q
    refine ⟨_, rfl, p, rfl, ⟨_, SqL.of h1⟩, fun D hDn => ?_⟩
    refine lc_map (fun z : V × (Int × List Str) => z.1) zs (fun z => .int z.2.1) (SqL.of h1) hDn (lt_sl (by omega)) (fun z hz H2 k1 s2 kk => ?_) fun H2 s2 h2 => ?_
    · obtain ⟨t, l, et, a2, a3, a4, a5⟩ := n1 z hz
      exact ⟨t, _, et, SqT.of (s2 _ _ a4), rfl, _, _, rfl, _, _, rfl, rfl, rfl, _, rfl, kk _ _ (fun _ _ e => e) rfl⟩
    · have e2 : zs.map (fun z => z.2.1) = (mine sn ps f s).map (·.1) := by rw [← e1, List.map_map]; rfl
      refine ⟨D, zs.map (fun z => z.2.1), rfl, SqL.of (by rw [h2, List.map_map]; rfl), ?_, fun m hm hle => ?_⟩
      · rw [e2, List.length_map]
        exact List.length_pos_iff.mpr k.1
      · rw [e2] at hm hle
        have s12 := s2 _ _ h1
        refine ⟨_, rfl, p, rfl, ⟨_, SqL.of s12⟩, fun D2 hD2 => ?_⟩
        refine lc_fm (fun z : V × (Int × List Str) => z.1) zs (fun z => if decide (z.2.1 = m) = true then some (lotV H2 z.1) else none) (SqL.of s12) hD2 (lt_sl (by omega)) (fun z hz H3 k1 k0 s3 kk kn => ?_) fun H3 s3 h3 => ?_
        · obtain ⟨t, l, et, a2, a3, a4, a5⟩ := n1 z hz
          have a4' := s2 _ _ a4
          refine ⟨t, _, et, SqT.of (s3 _ _ a4'), rfl, _, _, rfl, _, _, rfl, rfl, rfl, _, rfl, _, rfl, rfl, _, rfl, ?_⟩
          by_cases q : z.2.1 = m
          · refine iteB1 (dT (congrArg V.int q)) ⟨_, rfl, kk _ _ (fun _ _ e => e) ((if_pos (decide_eq_true q)).trans ?_)⟩
            rw [et, lotV_eq a4']
          · exact iteB0 (dF fun z => q (V.int.inj z)) (kn _ (fun _ _ e => e) (if_neg (by rw [decide_eq_false q]; decide)))
        · rw [fmIf (fun z : V × (Int × List Str) => decide (z.2.1 = m)) (fun z => lotV H2 z.1)] at h3
          have ef : (mine sn ps f s).filter (fun q => decide (q.1 = m)) = (zs.filter fun z => decide (z.2.1 = m)).map (·.2) := by
            rw [← e1, List.filter_map]
            rfl
          have hne : (zs.filter fun z => decide (z.2.1 = m)) ≠ [] := fun z => by
            rw [← e2] at hm
            obtain ⟨y, hy, ey⟩ := List.mem_map.mp hm
            have : y ∈ zs.filter fun z => decide (z.2.1 = m) := List.mem_filter.mpr ⟨hy, decide_eq_true ey⟩
            rw [z] at this
            cases this
          obtain ⟨y, r, ey⟩ := List.exists_cons_of_ne_nil hne
          have hy : y ∈ zs := (List.mem_filter.mp (by rw [ey]; exact List.mem_cons_self : y ∈ zs.filter fun z => decide (z.2.1 = m))).1
          obtain ⟨t, l, et, a2, a3, a4, a5⟩ := n1 y hy
          have el : lotV H2 y.1 = .ref l := by rw [et, lotV_eq (s2 _ _ a4)]
          refine ⟨D2, _, 0, .ref l, rfl, rfl, SqL.of h3, atI_nat (j := 0) ?_, ?_⟩
          · rw [ey, List.map_cons, el]
            rfl
          · exact k.2 H3 m y.2 l (s1.trans (s2.trans s3)) ⟨hm, hle⟩ (by rw [ef, ey]; rfl) a3 ((s2.trans s3) _ _ a5)
theorem cl_most (T : Top K mg) : Cl P w K mg base (L2.CX P w) 5 "most_for" ["debate", "weights", "statement", "budget"] (spMost K) := by
  have C_prices_with := cl_pricesW (P := P) (w := w) (base := base) T
  have C_checked_budget := cl_budget (P := P) (w := w) (base := base) T
  refine Cl.ofX T.f_most_for T.g_most_for sc_most_for (fun _ _ _ _ _ _ us hl => match us, hl with | [_, _, _, _], _ => rfl) (fun vs H Q E h => ?_) (fun cdv A outer s H vs Q E hr h => ?_)
  · obtain ⟨x, v, u, w', d, rfl, _⟩ := h
    rfl
  · obtain ⟨x, v, u, w', d, rfl, hB, h⟩ := h
    refine ⟨_, (pss_cons (ps_set (i := 4) sc_most_for.nd rfl (Or.inl rfl) (pe_k C_prices_with hr (by decide) (passes_call (takes_of rfl rfl rfl rfl) (fun _ _ _ _ h => h)) (pa_cons (pv 0) (pa_cons (pv 1) (pa_cons (pv 2) pa_nil)))))
    (pss_cons (ps_set (i := 5) sc_most_for.nd rfl (Or.inr rfl) (pe_k C_checked_budget hr (by decide) (passes_call (takes_of rfl rfl rfl rfl) (fun _ _ _ _ h => h)) (pa_cons (pv 3) pa_nil)))
    (pss_cons (ps_setLc (i := 6) (own := [("price", 7), ("lot", 8)]) (g := gTup K 2 (gCons (gName 7) (gCons (gName 8) gNil))) rfl sc_most_for.nd rfl rfl (sw_true rfl rfl rfl (by decide +kernel)) (pi_K K (pv 4)) (blkOk_by (own := [("price", 7), ("lot", 8)]) (N := N_most_for) (sc := defScope s_most_for) (by decide +kernel)) (fun _ _ _ _ _ => (pgt_K K rfl (pgs_cons (pg_name (i := 7) sc_most_for.nd rfl (Or.inl rfl)) (pgs_cons (pg_name (i := 8) sc_most_for.nd rfl (Or.inl rfl)) pgs_nil)))) (fun _ _ _ _ _ => pts_one (pt_cmpR op_le (pv 7) (pv 5) (nomark _))) (fun _ _ _ _ _ => (pe_callB (len_K K) (by rfl) T.z_len (by decide +kernel) (pa_cons (pv 8) pa_nil))))
    (pss_one (ps_ret (pe_ifExp (pt_cmpR (neD_K K hr.units) (pv 6) (pe_lst pa_nil) (nomark _)) (pe_callB (max_K K rfl) (by rfl) T.z_max (by decide +kernel) (pa_cons (pv 6) pa_nil)) pe_non)))))), ?_⟩
    refine ⟨_, rfl, _, rfl, _, rfl, x, v, u, rfl, h.imp fun sn ps f s hl k H1 p zs s1 hp h1 e1 n1 => ?_⟩
    have zl : zs.length ≤ 1024 := by
      have q := mine_len (ps := ps) (f := f) (s := s) hl
      rw [← e1, List.length_map] at q
      exact q
    refine ⟨_, rfl, w', d, rfl, hB.same s1, fun hd => ?_, fun hd => (k.1 hd).of s1⟩
    rcases hB with ⟨B, rfl, hd2⟩ | ⟨t, _, _, _, z⟩
    · have kB := k.2 B rfl hd
      refine ⟨_, rfl, p, rfl, ⟨_, SqL.of h1⟩, fun D hDn => ?_⟩
      refine lc_fm (fun z : V × (Int × List Str) => z.1) zs (fun z => if decide (z.2.1 ≤ B) = true then some (.int ((z.2.2.length : Nat) : Int)) else none) (SqL.of h1) hDn (lt_sl (by omega)) (fun z hz H3 k1 k0 s3 kk kn => ?_) fun H3 s3 h3 => ?_
      · obtain ⟨t, l, et, a2, a3, a4, a5⟩ := n1 z hz
        refine ⟨t, _, et, SqT.of (s3 _ _ a4), rfl, _, _, rfl, _, _, rfl, rfl, rfl, _, rfl, _, rfl, _, _, rfl, rfl, _, rfl, ?_⟩
        by_cases q : z.2.1 ≤ B
        · refine iteB1 (dT q) ⟨_, rfl, l, _, rfl, .inl (SqL.of (s3 _ _ a5)), kk _ _ (fun _ _ e => e) ((if_pos (decide_eq_true q)).trans ?_)⟩
          rw [List.length_map]
        · exact iteB0 (dF q) (kn _ (fun _ _ e => e) (if_neg (by rw [decide_eq_false q]; decide)))
      · rw [fmIf (fun z : V × (Int × List Str) => decide (z.2.1 ≤ B)) (fun z => V.int ((z.2.2.length : Nat) : Int))] at h3
        have ef : (mine sn ps f s).filter (fun q => decide (q.1 ≤ B)) = (zs.filter fun z => decide (z.2.1 ≤ B)).map (·.2) := by
          rw [← e1, List.filter_map]
          rfl
        have e4 : (zs.filter fun z => decide (z.2.1 ≤ B)).map (fun z => V.int ((z.2.2.length : Nat) : Int)) = (((mine sn ps f s).filter (fun q => decide (q.1 ≤ B))).map fun q => ((q.2.length : Nat) : Int)).map V.int := by
          rw [ef, List.map_map, List.map_map]
          rfl
        rw [e4] at h3
        generalize hz : (((mine sn ps f s).filter (fun q => decide (q.1 ≤ B))).map fun q => ((q.2.length : Nat) : Int)) = sizes at h3
        refine ⟨_, rfl, le_sl (Nat.zero_le _), fun r hr' => ?_⟩
        have h3' := same_new (o := .lst []) hr' _ _ h3
        refine ⟨.list (sizes.map .int), .list [], .lst (SqL.of h3') (dpAll_ints _), .lst (SqL.of upd_same) .nil, shaped_ints _, by rfl, _, rfl, ?_⟩
        rw [eqv_nil]
        have s4 := s1.trans (s3.trans (same_new (o := .lst []) hr'))
        cases hs : sizes with
        | nil =>
          refine iteB0 rfl ((kB _ s4).1 ?_)
          rw [hs] at hz
          exact List.map_eq_nil_iff.mp hz
        | cons n ns =>
          rw [hs] at h3'
          refine iteB1 rfl ⟨_, rfl, D, n :: ns, rfl, SqL.of h3', Nat.succ_pos _, fun m hm hle => (kB _ s4).2 m ?_⟩
          rw [hz, hs]
          exact ⟨hm, hle⟩
    · rw [z] at hd
      cases hd
end
/-! ### the stream -/
/-- H without the stream's two lists -/
def hid2 (st cl : Addr) (H : Hp) : Hp := fun b => if b = st ∨ b = cl then none else H b
theorem hid2_ne {st cl b : Addr} {H : Hp} (h1 : b ≠ st) (h2 : b ≠ cl) : hid2 st cl H b = H b := if_neg fun z => z.elim h1 h2
theorem hid2_st {st cl : Addr} {H : Hp} : hid2 st cl H st = none := if_pos (.inl rfl)
theorem hid2_cl {st cl : Addr} {H : Hp} : hid2 st cl H cl = none := if_pos (.inr rfl)
theorem hid2_le (st cl : Addr) (H : Hp) : Same (hid2 st cl H) H := fun b o e => by
  by_cases h : b = st ∨ b = cl
  · rw [show hid2 st cl H b = none from if_pos h] at e; cases e
  · rw [show hid2 st cl H b = H b from if_neg h] at e; exact e
/-- all that isn't the stream's stands -/
def Stp (st cl : Addr) (H H' : Hp) : Prop := Same (hid2 st cl H) (hid2 st cl H')
theorem Stp.refl {st cl : Addr} {H : Hp} : Stp st cl H H := fun _ _ e => e
theorem Stp.trans {st cl : Addr} {H H1 H2 : Hp} (a : Stp st cl H H1) (b : Stp st cl H1 H2) : Stp st cl H H2 := fun c o e => b c o (a c o e)
theorem Stp.of {st cl : Addr} {H H' : Hp} (e : Same H H') : Stp st cl H H' := fun b o q => by
  have h1 : b ≠ st := fun z => by rw [z, hid2_st] at q; cases q
  have h2 : b ≠ cl := fun z => by rw [z, hid2_cl] at q; cases q
  rw [hid2_ne h1 h2] at q ⊢
  exact e _ _ q
theorem Stp.st {st cl : Addr} {H H' : Hp} {o : HO} (e : Stp st cl H H') : Stp st cl H (upd H' st o) := fun b u q => by
  have h1 : b ≠ st := fun z => by rw [z, hid2_st] at q; cases q
  have h2 : b ≠ cl := fun z => by rw [z, hid2_cl] at q; cases q
  have := e b u q
  rw [hid2_ne h1 h2] at this ⊢
  rw [upd_ne h1]
  exact this
theorem Stp.cl {st cl : Addr} {H H' : Hp} {o : HO} (e : Stp st cl H H') : Stp st cl H (upd H' cl o) := fun b u q => by
  have h1 : b ≠ st := fun z => by rw [z, hid2_st] at q; cases q
  have h2 : b ≠ cl := fun z => by rw [z, hid2_cl] at q; cases q
  have := e b u q
  rw [hid2_ne h1 h2] at this ⊢
  rw [upd_ne h2]
  exact this
/-- what stands aside of the stream stands behind, too -/
theorem Stp.at {st cl b : Addr} {H H' : Hp} {o : HO} (e : Stp st cl H H') (h1 : b ≠ st) (h2 : b ≠ cl) (q : H b = some o) : H' b = some o := by
  have := e b o (by rw [hid2_ne h1 h2]; exact q)
  rw [hid2_ne h1 h2] at this
  exact this
theorem Stp.free {st cl b : Addr} {H H' : Hp} (e : Stp st cl H H') (h1 : b ≠ st) (h2 : b ≠ cl) (q : H' b = none) : H b = none := by
  cases z : H b with
  | none => rfl
  | some o => rw [e.at h1 h2 z] at q; cases q
structure Strm (N : Nat) (st cl : Addr) (H : Hp) : Prop where
  ne : st ≠ cl
  at_ : ∃ (cs : List Int) (c n m : Int), H st = some (.lst [.ref cl, .int c, .int n, .int m]) ∧ H cl = some (.lst (cs.map V.int)) ∧ 0 ≤ n ∧ n ≤ N ∧ 0 ≤ m ∧ m < 2147483647
theorem Strm.same {N : Nat} {st cl : Addr} {H H' : Hp} (e : Same H H') (h : Strm N st cl H) : Strm N st cl H' := by
  obtain ⟨ne, cs, c, n, m, a, b, r⟩ := h
  exact ⟨ne, cs, c, n, m, e _ _ a, e _ _ b, r⟩
theorem Strm.mono {N M : Nat} {st cl : Addr} {H : Hp} (l : N ≤ M) (h : Strm N st cl H) : Strm M st cl H := by
  obtain ⟨ne, cs, c, n, m, a, b, r1, r2, r3⟩ := h
  exact ⟨ne, cs, c, n, m, a, b, r1, by omega, r3⟩
theorem Strm.fst {N : Nat} {st cl p : Addr} {H : Hp} (h : Strm N st cl H) (q : H p = none) : p ≠ st ∧ p ≠ cl := by
  obtain ⟨ne, cs, c, n, m, a, b, r⟩ := h
  exact ⟨(ne_of_none a q).symm, (ne_of_none b q).symm⟩
theorem hid2_new {N : Nat} {st cl p : Addr} {H : Hp} (h : Strm N st cl H) (q : H p = none) : hid2 st cl H p = none := by
  obtain ⟨a, b⟩ := h.fst q
  rw [hid2_ne a b]
  exact q
/-- a draw: any number below many -/
def spDraw : Sp := fun vs H Q _ => ∃ (st cl : Addr) (many : Int) (N : Nat), vs = [.ref st, .int many] ∧ Strm N st cl H ∧ N < 1099511627776 ∧ 0 < many ∧ many < 1073741824 ∧
  ∀ H' d, Stp st cl H H' → Strm (N + 1) st cl H' → 0 ≤ d → d < many → Q (.int d) H'
/-- while: Pv falls by its number, Rv stands at the end -/
theorem while_gen {c : TT} {tb : TS} {D : Ends} {σ : L2.St} {H : Hp} (Pv : Nat → L2.St → Hp → Prop) (Rv : L2.St → Hp → Prop) (h0 : ∃ m, Pv m σ H) (hd : ∀ σ H, Rv σ H → D.nx σ H)
    (hs : ∀ (X : L2.St → Hp → Prop), (∀ σ H, Rv σ H → X σ H) → ∀ m σ H, Pv m σ H → c σ H fun b H1 => if b = true then ∃ N : L2.St → Hp → Prop, (∀ σ' H', N σ' H' → ∃ m', m' < m ∧ Pv m' σ' H') ∧ tb { D with nx := N, ct := N, bk := X } σ H1 else X σ H1) :
    tWhile c tb D σ H := ⟨Pv, h0, fun m σ H p => hs D.nx hd m σ H p⟩
theorem ix0 (n : Nat) : seqIndex? 0 (n + 1) = some 0 := (ixN_seq (by
  unfold ixN
  rw [if_pos (Int.le_refl 0), if_pos (by omega)]
  rfl)).1
theorem pc1 : (0 : Int) < 2147483629 := by decide
theorem pc2 : (0 : Int) < 1000000007 := by decide
theorem pc3 : (0 : Int) < 2147483647 := by decide
theorem pow18 : ((10 : Int) ^ (18 : Int).toNat) = 1000000000000000000 := by decide
section
variable {P : Program} {w : World} {K : PySem.W.Frag} {mg : Str → Option Value} {base : Heap}
theorem cl_draw (T : Top K mg) : Cl P w K mg base CX0 1 "_law_draw" ["_law_stream", "_law_many"] spDraw := by
  refine Cl.of T.f_law_draw T.g_law_draw sc_law_draw (fun _ _ _ _ _ _ us hl => match us, hl with | [_, _], _ => rfl) (fun vs H Q E h => ?_) (fun cdv A outer s H vs Q E hr h => ?_)
  · obtain ⟨st, cl, many, N, rfl, _⟩ := h
    rfl
  · obtain ⟨st, cl, many, N, rfl, ⟨ne, cs, c, n, m, h1, h2, hn0, hn, hm0, hm⟩, hN, hp, hlt, k⟩ := h
    refine ⟨_, (pss_cons (ps_asg (pe_op op_add (pe_ix (ixl_K K) (pv 0) pe_int (fun _ _ => rfl)) pe_int) (pg_sub (pv 0) pe_int set_list))
    (pss_cons (ps_while PassesOwn.never (PW.pt (pw_and (pt_cmpR op_eq (pe_ix (ixl_K K) (pv 0) pe_int (fun _ _ => rfl)) pe_int (nomark _)) (pw_and1 (pt_cmpR (neD_K K hr.units) (pe_ix (ixl_K K) (pv 0) pe_int (fun _ _ => rfl)) (pe_lst pa_nil) (nomark _)))))
    (pss_cons (ps_set (i := 2) sc_law_draw.nd rfl (Or.inl rfl) (bm_K K PySem.F.plainAttrs_list PySem.F.slot_list_pop PySem.F.type_list_pop mt_popAt (pe_ix (ixl_K K) (pv 0) pe_int (fun _ _ => rfl)) (pa_cons pe_int pa_nil)))
    (pss_cons (ps_asg (pe_op op_mod (pe_callTy call_int1 (by rfl) T.z_int (by decide +kernel) (pa_cons (pe_op op_add (pe_op op_add (pe_op op_mul (pe_ix (ixl_K K) (pv 0) pe_int (fun _ _ => rfl)) pe_int) (pv 2)) pe_int) pa_nil)) pe_int) (pg_sub (pv 0) pe_int set_list))
    (pss_one (ps_asg (pe_ifExp (pt_cmpR op_ge (pv 2) (pe_op op_pow pe_int pe_int) (nomark _)) (pv 2) pe_int) (pg_sub (pv 0) pe_int set_list))))))
    (pss_cons (ps_if (pt_cmpR op_gt (pe_ix (ixl_K K) (pv 0) pe_int (fun _ _ => rfl)) pe_int (nomark _))
    (pss_cons (ps_set (i := 3) sc_law_draw.nd rfl (Or.inl rfl) (pe_op op_mod (pe_callTy call_int1 (by rfl) T.z_int (by decide +kernel) (pa_cons (pe_ix (ixl_K K) (pv 0) pe_int (fun _ _ => rfl)) pa_nil)) (pv 1)))
    (pss_cons (ps_asg (pe_op op_fdiv (pe_ix (ixl_K K) (pv 0) pe_int (fun _ _ => rfl)) (pv 1)) (pg_sub (pv 0) pe_int set_list))
    (pss_one (ps_ret (pv 3)))))
    pss_nil)
    (pss_cons (ps_set (i := 4) sc_law_draw.nd rfl (Or.inl rfl) (pe_op op_mod (pe_callTy call_int1 (by rfl) T.z_int (by decide +kernel) (pa_cons (pe_op op_pow (pe_op op_add (pe_op op_add (pe_ix (ixl_K K) (pv 0) pe_int (fun _ _ => rfl)) (pe_op op_mul pe_int (pe_ix (ixl_K K) (pv 0) pe_int (fun _ _ => rfl)))) pe_int) pe_int) pa_nil)) pe_int))
    (pss_one (ps_ret (pe_op op_mod (pe_op op_mod (pe_callTy call_int1 (by rfl) T.z_int (by decide +kernel) (pa_cons (pe_op op_pow (pe_op op_add (pe_op op_add (pe_op op_mul (pv 4) pe_int) (pe_op op_mul pe_int (pe_ix (ixl_K K) (pv 0) pe_int (fun _ _ => rfl)))) pe_int) pe_int) pa_nil)) pe_int) (pv 1)))))))), ?_⟩
    -- the counter
    refine ⟨_, rfl, st, _, 2, .int n, rfl, rfl, SqL.of h1, atI_nat (j := 2) rfl, n, 1, rfl, rfl, _, rfl, st, _, 2, 2, rfl, rfl, h1, rfl, ?_⟩
    have g1 : (upd H st (.lst [.ref cl, .int c, .int (n + 1), .int m])) st = some (.lst [.ref cl, .int c, .int (n + 1), .int m]) := upd_same
    have g2 : (upd H st (.lst [.ref cl, .int c, .int (n + 1), .int m])) cl = some (.lst (cs.map V.int)) := (upd_ne ne.symm).trans h2
    have g3 : Stp st cl H (upd H st (.lst [.ref cl, .int c, .int (n + 1), .int m])) := Stp.refl.st
    have hn1 : (n + 1 : Int) ≤ ((N + 1 : Nat) : Int) := by omega
    -- the cells
    refine (show tWhile _ _ _ _ _ from while_gen (fun l σ H2 => ∃ (cs : List Int) (c m : Int) (u : Option V), l = cs.length ∧ σ = [some (.ref st), some (.int many), u, none, none] ∧ Stp st cl H H2 ∧ H2 st = some (.lst [.ref cl, .int c, .int (n + 1), .int m]) ∧ H2 cl = some (.lst (cs.map V.int)) ∧ 0 ≤ m ∧ m < 2147483647)
      (fun σ H3 => ∃ (cs : List Int) (c m : Int) (u : Option V), σ = [some (.ref st), some (.int many), u, none, none] ∧ Stp st cl H H3 ∧ H3 st = some (.lst [.ref cl, .int c, .int (n + 1), .int m]) ∧ H3 cl = some (.lst (cs.map V.int)) ∧ 0 ≤ m ∧ m < 2147483647)
      ⟨_, cs, c, m, none, rfl, rfl, g3, g1, g2, hm0, hm⟩ ?_ ?_)
    all_goals clear h1 h2 g1 g2 g3 hm hm0
    · rintro σ H3 ⟨cs, c, m, u, rfl, s3, h1, h2, hm0, hm⟩
      refine ⟨_, rfl, st, _, 1, .int c, rfl, rfl, SqL.of h1, atI_nat (j := 1) rfl, c, 0, rfl, rfl, _, rfl, ?_⟩
      by_cases hc : 0 < c
      · refine iteB1 (dT hc) ⟨_, rfl, st, _, 1, .int c, rfl, rfl, SqL.of h1, atI_nat (j := 1) rfl, .inl ⟨c, rfl, _, rfl, c, many, rfl, rfl, hp, ?_⟩⟩
        refine ⟨_, rfl, st, _, 1, .int c, rfl, rfl, SqL.of h1, atI_nat (j := 1) rfl, _, rfl, c, many, rfl, rfl, ⟨hp, hlt⟩, _, rfl, st, _, 1, 1, rfl, rfl, h1, rfl, _, rfl, ?_⟩
        exact k _ _ s3.st ⟨ne, cs, c / many, n + 1, m, upd_same, (upd_ne ne.symm).trans h2, by omega, hn1, hm0, hm⟩ (Int.emod_nonneg _ (by omega)) (Int.emod_lt_of_pos _ hp)
      · refine iteB0 (dF hc) ?_
        refine ⟨_, rfl, st, _, 3, .int m, rfl, rfl, SqL.of h1, atI_nat (j := 3) rfl, _, rfl, st, _, 2, .int (n + 1), rfl, rfl, SqL.of h1, atI_nat (j := 2) rfl, 7919, n + 1, rfl, rfl, .inl ⟨by decide, by decide⟩, _, _, rfl, rfl, _, _, rfl, rfl, _, 5, rfl, rfl, ⟨by decide, by decide, by omega⟩, .inl ⟨_, rfl, _, _, rfl, rfl, pc1, ?_⟩⟩
        obtain ⟨z, hz⟩ : ∃ z, (m + 7919 * (n + 1) + 104729) ^ (5 : Int).toNat % 2147483629 = z := ⟨_, rfl⟩
        have z0 : 0 ≤ z := by rw [← hz]; exact Int.emod_nonneg _ (by decide)
        have z1 : z < 2147483629 := by rw [← hz]; exact Int.emod_lt_of_pos _ (by decide)
        refine ⟨_, rfl, z, 48271, congrArg V.int hz, rfl, .inl ⟨by omega, by omega⟩, _, rfl, st, _, 2, .int (n + 1), rfl, rfl, SqL.of h1, atI_nat (j := 2) rfl, 30011, n + 1, rfl, rfl, .inl ⟨by decide, by decide⟩, _, _, rfl, rfl, _, _, rfl, rfl, _, 3, rfl, rfl, ⟨by decide, by decide, by omega⟩, .inl ⟨_, rfl, _, _, rfl, rfl, pc2, _, rfl, _, _, rfl, rfl, hp, ?_⟩⟩
        exact k _ _ s3 ⟨ne, cs, c, n + 1, m, h1, h2, by omega, hn1, hm0, hm⟩ (Int.emod_nonneg _ (by omega)) (Int.emod_lt_of_pos _ hp)
    · rintro X hX l σ H2 ⟨cs, c, m, u, rfl, rfl, s2, h1, h2, hm0, hm⟩
      refine ⟨_, rfl, st, _, 1, .int c, rfl, rfl, SqL.of h1, atI_nat (j := 1) rfl, rfl, _, rfl, ?_⟩
      by_cases hc : c = 0
      · subst hc
        refine iteB1 (dT rfl) ⟨_, rfl, st, _, 0, .ref cl, rfl, rfl, SqL.of h1, atI_nat (j := 0) rfl, le_sl (Nat.zero_le _), fun r hr' => ?_⟩
        have e := same_new (o := .lst []) hr'
        refine ⟨.list (cs.map .int), .list [], .lst (SqL.of (e _ _ h2)) (dpAll_ints _), .lst (SqL.of upd_same) .nil, shaped_ints _, by rfl, _, rfl, ?_⟩
        rw [eqv_nil]
        cases cs with
        | nil => exact iteB0 rfl (hX _ _ ⟨[], 0, m, u, rfl, s2.trans (Stp.of e), e _ _ h1, e _ _ h2, hm0, hm⟩)
        | cons x cs =>
          refine iteB1 rfl ⟨fun σ' H' => ∃ l', l' < (x :: cs).length ∧ ∃ (cs : List Int) (c m : Int) (u : Option V), l' = cs.length ∧ σ' = [some (.ref st), some (.int many), u, none, none] ∧ Stp st cl H H' ∧ H' st = some (.lst [.ref cl, .int c, .int (n + 1), .int m]) ∧ H' cl = some (.lst (cs.map V.int)) ∧ 0 ≤ m ∧ m < 2147483647, fun σ' H' h => h, ?_⟩
          -- the cell
          refine ⟨_, rfl, st, _, 0, .ref cl, rfl, rfl, SqL.of (e _ _ h1), atI_nat (j := 0) rfl, .inl ⟨rfl, _, SqL.of (e _ _ h2)⟩, cl, _, 0, 0, _, rfl, rfl, e _ _ h2, by decide, by decide, ix0 _, rfl, ?_⟩
          have c1 : (upd (upd H2 r (.lst [])) cl (.lst (((x :: cs).map V.int).eraseIdx 0))) st = some (.lst [.ref cl, .int 0, .int (n + 1), .int m]) := (upd_ne ne).trans (e _ _ h1)
          -- the mixture
          refine ⟨_, rfl, st, _, 3, .int m, rfl, rfl, SqL.of c1, atI_nat (j := 3) rfl, m, 8191, rfl, rfl, .inl ⟨by omega, by omega⟩, _, rfl, _, _, rfl, rfl, _, _, rfl, rfl, .inl ⟨_, rfl, _, _, rfl, rfl, pc3, _, rfl, st, _, 3, 3, rfl, rfl, c1, rfl, ?_⟩⟩
          have q1 : 0 ≤ (m * 8191 + x + 3) % 2147483647 := Int.emod_nonneg _ (by decide)
          have q2 : (m * 8191 + x + 3) % 2147483647 < 2147483647 := Int.emod_lt_of_pos _ (by decide)
          have c2 : ∀ o, (upd (upd (upd H2 r (.lst [])) cl (.lst (((x :: cs).map V.int).eraseIdx 0))) st o) cl = some (.lst (cs.map V.int)) := fun o => (upd_ne ne.symm).trans upd_same
          have c3 : ∀ o, Stp st cl H (upd (upd (upd H2 r (.lst [])) cl (.lst (((x :: cs).map V.int).eraseIdx 0))) st o) := fun o => ((s2.trans (Stp.of e)).cl).st
          refine ⟨_, rfl, 10, 18, rfl, rfl, ⟨by decide, by decide, by decide⟩, x, _, rfl, rfl, _, rfl, ?_⟩
          by_cases hx : (10 : Int) ^ (18 : Int).toNat ≤ x
          · refine iteB1 (dT hx) ⟨_, rfl, _, rfl, st, _, 1, 1, rfl, rfl, upd_same, rfl, cs.length, Nat.lt_succ_self _, cs, x, _, some (.int x), rfl, rfl, (c3 _).st, upd_same, (upd_ne ne.symm).trans (c2 _), q1, q2⟩
          · refine iteB0 (dF hx) ⟨_, rfl, st, _, 1, 1, rfl, rfl, upd_same, rfl, cs.length, Nat.lt_succ_self _, cs, 0, _, some (.int x), rfl, rfl, (c3 _).st, upd_same, (upd_ne ne.symm).trans (c2 _), q1, q2⟩
      · exact iteB0 (dF fun z => hc (V.int.inj z)) (iteF (hX _ _ ⟨cs, c, m, u, rfl, s2, h1, h2, hm0, hm⟩))
end
/-! ### drawing from lists -/
theorem Stp.put {st cl p : Addr} {H H' : Hp} {o : HO} (e : Stp st cl H H') (h : hid2 st cl H p = none) : Stp st cl H (upd H' p o) := fun b u q => by
  have h1 : b ≠ st := fun z => by rw [z, hid2_st] at q; cases q
  have h2 : b ≠ cl := fun z => by rw [z, hid2_cl] at q; cases q
  have h3 : b ≠ p := fun z => by rw [z, h] at q; cases q
  have := e b u q
  rw [hid2_ne h1 h2] at this ⊢
  rw [upd_ne h3]
  exact this
theorem Strm.put {N : Nat} {st cl p : Addr} {H : Hp} {o : HO} (h : Strm N st cl H) (h1 : p ≠ st) (h2 : p ≠ cl) : Strm N st cl (upd H p o) := by
  obtain ⟨ne, cs, c, n, m, a, b, r⟩ := h
  exact ⟨ne, cs, c, n, m, (upd_ne h1.symm).trans a, (upd_ne h2.symm).trans b, r⟩
def spStart (K : PySem.W.Frag) : Sp := fun vs H Q _ => ∃ (a : Addr) (ns : List Int), vs = [.ref a] ∧ SqL K H a (ns.map V.int) ∧ ∀ H' st cl, Same H H' → H st = none → H cl = none → Strm 0 st cl H' → Q (.ref st) H'
def spPick (K : PySem.W.Frag) : Sp := fun vs H Q _ => ∃ (st cl a : Addr) (xs : List V) (N : Nat), vs = [.ref st, .ref a] ∧ Strm N st cl H ∧ N < 1099511627776 ∧ SqL K (hid2 st cl H) a xs ∧ 0 < xs.length ∧ xs.length ≤ 100000 ∧
  ∀ H' v, Stp st cl H H' → Strm (N + 1) st cl H' → v ∈ xs → Q v H'
def spMixed (K : PySem.W.Frag) : Sp := fun vs H Q _ => ∃ (st cl a : Addr) (xs : List V) (N : Nat), vs = [.ref st, .ref a] ∧ Strm N st cl H ∧ N < 1000000000 ∧ SqL K (hid2 st cl H) a xs ∧ xs.length ≤ 100000 ∧
  ∀ H' p ys, Stp st cl H H' → Strm (N + xs.length) st cl H' → H p = none → hid2 st cl H' p = some (.lst ys) → ys.Perm xs → Q (.ref p) H'
theorem SqL.le {K : PySem.W.Frag} {H : Hp} {st cl a : Addr} {xs : List V} (h : SqL K (hid2 st cl H) a xs) : SqL K H a xs := (hid2_le st cl H).seq h
section
variable {P : Program} {w : World} {K : PySem.W.Frag} {mg : Str → Option Value} {base : Heap}
theorem cl_start (T : Top K mg) : Cl P w K mg base CX0 1 "_law_start" ["_law_script"] (spStart K) := by
  refine Cl.of T.f_law_start T.g_law_start sc_law_start (fun _ _ _ _ _ _ us hl => match us, hl with | [_], _ => rfl) (fun vs H Q E h => ?_) (fun cdv A outer s H vs Q E hr h => ?_)
  · obtain ⟨a, ns, rfl, _⟩ := h
    rfl
  · obtain ⟨a, ns, rfl, hS, k⟩ := h
    refine ⟨_, (pss_one (ps_ret (pe_lst (pa_cons (pe_callTy (lof_K K) (by rfl) T.z_list (by decide +kernel) (pa_cons (pv 0) pa_nil)) (pa_cons pe_int (pa_cons pe_int (pa_cons pe_int pa_nil))))))), ?_⟩
    refine ⟨_, rfl, a, _, rfl, .inl hS, fun cl hcl => ⟨le_sl (by show 4 ≤ _; decide), fun st hst => ?_⟩⟩
    have e1 : Same H (upd H cl (.lst (ns.map V.int))) := same_new hcl
    have e2 := e1.trans (same_new (o := .lst [.ref cl, .int 0, .int 0, .int 11]) hst)
    have ne : st ≠ cl := (ne_of_none upd_same hst).symm
    exact k _ st cl e2 (e1.free hst) hcl ⟨ne, ns, 0, 0, 11, upd_same, (upd_ne ne.symm).trans upd_same, by decide, by decide, by decide, by decide⟩
theorem cl_pick (T : Top K mg) : Cl P w K mg base CX0 2 "_law_pick" ["_law_stream", "_law_some"] (spPick K) := by
  have C_law_draw := cl_draw (P := P) (w := w) (base := base) T
  refine Cl.of T.f_law_pick T.g_law_pick sc_law_pick (fun _ _ _ _ _ _ us hl => match us, hl with | [_, _], _ => rfl) (fun vs H Q E h => ?_) (fun cdv A outer s H vs Q E hr h => ?_)
  · obtain ⟨st, cl, a, xs, N, rfl, _⟩ := h
    rfl
  · obtain ⟨st, cl, a, xs, N, rfl, hs, hN, hS, h0, hl, k⟩ := h
    refine ⟨_, (pss_one (ps_ret (pe_ix (ixl_K K) (pv 1) (pe_k C_law_draw hr (by decide) pass0 (pa_cons (pv 0) (pa_cons (pe_callB (len_K K) (by rfl) T.z_len (by decide +kernel) (pa_cons (pv 1) pa_nil)) pa_nil))) (fun _ _ => rfl)))), ?_⟩
    refine ⟨_, rfl, _, rfl, _, rfl, a, xs, rfl, .inl (SqL.le hS), st, cl, _, N, rfl, hs, hN, by omega, by omega, fun H1 d e1 s1 d0 d1 => ?_⟩
    obtain ⟨j, rfl⟩ : ∃ j : Nat, d = (j : Nat) := ⟨d.toNat, (Int.toNat_of_nonneg d0).symm⟩
    have hj : j < xs.length := by omega
    exact ⟨a, xs, _, xs[j], rfl, rfl, (SqL.le (Same.seq e1 hS)), atI_nat (List.getElem?_eq_getElem hj), k _ _ e1 s1 (List.getElem_mem hj)⟩
theorem perm_erase {α : Type} {xs : List α} {k : Nat} {y : α} (h : xs[k]? = some y) : xs.Perm (y :: xs.eraseIdx k) := by
  induction xs generalizing k with
  | nil => cases h
  | cons x xs ih =>
    cases k with
    | zero =>
      obtain rfl : x = y := Option.some.inj h
      exact List.Perm.refl _
    | succ k =>
      have h : xs[k]? = some y := h
      exact ((ih h).cons x).trans (List.Perm.swap y x _)
theorem cl_mixed (T : Top K mg) : Cl P w K mg base CX0 2 "_law_mixed" ["_law_stream", "_law_some"] (spMixed K) := by
  have C_law_draw := cl_draw (P := P) (w := w) (base := base) T
  refine Cl.of T.f_law_mixed T.g_law_mixed sc_law_mixed (fun _ _ _ _ _ _ us hl => match us, hl with | [_, _], _ => rfl) (fun vs H Q E h => ?_) (fun cdv A outer s H vs Q E hr h => ?_)
  · obtain ⟨st, cl, a, xs, N, rfl, _⟩ := h
    rfl
  · obtain ⟨st, cl, a, xs, N, rfl, hs, hN, hS, hl, k⟩ := h
    refine ⟨_, (pss_cons (ps_set (i := 2) sc_law_mixed.nd rfl (Or.inr rfl) (pe_callTy (lof_K K) (by rfl) T.z_list (by decide +kernel) (pa_cons (pv 1) pa_nil)))
    (pss_one (ps_ret (pe_lc (own := [("_law_k", 3)]) (g := gName 3) (tt := tYes) rfl sc_law_mixed.nd (pi_range1 (by rfl) T.z_range (pa_cons (pe_callB (len_K K) (by rfl) T.z_len (by decide +kernel) (pa_cons (pv 2) pa_nil)) pa_nil)) (blkOk_by (own := [("_law_k", 3)]) (N := N_law_mixed) (sc := defScope s_law_mixed) (by decide +kernel)) (fun _ _ _ _ _ => (pg_name (i := 3) sc_law_mixed.nd rfl (Or.inl rfl))) (fun _ _ _ _ _ => pts_nil) (fun _ _ _ _ _ => (bm_K K PySem.F.plainAttrs_list PySem.F.slot_list_pop PySem.F.type_list_pop mt_popAt (pv 2) (pa_cons (pe_k C_law_draw hr (by decide) pass0 (pa_cons (pv 0) (pa_cons (pe_callB (len_K K) (by rfl) T.z_len (by decide +kernel) (pa_cons (pv 2) pa_nil)) pa_nil))) pa_nil))))))), ?_⟩
    refine ⟨_, rfl, a, xs, rfl, .inl (SqL.le hS), fun l hlf => ?_⟩
    have e1 : Same H (upd H l (.lst xs)) := same_new hlf
    obtain ⟨l1, l2⟩ := hs.fst hlf
    refine ⟨_, rfl, l, xs, rfl, .inl (SqL.of upd_same), _, rfl, by omega, by omega, fun D hDn => ?_⟩
    have s1 := hs.same e1
    obtain ⟨D1, D2⟩ := s1.fst hDn
    have lD : l ≠ D := ne_of_none upd_same hDn
    have hD0 : H D = none := e1.free hDn
    refine lc_range (lo := 0) (n := xs.length) (fun i H2 => Stp st cl H H2 ∧ Strm (N + i) st cl H2 ∧ ∃ acc rest, H2 l = some (.lst rest) ∧ H2 D = some (.lst acc) ∧ (acc ++ rest).Perm xs ∧ rest.length + i = xs.length)
      ⟨Stp.of (e1.trans (same_new hDn)), s1.same (same_new hDn), [], xs, same_new hDn _ _ upd_same, upd_same, List.Perm.refl _, rfl⟩ ?_ ?_
    · rintro i H2 hi ⟨t2, s2, acc, rest, h1, h2, pm, hlen⟩
      have hrl : 0 < rest.length := by omega
      refine ⟨rfl, _, rfl, .inl ⟨rfl, _, SqL.of h1⟩, _, rfl, _, rfl, l, rest, rfl, .inl (SqL.of h1), st, cl, _, N + i, rfl, s2, by omega, by omega, by omega, fun H3 d t3 s3 d0 d1 => ?_⟩
      obtain ⟨j, rfl⟩ : ∃ j : Nat, d = (j : Nat) := ⟨d.toNat, (Int.toNat_of_nonneg d0).symm⟩
      have hj : j < rest.length := by omega
      have g1 := t3.at l1 l2 h1
      have g2 := t3.at D1 D2 h2
      have ix : seqIndex? (j : Int) rest.length = some j := (ixN_seq (by
        unfold ixN
        rw [if_pos (by omega), if_pos (by omega)]
        rfl)).1
      refine ⟨l, rest, _, j, rest[j], rfl, rfl, g1, by omega, by omega, ix, List.getElem?_eq_getElem hj, ?_⟩
      have al : acc.length ≤ xs.length := by
        have := pm.length_eq
        rw [List.length_append] at this
        omega
      refine ⟨acc, (upd_ne lD.symm).trans g2, lt_sl (by omega), ((t2.trans t3).put (hid2_new hs hlf)).put (hid2_new hs hD0), ((s3.put l1 l2).put D1 D2), acc ++ [rest[j]], rest.eraseIdx j, ?_, upd_same, ?_, ?_⟩
      · exact (upd_ne lD).trans upd_same
      · refine List.Perm.trans ?_ pm
        rw [List.append_assoc]
        exact ((perm_erase (List.getElem?_eq_getElem hj)).symm).append_left acc
      · rw [List.length_eraseIdx_of_lt hj]
        omega
    · rintro H2 ⟨t2, s2, acc, rest, h1, h2, pm, hlen⟩
      have hr0 : rest = [] := List.length_eq_zero_iff.mp (by omega)
      rw [hr0, List.append_nil] at pm
      exact k H2 D acc t2 s2 hD0 (by rw [hid2_ne D1 D2]; exact h2) pm
end
/-- the names that are drawn from -/
def ten : List Str := ["b", "aa", "c1", "docs", "z9", "a", "m3", "abcdefghijk1", "no", "yes"]
theorem ten_ok : ∀ n ∈ ten, nameOk n = true := by decide +kernel
theorem ten_str : ∀ n ∈ ten, PyData.strOk n = true := by decide +kernel
theorem ten_nd : ten.Nodup := by decide +kernel
def unV : V → Str
  | .str s => s
  | _ => Str.empty
theorem unV_map (l : List Str) : (l.map V.str).map unV = l := by
  rw [List.map_map]
  exact List.map_id l
theorem perm_strs {ys : List V} {l : List Str} (h : ys.Perm (l.map V.str)) : ∃ ns : List Str, ys = ns.map V.str ∧ ns.Perm l := by
  refine ⟨ys.map unV, ?_, ?_⟩
  · rw [List.map_map]
    have : ∀ y ∈ ys, y = (V.str ∘ unV) y := fun y hy => by
      obtain ⟨s, _, rfl⟩ := List.mem_map.mp (h.mem_iff.mp hy)
      rfl
    exact (List.map_id ys).symm.trans (List.map_congr_left fun y hy => this y hy)
  · have q := h.map unV
    rw [unV_map] at q
    exact q
def spNames (K : PySem.W.Frag) : Sp := fun vs H Q _ => ∃ (st cl : Addr) (many : Int) (N : Nat), vs = [.ref st, .int many] ∧ Strm N st cl H ∧ N < 1000000 ∧ 0 ≤ many ∧ many ≤ 8 ∧
  ∀ (H' : Hp) (p : Addr) (ns : List Str), Stp st cl H H' → Strm (N + 10) st cl H' → H p = none → hid2 st cl H' p = some (.lst (ns.map V.str)) → ns.Nodup → (∀ n ∈ ns, n ∈ ten) → ns.length ≤ 8 → Q (.ref p) H'
def spOnce (K : PySem.W.Frag) : Sp := fun vs H Q _ => ∃ (a : Addr) (zs : List (V × (Str × Str))), vs = [.ref a] ∧ Lof H IsPair a zs ∧ (∀ z ∈ zs, z.2.1 ∈ ten ∧ z.2.2 ∈ ten) ∧ zs.length ≤ 1000 ∧
  ∀ (H' : Hp) (p : Addr) (ws : List (V × (Str × Str))), Same H H' → H p = none → Lof H' IsPair p ws → (ws.map (·.2)).Nodup → (∀ z ∈ ws, z ∈ zs) → ws.length ≤ zs.length → Q (.ref p) H'
theorem shaped_pair {p : Str × Str} (h1 : p.1 ∈ ten) (h2 : p.2 ∈ ten) : SeqAt.shaped (enP p) = true := by
  unfold SeqAt.shaped
  show (PyData.canLay0 (.tuple [.str p.1, .str p.2]) && _) = true
  rw [PyData.canLay0, PyData.canLayAll0, PyData.canLayAll0, PyData.canLayAll0, PyData.canLay0, PyData.canLay0, ten_str _ h1, ten_str _ h2, depthP]
  rfl
theorem lay_pairs : ∀ zs : List (V × (Str × Str)), (∀ z ∈ zs, z.2.1 ∈ ten ∧ z.2.2 ∈ ten) → PyData.canLayAll0 (zs.map fun z => enP z.2) = true
  | [], _ => by simp [PyData.canLayAll0]
  | z :: zs, h => by
    have h1 := h z List.mem_cons_self
    have ih := lay_pairs zs fun y hy => h y (List.mem_cons_of_mem _ hy)
    have s := SeqAt.canLay_of_shaped (shaped_pair h1.1 h1.2)
    show PyData.canLayAll0 (enP z.2 :: zs.map fun z => enP z.2) = true
    rw [PyData.canLayAll0, s, ih]
    rfl
theorem depth_pairs : ∀ zs : List (V × (Str × Str)), PyData.depthAll (zs.map fun z => enP z.2) ≤ 1
  | [] => by simp [PyData.depthAll]
  | z :: zs => by
    have ih := depth_pairs zs
    show PyData.depthAll (enP z.2 :: zs.map fun z => enP z.2) ≤ 1
    rw [PyData.depthAll, depthP]
    exact Nat.max_le.mpr ⟨Nat.le_refl _, ih⟩
theorem shaped_pairs {zs : List (V × (Str × Str))} (h : ∀ z ∈ zs, z.2.1 ∈ ten ∧ z.2.2 ∈ ten) : SeqAt.shaped (.list (zs.map fun z => enP z.2)) = true := by
  unfold SeqAt.shaped
  rw [PyData.canLay0, lay_pairs zs h, PyData.depth]
  have := depth_pairs zs
  exact decide_eq_true (by omega)
theorem dpAll_pairs {K : PySem.W.Frag} {H : Hp} : ∀ zs : List (V × (Str × Str)), (∀ z ∈ zs, IsPair H z.1 z.2) → DpAll K H (zs.map (·.1)) (zs.map fun z => enP z.2)
  | [], _ => .nil
  | z :: zs, h => .cons (dp_pair (h z List.mem_cons_self)) (dpAll_pairs zs fun y hy => h y (List.mem_cons_of_mem _ hy))
theorem eqv_pair (p q : Str × Str) : PyData.eqv (enP p) (enP q) = decide (p = q) := by
  rw [Bool.eq_iff_iff, decide_eq_true_iff]
  simp [PyData.eqv, PyData.eqvAll, Prod.ext_iff]
section
variable {P : Program} {w : World} {K : PySem.W.Frag} {mg : Str → Option Value} {base : Heap}
theorem cl_names (T : Top K mg) : Cl P w K mg base CX0 3 "_law_d_names" ["_law_stream", "_law_many"] (spNames K) := by
  have C_law_mixed := cl_mixed (P := P) (w := w) (base := base) T
  refine Cl.of T.f_law_d_names T.g_law_d_names sc_law_d_names (fun _ _ _ _ _ _ us hl => match us, hl with | [_, _], _ => rfl) (fun vs H Q E h => ?_) (fun cdv A outer s H vs Q E hr h => ?_)
  · obtain ⟨st, cl, many, N, rfl, _⟩ := h
    rfl
  · obtain ⟨st, cl, many, N, rfl, hs, hN, m0, m1, k⟩ := h
    refine ⟨_, (pss_cons (ps_set (i := 2) sc_law_d_names.nd rfl (Or.inl rfl) (pe_lst (pa_cons pe_str (pa_cons pe_str (pa_cons pe_str (pa_cons pe_str (pa_cons pe_str (pa_cons pe_str (pa_cons pe_str (pa_cons pe_str (pa_cons pe_str (pa_cons pe_str pa_nil))))))))))))
    (pss_one (ps_ret (pe_slice (sl_K K) (pe_k C_law_mixed hr (by decide) pass0 (pa_cons (pv 0) (pa_cons (pv 2) pa_nil))) po_none (po_some (pv 1)))))), ?_⟩
    refine ⟨le_sl (by show 10 ≤ _; decide), fun l hl => ?_⟩
    have e1 : Same H (upd H l (.lst (ten.map V.str))) := same_new hl
    obtain ⟨l1, l2⟩ := hs.fst hl
    refine ⟨_, rfl, _, rfl, st, cl, l, ten.map V.str, N, rfl, hs.same e1, by omega, SqL.of (by rw [hid2_ne l1 l2]; exact upd_same), by decide, fun H1 p ys t1 s1 hp h1 pm => ?_⟩
    obtain ⟨ns, rfl, pn⟩ := perm_strs pm
    have hp0 : H p = none := e1.free hp
    obtain ⟨p1, p2⟩ := hs.fst hp0
    obtain ⟨j, rfl⟩ : ∃ j : Nat, many = (j : Nat) := ⟨many.toNat, (Int.toNat_of_nonneg m0).symm⟩
    have nl : ns.length = 10 := pn.length_eq
    refine ⟨_, rfl, j, rfl, p, _, rfl, SqL.of ((hid2_le st cl H1) _ _ h1), fun q hq => ?_⟩
    rw [cutV_to (by rw [List.length_map]; omega), ← List.map_take]
    obtain ⟨q1, q2⟩ := s1.fst hq
    have hq0 : H q = none := ((Stp.of e1).trans t1).free q1 q2 hq
    refine k _ q (ns.take j) (((Stp.of e1).trans t1).trans (Stp.of (same_new hq))) (s1.same (same_new hq)) hq0 (by rw [hid2_ne q1 q2, upd_same]) ?_ (fun n hn => pn.mem_iff.mp (List.mem_of_mem_take hn)) ?_
    · exact (List.take_sublist _ _).nodup (pn.nodup_iff.mpr ten_nd)
    · rw [List.length_take]
      omega
theorem cl_once (T : Top K mg) : Cl P w K mg base CX0 1 "_law_each_once" ["_law_things"] (spOnce K) := by
  refine Cl.of T.f_law_each_once T.g_law_each_once sc_law_each_once (fun _ _ _ _ _ _ us hl => match us, hl with | [_], _ => rfl) (fun vs H Q E h => ?_) (fun cdv A outer s H vs Q E hr h => ?_)
  · obtain ⟨a, zs, rfl, _⟩ := h
    rfl
  · obtain ⟨a, zs, rfl, hZ, hT, hl, k⟩ := h
    refine ⟨_, (pss_cons (ps_set (i := 1) sc_law_each_once.nd rfl (Or.inl rfl) (pe_lst pa_nil))
    (pss_cons (ps_for PassesOwn.never rfl (pi_K K (pv 0)) (pg_name (i := 2) sc_law_each_once.nd rfl (Or.inl rfl))
    (pss_one (ps_if (pt_cmpR (op_notInD (hu65 hr)) (pv 2) (pv 1) rfl)
    (pss_one (ps_expr (bm_K K PySem.F.plainAttrs_list PySem.F.slot_list_append PySem.F.type_list_append mt_append (pv 1) (pa_cons (pv 2) pa_nil))))
    pss_nil)))
    (pss_one (ps_ret (pv 1))))), ?_⟩
    refine ⟨le_sl (Nat.zero_le _), fun p hp => ?_⟩
    have e1 : Same H (upd H p (.lst [])) := same_new hp
    refine ⟨_, rfl, a, rfl, ⟨_, SqL.of (e1 _ _ hZ.1)⟩, ?_⟩
    refine for_it walk_list (fun i σ H2 => Same H H2 ∧ (∃ ws, H2 p = some (.lst (ws.map (·.1))) ∧ (ws.map (·.2)).Nodup ∧ (∀ z ∈ ws, z ∈ zs) ∧ ws.length ≤ i) ∧ ∃ u, σ = [some (.ref a), some (.ref p), u])
      ⟨e1, ⟨[], upd_same, List.nodup_nil, (fun z h => nomatch h), Nat.le_refl _⟩, _, rfl⟩ (fun i σ H2 _ h => SqL.of (h.1 _ _ hZ.1)) ?_ ?_
    · rintro i v0 σ H2 H3 hi ⟨s2, ⟨ws, h2, nd, sub, wl⟩, u, rfl⟩ ⟨rfl, hv⟩
      obtain ⟨z, hz, rfl⟩ := get_map hv
      have hzm : z ∈ zs := List.mem_of_getElem? hz
      have hil := get_lt hz
      have pz := (hZ.2 z hzm).same s2
      have pw : ∀ y ∈ ws, IsPair H3 y.1 y.2 := fun y hy => (hZ.2 y (sub y hy)).same s2
      refine ⟨_, rfl, _, rfl, enP z.2, ws.map fun y => enP y.2, dp_pair pz, .lst (SqL.of h2) (dpAll_pairs ws pw), shaped_pair (hT z hzm).1 (hT z hzm).2, shaped_pairs fun y hy => hT y (sub y hy), _, rfl, ?_⟩
      have ea : ((ws.map fun y => enP y.2).any fun d => PyData.eqv d (enP z.2)) = decide (z.2 ∈ ws.map (·.2)) := by
        rw [Bool.eq_iff_iff, decide_eq_true_iff, List.any_map, List.any_eq_true, List.mem_map]
        constructor
        · rintro ⟨y, hy, q⟩
          have q : PyData.eqv (enP y.2) (enP z.2) = true := q
          rw [eqv_pair] at q
          exact ⟨y, hy, of_decide_eq_true q⟩
        · rintro ⟨y, hy, q⟩
          refine ⟨y, hy, ?_⟩
          show PyData.eqv (enP y.2) (enP z.2) = true
          rw [eqv_pair]
          exact decide_eq_true q
      rw [ea]
      by_cases hm : z.2 ∈ ws.map (·.2)
      · exact iteB0 (nT hm) ⟨s2, ⟨ws, h2, nd, sub, Nat.le_succ_of_le wl⟩, _, rfl⟩
      · refine iteB1 (nF hm) ⟨_, rfl, .inl ⟨rfl, _, SqL.of h2⟩, _, rfl, p, _, _, rfl, rfl, h2, by rw [List.length_map]; exact lt_sl (by omega), same_upd s2 hp, ⟨ws ++ [z], ?_, ?_, fun y hy => ?_, ?_⟩, _, rfl⟩
        · rw [upd_same, List.map_append]
          rfl
        · rw [List.map_append]
          exact List.nodup_append.mpr ⟨nd, by simp, fun x hx y hy e => hm (by
            have hy2 : y = z.2 := List.mem_singleton.mp hy
            rw [← hy2, ← e]
            exact hx)⟩
        · rcases List.mem_append.mp hy with hy | hy
          · exact sub y hy
          · rw [List.mem_singleton.mp hy]; exact hzm
        · rw [List.length_append]
          exact Nat.succ_le_succ wl
    · rintro σ H2 ⟨s2, ⟨ws, h2, nd, sub, wl⟩, u, rfl⟩
      rw [List.length_map] at wl
      exact ⟨_, rfl, k H2 p ws s2 hp ⟨h2, fun z hz => (hZ.2 z (sub z hz)).same s2⟩ nd sub wl⟩
end
/-- a step with one known end -/
theorem cut {t : TS} {D : Ends} {σ : L2.St} {H : Hp} (Rv : L2.St → Hp → Prop) (hd : ∀ σ H, Rv σ H → D.nx σ H) (hs : ∀ X : L2.St → Hp → Prop, (∀ σ H, Rv σ H → X σ H) → t { D with nx := X } σ H) : t D σ H := hs D.nx hd
theorem seq_cut {t u : TS} {D : Ends} {σ : L2.St} {H : Hp} (Rv : L2.St → Hp → Prop) (hd : ∀ σ H, Rv σ H → u D σ H) (hs : ∀ X : L2.St → Hp → Prop, (∀ σ H, Rv σ H → X σ H) → t { D with nx := X } σ H) : tSeq t u D σ H := hs (u D) hd
theorem hid2_upd {st cl p : Addr} {H : Hp} {o : HO} (h1 : p ≠ st) (h2 : p ≠ cl) : hid2 st cl (upd H p o) = upd (hid2 st cl H) p o := by
  funext b
  by_cases e : b = p
  · subst e
    rw [hid2_ne h1 h2, upd_same, upd_same]
  · rw [upd_ne e]
    unfold hid2
    by_cases z : b = st ∨ b = cl
    · rw [if_pos z, if_pos z]
    · rw [if_neg z, if_neg z, upd_ne e]
/-- at f: a list of pairs of these names -/
def Fd (ns : List Str) (H : Hp) (f : Addr) (zs : List (V × (Str × Str))) : Prop := H f = some (.lst (zs.map (·.1))) ∧ ∀ z ∈ zs, IsPair H z.1 z.2 ∧ z.2.1 ∈ ns ∧ z.2.2 ∈ ns
theorem Fd.same {ns : List Str} {H H' : Hp} {f : Addr} {zs : List (V × (Str × Str))} (e : Same H H') (h : Fd ns H f zs) : Fd ns H' f zs := ⟨e _ _ h.1, fun z hz => ⟨(h.2 z hz).1.same e, (h.2 z hz).2⟩⟩
/-- one more -/
theorem Fd.more {ns : List Str} {H : Hp} {f t : Addr} {zs : List (V × (Str × Str))} {a b : Str} (h : Fd ns H f zs) (ht : H t = some (.tup [.str a, .str b])) (ha : a ∈ ns) (hb : b ∈ ns) :
    Fd ns (upd H f (.lst (zs.map (·.1) ++ [.ref t]))) f (zs ++ [(.ref t, (a, b))]) := by
  refine ⟨by rw [upd_same, List.map_append]; rfl, fun z hz => ?_⟩
  rcases List.mem_append.mp hz with hz | hz
  · obtain ⟨⟨u, e1, e2⟩, q⟩ := h.2 z hz
    exact ⟨⟨u, e1, (upd_ne (ne_of e2 h.1 (by intro z; cases z))).trans e2⟩, q⟩
  · rw [List.mem_singleton.mp hz]
    exact ⟨⟨t, rfl, (upd_ne (ne_of ht h.1 (by intro z; cases z))).trans ht⟩, ha, hb⟩
theorem perm_lift {α β : Type} {f : α → β} {ys zs : List β} (h : zs.Perm ys) : ∀ {ws : List α}, zs = ws.map f → ∃ xs : List α, xs.Perm ws ∧ ys = xs.map f := by
  induction h with
  | nil => exact fun {ws} e => ⟨ws, List.Perm.refl _, e⟩
  | cons x h ih =>
    intro ws e
    cases ws with
    | nil => cases e
    | cons w ws =>
      obtain ⟨xs, p, e2⟩ := ih (List.cons.inj e).2
      exact ⟨w :: xs, p.cons w, by rw [List.map_cons, ← e2, (List.cons.inj e).1]⟩
  | swap x y l =>
    intro ws e
    match ws, e with
    | w1 :: w2 :: ws, e =>
      obtain ⟨e1, e⟩ := List.cons.inj e
      obtain ⟨e2, e3⟩ := List.cons.inj e
      exact ⟨w2 :: w1 :: ws, List.Perm.swap _ _ _, by rw [List.map_cons, List.map_cons, ← e3, ← e1, ← e2]⟩
  | trans h1 h2 ih1 ih2 =>
    intro ws e
    obtain ⟨xs, p, e2⟩ := ih1 e
    obtain ⟨xs2, p2, e3⟩ := ih2 e2
    exact ⟨xs2, p2.trans p, e3⟩
theorem Fd.nil {ns : List Str} {H : Hp} {f : Addr} {zs : List (V × (Str × Str))} (h : Fd ns H f zs) : Fd ns H f (zs ++ []) := by
  rw [List.append_nil]
  exact h
theorem Fd.put0 {ns : List Str} {H : Hp} {f : Addr} {zs : List (V × (Str × Str))} {l : List V} (h : Fd ns H f zs) (e : l = zs.map (·.1)) : Fd ns (upd H f (.lst l)) f zs := by
  refine ⟨by rw [upd_same, e], fun z hz => ?_⟩
  obtain ⟨⟨u, e1, e2⟩, q⟩ := h.2 z hz
  exact ⟨⟨u, e1, (upd_ne (ne_of e2 h.1 (by intro z; cases z))).trans e2⟩, q⟩
theorem IsPair.hid {N : Nat} {st cl : Addr} {H : Hp} {v : V} {p : Str × Str} (s : Strm N st cl H) (h : IsPair H v p) : IsPair (hid2 st cl H) v p := by
  obtain ⟨t, e1, e2⟩ := h
  obtain ⟨ne, cs, c, n, m, a, b, _⟩ := s
  exact ⟨t, e1, by rw [hid2_ne (ne_of e2 a (by intro z; cases z)) (ne_of e2 b (by intro z; cases z))]; exact e2⟩
theorem Fd.hid {N : Nat} {st cl : Addr} {ns : List Str} {H : Hp} {f : Addr} {zs : List (V × (Str × Str))} (h : Fd ns H f zs) (s : Strm N st cl H) (h1 : f ≠ st) (h2 : f ≠ cl) : Fd ns (hid2 st cl H) f zs :=
  ⟨by rw [hid2_ne h1 h2]; exact h.1, fun z hz => ⟨(h.2 z hz).1.hid s, (h.2 z hz).2⟩⟩
def spPairs (K : PySem.W.Frag) : Sp := fun vs H Q _ => ∃ (st cl a : Addr) (ns : List Str) (N : Nat), vs = [.ref st, .ref a] ∧ Strm N st cl H ∧ N < 1000000 ∧ hid2 st cl H a = some (.lst (ns.map V.str)) ∧ (∀ n ∈ ns, n ∈ ten) ∧ ns.length ≤ 8 ∧
  ∀ (H' : Hp) (p : Addr) (zs : List (V × (Str × Str))), Stp st cl H H' → Strm (N + 1000) st cl H' → H p = none → Lof (hid2 st cl H') IsPair p zs → (zs.map (·.2)).Nodup → (∀ z ∈ zs, z.2.1 ∈ ns ∧ z.2.2 ∈ ns) → zs.length ≤ 200 → Q (.ref p) H'
section
variable {P : Program} {w : World} {K : PySem.W.Frag} {mg : Str → Option Value} {base : Heap}
theorem cl_pairs (T : Top K mg) : Cl P w K mg base CX0 3 "_law_d_pairs" ["_law_stream", "_law_names"] (spPairs K) := by
  have C_law_draw := cl_draw (P := P) (w := w) (base := base) T
  have C_law_pick := cl_pick (P := P) (w := w) (base := base) T
  have C_law_mixed := cl_mixed (P := P) (w := w) (base := base) T
  have C_law_each_once := cl_once (P := P) (w := w) (base := base) T
  refine Cl.of T.f_law_d_pairs T.g_law_d_pairs sc_law_d_pairs (fun _ _ _ _ _ _ us hl => match us, hl with | [_, _], _ => rfl) (fun vs H Q E h => ?_) (fun cdv A outer s H vs Q E hr h => ?_)
  · obtain ⟨st, cl, a, ns, N, rfl, _⟩ := h
    rfl
  · obtain ⟨st, cl, a, ns, N, rfl, hs, hN, hA, hT, hl, k⟩ := h
    refine ⟨_, (pss_cons (ps_asg (pe_tup (pa_cons (pe_k C_law_draw hr (by decide) pass0 (pa_cons (pv 0) (pa_cons pe_int pa_nil))) (pa_cons (pe_callB (len_K K) (by rfl) T.z_len (by decide +kernel) (pa_cons (pv 1) pa_nil)) (pa_cons (pe_lst pa_nil) pa_nil)))) (pgt_K K rfl (pgs_cons (pg_name (i := 2) sc_law_d_pairs.nd rfl (Or.inl rfl)) (pgs_cons (pg_name (i := 3) sc_law_d_pairs.nd rfl (Or.inr rfl)) (pgs_cons (pg_name (i := 4) sc_law_d_pairs.nd rfl (Or.inl rfl)) pgs_nil)))))
    (pss_cons (ps_if (PW.pt (pw_and (pt_cmpR op_eq (pv 2) pe_int (nomark _)) (pw_and1 (pt_cmpR op_gt (pv 3) pe_int (nomark _)))))
    (pss_one (ps_setLc (i := 4) (own := [("_law_k", 5)]) (g := gName 5) (tt := tYes) rfl sc_law_d_pairs.nd rfl rfl (sw_true rfl rfl rfl (by decide +kernel)) (pi_range1 (by rfl) T.z_range (pa_cons (pe_op op_sub (pv 3) (pe_k C_law_draw hr (by decide) pass0 (pa_cons (pv 0) (pa_cons pe_int pa_nil)))) pa_nil)) (blkOk_by (own := [("_law_k", 5)]) (N := N_law_d_pairs) (sc := defScope s_law_d_pairs) (by decide +kernel)) (fun _ _ _ _ _ => (pg_name (i := 5) sc_law_d_pairs.nd rfl (Or.inl rfl))) (fun _ _ _ _ _ => pts_nil) (fun _ _ _ _ _ => (pe_tup (pa_cons (pe_ix (ixl_K K) (pv 1) (pv 5) (fun _ _ => rfl)) (pa_cons (pe_ix (ixl_K K) (pv 1) (pe_op op_mod (pe_callTy call_int1 (by rfl) T.z_int (by decide +kernel) (pa_cons (pe_op op_add (pv 5) pe_int) pa_nil)) (pv 3)) (fun _ _ => rfl)) pa_nil))))))
    pss_nil)
    (pss_cons (ps_for PassesOwn.never rfl (pi_range1 (by rfl) T.z_range (pa_cons (pe_ifExp (pt_cmpR op_gt (pv 3) pe_int (nomark _)) (pe_k C_law_draw hr (by decide) pass0 (pa_cons (pv 0) (pa_cons (pe_ix (ixl_K K) (pe_lst (pa_cons pe_int (pa_cons (pe_op op_add (pe_op op_mul (pv 3) (pv 3)) pe_int) (pa_cons (pe_op op_add (pv 3) pe_int) (pa_cons (pe_op op_add (pe_op op_mul pe_int (pv 3)) pe_int) (pa_cons (pe_op op_add (pv 3) pe_int) pa_nil)))))) (pv 2) (fun _ _ => rfl)) pa_nil))) pe_int) pa_nil)) (pg_name (i := 5) sc_law_d_pairs.nd rfl (Or.inl rfl))
    (pss_cons (ps_par (i := 6) (j := 7) rfl sc_law_d_pairs.nd rfl rfl (by decide) rfl rfl (pa_cons (pe_k C_law_pick hr (by decide) pass0 (pa_cons (pv 0) (pa_cons (pv 1) pa_nil))) (pa_cons (pe_k C_law_pick hr (by decide) pass0 (pa_cons (pv 0) (pa_cons (pv 1) pa_nil))) pa_nil)) rfl)
    (pss_cons (ps_expr (bm_K K PySem.F.plainAttrs_list PySem.F.slot_list_append PySem.F.type_list_append mt_append (pv 4) (pa_cons (pe_tup (pa_cons (pv 6) (pa_cons (pv 7) pa_nil))) pa_nil)))
    (pss_one (ps_expr (bm_K K PySem.F.plainAttrs_list PySem.F.slot_list_extend PySem.F.type_list_extend mt_extend (pv 4) (pa_cons (pe_op op_rep (pe_lst (pa_cons (pe_tup (pa_cons (pv 7) (pa_cons (pv 6) pa_nil))) pa_nil)) (pe_callTy call_int1 (by rfl) T.z_int (by decide +kernel) (pa_cons (pe_cmpR op_eq (pv 2) pe_int (nomark _)) pa_nil))) pa_nil)))))))
    (pss_one (ps_ret (pe_k C_law_mixed hr (by decide) pass0 (pa_cons (pv 0) (pa_cons (pe_k C_law_each_once hr (by decide) pass0 (pa_cons (pv 4) pa_nil)) pa_nil)))))))), ?_⟩
    have up : ∀ {H' : Hp}, Stp st cl H H' → hid2 st cl H' a = some (.lst (ns.map V.str)) := fun e => e _ _ hA
    -- way, many, found
    refine ⟨_, rfl, st, cl, 5, N, rfl, hs, by omega, by decide, by decide, fun H1 way t1 s1 w0 w1 => ?_⟩
    refine ⟨_, rfl, a, ns.map V.str, rfl, .inl (SqL.of (hid2_le st cl H1 _ _ (up t1))), le_sl (Nat.zero_le _), fun f hf => ?_⟩
    refine ⟨le_sl (by show 3 ≤ _; decide), fun t ht => ?_⟩
    rw [List.length_map]
    have e2 : Same H1 (upd (upd H1 f (.lst [])) t (.tup [.int way, .int ((ns.length : Nat) : Int), .ref f])) := (same_new hf).trans (same_new ht)
    obtain ⟨f1, f2⟩ := s1.fst hf
    have ff : Fd ns (hid2 st cl (upd (upd H1 f (.lst [])) t (.tup [.int way, .int ((ns.length : Nat) : Int), .ref f]))) f [] :=
      ⟨by rw [hid2_ne f1 f2]; exact same_new ht _ _ upd_same, fun z hz => nomatch hz⟩
    have hf0 : hid2 st cl H f = none := by rw [hid2_ne f1 f2]; exact t1.free f1 f2 hf
    refine ⟨t, _, rfl, SqT.of upd_same, rfl, _, _, rfl, _, _, rfl, _, _, rfl, rfl, ?_⟩
    -- a ring
    dsimp only
    refine (seq_cut (fun σ H2 => ∃ (f : Addr) (zs : List (V × (Str × Str))) (u : Option V), σ = [some (.ref st), some (.ref a), some (.int way), some (.int ((ns.length : Nat) : Int)), some (.ref f), u, none, none] ∧ Stp st cl H H2 ∧ Strm (N + 2) st cl H2 ∧ hid2 st cl H f = none ∧ f ≠ st ∧ f ≠ cl ∧ Fd ns (hid2 st cl H2) f zs ∧ zs.length ≤ 8) ?_ ?_)
    · rintro σ H2 ⟨f, zs, u, rfl, t2, s2, hf0, f1, f2, ff, zl⟩
      -- the walk
      refine (seq_cut (fun σ H3 => ∃ (zs : List (V × (Str × Str))) (u v w : Option V), σ = [some (.ref st), some (.ref a), some (.int way), some (.int ((ns.length : Nat) : Int)), some (.ref f), u, v, w] ∧ Stp st cl H H3 ∧ Strm (N + 200) st cl H3 ∧ Fd ns (hid2 st cl H3) f zs ∧ zs.length ≤ 140) ?_ ?_)
      · rintro σ H3 ⟨zs, u, v, w, rfl, t3, s3, ff, zl⟩
        have fH := ff.same (hid2_le st cl H3)
        refine ⟨_, rfl, _, rfl, f, zs, rfl, ⟨fH.1, fun z hz => (fH.2 z hz).1⟩, fun z hz => ⟨hT _ (fH.2 z hz).2.1, hT _ (fH.2 z hz).2.2⟩, by omega, fun H4 p ws e4 hp l4 nd sub wl => ?_⟩
        have s4 := s3.same e4
        obtain ⟨p1, p2⟩ := s3.fst hp
        refine ⟨st, cl, p, ws.map (·.1), N + 200, rfl, s4, by omega, SqL.of (by rw [hid2_ne p1 p2]; exact l4.1), by rw [List.length_map]; omega, fun H5 q ys t5 s5 hq h5 pm => ?_⟩
        obtain ⟨zs', pz, rfl⟩ := perm_lift pm.symm rfl
        obtain ⟨q1, q2⟩ := s4.fst hq
        have t35 := (Stp.of e4).trans t5
        have hqH : H q = none := (t3.trans (Stp.of e4)).free q1 q2 hq
        refine k H5 q zs' (t3.trans t35) (s5.mono (by rw [List.length_map]; omega)) hqH ⟨h5, fun z hz => ?_⟩ ((pz.map (·.2)).nodup_iff.mpr nd) (fun z hz => (fH.2 z (sub z (pz.mem_iff.mp hz))).2) (by rw [pz.length_eq]; omega)
        exact ((ff.2 z (sub z (pz.mem_iff.mp hz))).1).same t35
      · intro X hX
        by_cases hn : 0 < ns.length
        · refine ⟨_, rfl, _, _, rfl, rfl, _, rfl, iteB1 (dT (by omega)) ?_⟩
          refine ⟨_, rfl, ?_⟩
          have n8 : ns.length * ns.length ≤ 8 * 8 := Nat.mul_le_mul hl hl
          have n8' : ((ns.length : Nat) : Int) * (ns.length : Nat) ≤ 64 := by exact_mod_cast n8
          have n0 : 0 ≤ ((ns.length : Nat) : Int) * (ns.length : Nat) := by exact_mod_cast Nat.zero_le _
          refine ⟨_, rfl, _, rfl, _, _, rfl, rfl, .inl ⟨by omega, by omega⟩, _, _, rfl, rfl, _, rfl, _, _, rfl, rfl, _, rfl, _, _, rfl, rfl, .inl ⟨by decide, by decide⟩, _, _, rfl, rfl, _, rfl, _, _, rfl, rfl, le_sl (by show 5 ≤ _; decide), fun q hq => ?_⟩
          have hc : ∃ c : Int, atI [V.int 2, V.int (((ns.length : Nat) : Int) * (ns.length : Nat) + 1), V.int (((ns.length : Nat) : Int) + 2), V.int (2 * ((ns.length : Nat) : Int) + 1), V.int (((ns.length : Nat) : Int) + 1)] way = some (.int c) ∧ 1 ≤ c ∧ c ≤ 65 := by
            have : way = (0 : Nat) ∨ way = (1 : Nat) ∨ way = (2 : Nat) ∨ way = (3 : Nat) ∨ way = (4 : Nat) := by omega
            rcases this with e | e | e | e | e <;> rw [e]
            · exact ⟨_, atI_nat (j := 0) rfl, by omega, by omega⟩
            · exact ⟨_, atI_nat (j := 1) rfl, by omega, by omega⟩
            · exact ⟨_, atI_nat (j := 2) rfl, by omega, by omega⟩
            · exact ⟨_, atI_nat (j := 3) rfl, by omega, by omega⟩
            · exact ⟨_, atI_nat (j := 4) rfl, by omega, by omega⟩
          obtain ⟨c, hc, c1, c2⟩ := hc
          have eq : Same H2 (upd H2 q (.lst [V.int 2, V.int (((ns.length : Nat) : Int) * (ns.length : Nat) + 1), V.int (((ns.length : Nat) : Int) + 2), V.int (2 * ((ns.length : Nat) : Int) + 1), V.int (((ns.length : Nat) : Int) + 1)])) := same_new hq
          refine ⟨_, rfl, q, _, way, .int c, rfl, rfl, SqL.of upd_same, hc, st, cl, c, N + 2, rfl, s2.same eq, by omega, by omega, by omega, fun H3 d t3 s3 d0 d1 => ?_⟩
          refine ⟨_, rfl, by omega, by omega, ?_⟩
          have t23 := (Stp.of eq).trans t3
          refine for_range (lo := 0) (n := d.toNat) (fun i σ H4 => ∃ (zs : List (V × (Str × Str))) (u v w : Option V), σ = [some (.ref st), some (.ref a), some (.int way), some (.int ((ns.length : Nat) : Int)), some (.ref f), u, v, w] ∧ Stp st cl H H4 ∧ Strm (N + 3 + 2 * i) st cl H4 ∧ Fd ns (hid2 st cl H4) f zs ∧ zs.length ≤ 8 + 2 * i)
            ⟨zs, _, _, _, rfl, t2.trans t23, s3, ff.same t23, by omega⟩ ?_ ?_
          · rintro i σ H4 hi ⟨zs, u, v, w, rfl, t4, s4, ff, zl⟩
            -- one, other
            have ha4 := up t4
            refine ⟨_, rfl, _, rfl, st, cl, a, ns.map V.str, _, rfl, s4, by omega, SqL.of ha4, by rw [List.length_map]; omega, by rw [List.length_map]; omega, fun H5 v1 t5 s5 m1 => ?_⟩
            refine ⟨_, rfl, _, rfl, st, cl, a, ns.map V.str, _, rfl, s5, by omega, SqL.of (up (t4.trans t5)), by rw [List.length_map]; omega, by rw [List.length_map]; omega, fun H6 v2 t6 s6 m2 => ?_⟩
            obtain ⟨x, hx, rfl⟩ := List.mem_map.mp m1
            obtain ⟨y, hy, rfl⟩ := List.mem_map.mp m2
            refine ⟨_, _, rfl, ?_⟩
            have t46 := t5.trans t6
            have f6 := ff.same t46
            have fH := f6.same (hid2_le st cl H6)
            -- append
            refine ⟨_, rfl, .inl ⟨rfl, _, SqL.of fH.1⟩, _, rfl, _, rfl, le_sl (by show 2 ≤ _; decide), fun r hr' => ?_⟩
            have e7 := same_new (o := .tup [.str x, .str y]) hr'
            obtain ⟨r1, r2⟩ := s6.fst hr'
            refine ⟨f, _, _, rfl, rfl, e7 _ _ fH.1, by rw [List.length_map]; exact lt_sl (by omega), ?_⟩
            have g1 : Fd ns (upd H6 r (.tup [.str x, .str y])) f zs := fH.same e7
            have g2 := g1.more upd_same hx hy
            have t7 := (t4.trans (t46.trans (Stp.of e7))).put (o := .lst (zs.map (·.1) ++ [.ref r])) hf0
            have s7 := (s6.same e7).put (o := .lst (zs.map (·.1) ++ [.ref r])) f1 f2
            obtain ⟨b, hb⟩ : ∃ b, decide (V.int way = V.int 3) = b := ⟨_, rfl⟩
            have hk : (0 : Int) ≤ (if b = true then 1 else 0) ∧ (if b = true then 1 else 0 : Int) ≤ 1 := by cases b <;> decide
            -- extend
            refine ⟨_, rfl, .inl ⟨rfl, _, SqL.of upd_same⟩, _, rfl, _, rfl, le_sl (by show 2 ≤ _; decide), fun r2 hr2 => ⟨le_sl (by show 1 ≤ _; decide), fun q2 hq2 => ⟨_, rfl, rfl, .inr ⟨b, congrArg (fun v => [V.bl v]) hb, q2, _, _, rfl, rfl, upd_same, by omega, by omega, ?_, fun z hz => ?_⟩⟩⟩⟩
            · show 1 * _ ≤ _
              cases b <;> exact le_sl (by decide)
            · have e8 := ((same_new (o := .tup [.str y, .str x]) hr2).trans (same_new (o := .lst [.ref r2]) hq2)).trans (same_new (o := .lst (List.replicate (if b = true then 1 else 0 : Int).toNat [V.ref r2]).flatten) hz)
              have h8 := e8 _ _ g2.1
              refine ⟨f, z, _, _, rfl, rfl, h8, upd_same, le_sl ?_, ?_⟩
              · rw [List.length_map, List.length_append]
                cases b <;> simp <;> omega
              · have g8 := g2.same e8
                have s8 := s7.same e8
                have t8 := (t7.trans (Stp.of e8))
                have l9 : (zs ++ [((.ref r : V), (x, y))]).length = zs.length + 1 := by rw [List.length_append]; rfl
                have hL : (List.replicate (if b = true then 1 else 0 : Int).toNat [V.ref r2]).flatten = if b = true then [V.ref r2] else [] := by cases b <;> rfl
                have r8 : ∀ o, (upd (upd (upd (upd (upd H6 r (.tup [.str x, .str y])) f (.lst (zs.map (·.1) ++ [.ref r]))) r2 (.tup [.str y, .str x])) q2 (.lst [.ref r2])) z o) r2 = some (.tup [.str y, .str x]) := fun o =>
                  (upd_ne (ne_of_none (same_new hq2 _ _ upd_same) hz)).trans (same_new hq2 _ _ upd_same)
                refine ⟨zs ++ [(.ref r, (x, y))] ++ (if b = true then [(.ref r2, (y, x))] else []), _, _, _, rfl, t8.put hf0, (s8.put f1 f2).mono (by omega), Fd.hid ?_ (s8.put f1 f2) f1 f2, ?_⟩
                · rw [hL]
                  rw [hL] at g8
                  cases b with
                  | false => exact (g8.put0 (l := (zs ++ [(V.ref r, (x, y))]).map (·.1) ++ []) (List.append_nil _)).nil
                  | true => exact g8.more (r8 _) hy hx
                · cases b with
                  | false => rw [List.length_append, l9]; show zs.length + 1 + 0 ≤ _; omega
                  | true => rw [List.length_append, l9]; show zs.length + 1 + 1 ≤ _; omega
          · rintro σ H4 ⟨zs, u, v, w, rfl, t4, s4, ff, zl⟩
            exact hX _ _ ⟨zs, u, v, w, rfl, t4, s4.mono (by omega), ff, by omega⟩
        · refine ⟨_, rfl, _, _, rfl, rfl, _, rfl, iteB0 (dF (by omega)) ?_⟩
          refine ⟨_, rfl, by decide, by decide, for_range (lo := 0) (n := 0) (fun i σ H3 => i = 0 ∧ H3 = H2 ∧ σ = [some (.ref st), some (.ref a), some (.int way), some (.int ((ns.length : Nat) : Int)), some (.ref f), u, none, none]) ⟨rfl, rfl, rfl⟩ (fun i σ H3 hi => absurd hi (Nat.not_lt_zero _)) ?_⟩
          rintro σ H3 ⟨_, rfl, rfl⟩
          exact hX _ _ ⟨zs, u, none, none, rfl, t2, s2.mono (by omega), ff, by omega⟩
    · intro X hX
      refine ⟨_, rfl, rfl, _, rfl, ?_⟩
      by_cases hw : way = 0
      · refine iteB1 (dT (congrArg V.int hw)) ⟨_, rfl, _, _, rfl, rfl, _, rfl, ?_⟩
        by_cases hn : 0 < ns.length
        · refine iteB1 (dT (by omega)) ?_
          refine ⟨_, rfl, _, rfl, st, cl, 2, N + 1, rfl, s1.same e2, by omega, by decide, by decide, fun H3 d t3 s3 d0 d1 => ?_⟩
          refine ⟨_, _, rfl, rfl, _, rfl, by omega, by omega, fun D hDn => ?_⟩
          obtain ⟨D1, D2⟩ := s3.fst hDn
          have tt := t1.trans ((Stp.of e2).trans t3)
          have hA3 := hid2_le st cl H3 _ _ (up tt)
          refine lc_range (lo := 0) (n := (((ns.length : Nat) : Int) - d).toNat) (fun i H4 => Same H3 H4 ∧ ∃ zs, Fd ns H4 D zs ∧ zs.length = i) ⟨same_new hDn, [], ⟨upd_same, fun z hz => nomatch hz⟩, rfl⟩ ?_ ?_
          · rintro i H4 hi ⟨e4, zs, ff, zl⟩
            have hi2 : i < ns.length := by omega
            have hA4 := e4 _ _ hA3
            obtain ⟨j, hj⟩ : ∃ j : Nat, ((0 : Int) + (i : Nat) + 1) % ((ns.length : Nat) : Int) = (j : Nat) := ⟨_, (Int.toNat_of_nonneg (Int.emod_nonneg _ (by omega))).symm⟩
            have hj2 : j < ns.length := by
              have := Int.emod_lt_of_pos ((0 : Int) + (i : Nat) + 1) (show (0 : Int) < ((ns.length : Nat) : Int) by omega)
              omega
            have g1 : (ns.map V.str)[i]? = some (.str ns[i]) := by rw [List.getElem?_map, List.getElem?_eq_getElem hi2]; rfl
            have g2 : (ns.map V.str)[j]? = some (.str ns[j]) := by rw [List.getElem?_map, List.getElem?_eq_getElem hj2]; rfl
            refine ⟨rfl, _, rfl, _, rfl, a, _, (i : Nat), _, rfl, congrArg V.int (Int.zero_add _), SqL.of hA4, atI_nat g1, ?_⟩
            refine ⟨_, rfl, _, rfl, _, _, rfl, rfl, .inl ⟨_, rfl, _, rfl, _, _, rfl, rfl, (show (0 : Int) < ((ns.length : Nat) : Int) by omega), a, _, (j : Nat), _, rfl, congrArg V.int hj, SqL.of hA4, atI_nat g2, ?_⟩⟩
            refine ⟨le_sl (by show 2 ≤ _; decide), fun r hr' => ?_⟩
            have e5 := same_new (o := .tup [.str ns[i], .str ns[j]]) hr'
            refine ⟨zs.map (·.1), e5 _ _ ff.1, by rw [List.length_map]; exact lt_sl (by omega), same_upd (e4.trans e5) hDn, _, (ff.same e5).more upd_same (List.getElem_mem hi2) (List.getElem_mem hj2), ?_⟩
            rw [List.length_append, zl]
            rfl
          · rintro H4 ⟨e4, zs, ff, zl⟩
            have s4 := s3.same e4
            exact hX _ _ ⟨D, zs, none, rfl, tt.trans (Stp.of e4), s4, by rw [hid2_ne D1 D2]; exact tt.free D1 D2 hDn, D1, D2, ff.hid s4 D1 D2, by omega⟩
        · exact iteB0 (dF (by omega)) (hX _ _ ⟨f, [], none, rfl, t1.trans (Stp.of e2), (s1.same e2).mono (by omega), hf0, f1, f2, ff, Nat.zero_le _⟩)
      · refine iteB0 (dF fun z => hw (V.int.inj z)) (iteF (hX _ _ ⟨f, [], none, rfl, t1.trans (Stp.of e2), (s1.same e2).mono (by omega), hf0, f1, f2, ff, Nat.zero_le _⟩))
end
theorem mergeT_nd : ∀ (ps : List ((Str × Str) × V)) (acc : List (List L2.Key × V)), (ps.map (·.1)).Nodup → (∀ p ∈ ps, valV acc (kP p.1) = none) → ps.foldl (fun acc p => putK acc (kP p.1) p.2) acc = acc ++ ps.map fun p => (kP p.1, p.2)
  | [], acc, _, _ => (List.append_nil _).symm
  | p :: ps, acc, nd, h => by
    rw [List.map_cons, List.nodup_cons] at nd
    rw [List.foldl_cons, putK_new _ (h p List.mem_cons_self), mergeT_nd ps _ nd.2 fun q hq => ?_, List.append_assoc]
    · rfl
    · rw [valV_snoc _ _ _ _ (h p List.mem_cons_self), if_neg ?_]
      · exact h q (List.mem_cons_of_mem _ hq)
      · exact fun z => nd.1 (by rw [← kP_inj z]; exact List.mem_map_of_mem hq)
theorem mergeT_eq {ps : List ((Str × Str) × V)} (nd : (ps.map (·.1)).Nodup) : mergeT ps = ps.map fun p => (kP p.1, p.2) := by
  unfold mergeT
  rw [mergeT_nd ps [] nd fun p _ => rfl]
  rfl
theorem valV_nd : ∀ {ts : List PT} (x : PT), x ∈ ts → (ts.map (·.k)).Nodup → valV (ts.map fun x => (kP x.k, x.v)) (kP x.k) = some x.v
  | [], x, h, _ => nomatch h
  | y :: ts, x, h, nd => by
    rw [List.map_cons, List.nodup_cons] at nd
    rcases List.mem_cons.mp h with rfl | h
    · exact valV_pos (p := (kP x.k, x.v)) rfl
    · have : ¬ kP y.k = kP x.k := fun z => nd.1 (by rw [kP_inj z]; exact List.mem_map_of_mem h)
      rw [List.map_cons, valV_neg (p := (kP y.k, y.v)) this]
      exact valV_nd x h nd.2
/-- fresh weights for these pairs -/
def WtF (H : Hp) (wa : Addr) (ws : List (Str × Str)) (f : Str × Str → Int) : Prop := H wa = some (.dT (ws.map fun p => (kP p, V.int (f p))))
theorem WtF.wt {H : Hp} {wa : Addr} {ws ps : List (Str × Str)} {f : Str × Str → Int} (h : WtF H wa ws f) (sub : ∀ p ∈ ps, p ∈ ws) : Wt H wa ps f := by
  refine ⟨_, h, fun p hp => ?_⟩
  rw [valV_mapP (fun p => V.int (f p)), if_pos (sub p hp)]
def spWeightsM (K : PySem.W.Frag) : Sp := fun vs H Q _ => ∃ (st cl a : Addr) (zs : List (V × (Str × Str))) (N : Nat), vs = [.ref st, .ref a] ∧ Strm N st cl H ∧ N < 1000000 ∧ Lof (hid2 st cl H) IsPair a zs ∧ (zs.map (·.2)).Nodup ∧ zs.length ≤ 200 ∧
  ∀ (H' : Hp) (wa : Addr) (ws : List (Str × Str)) (f : Str × Str → Int), Stp st cl H H' → Strm (N + 1000) st cl H' → H wa = none → WtF (hid2 st cl H') wa ws f → ws.Perm (zs.map (·.2)) → (∀ p ∈ ws, 1 ≤ f p) → Q (.ref wa) H'
def spIsWeight (K : PySem.W.Frag) : Sp := fun vs H Q _ => ∃ v : V, vs = [v] ∧ IntOr K H v ∧ Q (.bl (weightB v)) H
def spAreW (K : PySem.W.Frag) : Sp := fun vs H Q _ => ∃ (a : Addr) (v : V) (zs : List (V × (Str × Str))) (b : Bool), vs = [.ref a, v] ∧ Lof H IsPair a zs ∧ zs.length ≤ 200 ∧ WTh K H (zs.map (·.2)) v b ∧ ∀ H', Same H H' → Q (.bl b) H'
def spSum (K : PySem.W.Frag) : Sp := fun vs H Q _ => ∃ (wa a : Addr) (zs : List (V × (Str × Str))) (f : Str × Str → Int), vs = [.ref wa, .ref a] ∧ Lof H IsPair a zs ∧ zs.length ≤ 200 ∧ Wt H wa (zs.map (·.2)) f ∧ ∀ H', Same H H' → Q (.int ((zs.map (·.2)).map f).sum) H'
section
variable {P : Program} {w : World} {K : PySem.W.Frag} {mg : Str → Option Value} {base : Heap}
theorem cl_weightsM (T : Top K mg) : Cl P w K mg base CX0 3 "_law_m_weights" ["_law_stream", "_law_pairs"] (spWeightsM K) := by
  have C_law_draw := cl_draw (P := P) (w := w) (base := base) T
  have C_law_pick := cl_pick (P := P) (w := w) (base := base) T
  have C_law_mixed := cl_mixed (P := P) (w := w) (base := base) T
  refine Cl.of T.f_law_m_weights T.g_law_m_weights sc_law_m_weights (fun _ _ _ _ _ _ us hl => match us, hl with | [_, _], _ => rfl) (fun vs H Q E h => ?_) (fun cdv A outer s H vs Q E hr h => ?_)
  · obtain ⟨st, cl, a, zs, N, rfl, _⟩ := h
    rfl
  · obtain ⟨st, cl, a, zs, N, rfl, hs, hN, hZ, nd, zl, k⟩ := h
    refine ⟨_, (pss_cons (ps_set (i := 2) sc_law_m_weights.nd rfl (Or.inr rfl) (pe_k C_law_pick hr (by decide) pass0 (pa_cons (pv 0) (pa_cons (pe_lst (pa_cons pe_int (pa_cons pe_int (pa_cons pe_int (pa_cons pe_int pa_nil))))) pa_nil))))
    (pss_one (ps_ret (pe_callTy (cr_dictP2 rfl (hu65 hr)) (by rfl) T.z_dict (by decide +kernel) (pa_cons (pe_lc (own := [("_law_pair", 3)]) (g := gName 3) (tt := tYes) rfl sc_law_m_weights.nd (pi_K K (pe_k C_law_mixed hr (by decide) pass0 (pa_cons (pv 0) (pa_cons (pv 1) pa_nil)))) (blkOk_by (own := [("_law_pair", 3)]) (N := N_law_m_weights) (sc := defScope s_law_m_weights) (by decide +kernel)) (fun _ _ _ _ _ => (pg_name (i := 3) sc_law_m_weights.nd rfl (Or.inl rfl))) (fun _ _ _ _ _ => pts_nil) (fun _ _ _ _ _ => (pe_tup (pa_cons (pv 3) (pa_cons (pe_op op_add pe_int (pe_k C_law_draw hr (by decide) pass0 (pa_cons (pv 0) (pa_cons (pv 2) pa_nil)))) pa_nil))))) pa_nil))))), ?_⟩
    refine ⟨_, rfl, le_sl (by show 4 ≤ _; decide), fun l hl => ?_⟩
    have e1 := same_new (o := .lst [.int 1, .int 2, .int 5, .int 100]) hl
    obtain ⟨l1, l2⟩ := hs.fst hl
    refine ⟨st, cl, l, _, N, rfl, hs.same e1, by omega, SqL.of (by rw [hid2_ne l1 l2]; exact upd_same), by decide, by decide, fun H1 v t1 s1 hv => ?_⟩
    obtain ⟨m, rfl, m1, m2⟩ : ∃ m : Int, v = .int m ∧ 1 ≤ m ∧ m ≤ 100 := by
      simp only [List.mem_cons, List.not_mem_nil, or_false] at hv
      rcases hv with rfl | rfl | rfl | rfl <;> exact ⟨_, rfl, by decide, by decide⟩
    have t01 := (Stp.of e1).trans t1
    have hZ1 : Lof (hid2 st cl H1) IsPair a zs := hZ.pairs t01
    refine ⟨_, rfl, _, rfl, st, cl, a, zs.map (·.1), N + 1, rfl, s1, by omega, SqL.of hZ1.1, by rw [List.length_map]; omega, fun H2 q ys t2 s2 hq hq2 pm => ?_⟩
    obtain ⟨ws, pw, rfl⟩ := perm_lift pm.symm rfl
    have hq2' := hid2_le st cl H2 _ _ hq2
    have wl : ws.length ≤ 200 := by rw [pw.length_eq]; exact zl
    rw [List.length_map] at s2
    refine ⟨q, rfl, ⟨_, SqL.of hq2'⟩, fun D hDn => ?_⟩
    obtain ⟨D1, D2⟩ := s2.fst hDn
    have t02 := t01.trans t2
    have hD0 : hid2 st cl H2 D = none := hid2_new s2 hDn
    have qne := (s1.fst hq)
    refine lc_it walk_list (fun i H3 => Stp st cl H2 H3 ∧ Strm (N + 1 + zs.length + i) st cl H3 ∧ ∃ ts : List PT, hid2 st cl H3 D = some (.lst (ts.map fun x => V.ref x.t)) ∧ (∀ x ∈ ts, x.At (hid2 st cl H3) ∧ ∃ j : Int, x.v = .int j ∧ 1 ≤ j) ∧ ts.map (·.k) = (ws.map (·.2)).take i)
      ⟨Stp.of (same_new hDn), s2.same (same_new hDn), [], by rw [hid2_ne D1 D2]; exact upd_same, (fun x hx => nomatch hx), rfl⟩ (fun i H3 _ h => SqL.of (hid2_le st cl H3 _ _ (h.1 _ _ hq2))) ?_ ?_
    · rintro i x H3 H4 hi ⟨t3, s3, ts, h3, hT, ek⟩ ⟨rfl, hx⟩
      obtain ⟨y, hy, rfl⟩ := get_map hx
      have hil := get_lt hy
      have ep : (ws.map (·.2))[i]? = some y.2 := by rw [List.getElem?_map, hy]; rfl
      refine ⟨rfl, _, rfl, _, rfl, _, rfl, st, cl, m, _, rfl, s3, by omega, by omega, by omega, fun H5 d t5 s5 d0 d1 => ?_⟩
      refine ⟨_, _, rfl, rfl, le_sl (by show 2 ≤ _; decide), fun r hr' => ?_⟩
      obtain ⟨r1, r2⟩ := s5.fst hr'
      have e6 := same_new (o := .tup [y.1, .int (1 + d)]) hr'
      have hy3 : y ∈ zs := pw.mem_iff.mp (List.mem_of_getElem? hy)
      have py : IsPair (hid2 st cl H5) y.1 y.2 := ((hZ1.2 y hy3).same (t2.trans (t3.trans t5)))
      obtain ⟨b, eb, hb⟩ := py
      have h6 := (t5.trans (Stp.of e6)) _ _ h3
      have tl : ts.length = i := by
        have := congrArg List.length ek
        rw [List.length_map, List.length_take, List.length_map] at this
        omega
      refine ⟨ts.map fun x => V.ref x.t, hid2_le _ _ _ _ _ h6, by rw [List.length_map]; exact lt_sl (by omega), (t3.trans (t5.trans (Stp.of e6))).put hD0, ((s5.same e6).put D1 D2).mono (by omega), ts ++ [⟨r, b, y.2, .int (1 + d)⟩], ?_, fun x hx => ?_, ?_⟩
      · rw [hid2_upd D1 D2, upd_same, List.map_append]
        rfl
      · rw [hid2_upd D1 D2]
        have nD : ∀ {c : Addr} {l : List V}, (hid2 st cl (upd H5 r (.tup [y.1, .int (1 + d)]))) c = some (.tup l) → c ≠ D := fun q => ne_of q h6 (by intro z; cases z)
        rcases List.mem_append.mp hx with hx | hx
        · obtain ⟨⟨q1, q2⟩, q3⟩ := hT x hx
          have q1' := (t5.trans (Stp.of e6)) _ _ q1
          have q2' := (t5.trans (Stp.of e6)) _ _ q2
          exact ⟨⟨(upd_ne (nD q1')).trans q1', (upd_ne (nD q2')).trans q2'⟩, q3⟩
        · rw [List.mem_singleton.mp hx]
          have q1' : (hid2 st cl (upd H5 r (.tup [y.1, .int (1 + d)]))) r = some (.tup [.ref b, .int (1 + d)]) := by rw [hid2_ne r1 r2, upd_same, eb]
          have q2' := (Stp.of e6) _ _ hb
          exact ⟨⟨(upd_ne (nD q1')).trans q1', (upd_ne (nD q2')).trans q2'⟩, _, rfl, by omega⟩
      · rw [List.map_append, ek, take_snoc ep]
        rfl
    · rintro H3 ⟨t3, s3, ts, h3, hT, ek⟩
      rw [List.length_map, ← List.length_map (f := (·.2)), List.take_length] at ek
      rw [List.length_map] at s3
      have tl : ts.length = ws.length := by
        have := congrArg List.length ek
        rw [List.length_map, List.length_map] at this
        exact this
      refine ⟨D, ts, rfl, hid2_le _ _ _ _ _ h3, fun x hx => ⟨hid2_le _ _ _ _ _ (hT x hx).1.1, hid2_le _ _ _ _ _ (hT x hx).1.2⟩, fun p hp => ?_⟩
      have nk : (ts.map (·.k)).Nodup := by rw [ek]; exact (pw.map (·.2)).nodup_iff.mpr nd
      let f : Str × Str → Int := fun p => match valV (ts.map fun x => (kP x.k, x.v)) (kP p) with
        | some (.int j) => j
        | _ => 1
      have fv : ∀ x ∈ ts, x.v = .int (f x.k) ∧ 1 ≤ f x.k := fun x hx => by
        obtain ⟨_, j, e1, e2⟩ := hT x hx
        have : valV (ts.map fun x => (kP x.k, x.v)) (kP x.k) = some x.v := valV_nd x hx nk
        have ef : f x.k = j := by
          show (match valV (ts.map fun x => (kP x.k, x.v)) (kP x.k) with
            | some (.int j) => j
            | _ => 1) = j
          rw [this, e1]
        rw [ef]
        exact ⟨e1, e2⟩
      obtain ⟨p1, p2⟩ := s3.fst hp
      have s4 := s3.same (same_new (o := .dT (mergeT (ts.map fun x => (x.k, x.v)))) hp)
      refine k _ p (ts.map (·.k)) f ((t02.trans t3).trans (Stp.of (same_new hp))) (s4.mono (by omega)) ((t02.trans t3).free p1 p2 hp) ?_ ?_ (fun q hq => ?_)
      · show hid2 st cl _ p = _
        rw [hid2_ne p1 p2, upd_same, mergeT_eq (by rw [List.map_map]; exact nk), List.map_map, List.map_map]
        refine congrArg (fun l => some (HO.dT l)) (List.map_congr_left fun x hx => ?_)
        show (kP x.k, x.v) = (kP x.k, V.int (f x.k))
        rw [← (fv x hx).1]
      · rw [ek]
        exact pw.map _
      · obtain ⟨x, hx, rfl⟩ := List.mem_map.mp hq
        exact (fv x hx).2
end
def spTors (K : PySem.W.Frag) : Sp := fun vs H Q _ => ∃ (a : Addr) (zs : List (V × (Str × Str))) (s : Str), vs = [.ref a, .str s] ∧ Lof H IsPair a zs ∧ zs.length ≤ 200 ∧
  ∀ (H' : Hp) (p : Addr) (l : List Str), Same H H' → H p = none → H' p = some (.lst (l.map V.str)) → (∀ x, x ∈ l ↔ (x, s) ∈ zs.map (·.2)) → l.length ≤ 200 → Q (.ref p) H'
def spHits (K : PySem.W.Frag) : Sp := fun vs H Q _ => ∃ (a b : Addr) (zs : List (V × (Str × Str))) (l : List Str) (s : Str), vs = [.ref a, .ref b, .str s] ∧ Lof H IsPair a zs ∧ zs.length ≤ 200 ∧ SqL K H b (l.map V.str) ∧
  ∀ H' : Hp, Same H H' → Q (.bl (decide (s ∈ hits (zs.map (·.2)) l))) H'
def spSubsets (K : PySem.W.Frag) : Sp := fun vs H Q _ => ∃ (a : Addr) (ns : List Str), vs = [.ref a] ∧ SqL K H a (ns.map V.str) ∧ ns.length ≤ 10 ∧
  ∀ (H' : Hp) (p : Addr) (zs : List (V × List Str)), Same H H' → H p = none → Lof H' IsLot p zs → (∀ z ∈ zs, ∀ t, z.1 = .ref t → H t = none) → zs.map (·.2) = lotsOf (sortN ns) → Q (.ref p) H'
section
variable {P : Program} {w : World} {K : PySem.W.Frag} {mg : Str → Option Value} {base : Heap}
theorem cl_isW (T : Top K mg) : Cl P w K mg base CX0 1 "_law_m_is_weight" ["_law_thing"] (spIsWeight K) := by
  refine Cl.of T.f_law_m_is_weight T.g_law_m_is_weight sc_law_m_is_weight (fun _ _ _ _ _ _ us hl => match us, hl with | [_], _ => rfl) (fun vs H Q E h => ?_) (fun cdv A outer s H vs Q E hr h => ?_)
  · obtain ⟨v, rfl, _⟩ := h
    rfl
  · obtain ⟨v, rfl, hv, k⟩ := h
    refine ⟨_, (pss_one (ps_ret (pe_and (pe_callB (isi_K K) (by rfl) T.z_isinstance (by decide +kernel) (pa_cons (pv 0) (pa_cons (pe_bltn (v := .ty "int") (by rfl) T.z_int (by decide +kernel) rfl) pa_nil))) (pe_and (pe_not (pe_callB (isi_K K) (by rfl) T.z_isinstance (by decide +kernel) (pa_cons (pv 0) (pa_cons (pe_bltn (v := .ty "bool") (by rfl) T.z_bool (by decide +kernel) rfl) pa_nil)))) (pe_one (pe_cmpR op_gt (pv 0) pe_int (nomark _))))))), ?_⟩
    rcases hv with ⟨i, rfl⟩ | ⟨t, tg, ht, ty⟩
    · refine ⟨_, rfl, _, _, .type "int", .type "int", true, rfl, .ty _, .base (.int i), kit_ty (by decide +kernel), _, rfl, iteT ?_⟩
      refine ⟨_, rfl, _, _, .type "int", .type "bool", false, rfl, .ty _, .base (.int i), kit_ty (by decide +kernel), _, rfl, _, rfl, iteB1 rfl ?_⟩
      refine ⟨_, rfl, i, 0, rfl, rfl, ?_⟩
      have e : weightB (.int i) = decide (0 < i) := decide_eq_decide.mpr (by omega)
      rw [e] at k
      exact k
    · have e : weightB v = false := by
        cases ty with
        | base b => cases b <;> first | rfl | exact absurd rfl ht
        | _ => rfl
      rw [e] at k
      refine ⟨_, rfl, _, _, .type t, .type "int", decide (t = "bool"), rfl, .ty _, ty, kit_ty (by rcases tg with rfl | rfl | rfl | rfl | rfl | rfl | rfl <;> first | exact absurd rfl ht | decide +kernel), _, rfl, ?_⟩
      by_cases hb : t = "bool"
      · refine iteB1 (dT hb) ?_
        refine ⟨_, rfl, _, _, .type t, .type "bool", true, rfl, .ty _, ty, kit_ty (by rw [hb]; decide +kernel), _, rfl, _, rfl, iteB0 rfl k⟩
      · exact iteB0 (dF hb) k
theorem cl_areW (T : Top K mg) : Cl P w K mg base CX0 2 "_law_m_are_weights" ["_law_pairs", "_law_thing"] (spAreW K) := by
  have C_law_m_is_weight := cl_isW (P := P) (w := w) (base := base) T
  refine Cl.of T.f_law_m_are_weights T.g_law_m_are_weights sc_law_m_are_weights (fun _ _ _ _ _ _ us hl => match us, hl with | [_, _], _ => rfl) (fun vs H Q E h => ?_) (fun cdv A outer s H vs Q E hr h => ?_)
  · obtain ⟨a, v, zs, b, rfl, _⟩ := h
    rfl
  · obtain ⟨a, v, zs, b, rfl, hZ, zl, hW, k⟩ := h
    refine ⟨_, (pss_cons (ps_if (PW.pt (pw_or (pt_not (pt_val (pe_callB (isi_K K) (by rfl) T.z_isinstance (by decide +kernel) (pa_cons (pv 1) (pa_cons (pe_bltn (v := .ty "dict") (by rfl) T.z_dict (by decide +kernel) rfl) pa_nil))))) (pw_or1 (pt_cmpR op_ne (pe_callB (CallR.or call_lenD call_len_dT) (by rfl) T.z_len (by decide +kernel) (pa_cons (pv 1) pa_nil)) (pe_callB (len_K K) (by rfl) T.z_len (by decide +kernel) (pa_cons (pv 0) pa_nil)) (nomark _)))))
    (pss_one (ps_ret pe_bl))
    pss_nil)
    (pss_one (ps_ret (pe_callB (all_K K rfl) (by rfl) T.z_all (by decide +kernel) (pa_cons (pe_lc (own := [("_law_pair", 2)]) (g := gName 2) (tt := tYes) rfl sc_law_m_are_weights.nd (pi_K K (pv 0)) (blkOk_by (own := [("_law_pair", 2)]) (N := N_law_m_are_weights) (sc := defScope s_law_m_are_weights) (by decide +kernel)) (fun _ _ _ _ _ => (pg_name (i := 2) sc_law_m_are_weights.nd rfl (Or.inl rfl))) (fun _ _ _ _ _ => pts_nil) (fun _ _ _ _ _ => (pe_and (pe_cmp (pc_or2 (pc_din (hu_of hr) (pv 2) (pv 1)) (pc_inF (Nat.lt_of_le_of_lt (Nat.add_le_add_left (by decide) _) (hu65 hr)) (pv 2) (pv 1)))) (pe_one (pe_k C_law_m_is_weight hr (by decide) pass0 (pa_cons (pe_dget (hu_of hr) (pv 1) (pv 2) (fun _ _ => rfl)) pa_nil)))))) pa_nil))))), ?_⟩
    cases hW with
    | @no _ t tg ht ty =>
      refine ⟨_, rfl, _, _, .type t, .type "dict", false, rfl, .ty _, ty, kit_ty (by rcases tg with rfl | rfl | rfl | rfl | rfl | rfl | rfl <;> first | exact absurd rfl ht | decide +kernel), _, rfl, iteB1 rfl ?_⟩
      exact k _ fun _ _ e => e
    | @txt d kvs ha hps =>
      refine ⟨_, rfl, _, _, .type "dict", .type "dict", true, rfl, .ty _, .base (.dK ha), kit_ty (by decide +kernel), _, rfl, iteB0 rfl ?_⟩
      refine ⟨_, rfl, .inl ⟨d, kvs, rfl, ha, _, rfl, a, _, rfl, .inl (SqL.of hZ.1), rfl, _, rfl, ?_⟩⟩
      by_cases hl : V.int ((kvs.length : Nat) : Int) = V.int (((zs.map (·.1)).length : Nat) : Int)
      · refine iteB0 (nT hl) ?_
        refine ⟨_, rfl, a, rfl, ⟨_, SqL.of hZ.1⟩, fun D hDn => ?_⟩
        refine lc_map (fun z : V × (Str × Str) => z.1) zs (fun z => .bl false) (SqL.of hZ.1) hDn (lt_sl (by omega)) (fun z hz H2 k1 s2 kk => ⟨rfl, ?_⟩) fun H2 s2 h2 => ?_
        · obtain ⟨t, et, ht⟩ := hZ.2 z hz
          exact .inr ⟨_, rfl, _, rfl, d, t, kvs, kP z.2, rfl, et, s2 _ _ ha, s2 _ _ ht, _, rfl, iteF (kk _ _ (fun _ _ e => e) rfl)⟩
        · have e : (zs.map fun _ => false).all id = false := by
            cases zs with
            | nil => exact absurd rfl hps
            | cons z zs => rfl
          refine ⟨D, zs.map fun _ => false, rfl, SqL.of (by rw [h2, List.map_map]; rfl), ?_⟩
          rw [e]
          exact k _ s2
      · exact iteB1 (nF hl) (k _ fun _ _ e => e)
    | @tup d kvs ha hv =>
      refine ⟨_, rfl, _, _, .type "dict", .type "dict", true, rfl, .ty _, .base (.dT ha), kit_ty (by decide +kernel), _, rfl, iteB0 rfl ?_⟩
      refine ⟨_, rfl, .inr ⟨d, kvs, rfl, ha, _, rfl, a, _, rfl, .inl (SqL.of hZ.1), rfl, _, rfl, ?_⟩⟩
      by_cases hl : V.int ((kvs.length : Nat) : Int) = V.int (((zs.map (·.1)).length : Nat) : Int)
      · have hl2 : kvs.length = (zs.map (·.2)).length := by
          have := V.int.inj hl
          rw [List.length_map] at this ⊢
          omega
        refine iteB0 (nT hl) ?_
        refine ⟨_, rfl, a, rfl, ⟨_, SqL.of hZ.1⟩, fun D hDn => ?_⟩
        let g : Str × Str → Bool := fun p => match valV kvs (kP p) with
          | some v => weightB v
          | none => false
        refine lc_map (fun z : V × (Str × Str) => z.1) zs (fun z => .bl (g z.2)) (SqL.of hZ.1) hDn (lt_sl (by omega)) (fun z hz H2 k1 s2 kk => ⟨rfl, ?_⟩) fun H2 s2 h2 => ?_
        · obtain ⟨t, et, ht⟩ := hZ.2 z hz
          have ht2 : H2 t = some (.tup ((kP z.2).map kV)) := s2 _ _ ht
          refine .inl ⟨_, rfl, _, rfl, d, valV kvs (kP z.2), rfl, ?_, _, rfl, ?_⟩
          · show DGet H2 d z.1 _
            rw [et]
            exact DGet.t (k := kP z.2) (s2 _ _ ha) ht2
          cases ev : valV kvs (kP z.2) with
          | none =>
            refine iteB0 rfl (kk _ _ (fun _ _ e => e) ?_)
            show _ = V.bl (match valV kvs (kP z.2) with
              | some v => weightB v
              | none => false)
            rw [ev]
          | some v =>
            have dg : DGet H2 d z.1 (some v) := by
              rw [et]
              exact dget_t (k := kP z.2) (s2 _ _ ha) ht2 ev
            refine iteB1 rfl ⟨_, rfl, _, rfl, d, v, rfl, dg, v, rfl, (hv z.2 v ev).same s2, kk _ _ (fun _ _ e => e) ?_⟩
            show _ = V.bl (match valV kvs (kP z.2) with
              | some v => weightB v
              | none => false)
            rw [ev]
        · have e : (zs.map fun z => g z.2).all id = okT (zs.map (·.2)) kvs := by
            unfold okT
            rw [decide_eq_true hl2, Bool.true_and, List.all_map, List.all_map]
            rfl
          refine ⟨D, zs.map fun z => g z.2, rfl, SqL.of (by rw [h2, List.map_map]; rfl), ?_⟩
          rw [e]
          exact k _ s2
      · refine iteB1 (nF hl) ?_
        have e : okT (zs.map (·.2)) kvs = false := by
          unfold okT
          rw [decide_eq_false (fun z => hl (by rw [z, List.length_map, List.length_map])), Bool.false_and]
        rw [← e]
        exact k _ fun _ _ e => e
theorem cl_sum (T : Top K mg) : Cl P w K mg base CX0 1 "_law_m_sum" ["_law_weights", "_law_pairs"] (spSum K) := by
  refine Cl.of T.f_law_m_sum T.g_law_m_sum sc_law_m_sum (fun _ _ _ _ _ _ us hl => match us, hl with | [_, _], _ => rfl) (fun vs H Q E h => ?_) (fun cdv A outer s H vs Q E hr h => ?_)
  · obtain ⟨wa, a, zs, f, rfl, _⟩ := h
    rfl
  · obtain ⟨wa, a, zs, f, rfl, hZ, zl, hW, k⟩ := h
    refine ⟨_, (pss_one (ps_ret (pe_callB (sum_K K rfl) (by rfl) T.z_sum (by decide +kernel) (pa_cons (pe_lc (own := [("_law_pair", 2)]) (g := gName 2) (tt := tYes) rfl sc_law_m_sum.nd (pi_K K (pv 1)) (blkOk_by (own := [("_law_pair", 2)]) (N := N_law_m_sum) (sc := defScope s_law_m_sum) (by decide +kernel)) (fun _ _ _ _ _ => (pg_name (i := 2) sc_law_m_sum.nd rfl (Or.inl rfl))) (fun _ _ _ _ _ => pts_nil) (fun _ _ _ _ _ => (pe_dget (hu_of hr) (pv 0) (pv 2) (fun _ _ => rfl)))) pa_nil)))), ?_⟩
    refine ⟨_, rfl, a, rfl, ⟨_, SqL.of hZ.1⟩, fun D hDn => ?_⟩
    obtain ⟨kvs, w1, w2⟩ := hW
    refine lc_map (fun z : V × (Str × Str) => z.1) zs (fun z => .int (f z.2)) (SqL.of hZ.1) hDn (lt_sl (by omega)) (fun z hz H2 k1 s2 kk => ⟨rfl, ?_⟩) fun H2 s2 h2 => ?_
    · obtain ⟨t, et, ht⟩ := hZ.2 z hz
      have dg : DGet H2 wa z.1 (some (.int (f z.2))) := by
        rw [et]
        exact dget_t (k := kP z.2) (s2 _ _ w1) (s2 _ _ ht) (w2 _ (List.mem_map_of_mem hz))
      exact ⟨_, rfl, _, rfl, wa, _, rfl, dg, kk _ _ (fun _ _ e => e) rfl⟩
    · refine ⟨D, zs.map fun z => f z.2, rfl, SqL.of (by rw [h2, List.map_map]; rfl), ?_⟩
      have := k _ s2
      rw [List.map_map] at this
      exact this
theorem cl_tors (T : Top K mg) : Cl P w K mg base CX0 1 "_law_d_objectors" ["_law_pairs", "_law_name"] (spTors K) := by
  refine Cl.of T.f_law_d_objectors T.g_law_d_objectors sc_law_d_objectors (fun _ _ _ _ _ _ us hl => match us, hl with | [_, _], _ => rfl) (fun vs H Q E h => ?_) (fun cdv A outer s H vs Q E hr h => ?_)
  · obtain ⟨a, zs, s, rfl, _⟩ := h
    rfl
  · obtain ⟨a, zs, s0, rfl, hZ, zl, k⟩ := h
    refine ⟨_, (pss_one (ps_ret (pe_callB (cr_sortedD PyData.str (hu65 hr)) (by rfl) T.z_sorted (by decide +kernel) (pa_cons (pe_lc (own := [("_law_one", 2), ("_law_other", 3)]) (g := gTup K 2 (gCons (gName 2) (gCons (gName 3) gNil))) rfl sc_law_d_objectors.nd (pi_K K (pv 0)) (blkOk_by (own := [("_law_one", 2), ("_law_other", 3)]) (N := N_law_d_objectors) (sc := defScope s_law_d_objectors) (by decide +kernel)) (fun _ _ _ _ _ => (pgt_K K rfl (pgs_cons (pg_name (i := 2) sc_law_d_objectors.nd rfl (Or.inl rfl)) (pgs_cons (pg_name (i := 3) sc_law_d_objectors.nd rfl (Or.inl rfl)) pgs_nil)))) (fun _ _ _ _ _ => pts_one (pt_cmpR op_eq (pv 3) (pv 1) (nomark _))) (fun _ _ _ _ _ => (pv 2))) pa_nil)))), ?_⟩
    refine ⟨_, rfl, a, rfl, ⟨_, SqL.of hZ.1⟩, fun D hDn => ?_⟩
    refine lc_fm (fun z : V × (Str × Str) => z.1) zs (fun z => if decide (z.2.2 = s0) = true then some (.str z.2.1) else none) (SqL.of hZ.1) hDn (lt_sl (by omega)) (fun z hz H2 k1 k0 s2 kk kn => ?_) fun H2 s2 h2 => ?_
    · obtain ⟨t, et, ht⟩ := hZ.2 z hz
      refine ⟨t, _, et, SqT.of (s2 _ _ ht), rfl, _, _, rfl, _, _, rfl, rfl, rfl, _, rfl, _, rfl, rfl, _, rfl, ?_⟩
      by_cases q : z.2.2 = s0
      · exact iteB1 (dT (congrArg V.str q)) ⟨_, rfl, kk _ _ (fun _ _ e => e) (if_pos (decide_eq_true q))⟩
      · exact iteB0 (dF fun z => q (V.str.inj z)) (kn _ (fun _ _ e => e) (if_neg (by rw [decide_eq_false q]; decide)))
    · rw [fmIf (fun z : V × (Str × Str) => decide (z.2.2 = s0)) (fun z => V.str z.2.1)] at h2
      have e : (zs.filter fun z => decide (z.2.2 = s0)).map (fun z => V.str z.2.1) = ((zs.filter fun z => decide (z.2.2 = s0)).map (·.2.1)).map V.str := by
        rw [List.map_map]
        rfl
      rw [e] at h2
      refine sortS_rd (SqL.of h2) fun p hp => k _ p _ (s2.trans (same_new hp)) (s2.free hp) upd_same (fun x => ?_) ?_
      · rw [sortN_mem, List.mem_map, List.mem_map]
        constructor
        · rintro ⟨z, hz, rfl⟩
          obtain ⟨h1, h2⟩ := List.mem_filter.mp hz
          exact ⟨z, h1, Prod.ext rfl (of_decide_eq_true h2)⟩
        · rintro ⟨z, hz, e⟩
          exact ⟨z, List.mem_filter.mpr ⟨hz, decide_eq_true (congrArg Prod.snd e)⟩, congrArg Prod.fst e⟩
      · rw [sortN_len, List.length_map]
        exact Nat.le_trans (List.length_filter_le _ _) zl
theorem cl_hits (T : Top K mg) : Cl P w K mg base CX0 2 "_law_d_hits" ["_law_pairs", "_law_lot", "_law_name"] (spHits K) := by
  have C_law_d_objectors := cl_tors (P := P) (w := w) (base := base) T
  refine Cl.of T.f_law_d_hits T.g_law_d_hits sc_law_d_hits (fun _ _ _ _ _ _ us hl => match us, hl with | [_, _, _], _ => rfl) (fun vs H Q E h => ?_) (fun cdv A outer s H vs Q E hr h => ?_)
  · obtain ⟨a, b, zs, l, s, rfl, _⟩ := h
    rfl
  · obtain ⟨a, b, zs, l, s0, rfl, hZ, zl, hL, k⟩ := h
    refine ⟨_, (pss_one (ps_ret (pe_callB (any_K K rfl) (by rfl) T.z_any (by decide +kernel) (pa_cons (pe_lc (own := [("_law_one", 3)]) (g := gName 3) (tt := tYes) rfl sc_law_d_hits.nd (pi_K K (pe_k C_law_d_objectors hr (by decide) pass0 (pa_cons (pv 0) (pa_cons (pv 2) pa_nil)))) (blkOk_by (own := [("_law_one", 3)]) (N := N_law_d_hits) (sc := defScope s_law_d_hits) (by decide +kernel)) (fun _ _ _ _ _ => (pg_name (i := 3) sc_law_d_hits.nd rfl (Or.inl rfl))) (fun _ _ _ _ _ => pts_nil) (fun _ _ _ _ _ => (pe_cmpR (in_K K) (pv 3) (pv 1) rfl))) pa_nil)))), ?_⟩
    refine ⟨_, rfl, _, rfl, a, zs, s0, rfl, hZ, zl, fun H1 p os s1 hp h1 m1 ol => ?_⟩
    refine ⟨p, rfl, ⟨_, SqL.of h1⟩, fun D hDn => ?_⟩
    refine lc_map V.str os (fun o => .bl (decide (o ∈ l))) (SqL.of h1) hDn (lt_sl (by omega)) (fun o ho H2 k1 s2 kk => ⟨rfl, ?_⟩) fun H2 s2 h2 => ?_
    · refine ⟨_, rfl, _, rfl, b, _, rfl, .inl ((s1.trans s2).seq hL), rfl, flat_strs _, kk _ _ (fun _ _ e => e) ?_⟩
      show V.bl (inV (.str o) (l.map V.str)) = _
      rw [inV_str]
    · refine ⟨D, os.map fun o => decide (o ∈ l), rfl, SqL.of (by rw [h2, List.map_map]; rfl), ?_⟩
      have e : (os.map fun o => decide (o ∈ l)).any id = decide (s0 ∈ hits (zs.map (·.2)) l) := by
        rw [Bool.eq_iff_iff, decide_eq_true_iff, mem_hits, List.any_map, List.any_eq_true]
        constructor
        · rintro ⟨o, ho, q⟩
          exact ⟨o, of_decide_eq_true q, (m1 o).mp ho⟩
        · rintro ⟨m, hm, q⟩
          exact ⟨m, (m1 m).mpr q, decide_eq_true hm⟩
      rw [e]
      exact k _ (s1.trans s2)
end
def spPricesM (K : PySem.W.Frag) : Sp := fun vs H Q _ => ∃ (na a wa : Addr) (ns : List Str) (zs : List (V × (Str × Str))) (f : Str × Str → Int), vs = [.ref na, .ref a, .ref wa] ∧ SqL K H na (ns.map V.str) ∧ ns.length ≤ 10 ∧ Lof H IsPair a zs ∧ zs.length ≤ 200 ∧ Wt H wa (zs.map (·.2)) f ∧
  ∀ (H' : Hp) (p : Addr) (ws : List (V × (Int × List Str))), Same H H' → H p = none → H' p = some (.lst (ws.map (·.1))) → (∀ z ∈ ws, NewPrice H H' z.1 z.2) → ws.map (·.2) = pricesOf (sortN ns) (zs.map (·.2)) f → Q (.ref p) H'
section
variable {P : Program} {w : World} {K : PySem.W.Frag} {mg : Str → Option Value} {base : Heap}
theorem cl_subsets (T : Top K mg) : Cl P w K mg base CX0 1 "_law_d_subsets" ["_law_names"] (spSubsets K) := by
  refine Cl.of T.f_law_d_subsets T.g_law_d_subsets sc_law_d_subsets (fun _ _ _ _ _ _ us hl => match us, hl with | [_], _ => rfl) (fun vs H Q E h => ?_) (fun cdv A outer s H vs Q E hr h => ?_)
  · obtain ⟨a, ns, rfl, _⟩ := h
    rfl
  · obtain ⟨a, ns, rfl, hS, hl, k⟩ := h
    refine ⟨_, (pss_cons (ps_set (i := 1) sc_law_d_subsets.nd rfl (Or.inl rfl) (pe_lst (pa_cons (pe_lst pa_nil) pa_nil)))
    (pss_cons (ps_for PassesOwn.never rfl (pi_K K (pe_callB (cr_sortedD PyData.str (hu65 hr)) (by rfl) T.z_sorted (by decide +kernel) (pa_cons (pv 0) pa_nil))) (pg_name (i := 2) sc_law_d_subsets.nd rfl (Or.inr rfl))
    (pss_one (ps_expr (bm_K K PySem.F.plainAttrs_list PySem.F.slot_list_extend PySem.F.type_list_extend mt_extend (pv 1) (pa_cons (pe_lc (own := [("_law_lot", 3)]) (g := gName 3) (tt := tYes) rfl sc_law_d_subsets.nd (pi_K K (pv 1)) (blkOk_by (own := [("_law_lot", 3)]) (N := N_law_d_subsets) (sc := defScope s_law_d_subsets) (by decide +kernel)) (fun _ _ _ _ _ => (pg_name (i := 3) sc_law_d_subsets.nd rfl (Or.inl rfl))) (fun _ _ _ _ _ => pts_nil) (fun _ _ _ _ _ => (pe_op op_cat (pv 3) (pe_lst (pa_cons (pv 2) pa_nil))))) pa_nil)))))
    (pss_one (ps_ret (pe_callB (cr_sortedD enL (hu65 hr)) (by rfl) T.z_sorted (by decide +kernel) (pa_cons (pv 1) pa_nil)))))), ?_⟩
    refine ⟨le_sl (Nat.zero_le _), fun t0 ht0 => ⟨le_sl (by show 1 ≤ _; decide), fun p hp0 => ?_⟩⟩
    have hp : H p = none := (same_new ht0).free hp0
    have s0 : Same H (upd (upd H t0 (.lst [])) p (.lst [.ref t0])) := (same_new ht0).trans (same_new hp0)
    refine ⟨_, rfl, a, zN ns, rfl, by rw [zN_fst]; exact s0.seq hS, (fun z hz => by rw [zN_mem hz]; exact .str _), alikeS _, sortableS _, (fun z _ => by rw [depthS]; exact Nat.zero_le _), fun b hb => ?_⟩
    rw [sortN_fst]
    have bp : b ≠ p := (ne_of_none upd_same hb).symm
    have sl0 : (sortN ns).length ≤ 10 := by rw [sortN_len]; exact hl
    generalize sortN ns = sn at sl0 k
    have s1 : Same H (upd (upd (upd H t0 (.lst [])) p (.lst [.ref t0])) b (.lst (sn.map V.str))) := s0.trans (same_new hb)
    have tB := hid1_of hp s1
    have Bb : hid1 p (upd (upd (upd H t0 (.lst [])) p (.lst [.ref t0])) b (.lst (sn.map V.str))) b = some (.lst (sn.map V.str)) := by rw [hid1_ne bp, upd_same]
    have B0 : Same (hid1 p (upd (upd (upd H t0 (.lst [])) p (.lst [.ref t0])) b (.lst (sn.map V.str)))) (upd (upd (upd H t0 (.lst [])) p (.lst [.ref t0])) b (.lst (sn.map V.str))) := hid1_le _ _
    have Bp : hid1 p (upd (upd (upd H t0 (.lst [])) p (.lst [.ref t0])) b (.lst (sn.map V.str))) p = none := hid1_at _ _
    have hpp : (upd (upd (upd H t0 (.lst [])) p (.lst [.ref t0])) b (.lst (sn.map V.str))) p = some (.lst [.ref t0]) := (upd_ne bp.symm).trans upd_same
    have ht : (upd (upd (upd H t0 (.lst [])) p (.lst [.ref t0])) b (.lst (sn.map V.str))) t0 = some (.lst []) := same_new hb _ _ (same_new hp0 _ _ upd_same)
    have tp : t0 ≠ p := ne_of_none upd_same hp0
    generalize hB : hid1 p (upd (upd (upd H t0 (.lst [])) p (.lst [.ref t0])) b (.lst (sn.map V.str))) = B at tB Bb B0 Bp
    generalize (upd (upd (upd H t0 (.lst [])) p (.lst [.ref t0])) b (.lst (sn.map V.str))) = HH at B0 hpp ht
    refine ⟨b, rfl, ⟨_, SqL.of (B0 _ _ Bb)⟩, for_list (K := K) (a := b) (xs := sn.map V.str)
      (fun i σ H1 => ∃ (v : Option V) (zs : List (V × List Str)), σ = [some (.ref a), some (.ref p), v, none] ∧ Same B H1 ∧ H1 p = some (.lst (zs.map (·.1))) ∧ zs.map (·.2) = subs (sn.take i) ∧ ∀ z ∈ zs, NewLot H p H1 z.1 z.2)
      ⟨none, [(.ref t0, [])], rfl, B0, hpp, rfl, fun z hz => ?_⟩ (fun i σ H1 _ ⟨_, _, _, s1, _⟩ => SqL.of (s1 _ _ Bb)) ?_ ?_⟩
    · rw [List.mem_singleton.mp hz]
      exact ⟨t0, rfl, ht0, tp, ht⟩
    · rintro i y σ H1 hi ⟨v, zs, rfl, s1, h1, e1, n1⟩
      obtain ⟨x, hx, rfl⟩ := get_map hi
      have hil := get_lt hx
      have zl : zs.length = 2 ^ i := by
        have q := congrArg List.length e1
        rw [List.length_map, subs_len, List.length_take, Nat.min_eq_left (Nat.le_of_lt hil)] at q
        exact q
      have hi10 : 2 ^ i ≤ 1024 := pow_le (m := 10) (by omega)
      refine ⟨_, rfl, .inl ⟨rfl, _, SqL.of h1⟩, _, rfl, p, rfl, ⟨_, SqL.of h1⟩, fun D hD => ?_⟩
      refine lc_rel (K := K) (a := p) (fun z : V × List Str => z.1) zs (fun z => some (z.2 ++ [x])) (fun H2 v l => NewLot H1 D H2 v l) (SqL.of h1) hD (lt_sl (by omega)) (fun _ _ _ _ e r => r.same e) ?_ ?_
      · intro z hz H2 acc k1 k0 s2 h2 kk _
        obtain ⟨t, et, ht, np, ho⟩ := n1 z hz
        have zx : z.2.length ≤ 10 := by
          have hm : z.2 ∈ subs (sn.take i) := by rw [← e1]; exact List.mem_map_of_mem hz
          have q := (subs_sub hm).length_le
          rw [List.length_take] at q
          omega
        refine ⟨rfl, _, rfl, _, rfl, le_sl (by show 1 ≤ _; decide), fun q hq => ⟨t, q, z.2.map V.str, [V.str x], et, rfl, same_new hq _ _ (s2 _ _ ho), upd_same, le_sl (by show (z.2.map V.str).length + 1 ≤ _; rw [List.length_map]; omega), fun r hr2 => ?_⟩⟩
        have hr1 : H2 r = none := (same_new hq).free hr2
        refine kk _ _ _ ((same_new hq).trans (same_new hr2)) rfl ⟨r, rfl, s2.free hr1, (ne_of_none h2 hr1).symm, by rw [upd_same, List.map_append]; rfl⟩
      · intro H2 ws s2 h2 e2 n2
        have e3 : ws.map (·.2) = (subs (sn.take i)).map (· ++ [x]) := by
          rw [e2, fm_some, ← e1, List.map_map]
          rfl
        have wl : ws.length = 2 ^ i := by
          have q := congrArg List.length e3
          rw [List.length_map, List.length_map, ← e1, List.length_map, zl] at q
          exact q
        have pD : p ≠ D := ne_of_none h1 hD
        refine ⟨p, D, _, _, rfl, rfl, s2 _ _ h1, h2, le_sl (by rw [List.length_map, List.length_map]; omega), ?_⟩
        refine ⟨some (.str x), zs ++ ws, rfl, same_upd (s1.trans s2) Bp, ?_, ?_, fun z hz => ?_⟩
        · rw [upd_same, List.map_append]
        · rw [List.map_append, e1, e3, take_snoc hx, subs_snoc]
        · rcases List.mem_append.mp hz with hz | hz
          · exact (n1 z hz).same fun c o hc e => (upd_ne hc).trans (s2 c o e)
          · obtain ⟨t, a1, a2, _, a3⟩ := n2 z hz
            have tp : t ≠ p := (ne_of_none h1 a2).symm
            exact ⟨t, a1, (tB.trans s1).free a2, tp, (upd_ne tp).trans a3⟩
    · rintro σ H1 ⟨v, zs, rfl, s1, h1, e1, n1⟩
      rw [List.length_map, List.take_length] at e1
      refine ⟨_, rfl, p, zs, rfl, SqL.of h1, (fun z hz => dp_lot (n1 z hz).is), alikeL _, sortL _, (fun z _ => by rw [depthL]; decide), fun q hq => ?_⟩
      have s2 := tB.trans s1
      refine k _ q (sortBy enL zs) (s2.trans (same_new hq)) (s2.free hq) ⟨upd_same, fun z hz => (n1 z (sortBy_mem.mp hz)).is.same (same_new hq)⟩ (fun z hz t et => ?_) ?_
      · obtain ⟨t', e', ht', _⟩ := n1 z (sortBy_mem.mp hz)
        rw [et] at e'
        cases e'
        exact ht'
      · rw [sortBy_snd, e1]
        rfl
theorem cl_pricesM (T : Top K mg) : Cl P w K mg base CX0 3 "_law_m_prices" ["_law_names", "_law_pairs", "_law_weights"] (spPricesM K) := by
  have C_law_d_subsets := cl_subsets (P := P) (w := w) (base := base) T
  have C_law_d_hits := cl_hits (P := P) (w := w) (base := base) T
  have C_law_m_sum := cl_sum (P := P) (w := w) (base := base) T
  refine Cl.of T.f_law_m_prices T.g_law_m_prices sc_law_m_prices (fun _ _ _ _ _ _ us hl => match us, hl with | [_, _, _], _ => rfl) (fun vs H Q E h => ?_) (fun cdv A outer s H vs Q E hr h => ?_)
  · obtain ⟨na, a, wa, ns, zs, f, rfl, _⟩ := h
    rfl
  · obtain ⟨na, a, wa, ns, zs, f, rfl, hN, hl, hZ, zl, hW, k⟩ := h
    refine ⟨_, (pss_cons (ps_set (i := 3) sc_law_m_prices.nd rfl (Or.inl rfl) (pe_lst pa_nil))
    (pss_cons (ps_for PassesOwn.never rfl (pi_K K (pe_k C_law_d_subsets hr (by decide) pass0 (pa_cons (pv 0) pa_nil))) (pg_name (i := 4) sc_law_m_prices.nd rfl (Or.inl rfl))
    (pss_cons (ps_set (i := 5) sc_law_m_prices.nd rfl (Or.inl rfl) (pe_lst pa_nil))
    (pss_cons (ps_for PassesOwn.never rfl (pi_K K (pv 1)) (pgt_K K rfl (pgs_cons (pg_name (i := 6) sc_law_m_prices.nd rfl (Or.inl rfl)) (pgs_cons (pg_name (i := 7) sc_law_m_prices.nd rfl (Or.inl rfl)) pgs_nil)))
    (pss_cons (ps_set (i := 8) sc_law_m_prices.nd rfl (Or.inl rfl) (pe_and (pe_cmpR (in_K K) (pv 7) (pv 4) rfl) (pe_one (pe_or (pe_cmpR (in_K K) (pv 6) (pv 4) rfl) (pe_one (pe_not (pe_k C_law_d_hits hr (by decide) pass0 (pa_cons (pv 1) (pa_cons (pv 4) (pa_cons (pv 6) pa_nil))))))))))
    (pss_one (ps_expr (bm_K K PySem.F.plainAttrs_list PySem.F.slot_list_extend PySem.F.type_list_extend mt_extend (pv 5) (pa_cons (pe_op op_rep (pe_lst (pa_cons (pe_tup (pa_cons (pv 6) (pa_cons (pv 7) pa_nil))) pa_nil)) (pe_callTy call_int1 (by rfl) T.z_int (by decide +kernel) (pa_cons (pv 8) pa_nil))) pa_nil))))))
    (pss_one (ps_expr (bm_K K PySem.F.plainAttrs_list PySem.F.slot_list_append PySem.F.type_list_append mt_append (pv 3) (pa_cons (pe_tup (pa_cons (pe_k C_law_m_sum hr (by decide) pass0 (pa_cons (pv 2) (pa_cons (pv 5) pa_nil))) (pa_cons (pv 4) pa_nil))) pa_nil)))))))
    (pss_one (ps_ret (pv 3))))), ?_⟩
    refine ⟨le_sl (Nat.zero_le _), fun p hp => ?_⟩
    have e0 : Same H (upd H p (.lst [])) := same_new hp
    refine ⟨_, rfl, na, ns, rfl, e0.seq hN, hl, fun H1 q lz e1 hq h1 fr e2 => ?_⟩
    have sl0 : (sortN ns).length ≤ 10 := by rw [sortN_len]; exact hl
    generalize sortN ns = sn at sl0 k e2
    have e01 := e0.trans e1
    have lzl : lz.length ≤ 1024 := by
      have := congrArg List.length e2
      rw [List.length_map, (lotsOf_perm sn).length_eq, subs_len] at this
      rw [this]
      exact pow_le (m := 10) sl0
    have p1 : H1 p = some (.lst []) := e1 _ _ upd_same
    have qp : q ≠ p := (ne_of_none upd_same hq).symm
    have tB := hid1_of hp e01
    have B0 := hid1_le p H1
    have Bp := hid1_at p H1
    have Bq : hid1 p H1 q = some (.lst (lz.map (·.1))) := by rw [hid1_ne qp]; exact h1.1
    have Bl : ∀ z ∈ lz, IsLot (hid1 p H1) z.1 z.2 := fun z hz => by
      obtain ⟨t, et, ht⟩ := h1.2 z hz
      have tp : t ≠ p := (ne_of_none upd_same (fr z hz t et)).symm
      exact ⟨t, et, by rw [hid1_ne tp]; exact ht⟩
    generalize hid1 p H1 = B at tB B0 Bp Bq Bl
    have bZ := hZ.pairs tB
    have bW := hW.same tB
    refine ⟨q, rfl, ⟨_, SqL.of h1.1⟩, ?_⟩
    refine for_it walk_list (fun i σ H2 => Same B H2 ∧ (∃ acc : List (V × (Int × List Str)), H2 p = some (.lst (acc.map (·.1))) ∧ acc.map (·.2) = ((lotsOf sn).take i).map (fun l => (price (zs.map (·.2)) f l, l)) ∧ ∀ z ∈ acc, NewPrice H (hid1 p H2) z.1 z.2) ∧ ∃ u1 u2 u3 u4 u5, σ = [some (.ref na), some (.ref a), some (.ref wa), some (.ref p), u1, u2, u3, u4, u5])
      ⟨B0, ⟨[], p1, rfl, fun z hz => nomatch hz⟩, _, _, _, _, _, rfl⟩ (fun i σ H2 _ h => SqL.of (h.1 _ _ Bq)) ?_ ?_
    · rintro i v0 σ H2 H3 hi ⟨s2, ⟨acc, h2, ea, na'⟩, u1, u2, u3, u4, u5, rfl⟩ ⟨rfl, hv⟩
      obtain ⟨z, hz, rfl⟩ := get_map hv
      have il := get_lt hz
      obtain ⟨t, et, htB⟩ := Bl z (List.mem_of_getElem? hz)
      have htp : t ≠ p := ne_of_none htB Bp
      have ht := s2 _ _ htB
      have el : (lotsOf sn)[i]? = some z.2 := by rw [← e2, List.getElem?_map, hz]; rfl
      have al : acc.length = i := by
        have q := congrArg List.length ea
        rw [List.length_map, List.length_map, List.length_take] at q
        have := get_lt el
        omega
      -- gone
      refine ⟨le_sl (Nat.zero_le _), fun g hg => ?_⟩
      have e3 : Same H3 (upd H3 g (.lst [])) := same_new hg
      have pg : p ≠ g := ne_of_none h2 hg
      refine ⟨_, rfl, a, rfl, ⟨_, SqL.of (e3 _ _ (s2 _ _ bZ.1))⟩, ?_⟩
      refine for_it walk_list (fun j σ H4 => Same H3 H4 ∧ (∃ gz : List (V × (Str × Str)), Lof H4 IsPair g gz ∧ gz.map (·.2) = (((zs.map (·.2)).take j).filter (overB (zs.map (·.2)) z.2)) ∧ gz.length ≤ j) ∧ ∃ u3 u4 u5, σ = [some (.ref na), some (.ref a), some (.ref wa), some (.ref p), some z.1, some (.ref g), u3, u4, u5])
        ⟨e3, ⟨[], ⟨upd_same, fun z hz => nomatch hz⟩, rfl, Nat.le_refl _⟩, _, _, _, rfl⟩ (fun j σ H4 _ h => SqL.of (h.1 _ _ (s2 _ _ bZ.1))) ?_ ?_
      · rintro j v0 σ H4 H5 hj ⟨s4, ⟨gz, hG, eg, gl⟩, u3, u4, u5, rfl⟩ ⟨rfl, hv⟩
        obtain ⟨y, hy, rfl⟩ := get_map hv
        have hym := List.mem_of_getElem? hy
        have hjl := get_lt hy
        obtain ⟨ty, ety, hty⟩ := (bZ.2 y hym).same (s2.trans s4)
        have ht4 := s4 _ _ ht
        have ep : (zs.map (·.2))[j]? = some y.2 := by rw [List.getElem?_map, hy]; rfl
        refine ⟨ty, _, ety, SqT.of hty, rfl, _, _, rfl, _, _, rfl, rfl, ?_⟩
        -- is_open
        refine seq_cut (fun σ H6 => ∃ b : Bool, b = overB (zs.map (·.2)) z.2 y.2 ∧ Same H5 H6 ∧ σ = [some (.ref na), some (.ref a), some (.ref wa), some (.ref p), some z.1, some (.ref g), some (.str y.2.1), some (.str y.2.2), some (.bl b)]) ?_ ?_
        · rintro σ H6 ⟨b, eb, s6, rfl⟩
          have hk : (0 : Int) ≤ (if b = true then 1 else 0) ∧ (if b = true then 1 else 0 : Int) ≤ 1 := by cases b <;> decide
          have hG6 := hG.pairs s6
          refine ⟨_, rfl, .inl ⟨rfl, _, SqL.of hG6.1⟩, _, rfl, _, rfl, le_sl (by show 2 ≤ _; decide), fun r2 hr2 => ⟨le_sl (by show 1 ≤ _; decide), fun q2 hq2 => ⟨_, rfl, .inr ⟨b, rfl, q2, _, _, rfl, rfl, upd_same, by omega, by omega, ?_, fun w hw => ?_⟩⟩⟩⟩
          · show 1 * _ ≤ _
            cases b <;> exact le_sl (by decide)
          · have e8 := ((same_new (o := .tup [.str y.2.1, .str y.2.2]) hr2).trans (same_new (o := .lst [.ref r2]) hq2)).trans (same_new (o := .lst (List.replicate (if b = true then 1 else 0 : Int).toNat [V.ref r2]).flatten) hw)
            have hG8 := hG6.pairs e8
            have hL : (List.replicate (if b = true then 1 else 0 : Int).toNat [V.ref r2]).flatten = if b = true then [V.ref r2] else [] := by cases b <;> rfl
            refine ⟨g, w, _, _, rfl, rfl, hG8.1, upd_same, le_sl ?_, ?_⟩
            · rw [List.length_map]
              cases b <;> simp <;> omega
            · have gnone : B g = none := s2.free hg
              have r8 : (upd (upd (upd H6 r2 (.tup [.str y.2.1, .str y.2.2])) q2 (.lst [.ref r2])) w (.lst (List.replicate (if b = true then 1 else 0 : Int).toNat [V.ref r2]).flatten)) r2 = some (.tup [.str y.2.1, .str y.2.2]) :=
                (upd_ne (ne_of_none (same_new hq2 _ _ upd_same) hw)).trans (same_new hq2 _ _ upd_same)
              refine ⟨same_upd (s4.trans (s6.trans e8)) hg, ⟨gz ++ (if b = true then [(.ref r2, y.2)] else []), ⟨?_, fun u hu => ?_⟩, ?_, ?_⟩, _, _, _, rfl⟩
              · rw [upd_same, hL]
                cases b with
                | true => rw [List.map_append]; rfl
                | false => rw [if_neg Bool.false_ne_true, if_neg Bool.false_ne_true, List.append_nil, List.append_nil]
              · rcases List.mem_append.mp hu with hu | hu
                · obtain ⟨t1, e1, h1⟩ := hG8.2 u hu
                  exact ⟨t1, e1, (upd_ne (ne_of h1 hG8.1 (by intro z; cases z))).trans h1⟩
                · cases b with
                  | false => cases hu
                  | true =>
                    rw [if_pos rfl] at hu
                    rw [List.mem_singleton.mp hu]
                    exact ⟨r2, rfl, (upd_ne (ne_of r8 hG8.1 (by intro z; cases z))).trans r8⟩
              · rw [List.map_append, eg, take_snoc ep, List.filter_append]
                congr 1
                rw [List.filter_cons, List.filter_nil, ← eb]
                cases b <;> rfl
              · rw [List.length_append]
                cases b with
                | true => exact Nat.succ_le_succ gl
                | false => exact Nat.le_succ_of_le gl
        · intro X hX
          have e1' : (if false = true then !inV (.str y.2.2) (z.2.map V.str) else inV (.str y.2.2) (z.2.map V.str)) = decide (y.2.2 ∈ z.2) := by rw [if_neg Bool.false_ne_true, inV_str]
          have e2' : (if false = true then !inV (.str y.2.1) (z.2.map V.str) else inV (.str y.2.1) (z.2.map V.str)) = decide (y.2.1 ∈ z.2) := by rw [if_neg Bool.false_ne_true, inV_str]
          refine ⟨_, rfl, _, rfl, t, _, et, .inl (SqL.of ht4), rfl, flat_strs _, _, rfl, ?_⟩
          by_cases q1 : y.2.2 ∈ z.2
          · refine iteB1 (by rw [e1', decide_eq_true q1]) ?_
            refine ⟨_, rfl, _, rfl, t, _, et, .inl (SqL.of ht4), rfl, flat_strs _, _, rfl, ?_⟩
            by_cases q2 : y.2.1 ∈ z.2
            · refine iteB1 (by rw [e2', decide_eq_true q2]) (hX _ _ ⟨true, ?_, fun _ _ e => e, rfl⟩)
              unfold overB
              rw [decide_eq_true q1, decide_eq_true q2]
              rfl
            · refine iteB0 (by rw [e2', decide_eq_false q2]) ?_
              refine ⟨_, rfl, _, rfl, _, rfl, a, t, zs, z.2, y.2.1, by rw [← et], bZ.pairs (s2.trans s4), zl, SqL.of ht4, fun H6 s6 => ⟨_, rfl, hX _ _ ⟨!decide (y.2.1 ∈ hits (zs.map (·.2)) z.2), ?_, s6, rfl⟩⟩⟩
              unfold overB
              rw [decide_eq_true q1, decide_eq_false q2]
              rfl
          · refine iteB0 (by rw [e1', decide_eq_false q1]) (hX _ _ ⟨false, ?_, fun _ _ e => e, rfl⟩)
            unfold overB
            rw [decide_eq_false q1]
            rfl
      · rintro σ H4 ⟨s4, ⟨gz, hG, eg, gl⟩, u3, u4, u5, rfl⟩
        rw [List.length_map, ← List.length_map (f := (·.2)), List.take_length] at eg
        rw [List.length_map] at gl
        have s24 := s2.trans s4
        have bW4 : Wt H4 wa (gz.map (·.2)) f := by
          obtain ⟨kvs, w1, w2⟩ := bW.same s24
          exact ⟨kvs, w1, fun p hp => w2 p (by rw [eg] at hp; exact (List.mem_filter.mp hp).1)⟩
        have h24 := s4 _ _ h2
        refine ⟨_, rfl, .inl ⟨rfl, _, SqL.of h24⟩, _, rfl, _, rfl, wa, g, gz, f, rfl, hG, by omega, bW4, fun H5 s5 => ?_⟩
        refine ⟨_, rfl, le_sl (by show 2 ≤ _; decide), fun r hr' => ?_⟩
        have e6 := s5.trans (same_new (o := .tup [.int ((gz.map (·.2)).map f).sum, z.1]) hr')
        have es : ((gz.map (·.2)).map f).sum = price (zs.map (·.2)) f z.2 := by rw [eg]; rfl
        have p6 := e6 _ _ h24
        have l6 := e6 _ _ (s4 _ _ ht)
        refine ⟨p, _, _, rfl, rfl, p6, by rw [List.length_map]; exact lt_sl (by omega), same_upd (s24.trans e6) Bp, ⟨acc ++ [(.ref r, (price (zs.map (·.2)) f z.2, z.2))], ?_, ?_, fun y hy => ?_⟩, _, _, _, _, _, rfl⟩
        · rw [upd_same, List.map_append]
          rfl
        · rw [List.map_append, ea, take_snoc el, List.map_append]
          rfl
        · have rp : r ≠ p := (ne_of_none (s5 _ _ h24) hr').symm
          have hh : ∀ c o, c ≠ p → (upd H5 r (.tup [.int ((gz.map (·.2)).map f).sum, z.1])) c = some o → hid1 p (upd (upd H5 r (.tup [.int ((gz.map (·.2)).map f).sum, z.1])) p (.lst (acc.map (·.1) ++ [.ref r]))) c = some o := fun c o nc e => by
            rw [hid1_ne nc, upd_ne nc]
            exact e
          rcases List.mem_append.mp hy with hy | hy
          · refine (na' y hy).same fun c o e => ?_
            have nc : c ≠ p := ne_of_none e (hid1_at p _)
            rw [hid1_ne nc] at e
            exact hh c o nc (e6 _ _ (s4 _ _ e))
          · rw [List.mem_singleton.mp hy]
            refine ⟨r, t, rfl, (tB.trans (s24.trans s5)).free hr', e0.free (fr z (List.mem_of_getElem? hz) t et), hh _ _ rp ?_, hh _ _ htp l6⟩
            rw [upd_same, es, et]
    · rintro σ H2 ⟨s2, ⟨acc, h2, ea, na'⟩, u1, u2, u3, u4, u5, rfl⟩
      rw [List.length_map, ← List.length_map (f := (·.2)), e2, List.take_length] at ea
      exact ⟨_, rfl, k H2 p acc (tB.trans s2) hp h2 (fun z hz => (na' z hz).same (hid1_le p H2)) ea⟩
end
/-! ### same data -/
def isFlat : V → Bool
  | .non | .bl _ | .int _ | .str _ => true
  | _ => false
/-- x and y hold the same data, n deep at most -/
inductive SD (K : PySem.W.Frag) (H : Hp) : Nat → V → V → Prop
  | flat {n : Nat} {v : V} : isFlat v = true → SD K H n v v
  | lst {n : Nat} {a b : Addr} {xs ys : List V} : SqL K H a xs → SqL K H b ys → xs.length = ys.length → xs.length ≤ 100000 → (∀ (i : Nat) (x y : V), xs[i]? = some x → ys[i]? = some y → SD K H n x y) → SD K H (n + 1) (.ref a) (.ref b)
  | tup {n : Nat} {a b : Addr} {xs ys : List V} : SqT K H a xs → SqT K H b ys → xs.length = ys.length → xs.length ≤ 100000 → (∀ (i : Nat) (x y : V), xs[i]? = some x → ys[i]? = some y → SD K H n x y) → SD K H (n + 1) (.ref a) (.ref b)
  | dT {n : Nat} {a : Addr} {kvs : List (List L2.Key × V)} {ks : List (Str × Str)} : H a = some (.dT kvs) → kvs.map (·.1) = ks.map kP → kvs.length ≤ 100000 → (∀ kv ∈ kvs, SD K H (n + 1) kv.2 kv.2) → SD K H (n + 4) (.ref a) (.ref a)
  | dK {n : Nat} {a : Addr} {kvs : List (L2.Key × V)} : H a = some (.dK kvs) → kvs.length ≤ 100000 → (∀ kv ∈ kvs, SD K H n kv.2 kv.2) → SD K H (n + 3) (.ref a) (.ref a)
theorem SD.same {K : PySem.W.Frag} {H H' : Hp} (e : Same H H') {n : Nat} {x y : V} (h : SD K H n x y) : SD K H' n x y := by
  induction h with
  | flat h => exact .flat h
  | lst a b c z _ ih => exact .lst (e.seq a) (e.seq b) c z ih
  | tup a b c z _ ih => exact .tup (Same.seqT e a) (Same.seqT e b) c z ih
  | dT a b z _ ih => exact .dT (e _ _ a) b z ih
  | dK a z _ ih => exact .dK (e _ _ a) z ih
theorem SD.up {K : PySem.W.Frag} {H : Hp} {n m : Nat} {x y : V} (h : SD K H n x y) : n ≤ m → SD K H m x y := by
  induction h generalizing m with
  | flat h => exact fun _ => .flat h
  | @lst n a b xs ys h1 h2 c z _ ih =>
    intro l
    obtain ⟨j, rfl⟩ : ∃ j, m = j + 1 := ⟨m - 1, by omega⟩
    exact .lst h1 h2 c z fun i x y p q => ih i x y p q (by omega)
  | @tup n a b xs ys h1 h2 c z _ ih =>
    intro l
    obtain ⟨j, rfl⟩ : ∃ j, m = j + 1 := ⟨m - 1, by omega⟩
    exact .tup h1 h2 c z fun i x y p q => ih i x y p q (by omega)
  | @dT n a kvs ks h1 h2 z _ ih =>
    intro l
    obtain ⟨j, rfl⟩ : ∃ j, m = j + 4 := ⟨m - 4, by omega⟩
    exact .dT h1 h2 z fun kv q => ih kv q (by omega)
  | @dK n a kvs h1 z _ ih =>
    intro l
    obtain ⟨j, rfl⟩ : ∃ j, m = j + 3 := ⟨m - 3, by omega⟩
    exact .dK h1 z fun kv q => ih kv q (by omega)
theorem walk_zipT {K : PySem.W.Frag} {a b : Addr} {xs ys : List V} {n : Nat} (hn : n = min xs.length ys.length) : L2.Walk (RZ.ItzT K a b) n (fun H => SqT K H a xs ∧ SqT K H b ys) (YPair (fun i => xs[i]?) (fun i => ys[i]?)) := by
  subst hn
  refine ⟨fun i _ hi q => ?_, fun _ q => ⟨xs, ys, q.1, q.2, by omega⟩, fun i H v H' _ q y => ?_⟩
  · have h1 : i < xs.length := by omega
    have h2 : i < ys.length := by omega
    exact ⟨xs, ys, xs[i], ys[i], q.1, q.2, by simp [h1], by simp [h2]⟩
  · obtain ⟨t, x, z, h1, h2, h3, h4, h5⟩ := y
    exact ⟨t, x, z, h1, h2, h3, h4 xs q.1, h5 ys q.2⟩
def spSame (K : PySem.W.Frag) (n : Nat) : Sp := fun vs H Q _ => ∃ x y : V, vs = [x, y] ∧ SD K H n x y ∧ ∀ H', Same H H' → Q (.bl true) H'
theorem paired_at {F : Addr → (L2.Key × V) → Prop} {ts : List Addr} {kvs : List (L2.Key × V)} (h : Paired F ts kvs) {i : Nat} {t : Addr} (e : ts[i]? = some t) : ∃ kv, kvs[i]? = some kv ∧ F t kv := paired_get h e
section
variable {P : Program} {w : World} {K : PySem.W.Frag} {mg : Str → Option Value} {base : Heap}
/-- the promise one level below -/
def spPrev (K : PySem.W.Frag) : Nat → Sp
  | 0 => fun _ _ _ _ => False
  | n + 1 => spSame K n
theorem cl_same1 (T : Top K mg) (n : Nat) (C_law_same : Cl P w K mg base CX0 (n + 1) "_law_same" ["_law_found", "_law_due"] (spPrev K n)) : Cl P w K mg base CX0 (n + 2) "_law_same" ["_law_found", "_law_due"] (spSame K n) := by
  refine Cl.of T.f_law_same T.g_law_same sc_law_same (fun _ _ _ _ _ _ us hl => match us, hl with | [_, _], _ => rfl) (fun vs H Q E h => ?_) (fun cdv A outer s H vs Q E hr h => ?_)
  · obtain ⟨x, y, rfl, _⟩ := h
    rfl
  · obtain ⟨x, y, rfl, hS, k⟩ := h
    have hrn : n + 1 ≤ n + 1 := Nat.le_refl _
    refine ⟨_, (pss_cons (ps_if (pt_val (pe_callB (isiT_K K) (by rfl) T.z_isinstance (by decide +kernel) (pa_cons (pv 1) (pa_cons (pe_tup (pa_cons (pe_bltn (v := .ty "list") (by rfl) T.z_list (by decide +kernel) rfl) (pa_cons (pe_bltn (v := .ty "tuple") (by rfl) T.z_tuple (by decide +kernel) rfl) pa_nil))) pa_nil))))
    (pss_cons (ps_if (PW.pt (pw_or (pt_cmpR op_ne (pe_callB (isi_K K) (by rfl) T.z_isinstance (by decide +kernel) (pa_cons (pv 0) (pa_cons (pe_bltn (v := .ty "list") (by rfl) T.z_list (by decide +kernel) rfl) pa_nil))) (pe_callB (isi_K K) (by rfl) T.z_isinstance (by decide +kernel) (pa_cons (pv 1) (pa_cons (pe_bltn (v := .ty "list") (by rfl) T.z_list (by decide +kernel) rfl) pa_nil))) (nomark _)) (pw_or1 (pt_cmpR op_ne (pe_callB (isi_K K) (by rfl) T.z_isinstance (by decide +kernel) (pa_cons (pv 0) (pa_cons (pe_bltn (v := .ty "tuple") (by rfl) T.z_tuple (by decide +kernel) rfl) pa_nil))) (pe_callB (isi_K K) (by rfl) T.z_isinstance (by decide +kernel) (pa_cons (pv 1) (pa_cons (pe_bltn (v := .ty "tuple") (by rfl) T.z_tuple (by decide +kernel) rfl) pa_nil))) (nomark _)))))
    (pss_one (ps_ret pe_bl))
    pss_nil)
    (pss_one (ps_ret (pe_and (pe_cmpR op_eq (pe_callB (len_K K) (by rfl) T.z_len (by decide +kernel) (pa_cons (pv 0) pa_nil)) (pe_callB (len_K K) (by rfl) T.z_len (by decide +kernel) (pa_cons (pv 1) pa_nil)) (nomark _)) (pe_one (pe_callB (all_K K rfl) (by rfl) T.z_all (by decide +kernel) (pa_cons (pe_lc (own := [("_law_x", 2), ("_law_y", 3)]) (g := gTup K 2 (gCons (gName 2) (gCons (gName 3) gNil))) (tt := tYes) rfl sc_law_same.nd (zipA_K K (by rfl) T.z_zip (pa_cons (pv 0) (pa_cons (pv 1) pa_nil))) (blkOk_by (own := [("_law_x", 2), ("_law_y", 3)]) (N := N_law_same) (sc := defScope s_law_same) (by decide +kernel)) (fun _ _ _ _ _ => (pgt_K K rfl (pgs_cons (pg_name (i := 2) sc_law_same.nd rfl (Or.inl rfl)) (pgs_cons (pg_name (i := 3) sc_law_same.nd rfl (Or.inl rfl)) pgs_nil)))) (fun _ _ _ _ _ => pts_nil) (fun _ _ _ _ _ => (pe_k C_law_same hr (Nat.le_refl _) pass0 (pa_cons (pv 2) (pa_cons (pv 3) pa_nil))))) pa_nil)))))))
    pss_nil)
    (pss_cons (ps_if (pt_val (pe_callB (isi_K K) (by rfl) T.z_isinstance (by decide +kernel) (pa_cons (pv 1) (pa_cons (pe_bltn (v := .ty "dict") (by rfl) T.z_dict (by decide +kernel) rfl) pa_nil))))
    (pss_one (ps_ret (pe_and (pe_callB (isi_K K) (by rfl) T.z_isinstance (by decide +kernel) (pa_cons (pv 0) (pa_cons (pe_bltn (v := .ty "dict") (by rfl) T.z_dict (by decide +kernel) rfl) pa_nil))) (pe_one (pe_k C_law_same hr (Nat.le_refl _) pass0 (pa_cons (pe_or2 (LiI.pe_listItems rfl (pv 0) (by rfl) T.z_list (by decide +kernel)) (pe_callTy (cr_itemsLT rfl) (by rfl) T.z_list (by decide +kernel) (pa_cons (bm0_K K PySem.F.plainAttrs_dict PySem.F.slot_dict_items PySem.F.type_dict_items L2.DX.mt_itemsT (pv 0)) pa_nil))) (pa_cons (pe_or2 (LiI.pe_listItems rfl (pv 1) (by rfl) T.z_list (by decide +kernel)) (pe_callTy (cr_itemsLT rfl) (by rfl) T.z_list (by decide +kernel) (pa_cons (bm0_K K PySem.F.plainAttrs_dict PySem.F.slot_dict_items PySem.F.type_dict_items L2.DX.mt_itemsT (pv 1)) pa_nil))) pa_nil)))))))
    pss_nil)
    (pss_cons (ps_if (pt_val (pe_callB (isi_K K) (by rfl) T.z_isinstance (by decide +kernel) (pa_cons (pv 1) (pa_cons (pe_bltn (v := .ty "int") (by rfl) T.z_int (by decide +kernel) rfl) pa_nil))))
    (pss_one (ps_ret (pe_and (pe_callB (isi_K K) (by rfl) T.z_isinstance (by decide +kernel) (pa_cons (pv 0) (pa_cons (pe_bltn (v := .ty "int") (by rfl) T.z_int (by decide +kernel) rfl) pa_nil))) (pe_and (pe_cmpR op_eq (pe_callB (isi_K K) (by rfl) T.z_isinstance (by decide +kernel) (pa_cons (pv 0) (pa_cons (pe_bltn (v := .ty "bool") (by rfl) T.z_bool (by decide +kernel) rfl) pa_nil))) (pe_callB (isi_K K) (by rfl) T.z_isinstance (by decide +kernel) (pa_cons (pv 1) (pa_cons (pe_bltn (v := .ty "bool") (by rfl) T.z_bool (by decide +kernel) rfl) pa_nil))) (nomark _)) (pe_one (pe_cmpR op_eq (pv 0) (pv 1) (nomark _)))))))
    pss_nil)
    (pss_one (ps_ret (pe_and (pe_not (pe_callB (isiT_K K) (by rfl) T.z_isinstance (by decide +kernel) (pa_cons (pv 0) (pa_cons (pe_tup (pa_cons (pe_bltn (v := .ty "int") (by rfl) T.z_int (by decide +kernel) rfl) (pa_cons (pe_bltn (v := .ty "list") (by rfl) T.z_list (by decide +kernel) rfl) (pa_cons (pe_bltn (v := .ty "tuple") (by rfl) T.z_tuple (by decide +kernel) rfl) (pa_cons (pe_bltn (v := .ty "dict") (by rfl) T.z_dict (by decide +kernel) rfl) pa_nil))))) pa_nil)))) (pe_one (pe_cmpR op_eq (pv 0) (pv 1) (nomark _))))))))), ?_⟩
    -- isinstance(due, (list, tuple))
    cases hS with
    | @flat _ _ hf =>
      have ty : ∃ t, TyX K H x (.type t) ∧ (t = "NoneType" ∨ t = "bool" ∨ t = "int" ∨ t = "str") := by
        cases x with
        | non => exact ⟨_, .base .non, .inl rfl⟩
        | bl b => exact ⟨_, .base (.bl b), .inr (.inl rfl)⟩
        | int i => exact ⟨_, .base (.int i), .inr (.inr (.inl rfl))⟩
        | str z => exact ⟨_, .base (.str z), .inr (.inr (.inr rfl))⟩
        | _ => cases hf
      obtain ⟨t, ty, ht⟩ := ty
      have sc : scal x x = true := by cases x <;> first | rfl | cases hf
      refine ⟨_, rfl, le_sl (by show 2 ≤ _; decide), fun p hp => ⟨_, p, ["list", "tuple"].map V.ty, .type t, _, false, rfl, upd_same, clsVs _, TyX.new hp ty, kitBs_ok (by rcases ht with rfl | rfl | rfl | rfl <;> decide +kernel), _, rfl, iteF ?_⟩⟩
      have ty1 : TyX K (upd H p (.tup [.ty "list", .ty "tuple"])) x (.type t) := TyX.new hp ty
      refine ⟨_, rfl, _, _, .type t, .type "dict", false, rfl, .ty _, ty1, kit_ty (by rcases ht with rfl | rfl | rfl | rfl <;> decide +kernel), _, rfl, iteF ?_⟩
      refine ⟨_, rfl, _, _, .type t, .type "int", decide (t = "int" ∨ t = "bool"), rfl, .ty _, ty1, kit_ty (by rcases ht with rfl | rfl | rfl | rfl <;> decide +kernel), _, rfl, ?_⟩
      by_cases hi : t = "int" ∨ t = "bool"
      · refine iteB1 (dT hi) ?_
        refine ⟨_, rfl, _, _, .type t, .type "int", true, rfl, .ty _, ty1, kit_ty (by rcases hi with rfl | rfl <;> decide +kernel), _, rfl, iteT ?_⟩
        refine ⟨_, rfl, _, _, .type t, .type "bool", decide (t = "bool"), rfl, .ty _, ty1, kit_ty (by rcases hi with rfl | rfl <;> decide +kernel), ?_⟩
        refine ⟨_, rfl, _, _, .type t, .type "bool", decide (t = "bool"), rfl, .ty _, ty1, kit_ty (by rcases hi with rfl | rfl <;> decide +kernel), rfl, _, rfl, iteB1 (dT rfl) ?_⟩
        refine ⟨_, rfl, _, rfl, sc, ?_⟩
        have := k _ (same_new (o := .tup [.ty "list", .ty "tuple"]) hp)
        rw [← dT (rfl : x = x)] at this
        exact this
      · refine iteB0 (dF hi) ?_
        refine ⟨_, rfl, le_sl (by show 4 ≤ _; decide), fun q hq => ⟨_, q, ["int", "list", "tuple", "dict"].map V.ty, .type t, _, false, rfl, upd_same, clsVs _, TyX.new hq ty1, kitBs_ok (by rcases ht with rfl | rfl | rfl | rfl <;> first | decide +kernel | exact absurd (.inl rfl) hi | exact absurd (.inr rfl) hi), _, rfl, _, rfl, iteT ?_⟩⟩
        refine ⟨_, rfl, _, rfl, sc, ?_⟩
        have := k _ ((same_new (o := .tup [.ty "list", .ty "tuple"]) hp).trans (same_new (o := .tup [.ty "int", .ty "list", .ty "tuple", .ty "dict"]) hq))
        rw [← dT (rfl : x = x)] at this
        exact this
    | @lst m a b xs ys ha hb hl hz hp =>
      refine ⟨_, rfl, le_sl (by show 2 ≤ _; decide), fun p hp0 => ⟨_, p, ["list", "tuple"].map V.ty, .type "list", _, true, rfl, upd_same, clsVs _, TyX.new hp0 (TyX.ofL hb), kitBs_ok (by decide +kernel), _, rfl, iteT ?_⟩⟩
      have e1 := same_new (o := .tup [.ty "list", .ty "tuple"]) hp0
      have ha1 := e1.seq ha
      have hb1 := e1.seq hb
      refine ⟨_, rfl, _, _, .type "list", .type "list", true, rfl, .ty _, TyX.ofL ha1, kit_ty (by decide +kernel), ?_⟩
      refine ⟨_, rfl, _, _, .type "list", .type "list", true, rfl, .ty _, TyX.ofL hb1, kit_ty (by decide +kernel), rfl, _, rfl, iteB0 (nT rfl) ?_⟩
      refine ⟨_, rfl, _, _, .type "list", .type "tuple", false, rfl, .ty _, TyX.ofL ha1, kit_ty (by decide +kernel), ?_⟩
      refine ⟨_, rfl, _, _, .type "list", .type "tuple", false, rfl, .ty _, TyX.ofL hb1, kit_ty (by decide +kernel), rfl, _, rfl, iteB0 (nT rfl) ?_⟩
      refine ⟨_, rfl, a, xs, rfl, .inl ha1, _, rfl, b, ys, rfl, .inl hb1, rfl, _, rfl, iteB1 (dT (by rw [hl])) ?_⟩
      refine ⟨_, rfl, _, rfl, a, b, xs, ys, rfl, .inl ⟨ha1, hb1, fun D hDn => ?_⟩⟩
      refine lc_it (walk_zip (n := xs.length) (by rw [hl]; exact (Nat.min_self _).symm)) (fun i H2 => Same (upd H p (.tup [.ty "list", .ty "tuple"])) H2 ∧ H2 D = some (.lst (List.replicate i (.bl true)))) ⟨same_new hDn, upd_same⟩ (fun i H2 _ h => ⟨h.1.seq ha1, h.1.seq hb1⟩) ?_ ?_
      · rintro i v0 H2 H3 hi ⟨s2, h2⟩ ⟨t, x, y, rfl, ht, rfl, ex, ey⟩
        have s3 := same_new (o := .tup [x, y]) ht
        have hxy := (hp i x y ex ey).same (e1.trans (s2.trans s3))
        refine ⟨t, _, rfl, SqT.of upd_same, rfl, _, _, rfl, _, _, rfl, rfl, rfl, _, rfl, _, rfl, x, y, rfl, hxy, fun H4 s4 => ⟨_, s4 _ _ (s3 _ _ h2), ?_, same_upd (s2.trans (s3.trans s4)) hDn, ?_⟩⟩
        · rw [List.length_replicate]
          exact lt_sl (by omega)
        · rw [upd_same, List.replicate_succ']
      · rintro H2 ⟨s2, h2⟩
        refine ⟨D, List.replicate xs.length true, rfl, SqL.of (by rw [h2, rep_map true _ V.bl]), ?_⟩
        rw [all_true_bs]
        exact k _ (e1.trans s2)
    | @tup m a b xs ys ha hb hl hz hp =>
      refine ⟨_, rfl, le_sl (by show 2 ≤ _; decide), fun p hp0 => ⟨_, p, ["list", "tuple"].map V.ty, .type "tuple", _, true, rfl, upd_same, clsVs _, TyX.new hp0 (TyX.ofT hb), kitBs_ok (by decide +kernel), _, rfl, iteT ?_⟩⟩
      have e1 := same_new (o := .tup [.ty "list", .ty "tuple"]) hp0
      have ha1 := Same.seqT e1 ha
      have hb1 := Same.seqT e1 hb
      refine ⟨_, rfl, _, _, .type "tuple", .type "list", false, rfl, .ty _, TyX.ofT ha1, kit_ty (by decide +kernel), ?_⟩
      refine ⟨_, rfl, _, _, .type "tuple", .type "list", false, rfl, .ty _, TyX.ofT hb1, kit_ty (by decide +kernel), rfl, _, rfl, iteB0 (nT rfl) ?_⟩
      refine ⟨_, rfl, _, _, .type "tuple", .type "tuple", true, rfl, .ty _, TyX.ofT ha1, kit_ty (by decide +kernel), ?_⟩
      refine ⟨_, rfl, _, _, .type "tuple", .type "tuple", true, rfl, .ty _, TyX.ofT hb1, kit_ty (by decide +kernel), rfl, _, rfl, iteB0 (nT rfl) ?_⟩
      refine ⟨_, rfl, a, xs, rfl, .inr ha1, _, rfl, b, ys, rfl, .inr hb1, rfl, _, rfl, iteB1 (dT (by rw [hl])) ?_⟩
      refine ⟨_, rfl, _, rfl, a, b, xs, ys, rfl, .inr ⟨ha1, hb1, fun D hDn => ?_⟩⟩
      refine lc_it (walk_zipT (n := xs.length) (by rw [hl]; exact (Nat.min_self _).symm)) (fun i H2 => Same (upd H p (.tup [.ty "list", .ty "tuple"])) H2 ∧ H2 D = some (.lst (List.replicate i (.bl true)))) ⟨same_new hDn, upd_same⟩ (fun i H2 _ h => ⟨Same.seqT h.1 ha1, Same.seqT h.1 hb1⟩) ?_ ?_
      · rintro i v0 H2 H3 hi ⟨s2, h2⟩ ⟨t, x, y, rfl, ht, rfl, ex, ey⟩
        have s3 := same_new (o := .tup [x, y]) ht
        have hxy := (hp i x y ex ey).same (e1.trans (s2.trans s3))
        refine ⟨t, _, rfl, SqT.of upd_same, rfl, _, _, rfl, _, _, rfl, rfl, rfl, _, rfl, _, rfl, x, y, rfl, hxy, fun H4 s4 => ⟨_, s4 _ _ (s3 _ _ h2), ?_, same_upd (s2.trans (s3.trans s4)) hDn, ?_⟩⟩
        · rw [List.length_replicate]
          exact lt_sl (by omega)
        · rw [upd_same, List.replicate_succ']
      · rintro H2 ⟨s2, h2⟩
        refine ⟨D, List.replicate xs.length true, rfl, SqL.of (by rw [h2, rep_map true _ V.bl]), ?_⟩
        rw [all_true_bs]
        exact k _ (e1.trans s2)
    | @dT m a kvs ks ha hk hz hv =>
      refine ⟨_, rfl, le_sl (by show 2 ≤ _; decide), fun p hp0 => ⟨_, p, ["list", "tuple"].map V.ty, .type "dict", _, false, rfl, upd_same, clsVs _, TyX.new hp0 (.base (.dT ha)), kitBs_ok (by decide +kernel), _, rfl, iteF ?_⟩⟩
      have e1 := same_new (o := .tup [.ty "list", .ty "tuple"]) hp0
      have ha1 := e1 _ _ ha
      refine ⟨_, rfl, _, _, .type "dict", .type "dict", true, rfl, .ty _, .base (.dT ha1), kit_ty (by decide +kernel), _, rfl, iteT ?_⟩
      refine ⟨_, rfl, _, _, .type "dict", .type "dict", true, rfl, .ty _, .base (.dT ha1), kit_ty (by decide +kernel), _, rfl, iteT ?_⟩
      refine .inr ⟨_, rfl, .inr (.inr (.inl ⟨rfl, .inr ⟨_, ha1⟩⟩)), a, kvs, rfl, rfl, ha1, fun p1 hp1 => ⟨p1, a, ks, kvs, rfl, upd_same, same_new hp1 _ _ ha1, hk, fun H2 q1 ts1 s2 hq1 h1 at1 et1 => ?_⟩⟩
      have e2 := (same_new (o := L2.DX.itemsO p1 a) hp1).trans s2
      have ha2 := e2 _ _ ha1
      refine .inr ⟨_, rfl, .inr (.inr (.inl ⟨rfl, .inr ⟨_, ha2⟩⟩)), a, kvs, rfl, rfl, ha2, fun p2 hp2 => ⟨p2, a, ks, kvs, rfl, upd_same, same_new hp2 _ _ ha2, hk, fun H3 q2 ts2 s3 hq2 h2 at2 et2 => ?_⟩⟩
      have e3 := (same_new (o := L2.DX.itemsO p2 a) hp2).trans s3
      have l1 : ts1.length = kvs.length := by rw [← et1, List.length_map]
      have l2 : ts2.length = kvs.length := by rw [← et2, List.length_map]
      refine ⟨.ref q1, .ref q2, rfl, ?_, fun H4 s4 => k _ (e1.trans (e2.trans (e3.trans s4)))⟩
      refine .lst (n := m + 2) (SqL.of (e3 _ _ h1)) (SqL.of h2) (by rw [List.length_map, List.length_map, l1, l2]) (by rw [List.length_map]; omega) fun i x y ex ey => ?_
      obtain ⟨x1, hx1, rfl⟩ := get_map ex
      obtain ⟨x2, hx2, rfl⟩ := get_map ey
      obtain ⟨a1, b1⟩ := at1 x1 (List.mem_of_getElem? hx1)
      obtain ⟨a2, b2⟩ := at2 x2 (List.mem_of_getElem? hx2)
      have g1 : kvs[i]? = some (kP x1.k, x1.v) := by rw [← et1, List.getElem?_map, hx1]; rfl
      have g2 : kvs[i]? = some (kP x2.k, x2.v) := by rw [← et2, List.getElem?_map, hx2]; rfl
      have ge := Option.some.inj (g1.symm.trans g2)
      have ek : x1.k = x2.k := kP_inj (congrArg Prod.fst ge)
      have ev : x1.v = x2.v := congrArg Prod.snd ge
      have sv := ((hv _ (List.mem_of_getElem? g1)).same (e1.trans (e2.trans e3)))
      refine .tup (n := m + 1) (SqT.of (e3 _ _ a1)) (SqT.of a2) rfl (by show 2 ≤ 100000; decide) fun j u v eu ev' => ?_
      match j, eu, ev' with
      | 0, eu, ev' =>
        obtain rfl := Option.some.inj eu
        obtain rfl := Option.some.inj ev'
        refine .tup (n := m) (SqT.of (e3 _ _ b1)) (SqT.of b2) rfl (by show 2 ≤ 100000; decide) fun j u v eu ev' => ?_
        rw [← ek] at ev'
        have : u = v := Option.some.inj (eu.symm.trans ev')
        subst this
        match j, eu with
        | 0, eu => rw [← Option.some.inj eu]; exact .flat rfl
        | 1, eu => rw [← Option.some.inj eu]; exact .flat rfl
        | j + 2, eu => cases eu
      | 1, eu, ev' =>
        obtain rfl := Option.some.inj eu
        obtain rfl := Option.some.inj ev'
        rw [← ev]
        exact sv
      | j + 2, eu, ev' => cases eu
    | @dK m a kvs ha hz hv =>
      refine ⟨_, rfl, le_sl (by show 2 ≤ _; decide), fun p hp0 => ⟨_, p, ["list", "tuple"].map V.ty, .type "dict", _, false, rfl, upd_same, clsVs _, TyX.new hp0 (.base (.dK ha)), kitBs_ok (by decide +kernel), _, rfl, iteF ?_⟩⟩
      have e1 := same_new (o := .tup [.ty "list", .ty "tuple"]) hp0
      have ha1 := e1 _ _ ha
      refine ⟨_, rfl, _, _, .type "dict", .type "dict", true, rfl, .ty _, .base (.dK ha1), kit_ty (by decide +kernel), _, rfl, iteT ?_⟩
      refine ⟨_, rfl, _, _, .type "dict", .type "dict", true, rfl, .ty _, .base (.dK ha1), kit_ty (by decide +kernel), _, rfl, iteT ?_⟩
      refine .inl ⟨_, rfl, a, kvs, rfl, ha1, fun H2 q1 ts1 e2 hq1 n1 nq1 h1 pr1 => ?_⟩
      have ha2 := e2 _ _ ha1
      refine .inl ⟨_, rfl, a, kvs, rfl, ha2, fun H3 q2 ts2 e3 hq2 n2 nq2 h2 pr2 => ?_⟩
      have l1 : ts1.length = kvs.length := Paired.length pr1
      have l2 : ts2.length = kvs.length := Paired.length pr2
      refine ⟨.ref q1, .ref q2, rfl, ?_, fun H4 s4 => k _ (e1.trans (Same.trans e2 (Same.trans e3 s4)))⟩
      refine .lst (n := m + 1) (SqL.of (e3 _ _ h1)) (SqL.of h2) (by rw [List.length_map, List.length_map, l1, l2]) (by rw [List.length_map]; omega) fun i x y ex ey => ?_
      obtain ⟨x1, hx1, rfl⟩ := get_map ex
      obtain ⟨x2, hx2, rfl⟩ := get_map ey
      obtain ⟨kv1, g1, a1⟩ := paired_at pr1 hx1
      obtain ⟨kv2, g2, a2⟩ := paired_at pr2 hx2
      obtain rfl := Option.some.inj (g1.symm.trans g2)
      have sv := ((hv _ (List.mem_of_getElem? g1)).same (e1.trans (Same.trans e2 e3)))
      refine .tup (n := m) (SqT.of (e3 _ _ a1)) (SqT.of a2) rfl (by show 2 ≤ 100000; decide) fun j u v eu ev' => ?_
      have : u = v := Option.some.inj (eu.symm.trans ev')
      subst this
      match j, eu with
      | 0, eu =>
        rw [← Option.some.inj eu]
        refine .flat ?_
        cases kv1.1 <;> rfl
      | 1, eu =>
        rw [← Option.some.inj eu]
        exact sv
      | j + 2, eu => cases eu
theorem cl_same (T : Top K mg) : ∀ n : Nat, Cl P w K mg base CX0 (n + 2) "_law_same" ["_law_found", "_law_due"] (spSame K n)
  | 0 => cl_same1 T 0 (by
      refine Cl.of T.f_law_same T.g_law_same sc_law_same (fun _ _ _ _ _ _ us hl => match us, hl with | [_, _], _ => rfl) (fun vs H Q E h => h.elim) (fun cdv A outer s H vs Q E hr h => h.elim))
  | n + 1 => cl_same1 T (n + 1) (cl_same T n)
end
theorem okT_perm {ps qs : List (Str × Str)} (kvs : List (List L2.Key × V)) (h : ps.Perm qs) : okT ps kvs = okT qs kvs := by
  unfold okT
  rw [h.length_eq]
  congr 1
  rw [Bool.eq_iff_iff, List.all_eq_true, List.all_eq_true]
  exact ⟨fun g p hp => g p (h.mem_iff.mpr hp), fun g p hp => g p (h.mem_iff.mp hp)⟩
theorem WTh.perm {K : PySem.W.Frag} {H : Hp} {ps qs : List (Str × Str)} {v : V} {b : Bool} (h : WTh K H ps v b) (p : ps.Perm qs) : WTh K H qs v b := by
  cases h with
  | no a b c => exact .no a b c
  | txt a b => exact .txt a fun z => b (by rw [z] at p; exact List.perm_nil.mp p)
  | tup a b =>
    rw [okT_perm _ p]
    exact .tup a b
/-- a value that may stand in a dict of weights -/
def OddV (K : PySem.W.Frag) (H : Hp) (v : V) : Prop := IntOr K H v ∧ SD K H 1 v v
/-- a thing that may be weights, with its data -/
def Odd (K : PySem.W.Frag) (H : Hp) (ps : List (Str × Str)) (v : V) : Prop := (∃ b, WTh K H ps v b) ∧ SD K H 5 v v
theorem OddV.same {K : PySem.W.Frag} {H H' : Hp} {v : V} (e : Same H H') (h : OddV K H v) : OddV K H' v := ⟨h.1.same e, h.2.same e⟩
theorem Odd.same {K : PySem.W.Frag} {H H' : Hp} {ps : List (Str × Str)} {v : V} (e : Same H H') (h : Odd K H ps v) : Odd K H' ps v := ⟨h.1.imp fun _ w => w.same e, h.2.same e⟩
theorem OddV.int {K : PySem.W.Frag} {H : Hp} (i : Int) : OddV K H (.int i) := ⟨.inl ⟨i, rfl⟩, .flat rfl⟩
theorem valV_mem {kvs : List (List L2.Key × V)} {k : List L2.Key} {v : V} (h : valV kvs k = some v) : ∃ kv ∈ kvs, kv.2 = v := by
  unfold valV at h
  cases e : kvs.find? (fun kv => decide (kv.1 = k)) with
  | none => rw [e] at h; cases h
  | some kv => rw [e] at h; exact ⟨kv, List.mem_of_find?_eq_some e, Option.some.inj h⟩
def unK : List L2.Key → Str × Str
  | [.inr a, .inr b] => (a, b)
  | _ => (⟨#[]⟩, ⟨#[]⟩)
theorem unK_eq {k : List L2.Key} (h : ∃ q, k = kP q) : kP (unK k) = k := by
  obtain ⟨q, rfl⟩ := h
  rfl
theorem keys_of {kvs : List (List L2.Key × V)} (h : ∀ kv ∈ kvs, ∃ q, kv.1 = kP q) : kvs.map (·.1) = (kvs.map fun kv => unK kv.1).map kP := by
  rw [List.map_map]
  exact List.map_congr_left fun kv hkv => (unK_eq (h kv hkv)).symm
theorem Odd.dT {K : PySem.W.Frag} {H : Hp} {ps : List (Str × Str)} {a : Addr} {kvs : List (List L2.Key × V)} (ha : H a = some (.dT kvs)) (hl : kvs.length ≤ 100000) (h : ∀ kv ∈ kvs, (∃ q, kv.1 = kP q) ∧ OddV K H kv.2) : Odd K H ps (.ref a) := by
  refine ⟨⟨_, .tup ha fun p v hv => ?_⟩, SD.up (.dT (n := 0) ha (keys_of fun kv hkv => (h kv hkv).1) hl fun kv hkv => (h kv hkv).2.2) (by decide)⟩
  obtain ⟨kv, h1, rfl⟩ := valV_mem hv
  exact (h kv h1).2.1
theorem putK_all {κ : Type} [DecidableEq κ] {Pr : κ × V → Prop} {acc : List (κ × V)} {k : κ} {v : V} (h : ∀ kv ∈ acc, Pr kv) (hk : ∀ kv ∈ acc, Pr (kv.1, v)) (hn : Pr (k, v)) : ∀ kv ∈ putK acc k v, Pr kv := by
  unfold putK
  intro kv hkv
  by_cases e : (acc.any fun kv => decide (kv.1 = k)) = true
  · rw [if_pos e] at hkv
    obtain ⟨y, hy, rfl⟩ := List.mem_map.mp hkv
    by_cases z : y.1 = k
    · rw [if_pos z]; exact hk y hy
    · rw [if_neg z]; exact h y hy
  · rw [if_neg e] at hkv
    rcases List.mem_append.mp hkv with hkv | hkv
    · exact h kv hkv
    · rw [List.mem_singleton.mp hkv]; exact hn
theorem mergeK_all {Pv : V → Prop} : ∀ {l acc : List (L2.Key × V)}, (∀ p ∈ l, Pv p.2) → (∀ kv ∈ acc, Pv kv.2) → ∀ kv ∈ mergeK acc l, Pv kv.2
  | [], acc, _, h => h
  | p :: l, acc, h1, h2 => mergeK_all (l := l) (acc := putK acc p.1 p.2) (fun q hq => h1 q (List.mem_cons_of_mem _ hq)) (putK_all (Pr := fun kv => Pv kv.2) h2 (fun kv _ => h1 p List.mem_cons_self) (h1 p List.mem_cons_self))
theorem mergeK_len : ∀ {l acc : List (L2.Key × V)}, (mergeK acc l).length ≤ acc.length + l.length
  | [], acc => Nat.le_refl _
  | p :: l, acc => by
    have h := mergeK_len (l := l) (acc := putK acc p.1 p.2)
    have h2 := length_putK acc p.1 p.2
    rw [List.length_cons]
    show (mergeK (putK acc p.1 p.2) l).length ≤ _
    omega
theorem mergeT_all {Pv : V → Prop} {l : List ((Str × Str) × V)} (h : ∀ p ∈ l, Pv p.2) : ∀ kv ∈ mergeT l, (∃ q, kv.1 = kP q) ∧ Pv kv.2 := by
  have key : ∀ (l : List ((Str × Str) × V)) (acc : List (List L2.Key × V)), (∀ p ∈ l, Pv p.2) → (∀ kv ∈ acc, (∃ q, kv.1 = kP q) ∧ Pv kv.2) → ∀ kv ∈ l.foldl (fun acc p => putK acc (kP p.1) p.2) acc, (∃ q, kv.1 = kP q) ∧ Pv kv.2 := by
    intro l
    induction l with
    | nil => exact fun acc _ h => h
    | cons p l ih =>
      intro acc h1 h2
      refine ih _ (fun q hq => h1 q (List.mem_cons_of_mem _ hq)) (putK_all h2 (fun kv hkv => ⟨(h2 kv hkv).1, h1 p List.mem_cons_self⟩) ⟨⟨p.1, rfl⟩, h1 p List.mem_cons_self⟩)
  exact key l [] h fun kv hkv => nomatch hkv
theorem Odd.list {K : PySem.W.Frag} {H : Hp} {ps : List (Str × Str)} {a : Addr} {ts : List PT} (ha : H a = some (.lst (ts.map fun x => V.ref x.t))) (hl : ts.length ≤ 100000) (h : ∀ x ∈ ts, x.At H ∧ OddV K H x.v) : Odd K H ps (.ref a) := by
  refine ⟨⟨false, .no (t := "list") (.inr (.inr (.inr (.inr (.inl rfl))))) (by decide) (TyX.ofL (SqL.of ha))⟩, .lst (n := 4) (SqL.of ha) (SqL.of ha) rfl (by rw [List.length_map]; exact hl) fun i x y ex ey => ?_⟩
  obtain rfl := Option.some.inj (ex.symm.trans ey)
  obtain ⟨z, hz, rfl⟩ := get_map ex
  obtain ⟨⟨a1, a2⟩, a3⟩ := h z (List.mem_of_getElem? hz)
  refine .tup (n := 3) (SqT.of a1) (SqT.of a1) rfl (by show 2 ≤ 100000; decide) fun j u v eu ev => ?_
  obtain rfl := Option.some.inj (eu.symm.trans ev)
  match j, eu with
  | 0, eu =>
    obtain rfl := Option.some.inj eu
    refine .tup (n := 2) (SqT.of a2) (SqT.of a2) rfl (by show 2 ≤ 100000; decide) fun j u v eu ev => ?_
    obtain rfl := Option.some.inj (eu.symm.trans ev)
    match j, eu with
    | 0, eu => rw [← Option.some.inj eu]; exact .flat rfl
    | 1, eu => rw [← Option.some.inj eu]; exact .flat rfl
    | j + 2, eu => cases eu
  | 1, eu =>
    obtain rfl := Option.some.inj eu
    exact a3.2.up (by decide)
  | j + 2, eu => cases eu
theorem Odd.flat {K : PySem.W.Frag} {H : Hp} {ps : List (Str × Str)} {v : V} (h : isFlat v = true) : Odd K H ps v := by
  refine ⟨⟨false, ?_⟩, .flat h⟩
  cases v with
  | non => exact .no (t := "NoneType") (.inl rfl) (by decide) (.base .non)
  | bl b => exact .no (t := "bool") (.inr (.inl rfl)) (by decide) (.base (.bl b))
  | int i => exact .no (t := "int") (.inr (.inr (.inl rfl))) (by decide) (.base (.int i))
  | str z => exact .no (t := "str") tgS (by decide) (.base (.str z))
  | _ => cases h
def spOddW (K : PySem.W.Frag) : Sp := fun vs H Q _ => ∃ (st cl a wa : Addr) (zs : List (V × (Str × Str))) (ws : List (Str × Str)) (f : Str × Str → Int) (N : Nat), vs = [.ref st, .ref a, .ref wa] ∧ Strm N st cl H ∧ N < 1000000 ∧ Lof (hid2 st cl H) IsPair a zs ∧ (∀ z ∈ zs, z.2.1 ∈ ten ∧ z.2.2 ∈ ten) ∧ zs.length ≤ 200 ∧
  WtF (hid2 st cl H) wa ws f ∧ ws.Perm (zs.map (·.2)) ∧ ∀ (H' : Hp) (v : V), Stp st cl H H' → Strm (N + 2) st cl H' → WTh K (hid2 st cl H') (zs.map (·.2)) v false → SD K (hid2 st cl H') 5 v v → Q v H'
theorem PT.At.same {H H' : Hp} {x : PT} (e : Same H H') (h : x.At H) : x.At H' := ⟨e _ _ h.1, e _ _ h.2⟩
theorem Strm.hidT {N : Nat} {st cl p : Addr} {H : Hp} {o : HO} (s : Strm N st cl H) (h : H p = some o) (n : ∀ l, o ≠ .lst l) : hid2 st cl H p = some o := by
  obtain ⟨ne, cs, c, m, k, a, b, _⟩ := s
  rw [hid2_ne (ne_of h a (n _)) (ne_of h b (n _))]
  exact h
theorem PT.At.hid {N : Nat} {st cl : Addr} {H : Hp} {x : PT} (s : Strm N st cl H) (h : x.At H) : x.At (hid2 st cl H) := ⟨s.hidT h.1 (by intro l z; cases z), s.hidT h.2 (by intro l z; cases z)⟩
theorem Strm.hidN {N : Nat} {st cl p : Addr} {H H' : Hp} {o : HO} (s : Strm N st cl H) (h0 : H p = none) (h : H' p = some o) : hid2 st cl H' p = some o := by
  obtain ⟨a, b⟩ := s.fst h0
  rw [hid2_ne a b]
  exact h
theorem items_int {ws : List (Str × Str)} {f : Str × Str → Int} {ts : List PT} (h : (ts.map fun x => (kP x.k, x.v)) = ws.map fun p => (kP p, V.int (f p))) : ts.length = ws.length ∧ ∀ x ∈ ts, ∃ i, x.v = .int i := by
  refine ⟨by have := congrArg List.length h; rw [List.length_map, List.length_map] at this; exact this, fun x hx => ?_⟩
  have : (kP x.k, x.v) ∈ ws.map fun p => (kP p, V.int (f p)) := by rw [← h]; exact List.mem_map_of_mem hx
  obtain ⟨p, _, e⟩ := List.mem_map.mp this
  exact ⟨_, (congrArg Prod.snd e).symm⟩
/-- a dict made of such entries -/
theorem Odd.dict {K : PySem.W.Frag} {H : Hp} {ps : List (Str × Str)} {p : Addr} {ts : List PT} (h : H p = some (.dT (mergeT (ts.map fun x => (x.k, x.v))))) (hl : ts.length ≤ 100000) (ho : ∀ x ∈ ts, OddV K H x.v) : Odd K H ps (.ref p) := by
  refine Odd.dT h ?_ (mergeT_all fun q hq => ?_)
  · have := mergeT_len (ts.map fun x => (x.k, x.v)) []
    rw [List.length_map, List.length_nil] at this
    exact Nat.le_trans (by unfold mergeT; omega) hl
  · obtain ⟨x, hx, rfl⟩ := List.mem_map.mp hq
    exact ho x hx
theorem paired_qs {K : PySem.W.Frag} {H : Hp} : ∀ {qs : List (Addr × Str)}, (∀ x ∈ qs, H x.1 = some (.tup [.str x.2, .int 1])) → Paired (fun p (kv : L2.Key × V) => SqT K H p [kV kv.1, kv.2]) (qs.map (·.1)) (qs.map fun x => ((.inr x.2 : L2.Key), V.int 1))
  | [], _ => .nil
  | x :: qs, h => .cons (SqT.of (h x List.mem_cons_self)) (paired_qs fun y hy => h y (List.mem_cons_of_mem _ hy))
/-- the list of things as it grows at m -/
structure MS (K : PySem.W.Frag) (H0 : Hp) (st cl : Addr) (N : Nat) (m : Addr) (ps : List (Str × Str)) (H : Hp) (ys : List V) : Prop where
  base : Same (hid2 st cl H0) (hid1 m (hid2 st cl H))
  strm : Strm (N + 1) st cl H
  at_ : H m = some (.lst ys)
  len : ys.length ≤ 20
  non : V.non ∈ ys
  odd : ∀ y ∈ ys, Odd K (hid1 m (hid2 st cl H)) ps y
theorem hid12 {st cl m : Addr} {H H' : Hp} (e : Same H H') : Same (hid1 m (hid2 st cl H)) (hid1 m (hid2 st cl H')) := fun b o q => by
  have h1 : b ≠ m := fun z => by rw [z, hid1_at] at q; cases q
  rw [hid1_ne h1] at q ⊢
  exact Stp.of e _ _ q
theorem hid12_upd {st cl m : Addr} {H : Hp} {o : HO} : hid1 m (hid2 st cl (upd H m o)) = hid1 m (hid2 st cl H) := by
  funext b
  by_cases h : b = m
  · rw [h, hid1_at, hid1_at]
  · rw [hid1_ne h, hid1_ne h]
    unfold hid2
    rw [upd_ne h]
theorem MS.same {K : PySem.W.Frag} {H0 H H' : Hp} {st cl m : Addr} {N : Nat} {ps : List (Str × Str)} {ys : List V} (M : MS K H0 st cl N m ps H ys) (e : Same H H') : MS K H0 st cl N m ps H' ys :=
  ⟨Same.trans M.base (hid12 e), M.strm.same e, e _ _ M.at_, M.len, M.non, fun y hy => (M.odd y hy).same (hid12 e)⟩
theorem MS.add {K : PySem.W.Frag} {H0 H : Hp} {st cl m : Addr} {N : Nat} {ps : List (Str × Str)} {ys zs : List V} (M : MS K H0 st cl N m ps H ys) (m1 : m ≠ st) (m2 : m ≠ cl) (l : ys.length + zs.length ≤ 20) (h : ∀ y ∈ zs, Odd K (hid1 m (hid2 st cl H)) ps y) :
    MS K H0 st cl N m ps (upd H m (.lst (ys ++ zs))) (ys ++ zs) := by
  refine ⟨by rw [hid12_upd]; exact M.base, M.strm.put m1 m2, upd_same, by rw [List.length_append]; exact l, List.mem_append_left _ M.non, fun y hy => ?_⟩
  rw [hid12_upd]
  rcases List.mem_append.mp hy with hy | hy
  · exact M.odd y hy
  · exact h y hy
/-- what isn't a list stands aside of all three -/
theorem MS.hidT {K : PySem.W.Frag} {H0 H : Hp} {st cl m p : Addr} {N : Nat} {ps : List (Str × Str)} {ys : List V} {o : HO} (M : MS K H0 st cl N m ps H ys) (h : H p = some o) (n : ∀ l, o ≠ .lst l) : hid1 m (hid2 st cl H) p = some o := by
  rw [hid1_ne (ne_of h M.at_ (n _))]
  exact M.strm.hidT h n
theorem eqv_nilP (zs : List (V × (Str × Str))) : PyData.eqv (.list (zs.map fun z => enP z.2)) (.list []) = zs.isEmpty := by
  cases zs with
  | nil => simp [PyData.eqv, PyData.eqvAll]
  | cons z zs => simp [PyData.eqv, PyData.eqvAll]
section
variable {P : Program} {w : World} {K : PySem.W.Frag} {mg : Str → Option Value} {base : Heap}
theorem cl_oddW (T : Top K mg) : Cl P w K mg base CX0 3 "_law_m_odd_weights" ["_law_stream", "_law_pairs", "_law_weights"] (spOddW K) := by
  have C_law_pick := cl_pick (P := P) (w := w) (base := base) T
  have C_law_m_are_weights := cl_areW (P := P) (w := w) (base := base) T
  refine Cl.of T.f_law_m_odd_weights T.g_law_m_odd_weights sc_law_m_odd_weights (fun _ _ _ _ _ _ us hl => match us, hl with | [_, _, _], _ => rfl) (fun vs H Q E h => ?_) (fun cdv A outer s H vs Q E hr h => ?_)
  · obtain ⟨st, cl, a, wa, zs, ws, f, N, rfl, _⟩ := h
    rfl
  · obtain ⟨st, cl, a, wa, zs, ws, f, N, rfl, hs, hN, hZ, hT, zl, hW, pw, k⟩ := h
    refine ⟨_, (pss_cons (ps_set (i := 3) sc_law_m_odd_weights.nd rfl (Or.inr rfl) (pe_k C_law_pick hr (by decide) pass0 (pa_cons (pv 0) (pa_cons (pe_lst (pa_cons pe_int (pa_cons (pe_un un_neg pe_int) (pa_cons pe_bl (pa_cons pe_non (pa_cons pe_str (pa_cons (pe_tup (pa_cons pe_int pa_nil)) (pa_cons (pe_lst (pa_cons pe_int pa_nil)) pa_nil)))))))) pa_nil))))
    (pss_cons (ps_set (i := 4) sc_law_m_odd_weights.nd rfl (Or.inl rfl) (pe_lst (pa_cons pe_non (pa_cons pe_int (pa_cons (pe_lst pa_nil) (pa_cons (pe_tup pa_nil) (pa_cons pe_str (pa_cons (pe_callTy (cr_itemsLT rfl) (by rfl) T.z_list (by decide +kernel) (pa_cons (bm0_K K PySem.F.plainAttrs_dict PySem.F.slot_dict_items PySem.F.type_dict_items L2.DX.mt_itemsT (pv 2)) pa_nil)) (pa_cons (pe_callTy (cr_dictP2 rfl (hu65 hr)) (by rfl) T.z_dict (by decide +kernel) (pa_cons (pe_op op_cat (pe_callTy (cr_itemsLT rfl) (by rfl) T.z_list (by decide +kernel) (pa_cons (bm0_K K PySem.F.plainAttrs_dict PySem.F.slot_dict_items PySem.F.type_dict_items L2.DX.mt_itemsT (pv 2)) pa_nil)) (pe_lst (pa_cons (pe_tup (pa_cons (pe_tup (pa_cons pe_str (pa_cons pe_str pa_nil))) (pa_cons pe_int pa_nil))) pa_nil))) pa_nil)) pa_nil)))))))))
    (pss_cons (ps_if (pt_cmpR (neD_K K hr.units) (pv 1) (pe_lst pa_nil) (nomark _))
    (pss_cons (ps_expr (bm_K K PySem.F.plainAttrs_list PySem.F.slot_list_append PySem.F.type_list_append mt_append (pv 4) (pa_cons (pe_callTy (cr_dictP2 rfl (hu65 hr)) (by rfl) T.z_dict (by decide +kernel) (pa_cons (pe_slice (sl_K K) (pe_callTy (cr_itemsLT rfl) (by rfl) T.z_list (by decide +kernel) (pa_cons (bm0_K K PySem.F.plainAttrs_dict PySem.F.slot_dict_items PySem.F.type_dict_items L2.DX.mt_itemsT (pv 2)) pa_nil)) (po_some pe_int) po_none) pa_nil)) pa_nil)))
    (pss_cons (ps_expr (bm_K K PySem.F.plainAttrs_list PySem.F.slot_list_extend PySem.F.type_list_extend mt_extend (pv 4) (pa_cons (pe_op op_rep (pe_lst (pa_cons (pe_callTy (cr_dictP2 rfl (hu65 hr)) (by rfl) T.z_dict (by decide +kernel) (pa_cons (pe_op op_cat (pe_slice (sl_K K) (pe_callTy (cr_itemsLT rfl) (by rfl) T.z_list (by decide +kernel) (pa_cons (bm0_K K PySem.F.plainAttrs_dict PySem.F.slot_dict_items PySem.F.type_dict_items L2.DX.mt_itemsT (pv 2)) pa_nil)) (po_some pe_int) po_none) (pe_lst (pa_cons (pe_tup (pa_cons (pe_ix (ixl_K K) (pv 1) pe_int (fun _ _ => rfl)) (pa_cons (pv 3) pa_nil))) pa_nil))) pa_nil)) pa_nil)) pe_int) pa_nil)))
    (pss_cons (ps_set (i := 5) sc_law_m_odd_weights.nd rfl (Or.inl rfl) (pe_callTy (cr_dictP2 rfl (hu65 hr)) (by rfl) T.z_dict (by decide +kernel) (pa_cons (pe_lc (own := [("_law_pair", 6)]) (g := gName 6) (tt := tYes) rfl sc_law_m_odd_weights.nd (pi_K K (pv 1)) (blkOk_by (own := [("_law_pair", 6)]) (N := N_law_m_odd_weights) (sc := defScope s_law_m_odd_weights) (by decide +kernel)) (fun _ _ _ _ _ => (pg_name (i := 6) sc_law_m_odd_weights.nd rfl (Or.inl rfl))) (fun _ _ _ _ _ => pts_nil) (fun _ _ _ _ _ => (pe_tup (pa_cons (pv 6) (pa_cons (pe_ifExp (pt_cmpR (eqD_K K hr.units) (pv 6) (pe_ix (ixl_K K) (pv 1) (pe_un un_neg pe_int) (fun _ _ => rfl)) (nomark _)) (pv 3) (pe_dget (hu_of hr) (pv 2) (pv 6) (fun _ _ => rfl))) pa_nil))))) pa_nil)))
    (pss_one (ps_expr (bm_K K PySem.F.plainAttrs_list PySem.F.slot_list_extend PySem.F.type_list_extend mt_extend (pv 4) (pa_cons (pe_lst (pa_cons (pv 5) (pa_cons (pe_callTy (call_dictP rfl) (by rfl) T.z_dict (by decide +kernel) (pa_cons (pe_lc (own := [("_law_pair", 6)]) (g := gName 6) (tt := tYes) rfl sc_law_m_odd_weights.nd (pi_K K (pv 1)) (blkOk_by (own := [("_law_pair", 6)]) (N := N_law_m_odd_weights) (sc := defScope s_law_m_odd_weights) (by decide +kernel)) (fun _ _ _ _ _ => (pg_name (i := 6) sc_law_m_odd_weights.nd rfl (Or.inl rfl))) (fun _ _ _ _ _ => pts_nil) (fun _ _ _ _ _ => (pe_tup (pa_cons (pe_ix (ixt_K K) (pv 6) pe_int (fun _ _ => rfl)) (pa_cons pe_int pa_nil))))) pa_nil)) pa_nil))) pa_nil)))))))
    pss_nil)
    (pss_one (ps_ret (pe_k C_law_pick hr (by decide) pass0 (pa_cons (pv 0) (pa_cons (pe_lc (own := [("_law_thing", 7)]) (g := gName 7) rfl sc_law_m_odd_weights.nd (pi_K K (pv 4)) (blkOk_by (own := [("_law_thing", 7)]) (N := N_law_m_odd_weights) (sc := defScope s_law_m_odd_weights) (by decide +kernel)) (fun _ _ _ _ _ => (pg_name (i := 7) sc_law_m_odd_weights.nd rfl (Or.inl rfl))) (fun _ _ _ _ _ => pts_one (pt_not (pt_val (pe_k C_law_m_are_weights hr (by decide) pass0 (pa_cons (pv 1) (pa_cons (pv 7) pa_nil)))))) (fun _ _ _ _ _ => (pv 7))) pa_nil)))))))), ?_⟩
    have wl : ws.length ≤ 200 := by rw [pw.length_eq, List.length_map]; exact zl
    have hkW : (ws.map fun p => (kP p, V.int (f p))).map (·.1) = ws.map kP := by rw [List.map_map]; rfl
    -- odd
    refine ⟨_, rfl, 1, rfl, le_sl (by show 1 ≤ _; decide), fun t1 ht1 => ⟨le_sl (by show 1 ≤ _; decide), fun l2 hl2 => ⟨le_sl (by show 7 ≤ _; decide), fun l hl => ?_⟩⟩⟩
    have ea := ((same_new (o := .tup [.int 1]) ht1).trans (same_new (o := .lst [.int 2]) hl2)).trans (same_new (o := .lst [.int 0, .int (-1), .bl true, .non, .str "1", .ref t1, .ref l2]) hl)
    have g1 : (upd (upd (upd H t1 (.tup [.int 1])) l2 (.lst [.int 2])) l (.lst [.int 0, .int (-1), .bl true, .non, .str "1", .ref t1, .ref l2])) t1 = some (.tup [.int 1]) := same_new hl _ _ (same_new hl2 _ _ upd_same)
    have g2 : (upd (upd (upd H t1 (.tup [.int 1])) l2 (.lst [.int 2])) l (.lst [.int 0, .int (-1), .bl true, .non, .str "1", .ref t1, .ref l2])) l2 = some (.lst [.int 2]) := same_new hl _ _ upd_same
    have lH : H l = none := (same_new ht1).free ((same_new hl2).free hl)
    have l2H : H l2 = none := (same_new ht1).free hl2
    refine ⟨st, cl, l, _, N, rfl, hs.same ea, by omega, SqL.of (hs.hidN lH upd_same), (by show 0 < 7; decide), (by show 7 ≤ 100000; decide), fun H0 v t0 s0 hv => ?_⟩
    have tH : Stp st cl H H0 := (Stp.of ea).trans t0
    have hO : OddV K (hid2 st cl H0) v := by
      have q1 := t0 _ _ ((hs.same ea).hidT g1 (by intro l z; cases z))
      have q2 := t0 _ _ (hs.hidN l2H g2)
      simp only [List.mem_cons, List.not_mem_nil, or_false] at hv
      rcases hv with rfl | rfl | rfl | rfl | rfl | rfl | rfl
      · exact OddV.int _
      · exact OddV.int _
      · exact ⟨.inr ⟨"bool", .inr (.inl rfl), by decide, .base (.bl true)⟩, .flat rfl⟩
      · exact ⟨.inr ⟨"NoneType", .inl rfl, by decide, .base .non⟩, .flat rfl⟩
      · exact ⟨.inr ⟨"str", tgS, by decide, .base (.str _)⟩, .flat rfl⟩
      · refine ⟨.inr ⟨"tuple", .inr (.inr (.inr (.inr (.inr (.inl rfl))))), by decide, TyX.ofT (SqT.of q1)⟩, .tup (n := 0) (SqT.of q1) (SqT.of q1) rfl (by show 1 ≤ 100000; decide) fun i x y ex ey => ?_⟩
        obtain rfl := Option.some.inj (ex.symm.trans ey)
        match i, ex with
        | 0, ex => rw [← Option.some.inj ex]; exact .flat rfl
        | i + 1, ex => cases ex
      · refine ⟨.inr ⟨"list", .inr (.inr (.inr (.inr (.inl rfl)))), by decide, TyX.ofL (SqL.of q2)⟩, .lst (n := 0) (SqL.of q2) (SqL.of q2) rfl (by show 1 ≤ 100000; decide) fun i x y ex ey => ?_⟩
        obtain rfl := Option.some.inj (ex.symm.trans ey)
        match i, ex with
        | 0, ex => rw [← Option.some.inj ex]; exact .flat rfl
        | i + 1, ex => cases ex
    have hZ0 : Lof (hid2 st cl H0) IsPair a zs := hZ.pairs tH
    have hW0 : WtF (hid2 st cl H0) wa ws f := tH _ _ hW
    clear g1 g2
    have hw0 : H0 wa = some (.dT (ws.map fun p => (kP p, V.int (f p)))) := hid2_le _ _ _ _ _ hW0
    -- the first things
    refine ⟨le_sl (Nat.zero_le _), fun a1 ha1 => ⟨le_sl (Nat.zero_le _), fun a2 ha2 => ?_⟩⟩
    have e1 := (same_new (o := .lst []) ha1).trans (same_new (o := .tup []) ha2)
    have hw1 := e1 _ _ hw0
    refine ⟨_, rfl, .inr (.inr (.inl ⟨rfl, .inr ⟨_, hw1⟩⟩)), wa, _, rfl, rfl, hw1, fun p1 hp1 => ⟨p1, wa, ws, _, rfl, upd_same, same_new hp1 _ _ hw1, hkW, fun H2 q1 ts1 s2 hq1 h1 at1 et1 => ?_⟩⟩
    have e2 := e1.trans ((same_new (o := L2.DX.itemsO p1 wa) hp1).trans s2)
    have q1H : H0 q1 = none := e1.free ((same_new hp1).free hq1)
    have a1H : H0 a1 = none := ha1
    have a2H : H0 a2 = none := (same_new ha1).free ha2
    have h1a := ((same_new (o := .tup []) ha2).trans ((same_new (o := L2.DX.itemsO p1 wa) hp1).trans s2)) _ _ (upd_same (H := H0) (a := a1) (o := .lst []))
    have h2a := ((same_new (o := L2.DX.itemsO p1 wa) hp1).trans s2) _ _ (upd_same (H := upd H0 a1 (.lst [])) (a := a2) (o := .tup []))
    have hw2 := e2 _ _ hw0
    refine ⟨_, rfl, .inr (.inr (.inl ⟨rfl, .inr ⟨_, hw2⟩⟩)), wa, _, rfl, rfl, hw2, fun p2 hp2 => ⟨p2, wa, ws, _, rfl, upd_same, same_new hp2 _ _ hw2, hkW, fun H3 q2 ts2 s3 hq2 h3 at3 et3 => ?_⟩⟩
    have e23 := (same_new (o := L2.DX.itemsO p2 wa) hp2).trans s3
    have e3 := e2.trans e23
    obtain ⟨l1, v1⟩ := items_int et1
    obtain ⟨l2', v2⟩ := items_int et3
    refine ⟨le_sl (by show 2 ≤ _; decide), fun b0 hb0 => ⟨le_sl (by show 2 ≤ _; decide), fun t0' ht0 => ⟨le_sl (by show 1 ≤ _; decide), fun c0 hc0 => ?_⟩⟩⟩
    have e34 := ((same_new (o := .tup [.str "none", .str "none"]) hb0).trans (same_new (o := .tup [.ref b0, .int 1]) ht0)).trans (same_new (o := .lst [.ref t0']) hc0)
    refine ⟨q2, c0, _, _, rfl, rfl, e34 _ _ h3, upd_same, le_sl (by rw [List.length_map]; show _ + 1 ≤ _; omega), fun d0 hd0 => ?_⟩
    have e45 := same_new (o := .lst (ts2.map (fun x => V.ref x.t) ++ [.ref t0'])) hd0
    have at4 : ∀ x ∈ ts2 ++ [(⟨t0', b0, ("none", "none"), .int 1⟩ : PT)], x.At (upd (upd (upd (upd H3 b0 (.tup [.str "none", .str "none"])) t0' (.tup [.ref b0, .int 1])) c0 (.lst [.ref t0'])) d0 (.lst (ts2.map (fun x => V.ref x.t) ++ [.ref t0']))) := fun x hx => by
      rcases List.mem_append.mp hx with hx | hx
      · exact (at3 x hx).same (e34.trans e45)
      · rw [List.mem_singleton.mp hx]
        exact ⟨e45 _ _ (same_new hc0 _ _ upd_same), e45 _ _ (same_new hc0 _ _ (same_new ht0 _ _ upd_same))⟩
    refine ⟨d0, ts2 ++ [⟨t0', b0, ("none", "none"), .int 1⟩], rfl, by rw [upd_same, List.map_append]; rfl, at4, fun p3 hp3 => ?_⟩
    have e5 := e3.trans (e34.trans (e45.trans (same_new (o := .dT (mergeT ((ts2 ++ [(⟨t0', b0, ("none", "none"), .int 1⟩ : PT)]).map fun x => (x.k, x.v)))) hp3)))
    refine ⟨le_sl (by show 7 ≤ _; decide), fun m hm => ?_⟩
    have e35 := e34.trans (e45.trans (same_new (o := .dT (mergeT ((ts2 ++ [(⟨t0', b0, ("none", "none"), .int 1⟩ : PT)]).map fun x => (x.k, x.v)))) hp3))
    have hp3' : (upd (upd (upd (upd (upd H3 b0 (.tup [.str "none", .str "none"])) t0' (.tup [.ref b0, .int 1])) c0 (.lst [.ref t0'])) d0 (.lst (ts2.map (fun x => V.ref x.t) ++ [.ref t0']))) p3 (.dT (mergeT ((ts2 ++ [(⟨t0', b0, ("none", "none"), .int 1⟩ : PT)]).map fun x => (x.k, x.v))))) p3 = _ := upd_same
    have mH : H0 m = none := e5.free hm
    generalize hX : (upd (upd (upd (upd (upd H3 b0 (.tup [.str "none", .str "none"])) t0' (.tup [.ref b0, .int 1])) c0 (.lst [.ref t0'])) d0 (.lst (ts2.map (fun x => V.ref x.t) ++ [.ref t0']))) p3 (.dT (mergeT ((ts2 ++ [(⟨t0', b0, ("none", "none"), .int 1⟩ : PT)]).map fun x => (x.k, x.v))))) = HX at e5 hm hp3' e35
    clear e45 e34 at4
    have s5 := s0.same e5
    have e25 := e23.trans e35
    have odd0 : ∀ y ∈ [V.non, .int 5, .ref a1, .ref a2, .str "ab", .ref q1, .ref p3], Odd K (hid2 st cl HX) (zs.map (·.2)) y := by
      intro y hy
      simp only [List.mem_cons, List.not_mem_nil, or_false] at hy
      rcases hy with rfl | rfl | rfl | rfl | rfl | rfl | rfl
      · exact Odd.flat rfl
      · exact Odd.flat rfl
      · have q := s0.hidN a1H (e25 _ _ h1a)
        refine ⟨⟨false, .no (t := "list") (.inr (.inr (.inr (.inr (.inl rfl))))) (by decide) (TyX.ofL (SqL.of q))⟩, .lst (n := 4) (SqL.of q) (SqL.of q) rfl (Nat.zero_le _) fun i x y ex _ => ?_⟩
        cases ex
      · have q := s5.hidT (e25 _ _ h2a) (by intro l z; cases z)
        refine ⟨⟨false, .no (t := "tuple") (.inr (.inr (.inr (.inr (.inr (.inl rfl)))))) (by decide) (TyX.ofT (SqT.of q))⟩, .tup (n := 4) (SqT.of q) (SqT.of q) rfl (Nat.zero_le _) fun i x y ex _ => ?_⟩
        cases ex
      · exact Odd.flat rfl
      · refine Odd.list (ts := ts1) (s0.hidN q1H (e25 _ _ h1)) (by omega) fun x hx => ⟨((at1 x hx).same e25).hid s5, ?_⟩
        obtain ⟨i, ei⟩ := v1 x hx
        rw [ei]
        exact OddV.int i
      · refine Odd.dict (ts := ts2 ++ [⟨t0', b0, ("none", "none"), .int 1⟩]) (s5.hidT hp3' (by intro l z; cases z)) (by rw [List.length_append]; show _ + 1 ≤ _; omega) fun x hx => ?_
        rcases List.mem_append.mp hx with hx | hx
        · obtain ⟨i, ei⟩ := v2 x hx
          rw [ei]
          exact OddV.int i
        · rw [List.mem_singleton.mp hx]
          exact OddV.int 1
    have mX := hid2_new s5 hm
    have e6 := e5.trans (same_new (o := .lst [.non, .int 5, .ref a1, .ref a2, .str "ab", .ref q1, .ref p3]) hm)
    have s6 := s0.same e6
    have mm : (upd HX m (.lst [.non, .int 5, .ref a1, .ref a2, .str "ab", .ref q1, .ref p3])) m = _ := upd_same
    have odd1 := fun y hy => (odd0 y hy).same (hid1_of mX (Stp.of (st := st) (cl := cl) (same_new (o := .lst [.non, .int 5, .ref a1, .ref a2, .str "ab", .ref q1, .ref p3]) hm)))
    clear h1a h2a e25 e35 hp3' at1 et1 at3 et3 h1 h3 v1 v2
    generalize (upd HX m (.lst [.non, .int 5, .ref a1, .ref a2, .str "ab", .ref q1, .ref p3])) = H7 at e6 s6 mm odd1
    have e67 : Stp st cl H H7 := tH.trans (Stp.of e6)
    have ms0 : MS K H0 st cl N m (zs.map (·.2)) H7 [.non, .int 5, .ref a1, .ref a2, .str "ab", .ref q1, .ref p3] := ⟨hid1_of (hid2_new s0 mH) (Stp.of e6), s6, mm, by show 7 ≤ 20; decide, List.mem_cons_self, odd1⟩
    · dsimp only
      refine seq_cut (fun σ H8 => ∃ (ys : List V) (u : Option V), σ = [some (.ref st), some (.ref a), some (.ref wa), some v, some (.ref m), u, none, none] ∧ MS K H0 st cl N m (zs.map (·.2)) H8 ys) ?_ ?_
      · rintro σ H8 ⟨ys, u, rfl, M⟩
        have hZ8 : Lof (hid2 st cl H8) IsPair a zs := (hZ0.pairs M.base).pairs (hid1_le m (hid2 st cl H8))
        have hZ8' : Lof H8 IsPair a zs := hZ8.pairs (hid2_le st cl H8)
        refine ⟨_, rfl, _, rfl, m, rfl, ⟨_, SqL.of M.at_⟩, fun D hDn => ?_⟩
        obtain ⟨D1, D2⟩ := M.strm.fst hDn
        refine lc_it walk_list (fun i H9 => Same H8 H9 ∧ ∃ acc : List V, H9 D = some (.lst acc) ∧ (∀ y ∈ acc, WTh K (hid2 st cl H8) (zs.map (·.2)) y false ∧ SD K (hid2 st cl H8) 5 y y) ∧ (V.non ∈ ys.take i → V.non ∈ acc) ∧ acc.length ≤ i)
          ⟨same_new hDn, [], upd_same, (fun y h => nomatch h), (fun h => nomatch h), Nat.le_refl _⟩ (fun i H9 _ h => SqL.of (h.1 _ _ M.at_)) ?_ ?_
        · rintro i y H9 H10 hi ⟨e9, acc, h9, hacc, hnon, al⟩ ⟨rfl, hy⟩
          have hym : y ∈ ys := List.mem_of_getElem? hy
          have od := (M.odd y hym).same (hid1_le _ _)
          obtain ⟨⟨b, hw⟩, sd⟩ := od
          have hwH := (hw.same (hid2_le _ _ _)).same e9
          have yl := M.len
          refine ⟨rfl, _, rfl, _, rfl, a, y, zs, b, rfl, hZ8'.pairs e9, zl, hwH, fun H11 e11 => ⟨_, rfl, ?_⟩⟩
          cases b with
          | true =>
            refine iteF ⟨e9.trans e11, acc, e11 _ _ h9, hacc, fun hn => ?_, Nat.le_succ_of_le al⟩
            rw [take_snoc hy] at hn
            rcases List.mem_append.mp hn with hn | hn
            · exact hnon hn
            · have z := List.mem_singleton.mp hn
              rw [← z] at hw
              cases hw
          | false =>
            refine iteT ⟨_, rfl, acc, e11 _ _ h9, lt_sl (by omega), same_upd (e9.trans e11) hDn, acc ++ [y], upd_same, fun w hw' => ?_, fun hn => ?_, by rw [List.length_append]; exact Nat.succ_le_succ al⟩
            · rcases List.mem_append.mp hw' with hw' | hw'
              · exact hacc w hw'
              · rw [List.mem_singleton.mp hw']
                exact ⟨hw, sd⟩
            · rw [take_snoc hy] at hn
              rcases List.mem_append.mp hn with hn | hn
              · exact List.mem_append_left _ (hnon hn)
              · rw [List.mem_singleton.mp hn]
                exact List.mem_append_right _ List.mem_cons_self
        · rintro H9 ⟨e9, acc, h9, hacc, hnon, al⟩
          rw [List.take_length] at hnon
          have hne := List.length_pos_iff.mpr (List.ne_nil_of_mem (hnon M.non))
          have yl := M.len
          refine ⟨st, cl, D, acc, N + 1, rfl, M.strm.same e9, by omega, SqL.of (by rw [hid2_ne D1 D2]; exact h9), hne, by omega, fun H10 y t10 s10 hy => ?_⟩
          have t8 : Stp st cl H H8 := tH.trans (M.base.trans (hid1_le _ _))
          have t9 : Stp st cl H8 H10 := (Stp.of e9).trans t10
          exact k H10 y (t8.trans t9) s10 ((hacc y hy).1.same t9) ((hacc y hy).2.same t9)
      · intro X hX
        obtain ⟨m1, m2⟩ := s0.fst mH
        have hZ7 : Lof H7 IsPair a zs := hZ0.pairs (Same.trans (hid2_le st cl H0) e6)
        have tow : ∀ {H' : Hp} {ys : List V}, MS K H0 st cl N m (zs.map (·.2)) H' ys → H' wa = some (.dT (ws.map fun p => (kP p, V.int (f p)))) ∧ OddV K (hid1 m (hid2 st cl H')) v ∧ Lof H' IsPair a zs := fun M =>
          ⟨hid2_le _ _ _ _ _ (hid1_le _ _ _ _ (M.base _ _ hW0)), hO.same M.base, (hZ0.pairs M.base).pairs (Same.trans (hid1_le _ _) (hid2_le _ _ _))⟩
        refine ⟨_, rfl, le_sl (Nat.zero_le _), fun r hr' => ?_⟩
        have e8 := same_new (o := .lst []) hr'
        refine ⟨.list (zs.map fun z => enP z.2), .list [], .lst (SqL.of (e8 _ _ hZ7.1)) (dpAll_pairs zs fun z hz => (hZ7.2 z hz).same e8), .lst (SqL.of upd_same) .nil, shaped_pairs hT, by rfl, _, rfl, ?_⟩
        rw [eqv_nilP]
        have M0 := ms0.same e8
        cases hzs : zs with
        | nil => exact iteB0 rfl (hX _ _ ⟨_, none, rfl, M0⟩)
        | cons z1 zr =>
          refine iteB1 rfl ?_
          have hz1 : z1 ∈ zs := by rw [hzs]; exact List.mem_cons_self
          have hz0 : (zs.map (·.1))[0]? = some z1.1 := by rw [hzs]; rfl
          have zpos : 0 < zs.length := List.length_pos_of_mem hz1
          have wpos : 0 < ws.length := by rw [pw.length_eq, List.length_map]; exact zpos
          obtain ⟨ys0, hys0, l0⟩ : ∃ ys0 : List V, ys0 = [V.non, .int 5, .ref a1, .ref a2, .str "ab", .ref q1, .ref p3] ∧ ys0.length = 7 := ⟨_, rfl, rfl⟩
          rw [← hys0] at M0
          clear ms0 odd1 odd0 e8 hr'
          generalize (upd H7 r (HO.lst [])) = H8 at M0
          -- one entry less
          obtain ⟨hwA, hvA, hZA⟩ := tow M0
          refine ⟨_, rfl, .inl ⟨rfl, _, SqL.of M0.at_⟩, ?_⟩
          refine ⟨_, rfl, .inr (.inr (.inl ⟨rfl, .inr ⟨_, hwA⟩⟩)), wa, _, rfl, rfl, hwA, fun p4 hp4 => ⟨p4, wa, ws, _, rfl, upd_same, same_new hp4 _ _ hwA, hkW, fun H9 q4 ts s9 hq4 h4 at4 et4 => ?_⟩⟩
          obtain ⟨lt, vt⟩ := items_int et4
          refine ⟨1, rfl, q4, _, rfl, SqL.of h4, fun c4 hc4 => ?_⟩
          rw [show ((1 : Int)) = ((1 : Nat) : Int) from rfl, cutV_from 1 (by rw [List.length_map]; omega), ← List.map_drop]
          have ec := same_new (o := .lst ((ts.drop 1).map fun x => V.ref x.t)) hc4
          refine ⟨c4, ts.drop 1, rfl, upd_same, fun x hx => ((at4 x (List.mem_of_mem_drop hx)).same ec), fun d4 hd4 => ?_⟩
          have M1 := M0.same (((same_new (o := L2.DX.itemsO p4 wa) hp4).trans s9).trans (ec.trans (same_new (o := .dT (mergeT ((ts.drop 1).map fun x => (x.k, x.v)))) hd4)))
          refine ⟨m, _, _, rfl, rfl, M1.at_, lt_sl (by omega), ?_⟩
          have M2 := M1.add (zs := [.ref d4]) m1 m2 (by rw [l0]; show 7 + 1 ≤ 20; decide) fun y hy => by
            rw [List.mem_singleton.mp hy]
            refine Odd.dict (ts := ts.drop 1) (M1.hidT upd_same (by intro l z; cases z)) (by rw [List.length_drop]; omega) fun x hx => ?_
            obtain ⟨i, ei⟩ := vt x (List.mem_of_mem_drop hx)
            rw [ei]
            exact OddV.int i
          obtain ⟨ys1, hys1, l1'⟩ : ∃ ys1 : List V, ys1 = ys0 ++ [.ref d4] ∧ ys1.length = 8 := ⟨_, rfl, by rw [List.length_append, l0]; rfl⟩
          rw [← hys1] at M2 ⊢
          clear M1 M0 ec h4 at4 et4 vt lt hwA hvA hZA s9 hd4 hc4 hq4 hp4
          generalize (upd (upd (upd H9 c4 (HO.lst ((ts.drop 1).map fun x => V.ref x.t))) d4 (HO.dT (mergeT ((ts.drop 1).map fun x => (x.k, x.v))))) m (HO.lst ys1)) = HA at M2 ⊢
          -- one entry less, an odd one more
          obtain ⟨hwA, hvA, hZA⟩ := tow M2
          refine ⟨_, rfl, .inl ⟨rfl, _, SqL.of M2.at_⟩, ?_⟩
          refine ⟨_, rfl, .inr (.inr (.inl ⟨rfl, .inr ⟨_, hwA⟩⟩)), wa, _, rfl, rfl, hwA, fun p4 hp4 => ⟨p4, wa, ws, _, rfl, upd_same, same_new hp4 _ _ hwA, hkW, fun HB q4 ts s9 hq4 h4 at4 et4 => ?_⟩⟩
          obtain ⟨lt, vt⟩ := items_int et4
          have eB := (same_new (o := L2.DX.itemsO p4 wa) hp4).trans s9
          refine ⟨1, rfl, q4, _, rfl, SqL.of h4, fun c4 hc4 => ?_⟩
          rw [show ((1 : Int)) = ((1 : Nat) : Int) from rfl, cutV_from 1 (by rw [List.length_map]; omega), ← List.map_drop]
          have ec := same_new (o := .lst ((ts.drop 1).map fun x => V.ref x.t)) hc4
          obtain ⟨bz, ebz, hbz⟩ := (hZA.2 z1 hz1).same (eB.trans ec)
          refine ⟨_, rfl, a, _, 0, z1.1, rfl, rfl, SqL.of ((eB.trans ec) _ _ hZA.1), atI_nat (j := 0) hz0, _, rfl, le_sl (by show 2 ≤ _; decide), fun t5 ht5 => ⟨le_sl (by show 1 ≤ _; decide), fun u5 hu5 => ?_⟩⟩
          have ed := (same_new (o := .tup [z1.1, v]) ht5).trans (same_new (o := .lst [.ref t5]) hu5)
          refine ⟨c4, u5, _, _, rfl, rfl, ed _ _ upd_same, upd_same, le_sl (by rw [List.length_map, List.length_drop]; show _ + 1 ≤ _; omega), fun w5 hw5 => ?_⟩
          have ee := same_new (o := .lst ((ts.drop 1).map (fun x => V.ref x.t) ++ [.ref t5])) hw5
          have at5 : ∀ x ∈ ts.drop 1 ++ [(⟨t5, bz, z1.2, v⟩ : PT)], x.At (upd (upd (upd (upd HB c4 (.lst ((ts.drop 1).map fun x => V.ref x.t))) t5 (.tup [z1.1, v])) u5 (.lst [.ref t5])) w5 (.lst ((ts.drop 1).map (fun x => V.ref x.t) ++ [.ref t5]))) := fun x hx => by
            rcases List.mem_append.mp hx with hx | hx
            · exact (at4 x (List.mem_of_mem_drop hx)).same (ec.trans (ed.trans ee))
            · rw [List.mem_singleton.mp hx]
              refine ⟨ee _ _ (same_new hu5 _ _ ?_), ee _ _ (ed _ _ hbz)⟩
              rw [upd_same, ebz]
          refine ⟨w5, ts.drop 1 ++ [⟨t5, bz, z1.2, v⟩], rfl, by rw [upd_same, List.map_append]; rfl, at5, fun d5 hd5 => ⟨le_sl (by show 1 ≤ _; decide), fun f5 hf5 => ?_⟩⟩
          refine ⟨f5, 3, _, rfl, rfl, upd_same, by decide, by decide, le_sl (by show 1 * 3 ≤ _; decide), fun g5 hg5 => ?_⟩
          have eE := (same_new (o := .lst [.ref d5]) hf5).trans (same_new (o := .lst (List.replicate (3 : Int).toNat [V.ref d5]).flatten) hg5)
          have M3 := M2.same (eB.trans (ec.trans (ed.trans (ee.trans ((same_new (o := .dT (mergeT ((ts.drop 1 ++ [(⟨t5, bz, z1.2, v⟩ : PT)]).map fun x => (x.k, x.v)))) hd5).trans eE)))))
          refine ⟨m, g5, _, _, rfl, rfl, M3.at_, upd_same, le_sl (by rw [l1']; show 8 + 3 ≤ _; decide), ?_⟩
          have M4 := M3.add (zs := (List.replicate (3 : Int).toNat [V.ref d5]).flatten) m1 m2 (by rw [l1']; show 8 + 3 ≤ 20; decide) fun y hy => by
            have hy2 : y = .ref d5 := by
              have : y ∈ [V.ref d5, V.ref d5, V.ref d5] := hy
              simpa using this
            rw [hy2]
            have hd := M3.hidT (eE _ _ (upd_same (a := d5))) (by intro l z; cases z)
            refine Odd.dict (ts := ts.drop 1 ++ [⟨t5, bz, z1.2, v⟩]) hd (by rw [List.length_append, List.length_drop]; show _ + 1 ≤ _; omega) fun x hx => ?_
            rcases List.mem_append.mp hx with hx | hx
            · obtain ⟨i, ei⟩ := vt x (List.mem_of_mem_drop hx)
              rw [ei]
              exact OddV.int i
            · rw [List.mem_singleton.mp hx]
              exact (tow M3).2.1
          obtain ⟨ys2, hys2, l2''⟩ : ∃ ys2 : List V, ys2 = ys1 ++ (List.replicate (3 : Int).toNat [V.ref d5]).flatten ∧ ys2.length = 11 := ⟨_, rfl, by rw [List.length_append, l1']; rfl⟩
          rw [← hys2] at M4 ⊢
          clear M3 M2 eE ee ed ec eB at5 h4 at4 et4 vt lt hwA hvA hZA
          generalize (upd _ m (HO.lst ys2)) = HC at M4 ⊢
          -- bent
          obtain ⟨hwA, hvA, hZA⟩ := tow M4
          obtain ⟨zi, zl', ezl⟩ : ∃ zi zl, zs = zi ++ [zl] := ⟨zs.dropLast, zs.getLast (by rw [hzs]; exact List.cons_ne_nil _ _), (List.dropLast_concat_getLast _).symm⟩
          have hzl : zl' ∈ zs := by rw [ezl]; exact List.mem_append_right _ List.mem_cons_self
          have alast : atI (zs.map (·.1)) (-1) = some zl'.1 := by
            rw [ezl, List.map_append]
            exact atI_last _ _
          refine ⟨_, rfl, a, rfl, ⟨_, SqL.of hZA.1⟩, fun D hDn => ?_⟩
          refine lc_it walk_list (fun i H9 => Same HC H9 ∧ ∃ ts : List PT, H9 D = some (.lst (ts.map fun x => V.ref x.t)) ∧ (∀ x ∈ ts, x.At H9 ∧ (x.v = v ∨ ∃ i, x.v = .int i)) ∧ ts.length = i)
            ⟨same_new hDn, [], upd_same, (fun x h => nomatch h), rfl⟩ (fun i H9 _ h => SqL.of (h.1 _ _ hZA.1)) ?_ ?_
          · rintro i y H9 HD hi ⟨s9, ts, h9, hT9, tl⟩ ⟨rfl, hy⟩
            obtain ⟨z, hz, rfl⟩ := get_map hy
            have hzm : z ∈ zs := List.mem_of_getElem? hz
            have hil := get_lt hz
            obtain ⟨bz, ebz, hbz⟩ := (hZA.2 z hzm).same s9
            have lpz := (hZA.2 zl' hzl).same s9
            have hbT : HD bz = some (.tup ((kP z.2).map kV)) := hbz
            refine ⟨rfl, _, rfl, _, rfl, _, rfl, 1, rfl, a, _, -1, zl'.1, rfl, rfl, SqL.of (s9 _ _ hZA.1), alast, enP z.2, enP zl'.2, dp_pair ⟨bz, ebz, hbz⟩, dp_pair lpz, shaped_pair (hT z hzm).1 (hT z hzm).2, shaped_pair (hT zl' hzl).1 (hT zl' hzl).2, _, rfl, ?_⟩
            have fin : ∀ (u : V), (u = v ∨ ∃ i, u = .int i) → ([z.1, u].length ≤ sizeLine ∧ ∀ (p : Addr), HD p = none → ∃ acc : List V, (upd HD p (.tup [z.1, u])) D = some (.lst acc) ∧ acc.length < sizeLine ∧ (Same HC (upd (upd HD p (.tup [z.1, u])) D (.lst (acc ++ [.ref p]))) ∧ ∃ ts : List PT, (upd (upd HD p (.tup [z.1, u])) D (.lst (acc ++ [.ref p]))) D = some (.lst (ts.map fun x => V.ref x.t)) ∧ (∀ x ∈ ts, x.At (upd (upd HD p (.tup [z.1, u])) D (.lst (acc ++ [.ref p]))) ∧ (x.v = v ∨ ∃ i, x.v = .int i)) ∧ ts.length = i + 1)) := by
              intro u hu
              refine ⟨le_sl (by show 2 ≤ _; decide), fun p hp => ?_⟩
              have ep := same_new (o := .tup [z.1, u]) hp
              have h9' := ep _ _ h9
              have nD : ∀ {c : Addr} {l : List V}, (upd HD p (.tup [z.1, u])) c = some (.tup l) → c ≠ D := fun q => ne_of q h9' (by intro z; cases z)
              refine ⟨_, h9', by rw [List.length_map]; exact lt_sl (by omega), same_upd (s9.trans ep) hDn, ts ++ [⟨p, bz, z.2, u⟩], by rw [upd_same, List.map_append]; rfl, fun x hx => ?_, by rw [List.length_append, tl]; rfl⟩
              rcases List.mem_append.mp hx with hx | hx
              · obtain ⟨⟨g1, g2⟩, g3⟩ := hT9 x hx
                exact ⟨⟨(upd_ne (nD (ep _ _ g1))).trans (ep _ _ g1), (upd_ne (nD (ep _ _ g2))).trans (ep _ _ g2)⟩, g3⟩
              · rw [List.mem_singleton.mp hx]
                have g1 : (upd HD p (.tup [z.1, u])) p = some (.tup [.ref bz, u]) := by rw [upd_same, ebz]
                exact ⟨⟨(upd_ne (nD g1)).trans g1, (upd_ne (nD (ep _ _ hbz))).trans (ep _ _ hbz)⟩, hu⟩
            rw [eqv_pair]
            by_cases q : z.2 = zl'.2
            · refine iteB1 (dT q) ⟨_, rfl, fin _ (.inl rfl)⟩
            · refine iteB0 (dF q) ⟨_, rfl, _, rfl, wa, .int (f z.2), rfl, ?_, fin _ (.inr ⟨_, rfl⟩)⟩
              show DGet HD wa z.1 _
              rw [ebz]
              refine dget_t (k := kP z.2) (s9 _ _ hwA) hbT ?_
              rw [valV_mapP (fun p => V.int (f p)), if_pos (pw.mem_iff.mpr (List.mem_map_of_mem hzm))]
          · rintro H9 ⟨s9, ts, h9, hT9, tl⟩
            rw [List.length_map] at tl
            refine ⟨D, ts, rfl, h9, fun x hx => (hT9 x hx).1, fun d6 hd6 => ?_⟩
            have e6' := s9.trans (same_new (o := .dT (mergeT (ts.map fun x => (x.k, x.v)))) hd6)
            have M5 := M4.same e6'
            have hd6' : (upd H9 d6 (.dT (mergeT (ts.map fun x => (x.k, x.v))))) d6 = _ := upd_same
            generalize (upd H9 d6 (.dT (mergeT (ts.map fun x => (x.k, x.v))))) = HE at M5 hd6'
            obtain ⟨hwE, hvE, hZE⟩ := tow M5
            -- texts for keys
            refine ⟨_, rfl, .inl ⟨rfl, _, SqL.of M5.at_⟩, _, rfl, _, rfl, a, rfl, ⟨_, SqL.of hZE.1⟩, fun D2 hD2 => ?_⟩
            refine lc_it walk_list (fun i H9 => Same HE H9 ∧ ∃ qs : List (Addr × Str), H9 D2 = some (.lst (qs.map fun x => V.ref x.1)) ∧ (∀ x ∈ qs, H9 x.1 = some (.tup [.str x.2, .int 1])) ∧ qs.length = i)
              ⟨same_new hD2, [], upd_same, (fun x h => nomatch h), rfl⟩ (fun i H9 _ h => SqL.of (h.1 _ _ hZE.1)) ?_ ?_
            · rintro i y HF HG hi ⟨sF, qs, hF, hqs, ql⟩ ⟨rfl, hy⟩
              obtain ⟨z, hz, rfl⟩ := get_map hy
              have hil := get_lt hz
              obtain ⟨bz, ebz, hbz⟩ := (hZE.2 z (List.mem_of_getElem? hz)).same sF
              refine ⟨rfl, _, rfl, bz, _, 0, .str z.2.1, ebz, rfl, SqT.of hbz, atI_nat (j := 0) rfl, le_sl (by show 2 ≤ _; decide), fun p hp => ?_⟩
              have ep := same_new (o := .tup [.str z.2.1, .int 1]) hp
              have hF' := ep _ _ hF
              refine ⟨_, hF', by rw [List.length_map]; exact lt_sl (by omega), same_upd (sF.trans ep) hD2, qs ++ [(p, z.2.1)], by rw [upd_same, List.map_append]; rfl, fun x hx => ?_, by rw [List.length_append, ql]; rfl⟩
              rcases List.mem_append.mp hx with hx | hx
              · have g1 := ep _ _ (hqs x hx)
                exact (upd_ne (ne_of g1 hF' (by intro z; cases z))).trans g1
              · rw [List.mem_singleton.mp hx]
                exact (upd_ne (ne_of upd_same hF' (by intro z; cases z))).trans upd_same
            · rintro HF ⟨sF, qs, hF, hqs, ql⟩
              rw [List.length_map] at ql
              refine ⟨D2, qs.map (·.1), qs.map fun x => (.inr x.2, .int 1), rfl, SqL.of (by rw [hF, List.map_map]; rfl), paired_qs hqs, fun d7 hd7 => ?_⟩
              refine ⟨le_sl (by show 2 ≤ _; decide), fun f7 hf7 => ?_⟩
              have eF := sF.trans (same_new (o := .dK (mergeK [] (qs.map fun x => (.inr x.2, V.int 1)))) hd7)
              have eG := same_new (o := .lst [.ref d6, .ref d7]) hf7
              have M6 := M5.same (eF.trans eG)
              refine ⟨m, f7, _, _, rfl, rfl, M6.at_, upd_same, le_sl (by rw [l2'']; show 11 + 2 ≤ _; decide), ?_⟩
              refine hX _ _ ⟨_, _, rfl, M6.add (zs := [.ref d6, .ref d7]) m1 m2 (by rw [l2'']; show 11 + 2 ≤ 20; decide) fun y hy => ?_⟩
              simp only [List.mem_cons, List.not_mem_nil, or_false] at hy
              rcases hy with rfl | rfl
              · refine Odd.dict (ts := ts) (M6.hidT ((eF.trans eG) _ _ hd6') (by intro l z; cases z)) (by omega) fun x hx => ?_
                rcases (hT9 x hx).2 with e | ⟨i, e⟩
                · rw [e]
                  exact (tow M6).2.1
                · rw [e]
                  exact OddV.int i
              · have hd := M6.hidT (eG _ _ (upd_same (a := d7))) (by intro l z; cases z)
                refine ⟨⟨false, .txt hd ?_⟩, SD.up (.dK (n := 0) hd ?_ fun kv hkv => ?_) (by decide)⟩
                · rw [hzs]
                  exact List.cons_ne_nil _ _
                · have := mergeK_len (l := qs.map fun x => ((.inr x.2 : L2.Key), V.int 1)) (acc := [])
                  rw [List.length_map, List.length_nil] at this
                  omega
                · have := mergeK_all (Pv := fun u => u = V.int 1) (l := qs.map fun x => ((.inr x.2 : L2.Key), V.int 1)) (acc := []) (fun p hp => by
                    obtain ⟨x, _, rfl⟩ := List.mem_map.mp hp
                    rfl) (fun kv h => nomatch h) kv hkv
                  rw [this]
                  exact .flat rfl
end
theorem SqA.eq {K : PySem.W.Frag} {H H' : Hp} {a : Addr} {xs : List V} (e : H' a = H a) (h : SqA K H a xs) : SqA K H' a xs := by
  rcases h with h | h
  · rcases h with (h | ⟨o, h⟩) | h
    · exact .inl (.inl (.inl (e.trans h)))
    · exact .inl (.inl (.inr ⟨o, e.trans h⟩))
    · exact .inl (.inr h)
  · rcases h with (h | ⟨o, h⟩) | h
    · exact .inr (.inl (.inl (e.trans h)))
    · exact .inr (.inl (.inr ⟨o, e.trans h⟩))
    · exact .inr (.inr h)
theorem hid1_stp {st cl D : Addr} {H H' : Hp} (t : Stp st cl H H') : Same (hid1 D (hid2 st cl H)) (hid1 D (hid2 st cl H')) := fun b o q => by
  have h1 : b ≠ D := fun z => by rw [z, hid1_at] at q; cases q
  rw [hid1_ne h1] at q ⊢
  exact t _ _ q
def spLoose0 : Sp := fun vs H Q _ => ∃ (st : V) (x : Str), vs = [st, .str x] ∧ ∀ H', Same H H' → Q (.str x) H'
def spLoose1 (K : PySem.W.Frag) : Sp := fun vs H Q _ => ∃ (st cl t : Addr) (p : Str × Str) (N : Nat), vs = [.ref st, .ref t] ∧ Strm N st cl H ∧ N < 1000000 ∧ hid2 st cl H t = some (.tup [.str p.1, .str p.2]) ∧
  ∀ (H' : Hp) (u : Addr), Stp st cl H H' → Strm (N + 1) st cl H' → H u = none → SqA K (hid2 st cl H') u [.str p.1, .str p.2] → Q (.ref u) H'
def spLoose2 (K : PySem.W.Frag) : Sp := fun vs H Q _ => ∃ (st cl a : Addr) (zs : List (V × (Str × Str))) (N : Nat), vs = [.ref st, .ref a] ∧ Strm N st cl H ∧ N < 100000 ∧ Lof (hid2 st cl H) IsPair a zs ∧ zs.length ≤ 200 ∧
  ∀ (H' : Hp) (u : Addr) (ws : List W2), Stp st cl H H' → Strm (N + 300) st cl H' → SqA K (hid2 st cl H') u (ws.map fun x => V.ref x.1) → (∀ x ∈ ws, IsW2 K (hid2 st cl H') x) → ws.map (·.2) = zs.map (·.2) → Q (.ref u) H'
section
variable {P : Program} {w : World} {K : PySem.W.Frag} {mg : Str → Option Value} {base : Heap}
theorem cl_loose0 (T : Top K mg) : Cl P w K mg base CX0 1 "_law_loose" ["_law_stream", "_law_thing"] spLoose0 := by
  refine Cl.of T.f_law_loose T.g_law_loose sc_law_loose (fun _ _ _ _ _ _ us hl => match us, hl with | [_, _], _ => rfl) (fun vs H Q E h => ?_) (fun cdv A outer s H vs Q E hr h => ?_)
  · obtain ⟨st, x, rfl, _⟩ := h
    rfl
  · obtain ⟨st, x, rfl, k⟩ := h
    have C_law_draw := cl_draw (P := P) (w := w) (base := base) T
    refine ⟨_, (pss_cons (ps_if (pt_not (pt_val (pe_callB (isiT_K K) (by rfl) T.z_isinstance (by decide +kernel) (pa_cons (pv 1) (pa_cons (pe_tup (pa_cons (pe_bltn (v := .ty "list") (by rfl) T.z_list (by decide +kernel) rfl) (pa_cons (pe_bltn (v := .ty "tuple") (by rfl) T.z_tuple (by decide +kernel) rfl) pa_nil))) pa_nil)))))
    (pss_one (ps_ret (pv 1)))
    pss_nil)
    (pss_cons (ps_setLc (i := 2) (own := [("_law_part", 3)]) (g := gName 3) (tt := tYes) rfl sc_law_loose.nd rfl rfl (sw_true rfl rfl rfl (by decide +kernel)) (pis_K K (pv 1)) (blkOk_by (own := [("_law_part", 3)]) (N := N_law_loose) (sc := defScope s_law_loose) (by decide +kernel)) (fun _ _ _ _ _ => (pg_name (i := 3) sc_law_loose.nd rfl (Or.inl rfl))) (fun _ _ _ _ _ => pts_nil) (fun _ _ _ _ _ => pe_never))
    (pss_one (ps_ret (pe_ifExp pt_never (pv 2) (pe_callTy (tof_K K) (by rfl) T.z_tuple (by decide +kernel) (pa_cons (pv 2) pa_nil))))))), ?_⟩
    refine ⟨_, rfl, le_sl (by show 2 ≤ _; decide), fun p hp => ⟨_, p, ["list", "tuple"].map V.ty, .type "str", _, false, rfl, upd_same, clsVs _, TyX.new hp (.base (.str x)), kitBs_ok (by decide +kernel), _, rfl, iteB1 rfl ?_⟩⟩
    exact ⟨_, rfl, k _ (same_new hp)⟩
theorem cl_loose1 (T : Top K mg) : Cl P w K mg base CX0 2 "_law_loose" ["_law_stream", "_law_thing"] (spLoose1 K) := by
  have C_law_loose := cl_loose0 (P := P) (w := w) (base := base) T
  have C_law_draw := cl_draw (P := P) (w := w) (base := base) T
  refine Cl.of T.f_law_loose T.g_law_loose sc_law_loose (fun _ _ _ _ _ _ us hl => match us, hl with | [_, _], _ => rfl) (fun vs H Q E h => ?_) (fun cdv A outer s H vs Q E hr h => ?_)
  · obtain ⟨st, cl, t, p, N, rfl, _⟩ := h
    rfl
  · obtain ⟨st, cl, t, p, N, rfl, hs, hN, ht, k⟩ := h
    refine ⟨_, (pss_cons (ps_if (pt_not (pt_val (pe_callB (isiT_K K) (by rfl) T.z_isinstance (by decide +kernel) (pa_cons (pv 1) (pa_cons (pe_tup (pa_cons (pe_bltn (v := .ty "list") (by rfl) T.z_list (by decide +kernel) rfl) (pa_cons (pe_bltn (v := .ty "tuple") (by rfl) T.z_tuple (by decide +kernel) rfl) pa_nil))) pa_nil)))))
    (pss_one (ps_ret (pv 1)))
    pss_nil)
    (pss_cons (ps_setLc (i := 2) (own := [("_law_part", 3)]) (g := gName 3) (tt := tYes) rfl sc_law_loose.nd rfl rfl (sw_true rfl rfl rfl (by decide +kernel)) (pis_K K (pv 1)) (blkOk_by (own := [("_law_part", 3)]) (N := N_law_loose) (sc := defScope s_law_loose) (by decide +kernel)) (fun _ _ _ _ _ => (pg_name (i := 3) sc_law_loose.nd rfl (Or.inl rfl))) (fun _ _ _ _ _ => pts_nil) (fun _ _ _ _ _ => (pe_k C_law_loose hr (by decide) pass0 (pa_cons (pv 0) (pa_cons (pv 3) pa_nil)))))
    (pss_one (ps_ret (pe_ifExp (pt_cmpR op_eq (pe_k C_law_draw hr (by decide) pass0 (pa_cons (pv 0) (pa_cons pe_int pa_nil))) pe_int (nomark _)) (pv 2) (pe_callTy (tof_K K) (by rfl) T.z_tuple (by decide +kernel) (pa_cons (pv 2) pa_nil))))))), ?_⟩
    have htH := hid2_le _ _ _ _ _ ht
    refine ⟨_, rfl, le_sl (by show 2 ≤ _; decide), fun q hq => ⟨_, q, ["list", "tuple"].map V.ty, .type "tuple", _, true, rfl, upd_same, clsVs _, TyX.new hq (TyX.ofT (SqT.of htH)), kitBs_ok (by decide +kernel), _, rfl, iteB0 rfl ?_⟩⟩
    have e1 := same_new (o := .tup [.ty "list", .ty "tuple"]) hq
    refine ⟨_, rfl, t, _, H, rfl, .inr (SqT.of htH), e1, fun J G wk hG D hDn => ?_⟩
    have DH : H D = none := e1.free hDn
    obtain ⟨D1, D2⟩ := hs.fst DH
    refine lc_it wk (fun i H2 => Same H H2 ∧ H2 D = some (.lst ([V.str p.1, V.str p.2].take i))) ⟨e1.trans (same_new hDn), upd_same⟩ (fun i H2 _ h => hG _ h.1) ?_ ?_
    · rintro i x H2 H3 hi ⟨s2, h2⟩ ⟨rfl, hx⟩
      obtain ⟨y, rfl⟩ : ∃ y, x = V.str y := by
        rcases i with _ | _ | i
        · exact ⟨_, (Option.some.inj hx).symm⟩
        · exact ⟨_, (Option.some.inj hx).symm⟩
        · exact absurd hi (by simp)
      refine ⟨rfl, _, rfl, _, rfl, _, y, rfl, fun H4 s4 => ⟨_, s4 _ _ h2, ?_, same_upd (s2.trans s4) DH, ?_⟩⟩
      · rw [List.length_take]
        exact lt_sl (by simp only [List.length_cons, List.length_nil]; omega)
      · rw [upd_same, take_snoc hx]
    · rintro H2 ⟨s2, h2⟩
      refine ⟨_, rfl, st, cl, 3, N, rfl, hs.same s2, by omega, by decide, by decide, fun H3 d t3 s3 d0 d1 => ?_⟩
      have tt := (Stp.of s2).trans t3
      have h2' : hid2 st cl H2 D = some (.lst [V.str p.1, V.str p.2]) := by rw [hid2_ne D1 D2]; exact h2
      have h3 := t3 _ _ h2'
      refine ⟨rfl, _, rfl, ?_⟩
      by_cases q0 : d = 0
      · exact iteB1 (dT (congrArg V.int q0)) ⟨_, rfl, k H3 D tt s3 DH (.inl (SqL.of h3))⟩
      · refine iteB0 (dF fun z => q0 (V.int.inj z)) ⟨_, rfl, D, [V.str p.1, V.str p.2], rfl, .inl ⟨SqL.of (hid2_le _ _ _ _ _ h3), fun u hu => ?_⟩⟩
        obtain ⟨u1, u2⟩ := s3.fst hu
        exact k _ u (tt.trans (Stp.of (same_new hu))) (s3.same (same_new hu)) (tt.free u1 u2 hu) (.inr (SqT.of (by rw [hid2_ne u1 u2, upd_same])))
theorem cl_loose2 (T : Top K mg) : Cl P w K mg base CX0 3 "_law_loose" ["_law_stream", "_law_thing"] (spLoose2 K) := by
  have C_law_loose := cl_loose1 (P := P) (w := w) (base := base) T
  have C_law_draw := cl_draw (P := P) (w := w) (base := base) T
  refine Cl.of T.f_law_loose T.g_law_loose sc_law_loose (fun _ _ _ _ _ _ us hl => match us, hl with | [_, _], _ => rfl) (fun vs H Q E h => ?_) (fun cdv A outer s H vs Q E hr h => ?_)
  · obtain ⟨st, cl, a, zs, N, rfl, _⟩ := h
    rfl
  · obtain ⟨st, cl, a, zs, N, rfl, hs, hN, hZ, zl, k⟩ := h
    refine ⟨_, (pss_cons (ps_if (pt_not (pt_val (pe_callB (isiT_K K) (by rfl) T.z_isinstance (by decide +kernel) (pa_cons (pv 1) (pa_cons (pe_tup (pa_cons (pe_bltn (v := .ty "list") (by rfl) T.z_list (by decide +kernel) rfl) (pa_cons (pe_bltn (v := .ty "tuple") (by rfl) T.z_tuple (by decide +kernel) rfl) pa_nil))) pa_nil)))))
    (pss_one (ps_ret (pv 1)))
    pss_nil)
    (pss_cons (ps_setLc (i := 2) (own := [("_law_part", 3)]) (g := gName 3) (tt := tYes) rfl sc_law_loose.nd rfl rfl (sw_true rfl rfl rfl (by decide +kernel)) (pis_K K (pv 1)) (blkOk_by (own := [("_law_part", 3)]) (N := N_law_loose) (sc := defScope s_law_loose) (by decide +kernel)) (fun _ _ _ _ _ => (pg_name (i := 3) sc_law_loose.nd rfl (Or.inl rfl))) (fun _ _ _ _ _ => pts_nil) (fun _ _ _ _ _ => (pe_k C_law_loose hr (by decide) pass0 (pa_cons (pv 0) (pa_cons (pv 3) pa_nil)))))
    (pss_one (ps_ret (pe_ifExp (pt_cmpR op_eq (pe_k C_law_draw hr (by decide) pass0 (pa_cons (pv 0) (pa_cons pe_int pa_nil))) pe_int (nomark _)) (pv 2) (pe_callTy (tof_K K) (by rfl) T.z_tuple (by decide +kernel) (pa_cons (pv 2) pa_nil))))))), ?_⟩
    have haH := hid2_le _ _ _ _ _ hZ.1
    refine ⟨_, rfl, le_sl (by show 2 ≤ _; decide), fun q hq => ⟨_, q, ["list", "tuple"].map V.ty, .type "list", _, true, rfl, upd_same, clsVs _, TyX.new hq (TyX.ofL (SqL.of haH)), kitBs_ok (by decide +kernel), _, rfl, iteB0 rfl ?_⟩⟩
    have e1 := same_new (o := .tup [.ty "list", .ty "tuple"]) hq
    refine ⟨_, rfl, a, _, hid2 st cl H, rfl, .inl (SqL.of hZ.1), Same.trans (hid2_le st cl H) e1, fun J G wk hG D hDn => ?_⟩
    have DH : H D = none := e1.free hDn
    obtain ⟨D1, D2⟩ := hs.fst DH
    refine lc_it wk (fun i H2 => Stp st cl H H2 ∧ Strm (N + i) st cl H2 ∧ ∃ ws : List W2, hid2 st cl H2 D = some (.lst (ws.map fun x => V.ref x.1)) ∧ (∀ x ∈ ws, IsW2 K (hid1 D (hid2 st cl H2)) x) ∧ ws.map (·.2) = (zs.map (·.2)).take i)
      ⟨Stp.of (e1.trans (same_new hDn)), hs.same (e1.trans (same_new hDn)), [], by rw [hid2_ne D1 D2]; exact upd_same, (fun x h => nomatch h), rfl⟩ (fun i H2 _ h => hG _ (Same.trans h.1 (hid2_le _ _ _))) ?_ ?_
    · rintro i x H2 H3 hi ⟨t2, s2, ws, h2, hW, ew⟩ ⟨rfl, hx⟩
      obtain ⟨z, hz, rfl⟩ := get_map hx
      have hil := get_lt hz
      obtain ⟨t, et, ht⟩ := (hZ.2 z (List.mem_of_getElem? hz)).same t2
      have ep : (zs.map (·.2))[i]? = some z.2 := by rw [List.getElem?_map, hz]; rfl
      refine ⟨rfl, _, rfl, _, rfl, st, cl, t, z.2, N + i, by rw [et], s2, by omega, ht, fun H4 u t4 s4 hu0 hu => ?_⟩
      have h4 := t4 _ _ h2
      have wl : ws.length = i := by
        have := congrArg List.length ew
        rw [List.length_map, List.length_take, List.length_map] at this
        omega
      have uD : SqA K (hid1 D (hid2 st cl H4)) u [.str z.2.1, .str z.2.2] := SqA.eq (hid1_ne (ne_of_none (hid2_le _ _ _ _ _ h2) hu0).symm) hu
      refine ⟨_, hid2_le _ _ _ _ _ h4, by rw [List.length_map]; exact lt_sl (by omega), (t2.trans t4).put (hid2_new hs DH), s4.put D1 D2, ws ++ [(u, z.2)], by rw [hid2_upd D1 D2, upd_same, List.map_append]; rfl, fun x hx => ?_, ?_⟩
      · rw [hid12_upd]
        rcases List.mem_append.mp hx with hx | hx
        · exact (hW x hx).same (hid1_stp t4)
        · rw [List.mem_singleton.mp hx]
          exact uD
      · rw [List.map_append, ew, take_snoc ep]
        rfl
    · rintro H2 ⟨t2, s2, ws, h2, hW, ew⟩
      rw [List.length_map, ← List.length_map (f := (·.2)), List.take_length] at ew
      rw [List.length_map] at s2
      have wl : ws.length = zs.length := by
        have := congrArg List.length ew
        rw [List.length_map, List.length_map] at this
        exact this
      refine ⟨_, rfl, st, cl, 3, N + zs.length, rfl, s2, by omega, by decide, by decide, fun H3 d t3 s3 d0 d1 => ?_⟩
      have h3 := t3 _ _ h2
      have hW3 : ∀ x ∈ ws, IsW2 K (hid2 st cl H3) x := fun x hx => (hW x hx).same (Same.trans (hid1_le _ _) t3)
      refine ⟨rfl, _, rfl, ?_⟩
      by_cases q0 : d = 0
      · exact iteB1 (dT (congrArg V.int q0)) ⟨_, rfl, k H3 D ws (t2.trans t3) (s3.mono (by omega)) (.inl (SqL.of h3)) hW3 ew⟩
      · refine iteB0 (dF fun z => q0 (V.int.inj z)) ⟨_, rfl, D, _, rfl, .inl ⟨SqL.of (hid2_le _ _ _ _ _ h3), fun u hu => ?_⟩⟩
        obtain ⟨u1, u2⟩ := s3.fst hu
        have eu := Stp.of (st := st) (cl := cl) (same_new (o := .tup (ws.map fun x => V.ref x.1)) hu)
        exact k _ u ws ((t2.trans t3).trans eu) ((s3.same (same_new hu)).mono (by omega)) (.inr (SqT.of (by rw [hid2_ne u1 u2, upd_same]))) (fun x hx => (hW3 x hx).same eu) ew
end
/-! ### sorted(xs, key=f), the keys any alike data -/
theorem each_of {α β : Type} {R : α → β → Prop} : ∀ {xs : List α} {ys : List β}, xs.length = ys.length → (∀ (i : Nat) (x : α) (y : β), xs[i]? = some x → ys[i]? = some y → R x y) → PySem.W.EachIs R xs ys
  | [], [], _, _ => .nil
  | [], _ :: _, h, _ => by cases h
  | _ :: _, [], h, _ => by cases h
  | x :: xs, y :: ys, l, h => .cons (h 0 x y rfl rfl) (each_of (Nat.succ.inj l) fun i x y p q => h (i + 1) x y p q)
/-- X, two calls deeper, nothing let out -/
abbrev cx2 (X : Cx) : Cx := { X with A := X.A.in1.in1, xe := fun _ _ => False }
section
variable {X : Cx} {pins : List (Addr × Obj)} {σ : L2.St} {H : Hp} {s : Shared}
theorem inv2 (I : Inv X pins σ H s) : Inv (cx2 X) pins σ H s :=
  ⟨⟨I.ok.mod, I.ok.kind, I.ok.glob, I.ok.blt, I.ok.above, I.ok.inj, I.ok.has, I.ok.cab, I.ok.hd, I.ok.frames, I.ok.stk, I.ok.exf, I.ok.bs, I.ok.bsz, I.ok.noex, I.ok.exfs, I.ok.funs, I.ok.frf⟩, I.os, I.bare, I.base, I.loc, I.cell, I.free, I.freeC, I.pin, I.hok, I.len⟩
theorem inv1 (ok : X.Ok) (I : Inv (cx2 X) pins σ H s) : Inv X pins σ H s := ⟨ok, I.os, I.bare, I.base, I.loc, I.cell, I.free, I.freeC, I.pin, I.hok, I.len⟩
/-- a pair's second part -/
def spSecond : Sp := fun vs H Q _ => ∃ (t : Addr) (x y : V), vs = [.ref t] ∧ H t = some (.tup [x, y]) ∧ Q y H
def rSortK {α : Type} (K : PySem.W.Frag) (f : Addr) (en : α → PyData) : List V → List V → Hp → VK → Prop := fun vs ks H Q => ∃ (a : Addr) (zs : List (V × α)), vs = [.ref a] ∧ ks = [.ref f] ∧ SqL K H a (zs.map (·.1)) ∧
  (∀ z ∈ zs, ∃ (t : Addr) (x y : V), z.1 = .ref t ∧ H t = some (.tup [x, y]) ∧ Dp K H y (en z.2)) ∧ PySem.W.AllAlike (zs.map fun z => en z.2) ∧ PySem.W.Sortable (zs.map fun z => en z.2) ∧ (∀ z ∈ zs, (en z.2).depth ≤ 60) ∧
  ∀ p, H p = none → Q (.ref p) (upd H p (.lst ((sortBy en zs).map (·.1))))
theorem FpOk.pin {b : Addr} {o : Obj} (f : FpOk X pins H b) : b ≠ X.env.locals ∧ b ∉ X.fs := ⟨f.2.1, f.2.2.1⟩
end
section
variable {X : Cx} {α : Type} {k : Nat} {f : Addr} {fd : FuncData} {ps : List Str}
theorem cr_sortK (en : α → PyData) (F : FnOk X.prog X.w X.K X.mg X.base CX0 k f fd ps spSecond) (hb : L2.Binds X.K fd ps []) (hr : Room (k + 2) X.A) : CallRK X (.builtin "sorted") [Str.ofString "key"] (rSortK X.K f en) := by
  rintro pins s σ H vs0 ks0 us ws Q I r rz ⟨l, zs, rfl, rfl, hs, ht, hal, hsk, hdp, q⟩
  obtain ⟨u0, rfl, r0⟩ := vals1 r
  cases (show u0 = Value.ref l from r0)
  obtain ⟨w0, rfl, rw0⟩ := vals1 rz
  cases (show w0 = Value.ref f from rw0)
  obtain ⟨its, rv, hl, hz⟩ := I.list hs
  have hlen : its.length = zs.length := by rw [← rv.length, List.length_map]
  have hzl : zs.length ≤ sizeLine := by rw [List.length_map] at hz; exact hz
  have ndisj : H (s.heap.objs.size + 1) = none := I.hok.fresh (Nat.le_succ _)
  refine PySem.W.sorted_of_sort hl.isList (by rw [hlen]; exact hzl) (ksk_s1 _ _) (fun _ => ksk_l1 _ _) fun E' => ?_
  show wpAny _ _ (Builtin.«list.sort» ⟨[.ref (s.heap.objs.size + 1)], [(Str.ofString "key", .ref f)]⟩) _ _ _
  rw [ksk_t1]
  have ho := PySem.W.copyHeap_at s.heap its
  have hcs : s.heap.objs.size + 1 < (PySem.W.copyHeap s.heap its).objs.size := Heap.lt_size ho
  obtain ⟨e1, ho1⟩ : ∃ e1, ((PySem.W.copyHeap s.heap its).update (s.heap.objs.size + 1) (Obj.mapSeq fun _ => (#[] : Array Value))).get? (s.heap.objs.size + 1) = some (seqObj "list" #[] e1) := ⟨_, get?_update_seq ho fun _ => #[]⟩
  have hkS : (((PySem.W.copyHeap s.heap its).update (s.heap.objs.size + 1) (Obj.mapSeq fun _ => (#[] : Array Value))).push (seqObj "tuple" its.toArray 0)).objs.size = (PySem.W.copyHeap s.heap its).objs.size + 1 := by rw [size_push', Heap.size_update]
  unfold ksk_tree
  refine wpAny_bind (listItems_at (s := { s with heap := PySem.W.copyHeap s.heap its }) ho rfl ?_)
  refine wpAny_bind (listUpdate_at ho rfl ?_ (by rw [List.size_toArray, hlen]; exact hzl) (Nat.zero_le _))
  refine wpAny_bind (seqEpoch_at ho1 rfl ?_)
  refine wpAny_bind (wpAny_newTuple ?_ (by show its.length ≤ _; rw [hlen]; exact hzl))
  refine wpAny_bind (wpAny_newList ?_ (Nat.zero_le _))
  refine wpAny_holding ?_
  have la : s.heap.objs.size < s.heap.objs.size + 1 := Nat.lt_succ_self _
  have lk : s.heap.objs.size + 1 < (((PySem.W.copyHeap s.heap its).update (s.heap.objs.size + 1) (Obj.mapSeq fun _ => (#[] : Array Value))).push (seqObj "tuple" its.toArray 0)).objs.size := by rw [hkS]; omega
  generalize ha : s.heap.objs.size + 1 = a at *
  generalize hk0 : (((PySem.W.copyHeap s.heap its).update a (Obj.mapSeq fun _ => (#[] : Array Value))).push (seqObj "tuple" its.toArray 0)).objs.size = kS at *
  have old : ∀ b o, s.heap.get? b = some o → ((((PySem.W.copyHeap s.heap its).update a (Obj.mapSeq fun _ => (#[] : Array Value))).push (seqObj "tuple" its.toArray 0)).push (seqObj "list" #[] 0)).get? b = some o := fun b o e => by
    have hb := Heap.lt_size e
    refine Heap.get?_push_of_some _ (Heap.get?_push_of_some _ ((Heap.get?_update_ne _ _ _ _ (Nat.ne_of_lt (Nat.lt_trans hb la))).trans (PySem.W.copyHeap_old e)))
  have na0 : ((((PySem.W.copyHeap s.heap its).update a (Obj.mapSeq fun _ => (#[] : Array Value))).push (seqObj "tuple" its.toArray 0)).push (seqObj "list" #[] 0)).get? a = some (seqObj "list" #[] e1) := Heap.get?_push_of_some _ (Heap.get?_push_of_some _ ho1)
  have nk0 : ((((PySem.W.copyHeap s.heap its).update a (Obj.mapSeq fun _ => (#[] : Array Value))).push (seqObj "tuple" its.toArray 0)).push (seqObj "list" #[] 0)).get? kS = some (seqObj "list" #[] 0) := by
    rw [← hk0]; exact Heap.get?_push_size _ rfl
  generalize ((((PySem.W.copyHeap s.heap its).update a (Obj.mapSeq fun _ => (#[] : Array Value))).push (seqObj "tuple" its.toArray 0)).push (seqObj "list" #[] 0)) = hp1 at *
  have fa : FpOk X pins H a := I.fpOk (Nat.le_of_lt la) (I.hok.fresh (Nat.le_of_lt la))
  have fk : FpOk X pins H kS := I.fpOk (Nat.le_of_lt (Nat.lt_trans la lk)) (I.hok.fresh (Nat.le_of_lt (Nat.lt_trans la lk)))
  have I0 : Inv X pins σ H { s with heap := hp1 } := I.kept (t' := s.toks) old
  have yx : ∀ l : List (V × α), (∀ z ∈ l, z ∈ zs) → ∃ ys : List V, ys.length = l.length ∧ ∀ (i : Nat) (z : V × α), l[i]? = some z → ∃ (t : Addr) (x y : V), z.1 = .ref t ∧ H t = some (.tup [x, y]) ∧ Dp X.K H y (en z.2) ∧ ys[i]? = some y := by
    intro l
    induction l with
    | nil => exact fun _ => ⟨[], rfl, fun i z h => nomatch h⟩
    | cons z l ih =>
      intro hm
      obtain ⟨ys, h1, h2⟩ := ih fun y hy => hm y (List.mem_cons_of_mem _ hy)
      obtain ⟨t, x, y, g1, g2, g3⟩ := ht z (hm z List.mem_cons_self)
      refine ⟨y :: ys, congrArg Nat.succ h1, fun i w hw => ?_⟩
      cases i with
      | zero =>
        obtain rfl := Option.some.inj hw
        exact ⟨t, x, y, g1, g2, g3, rfl⟩
      | succ i => exact h2 i w hw
  obtain ⟨ys, yl, yg⟩ := yx zs fun _ h => h
  have repin : ∀ {h' : Heap} {g' : Array GenState} {d' : Drawn} {t' : Nat} {os' : OsState} {kA : Array Value} {e : Nat}, Inv X pins σ H ⟨h', g', d', t', os'⟩ → h'.get? a = some (seqObj "list" #[] e1) → h'.get? kS = some (seqObj "list" kA e) →
      Inv X ((a, seqObj "list" #[] e1) :: (kS, seqObj "list" kA e) :: pins) σ H ⟨h', g', d', t', os'⟩ := fun J h1 h2 => J.pins_of fun p hp => by
    rcases List.mem_cons.mp hp with rfl | hp
    · exact ⟨h1, fa.1, fa.2.1, fa.2.2.1, fun v z => by cases z⟩
    rcases List.mem_cons.mp hp with rfl | hp
    · exact ⟨h2, fk.1, fk.2.1, fk.2.2.1, fun v z => by cases z⟩
    · exact J.pin p (List.mem_append_right _ hp)
  have unpin : ∀ {s' : Shared} {kA : Array Value} {e : Nat} {H : Hp}, Inv X ((a, seqObj "list" #[] e1) :: (kS, seqObj "list" kA e) :: pins) σ H s' → Inv X pins σ H s' ∧ s'.heap.get? a = some (seqObj "list" #[] e1) ∧ s'.heap.get? kS = some (seqObj "list" kA e) := fun {s' kA e H} J =>
    ⟨J.pins_of fun p hp => J.pin p (List.mem_append_right _ (List.mem_cons_of_mem _ (List.mem_cons_of_mem _ hp))), (J.pin (a, seqObj "list" #[] e1) (List.mem_append_right _ List.mem_cons_self)).1, (J.pin (kS, seqObj "list" kA e) (List.mem_append_right _ (List.mem_cons_of_mem _ List.mem_cons_self))).1⟩
  have I1 := repin I0 na0 nk0
  have fnm : a ≠ kS := Nat.ne_of_lt lk
  unfold ksk_rest
  refine wpAny_bind (wpAny_rule ?_)
  first
    | rw [List.forIn_toArray]
    | (rw [← Array.forIn_toList]; simp only [List.toList_toArray])
    | rw [← Array.forIn_toList]
  refine wpAny_bind (ksk_fold (fun i s' => ∃ (kA : Array Value) (e : Nat), Inv X ((a, seqObj "list" #[] e1) :: (kS, seqObj "list" kA e) :: pins) σ H s' ∧ Vals (ys.take i) kA.toList) its 0 _ ⟨#[], 0, I1, .nil⟩ ?step ?done)
  case step =>
    rintro j x s' hx ⟨kA, e, J, hv⟩
    simp only [Nat.zero_add] at hv ⊢
    have hj : j < zs.length := by rw [← hlen]; exact (List.getElem?_eq_some_iff.mp hx).1
    obtain ⟨z, hz'⟩ : ∃ z, zs[j]? = some z := ⟨_, List.getElem?_eq_getElem hj⟩
    obtain ⟨t, y1, y2, g1, g2, g3, g4⟩ := yg j z hz'
    have rx : RelV z.1 x := by
      obtain ⟨u, hu, ru⟩ := rv.get (i := j) (x := z.1) (by rw [List.getElem?_map, hz']; rfl)
      rw [hx] at hu
      obtain rfl := Option.some.inj hu
      exact ru
    have kz : kA.size = j := by
      have := hv.length
      rw [List.length_take] at this
      have e5 : kA.toList.length = kA.size := Array.length_toList
      omega
    have call := run_fn (X := cx2 X) (E := fun _ _ _ => False) F (hr.in1.in1) hb .nil (fun _ _ _ _ _ _ _ h => h.elim) (inv2 J) (.cons rx .nil) (Q := fun v H' => v = y2 ∧ H' = H) ⟨t, y1, y2, by rw [g1]; rfl, g2, rfl, rfl⟩
    refine wpAny_bind (wpAny_attempt (wpAny_mono call (fun v s'' he => ?_) fun _ _ hF => hF.elim))
    obtain ⟨y, H', J2, ry, rfl, rfl⟩ := he
    obtain ⟨J3, na, nk⟩ := unpin (inv1 J.ok J2)
    obtain ⟨hp, gp, dp, tp, op⟩ := s''
    try dsimp only
    have s1 := Heap.SameBut.update hp kS (Obj.mapSeq (·.push v))
    obtain ⟨c2, hc2⟩ : ∃ c2, (hp.update kS (Obj.mapSeq (·.push v))).get? kS = some (seqObj "list" (kA.push v) c2) := ⟨_, get?_update_seq nk (·.push v)⟩
    refine wpAny_bind (listUpdate_at nk rfl ?_ (by omega) (by rw [Array.size_push]; omega))
    have J4 : Inv X pins σ H' ⟨hp.update kS (Obj.mapSeq (·.push v)), gp, dp, tp, op⟩ := Inv.turnedL (t' := tp) (ch := [kS]) J3 (fun b o hb q => (s1.2 b (fun z => hb (by rw [z]; exact List.mem_cons_self))).trans q) fun b hb => by
      rw [List.mem_singleton.mp hb]
      exact fk
    refine wpAny_pure ⟨rfl, kA.push v, c2, repin J4 ((s1.2 a fnm).trans na) hc2, ?_⟩
    have e4 : (ys.take (j + 1)) = ys.take j ++ [y] := take_snoc g4
    rw [e4, Array.toList_push]
    exact hv.append (.cons ry .nil)
  case done =>
    rintro s' ⟨kA, e, J, hv⟩
    obtain ⟨J1, na, nk⟩ := unpin J
    rw [Nat.zero_add, hlen, ← yl, List.take_length] at hv
    have e5 : kA.toList.length = kA.size := Array.length_toList
    have hsz : kA.size = its.length := by
      have := hv.length
      omega
    have rd : PySem.W.EachIs (fun v d => ∃ as, Reads s'.heap v d as) kA.toList (zs.map fun z => en z.2) := by
      refine each_of (by rw [List.length_map, e5, hsz, hlen]) fun i v d ev ed => ?_
      rw [List.getElem?_map] at ed
      cases hz' : zs[i]? with
      | none => rw [hz'] at ed; cases ed
      | some z =>
        rw [hz'] at ed
        obtain rfl := Option.some.inj ed
        obtain ⟨t, y1, y2, g1, g2, g3, g4⟩ := yg i z hz'
        obtain ⟨u, hu, ru⟩ := hv.get g4
        rw [ev] at hu
        obtain rfl := Option.some.inj hu
        exact Dp.reads J1 (en z.2) y2 v g3 ru
    obtain ⟨hp, gp, dp, tp, op⟩ := s'
    obtain ⟨G, gk, gn⟩ := L2.restrict hp fun b => decide (b ≠ a ∧ b ≠ kS)
    refine wpAny_bind (listItems_at nk rfl ?_)
    refine PySem.W.keyH_end (κ := PySem.W.dataKind hp (zs.map fun z => en z.2)) (h₁ := G) (fun b o hb q => ?_) (gn kS (by simp)) nk na fnm.symm (PySem.W.SortsAt.data (s := ⟨hp, gp, dp, tp, op⟩) rd hal hsk fun d hd => ?_) hsz (by rw [hlen]; exact hzl) fun h' tk c hk ha' => ⟨rfl, ?_⟩
    · by_cases h : b ≠ a ∧ b ≠ kS
      · rw [← gk b (decide_eq_true h)]
        exact q
      · rw [gn b (decide_eq_false h)] at q
        cases q
    · obtain ⟨z, hz', rfl⟩ := List.mem_map.mp hd
      have h1 := hdp z hz'
      have h2 := hr.un
      show X.A.units + 1 + 1 + _ < _
      omega
    · have J5 : Inv X pins σ H ⟨h', gp, dp, tk, op⟩ := Inv.turnedL (t' := tk) (ch := [a, kS]) J1 (fun b o hb q => by
          have h1 : b ≠ a := fun z => hb (by rw [z]; exact List.mem_cons_self)
          have h2 : b ≠ kS := fun z => hb (by rw [z]; exact List.mem_cons_of_mem _ List.mem_cons_self)
          exact hk b o h1 ((gk b (decide_eq_true ⟨h1, h2⟩)).trans q)) fun b hb => by
        rcases List.mem_cons.mp hb with rfl | hb
        · exact fa
        · rw [List.mem_singleton.mp hb]
          exact fk
      have hout := vals_each (PySem.W.keyedOut_each (rev := false) (fun z : V × α => en z.2) ⟨hp, kA.toList, hal, rfl, rd⟩ (each_rel rv))
      have hl2 : ((sortBy en zs).map (·.1)).length ≤ sizeLine := by
        rw [List.length_map, List.length_mergeSort]
        exact hzl
      exact ⟨.ref a, upd H a (.lst ((sortBy en zs).map (·.1))), J5.take (h' := h') (t' := tk) (fun b ob _ e => e) fa ⟨hl2, _, c, hout, ha'⟩, rfl, q a fa.1⟩
end
/-! ### sum(d.values()), the keys pairs of texts -/
section
variable {prog : Program} {w : World} {A : Around} {E : Value → Shared → Prop} {s : Shared}
theorem meetsVals {d : Addr} {es : Array DictEntry} {ep : Nat} (hd : (d == sysModules) = false) :
    MeetsIn prog w (Builtin.«dict.values» ⟨[.ref d], []⟩) (fun _ R s => DT.Raw s.heap d es ep ∧
      R (.ok (.ret (.ref s.heap.objs.size))) { s with heap := s.heap.push { cls := .type "dict_values", data := .fields #[.ref d] } }) :=
  .of_wp fun A R s h => by
    obtain ⟨hm, h⟩ := h
    unfold Builtin.«dict.values»
    refine wpAny_bind ?_
    unfold Builtin.Dict.noArgs
    refine wpAny_bind (wpAny_notOrdered_dict hm.typeIs ?_)
    show wpAny _ _ (pure d) _ _ s
    refine wpAny_pure ?_
    show wpAny _ _ (Builtin.Dict.showsAll d >>= _) _ _ s
    unfold Builtin.Dict.showsAll
    rw [if_neg (by rw [hd]; exact Bool.false_ne_true)]
    refine wpAny_bind (wpAny_pure ?_)
    exact wpAny_bind (wpAny_newObj_type (wpAny_pure ⟨_, rfl, h⟩))
theorem callVals {d : Addr} {es : Array DictEntry} {ep : Nat} {Q : Value → Shared → Prop} (hd : (d == sysModules) = false) (hm : DT.Raw s.heap d es ep)
    (h : Q (.ref s.heap.objs.size) { s with heap := s.heap.push { cls := .type "dict_values", data := .fields #[.ref d] } }) : wpAny (model prog w) A (call (.builtin "dict.values") [.ref d]) Q E s :=
  call_meetsIn PySem.F.slot_dict_values hm.typeIs PySem.F.entry_dict_values (PySem.F.args_dict_values_1 _) (meetsVals (es := es) (ep := ep) hd) ⟨hm, h⟩
end
/-- a view of d's values at p -/
def valsO (p d : Addr) : HO := .ext fun h => h.IsValuesView p d
section
variable {X : Cx}
def rValuesT : V → List V → Hp → VK → Prop := fun x xs H Q => ∃ (a : Addr) (kvs : List (List L2.Key × V)), x = .ref a ∧ xs = [] ∧ H a = some (.dT kvs) ∧ ∀ p, H p = none → Q (.ref p) (upd H p (valsO p a))
theorem mt_valuesT : MtR X "dict.values" rValuesT := by
  rintro pins s σ H x xs v us Q I rx rxs ⟨a, kvs, rfl, rfl, ha, q⟩
  cases rx
  cases rxs
  obtain ⟨z, hd, xs', rel, o, es, ep, ho, hx, hdat, _⟩ := dt_of I.hok ha
  refine callVals (es := es) (ep := ep) hd ⟨o, ho, hx, hdat⟩ ?_
  have hg : (s.heap.push { cls := .type "dict_values", data := .fields #[.ref a] }).get? s.heap.objs.size = some { cls := .type "dict_values", data := .fields #[.ref a] } := Heap.get?_push_size _ rfl
  refine ⟨.ref s.heap.objs.size, upd H s.heap.objs.size (valsO s.heap.objs.size a), I.laid (t' := s.toks) (fun b u e => Heap.get?_push_of_some _ e) (Nat.le_refl _) ⟨⟨_, hg, rfl, rfl⟩, ⟨_, hg⟩, fun h1 h2 x k => ?_⟩, rfl, q _ (I.hok.fresh (Nat.le_refl _))⟩
  obtain ⟨o, ho, r⟩ := x
  exact ⟨o, k o ho, r⟩
def rSumVals : List V → Hp → VK → Prop := fun vs H Q => ∃ (p d : Addr) (kvs : List (List L2.Key × V)) (ns : List Int), vs = [.ref p] ∧ H p = some (valsO p d) ∧ H d = some (.dT kvs) ∧ kvs.map (·.2) = ns.map V.int ∧ Q (.int ns.sum) H
theorem cr_sumVals (hc : X.calm = true) : CallR X (.builtin "sum") rSumVals := by
  rintro pins s σ H us0 us Q I r ⟨p, d, kvs, ns, rfl, hp, hd, hv, q⟩
  obtain ⟨u0, rfl, r0⟩ := vals1 r
  cases (show u0 = Value.ref p from r0)
  have view : s.heap.IsValuesView p d := (show ObjOk X.prog X.w H s.heap p (valsO p d) from I.hok p _ hp).1
  obtain ⟨z, hsm, xs, rel, o, es, ep, ho, hx, hdat, hes, his, hn⟩ := dt_of I.hok hd
  have l1 : kvs.length = xs.length := Paired.length rel
  have l2 : es.size = xs.length := size_of_entries hes
  have l3 : kvs.length = ns.length := by
    have e := congrArg List.length hv
    rw [List.length_map, List.length_map] at e
    exact e
  have raw : s.heap.DictRaw d es ep := ⟨o, ho, hx, hdat⟩
  have hval : ∀ (i : Nat) (v : Value), (∃ hi : i < es.size, v = es[i].val) → ∃ t : Tok, v = Value.int (ns.getD i 0) t := by
    rintro i v ⟨hi, rfl⟩
    have hk : i < kvs.length := by omega
    obtain ⟨q0, e0, r1, r2, r3⟩ := paired_get rel (List.getElem?_eq_getElem hk)
    have ee : es[i]? = some (entryOfKey (tupleKind (mixKind X.prog X.w)) q0) := by rw [entry_at hes i, e0]; rfl
    have ee2 : es[i] = entryOfKey (tupleKind (mixKind X.prog X.w)) q0 := by
      rw [Array.getElem?_eq_getElem hi] at ee
      exact Option.some.inj ee
    have en : (kvs.map (·.2))[i]? = (ns.map V.int)[i]? := by rw [hv]
    rw [List.getElem?_map, List.getElem?_map, List.getElem?_eq_getElem hk, List.getElem?_eq_getElem (by omega : i < ns.length)] at en
    have en2 : kvs[i].2 = V.int ns[i] := Option.some.inj en
    rw [en2] at r3
    obtain ⟨t, ht⟩ := r3
    refine ⟨t, ?_⟩
    rw [ee2, List.getD_eq_getElem?_getD, List.getElem?_eq_getElem (by omega : i < ns.length)]
    exact ht
  refine call_sum_walkAnyS ?_
  obtain ⟨oI, St, hit, W, st⟩ := (PySem.KdlSrc.rawValues (prog := X.prog) (w := X.w) (r := p) (d := d) (es := es) (ep := ep)).iter X.A.in1 s (I.ok.hd hc) ⟨view, raw⟩
  refine hit _ _ ⟨s.heap.objs.size, _, _, _, es.size, _, _, fun i => ns.getD i 0, rfl, W.toS, st, fun b hb => ?_, hval, fun s' t' hm => ?_⟩
  · show b < (s.heap.push oI).objs.size
    rw [size_push']
    rcases List.mem_cons.mp hb with e | hb
    · rw [e]; exact Nat.lt_succ_self _
    · rw [List.mem_singleton.mp hb]; exact Nat.lt_succ_of_lt (Heap.lt_size ho)
  · have hk : ∀ b o, s.heap.get? b = some o → s'.heap.get? b = some o := fun b o e =>
      hm.heap b o (fun hI => absurd (Heap.lt_size e) (by rw [List.mem_singleton.mp hI]; exact Nat.lt_irrefl _)) (Heap.get?_push_of_some _ e)
    rw [Moved.eq_with hm]
    have es1 : preSum (fun i => ns.getD i 0) es.size = ns.sum := by
      rw [l2, ← l1, l3, PyProof.Rows.preSum_getD, List.take_length]
    rw [es1]
    exact ⟨.int ns.sum, H, I.kept (t' := s'.toks) hk, ⟨t', rfl⟩, q⟩
end
/-! ### the plain law -/
theorem overB_perm {ps qs : List (Str × Str)} (h : ps.Perm qs) (l : List Str) (p : Str × Str) : overB ps l p = overB qs l p := by
  have e : decide (p.1 ∈ hits ps l) = decide (p.1 ∈ hits qs l) := decide_eq_decide.mpr (by
    rw [mem_hits, mem_hits]
    exact ⟨fun ⟨m, a, b⟩ => ⟨m, a, h.mem_iff.mp b⟩, fun ⟨m, a, b⟩ => ⟨m, a, h.mem_iff.mpr b⟩⟩)
  unfold overB
  rw [e]
theorem sum_perm {a b : List Int} (h : a.Perm b) : a.sum = b.sum := by
  induction h with
  | nil => rfl
  | cons x _ ih => rw [List.sum_cons, List.sum_cons, ih]
  | swap x y l => rw [List.sum_cons, List.sum_cons, List.sum_cons, List.sum_cons]; omega
  | trans _ _ i1 i2 => rw [i1, i2]
theorem price_perm {ps qs : List (Str × Str)} (h : ps.Perm qs) (f : Str × Str → Int) (l : List Str) : price ps f l = price qs f l := by
  unfold price over
  have e : ps.filter (overB ps l) = ps.filter (overB qs l) := List.filter_congr fun p _ => overB_perm h l p
  rw [e]
  exact sum_perm ((h.filter _).map f)
theorem pricesOf_perm {ps qs : List (Str × Str)} (h : ps.Perm qs) (f : Str × Str → Int) (sn : List Str) : pricesOf sn ps f = pricesOf sn qs f := List.map_congr_left fun l _ => by rw [price_perm h]
theorem mine_perm {ps qs : List (Str × Str)} (h : ps.Perm qs) (f : Str × Str → Int) (sn : List Str) (s : Str) : mine sn ps f s = mine sn qs f s := by
  unfold mine
  rw [pricesOf_perm h]
theorem subsF_mem : ∀ (l : List Str) (f : List (List Str)) (m : List Str) (t : List Str), m ∈ f → t.Sublist l → m ++ t ∈ l.foldl (fun found s => found ++ found.map (· ++ [s])) f
  | [], f, m, t, hm, ht => by
    rw [List.sublist_nil.mp ht, List.append_nil]
    exact hm
  | s :: l, f, m, t, hm, ht => by
    rw [List.foldl_cons]
    cases ht with
    | cons _ h => exact subsF_mem l _ m t (List.mem_append_left _ hm) h
    | cons_cons _ h =>
      rename_i t'
      have := subsF_mem l (f ++ f.map (· ++ [s])) (m ++ [s]) t' (List.mem_append_right _ (List.mem_map.mpr ⟨m, hm, rfl⟩)) h
      rw [List.append_assoc] at this
      exact this
theorem subs_mem {l t : List Str} (h : t.Sublist l) : t ∈ subs l := subsF_mem l [[]] [] t List.mem_cons_self h
theorem single_mem {sn : List Str} {s : Str} (h : s ∈ sn) : [s] ∈ lotsOf sn := (lotsOf_perm sn).mem_iff.mpr (subs_mem (List.singleton_sublist.mpr h))
theorem mine_iff {sn : List Str} {ps : List (Str × Str)} {f : Str × Str → Int} {s : Str} {q : Int × List Str} : q ∈ mine sn ps f s ↔ q.2 ∈ subs sn ∧ s ∈ q.2 ∧ q.1 = price ps f q.2 := by
  unfold mine
  rw [List.mem_filter, List.mem_map]
  constructor
  · rintro ⟨⟨l, hl, rfl⟩, h⟩
    exact ⟨(lotsOf_perm sn).mem_iff.mp hl, of_decide_eq_true h, rfl⟩
  · rintro ⟨a, b, c⟩
    exact ⟨⟨q.2, (lotsOf_perm sn).mem_iff.mpr a, Prod.ext c.symm rfl⟩, decide_eq_true b⟩
theorem mine_ne {sn : List Str} {ps : List (Str × Str)} {f : Str × Str → Int} {s : Str} (h : s ∈ sn) : mine sn ps f s ≠ [] := by
  have : (price ps f [s], [s]) ∈ mine sn ps f s := mine_iff.mpr ⟨(lotsOf_perm sn).mem_iff.mp (single_mem h), List.mem_cons_self, rfl⟩
  exact List.ne_nil_of_mem this
theorem sum_nonneg {l : List (Str × Str)} {f : Str × Str → Int} (h : ∀ p ∈ l, 1 ≤ f p) : 0 ≤ (l.map f).sum := by
  induction l with
  | nil => exact Int.le_refl _
  | cons p l ih =>
    have h1 := h p List.mem_cons_self
    have h2 := ih fun q hq => h q (List.mem_cons_of_mem _ hq)
    rw [List.map_cons, List.sum_cons]
    omega
theorem sum_zero {l : List (Str × Str)} {f : Str × Str → Int} (h : ∀ p ∈ l, 1 ≤ f p) : (l.map f).sum = 0 ↔ l = [] := by
  cases l with
  | nil => exact ⟨fun _ => rfl, fun _ => rfl⟩
  | cons p l =>
    have h1 := h p List.mem_cons_self
    have h2 := sum_nonneg (l := l) (f := f) fun q hq => h q (List.mem_cons_of_mem _ hq)
    rw [List.map_cons, List.sum_cons]
    exact ⟨fun z => by omega, fun z => by cases z⟩
theorem sum_mono {l : List (Str × Str)} {f : Str × Str → Int} {a b : Str × Str → Bool} (h : ∀ p ∈ l, 1 ≤ f p) (ab : ∀ p ∈ l, a p = true → b p = true) : ((l.filter a).map f).sum ≤ ((l.filter b).map f).sum := by
  induction l with
  | nil => exact Int.le_refl _
  | cons p l ih =>
    have h1 := h p List.mem_cons_self
    have h2 := ih (fun q hq => h q (List.mem_cons_of_mem _ hq)) fun q hq => ab q (List.mem_cons_of_mem _ hq)
    rw [List.filter_cons, List.filter_cons]
    cases ea : a p with
    | true =>
      rw [ab p List.mem_cons_self ea, if_pos rfl, if_pos rfl, List.map_cons, List.map_cons, List.sum_cons, List.sum_cons]
      omega
    | false =>
      rw [if_neg Bool.false_ne_true]
      cases eb : b p with
      | true =>
        rw [if_pos rfl, List.map_cons, List.sum_cons]
        omega
      | false =>
        rw [if_neg Bool.false_ne_true]
        exact h2
theorem price_nonneg {ps : List (Str × Str)} {f : Str × Str → Int} (h : ∀ p ∈ ps, 1 ≤ f p) (l : List Str) : 0 ≤ price ps f l := sum_nonneg fun p hp => h p (List.mem_filter.mp hp).1
/-- the least price is at most the weight of what objects to the statement -/
theorem least_le {sn : List Str} {ps : List (Str × Str)} {f : Str × Str → Int} {s : Str} {m : Int} (h : ∀ p ∈ ps, 1 ≤ f p) (hs : s ∈ sn) (hm : IsMin m ((mine sn ps f s).map (·.1))) : m ≤ ((ps.filter fun p => decide (p.2 = s)).map f).sum := by
  have h1 : price ps f [s] ∈ (mine sn ps f s).map (·.1) := List.mem_map.mpr ⟨(price ps f [s], [s]), mine_iff.mpr ⟨(lotsOf_perm sn).mem_iff.mp (single_mem hs), List.mem_cons_self, rfl⟩, rfl⟩
  refine Int.le_trans (hm.2 _ h1) ?_
  unfold price over
  refine sum_mono h fun p _ hp => ?_
  unfold overB at hp
  have := of_decide_eq_true (Bool.and_eq_true_iff.mp hp).1
  exact decide_eq_true (List.mem_singleton.mp this)
theorem over_nil {ps : List (Str × Str)} {l : List Str} : over ps l = [] ↔ heldB ps l = true := by
  unfold over heldB
  rw [List.filter_eq_nil_iff, Bool.and_eq_true, calmAll_iff]
  unfold answB overB
  constructor
  · intro h
    have key : ∀ p ∈ ps, p.2 ∈ l → ¬ p.1 ∈ l ∧ p.1 ∈ hits ps l := fun p hp h2 => by
      have := h p hp
      rw [decide_eq_true h2, Bool.true_and] at this
      refine ⟨fun z => this (by rw [decide_eq_true z]; rfl), ?_⟩
      by_cases z : p.1 ∈ hits ps l
      · exact z
      · exact absurd (by rw [decide_eq_false z]; exact Bool.or_true _) this
    refine ⟨fun p hp q => (key p hp q.2).1 q.1, List.all_eq_true.mpr fun m hm => List.all_eq_true.mpr fun o ho => decide_eq_true ?_⟩
    exact (key (o, m) (mem_tors.mp ho) hm).2
  · rintro ⟨h1, h2⟩ p hp z
    obtain ⟨z1, z2⟩ := Bool.and_eq_true_iff.mp z
    have z1 := of_decide_eq_true z1
    rcases Bool.or_eq_true_iff.mp z2 with z2 | z2
    · exact h1 p hp ⟨of_decide_eq_true z2, z1⟩
    · have := List.all_eq_true.mp (List.all_eq_true.mp h2 p.2 z1) p.1 (mem_tors.mpr hp)
      rw [this] at z2
      cases z2
/-- 0 just if the statement stands in some held lot -/
theorem least_zero {sn : List Str} {ps : List (Str × Str)} {f : Str × Str → Int} {s : Str} {m : Int} (h : ∀ p ∈ ps, 1 ≤ f p) (hm : IsMin m ((mine sn ps f s).map (·.1))) : m = 0 ↔ ∃ l ∈ subs sn, heldB ps l = true ∧ s ∈ l := by
  have pz : ∀ l, price ps f l = 0 ↔ heldB ps l = true := fun l => (sum_zero fun p hp => h p (List.mem_filter.mp hp).1).trans over_nil
  obtain ⟨h1, h2⟩ := hm
  constructor
  · rintro rfl
    obtain ⟨q, hq, e⟩ := List.mem_map.mp h1
    obtain ⟨a, b, c⟩ := mine_iff.mp hq
    exact ⟨q.2, a, (pz q.2).mp (c.symm.trans e), b⟩
  · rintro ⟨l, a, b, c⟩
    have h3 := h2 (price ps f l) (List.mem_map.mpr ⟨(price ps f l, l), mine_iff.mpr ⟨a, c, rfl⟩, rfl⟩)
    obtain ⟨q, hq, e⟩ := List.mem_map.mp h1
    obtain ⟨_, _, c2⟩ := mine_iff.mp hq
    have h4 := price_nonneg h q.2
    rw [(pz l).mpr b] at h3
    omega
theorem least_nonneg {sn : List Str} {ps : List (Str × Str)} {f : Str × Str → Int} {s : Str} {m : Int} (h : ∀ p ∈ ps, 1 ≤ f p) (hm : IsMin m ((mine sn ps f s).map (·.1))) : 0 ≤ m := by
  obtain ⟨q, hq, e⟩ := List.mem_map.mp hm.1
  rw [← e, (mine_iff.mp hq).2.2]
  exact price_nonneg h _
section
variable {P : Program} {w : World} {K : PySem.W.Frag} {mg : Str → Option Value} {base : Heap}
theorem cl_second (T : Top K mg) : Cl P w K mg base CX0 1 "_law_m_second" ["_law_pair"] spSecond := by
  refine Cl.of T.f_law_m_second T.g_law_m_second sc_law_m_second (fun _ _ _ _ _ _ us hl => match us, hl with | [_], _ => rfl) (fun vs H Q E h => ?_) (fun cdv A outer s H vs Q E hr h => ?_)
  · obtain ⟨t, x, y, rfl, _⟩ := h
    rfl
  · obtain ⟨t, x, y, rfl, ht, hq⟩ := h
    refine ⟨_, (pss_one (ps_ret (pe_ix (ixt_K K) (pv 0) pe_int (fun _ _ => rfl)))), ?_⟩
    exact ⟨_, rfl, t, _, 1, y, rfl, rfl, SqT.of ht, atI_nat (j := 1) rfl, hq⟩
theorem vals_rev : ∀ {zs : List V} {ws : List Value}, Vals zs ws → Vals zs.reverse ws.reverse
  | _, _, .nil => .nil
  | _, _, .cons a b => by
    rw [List.reverse_cons, List.reverse_cons]
    exact (vals_rev b).append (.cons a .nil)
theorem kk_least (T : Top K mg) : ClK P w K mg base (L2.CX P w) 5 "least_budget" ["debate", "weights", "statement"] ["statement", "weights", "debate"] List.reverse (spLeast K) :=
  ClK.by T.f_least_budget T.g_least_budget (cl_least T) List.reverse vals_rev fun _ _ _ _ _ _ ws hl => match ws, hl with | [_, _, _], _ => rfl
theorem kk_cheapest (T : Top K mg) : ClK P w K mg base (L2.CX P w) 5 "cheapest_lot" ["debate", "weights", "statement"] ["statement", "weights", "debate"] List.reverse (spCheapest K) :=
  ClK.by T.f_cheapest_lot T.g_cheapest_lot (cl_cheapest T) List.reverse vals_rev fun _ _ _ _ _ _ ws hl => match ws, hl with | [_, _, _], _ => rfl
theorem kk_most (T : Top K mg) : ClK P w K mg base (L2.CX P w) 5 "most_for" ["debate", "weights", "statement", "budget"] ["budget", "statement", "weights", "debate"] List.reverse (spMost K) :=
  ClK.by T.f_most_for T.g_most_for (cl_most T) List.reverse vals_rev fun _ _ _ _ _ _ ws hl => match ws, hl with | [_, _, _, _], _ => rfl
end
/-- to the arguments' end -/
theorem tNil_i {σ : L2.St} {H : Hp} {k : List V → Hp → Prop} (h : k [] H) : tNil σ H k := h
theorem subsG_len : ∀ (l : List Str) (f : List (List Str)) (m : List Str), m ∈ l.foldl (fun found s => found ++ found.map (· ++ [s])) f → ∃ m0 ∈ f, m.length ≤ m0.length + l.length
  | [], f, m, h => ⟨m, h, Nat.le_add_right _ _⟩
  | s :: l, f, m, h => by
    rw [List.foldl_cons] at h
    obtain ⟨m1, h1, h2⟩ := subsG_len l _ m h
    rcases List.mem_append.mp h1 with h1 | h1
    · exact ⟨m1, h1, by rw [List.length_cons]; omega⟩
    · obtain ⟨m0, h0, rfl⟩ := List.mem_map.mp h1
      refine ⟨m0, h0, ?_⟩
      rw [List.length_append] at h2
      rw [List.length_cons]
      simp only [List.length_singleton] at h2
      omega
theorem subs_le {l t : List Str} (h : t ∈ subs l) : t.length ≤ l.length := by
  obtain ⟨m0, h0, h1⟩ := subsG_len l [[]] t h
  rw [List.mem_singleton.mp h0] at h1
  simpa using h1
/-! ### the three, called with good weights -/
theorem wth_of {K : PySem.W.Frag} {H : Hp} {wa : Addr} {ws ps : List (Str × Str)} {f : Str × Str → Int} (h : WtF H wa ws f) (hp : ws.Perm ps) (h1 : ∀ p ∈ ws, 1 ≤ f p) : WTh K H ps (.ref wa) true := by
  have e : okT ps (ws.map fun p => (kP p, V.int (f p))) = true := by
    unfold okT
    rw [Bool.and_eq_true]
    refine ⟨decide_eq_true (by rw [List.length_map, hp.length_eq]), List.all_eq_true.mpr fun p hq => ?_⟩
    have hm := hp.mem_iff.mpr hq
    rw [valV_mapP (fun p => V.int (f p)), if_pos hm]
    exact decide_eq_true (h1 p hm)
  rw [← e]
  refine .tup h fun p v q => .inl ?_
  rw [valV_mapP (fun p => V.int (f p))] at q
  by_cases hm : p ∈ ws
  · rw [if_pos hm] at q
    exact ⟨_, (Option.some.inj q).symm⟩
  · rw [if_neg hm] at q
    cases q
structure Good (K : PySem.W.Frag) (H : Hp) (x wa : Addr) (s : Str) (sn : List Str) (ps : List (Str × Str)) (f : Str × Str → Int) : Prop where
  deb : Deb K H x sn ps
  th : WTh K H ps (.ref wa) true
  wt : Wt H wa ps f
  mem : s ∈ sn
theorem Good.same {K : PySem.W.Frag} {H H' : Hp} {x wa : Addr} {s : Str} {sn : List Str} {ps : List (Str × Str)} {f : Str × Str → Int} (h : Good K H x wa s sn ps f) (e : Same H H') : Good K H' x wa s sn ps f := ⟨h.deb.same e, h.th.same e, h.wt.same e, h.mem⟩
/-- what most_for tells -/
def MostV (sn : List Str) (ps : List (Str × Str)) (f : Str × Str → Int) (s : Str) (B : Int) (v : V) : Prop :=
  (((mine sn ps f s).filter fun q => decide (q.1 ≤ B)) = [] ∧ v = .non) ∨ ∃ m, IsMax m (((mine sn ps f s).filter fun q => decide (q.1 ≤ B)).map fun q => ((q.2.length : Nat) : Int)) ∧ v = .int m
theorem MostV.eq {sn : List Str} {ps : List (Str × Str)} {f : Str × Str → Int} {s : Str} {B : Int} {v w : V} (h : MostV sn ps f s B v) (g : MostV sn ps f s B w) : v = w := by
  rcases h with ⟨h1, rfl⟩ | ⟨m, h1, rfl⟩
  · rcases g with ⟨_, rfl⟩ | ⟨n, g1, rfl⟩
    · rfl
    · rw [h1] at g1
      exact nomatch g1.1
  · rcases g with ⟨g1, rfl⟩ | ⟨n, g1, rfl⟩
    · rw [g1] at h1
      exact nomatch h1.1
    · rw [h1.eq g1]
theorem MostV.flat {sn : List Str} {ps : List (Str × Str)} {f : Str × Str → Int} {s : Str} {B : Int} {v : V} (h : MostV sn ps f s B v) : isFlat v = true := by
  rcases h with ⟨_, rfl⟩ | ⟨_, _, rfl⟩ <;> rfl
section
variable {K : PySem.W.Frag} {H : Hp} {x wa : Addr} {s : Str} {sn : List Str} {ps : List (Str × Str)} {f : Str × Str → Int} {Q : VK} {E : XK} {m : Int}
theorem sp_least (g : Good K H x wa s sn ps f) (hm : IsMin m ((mine sn ps f s).map (·.1))) (q : ∀ H', Same H H' → Q (.int m) H') : spLeast K [.ref x, .ref wa, .str s] H Q E := by
  refine ⟨x, _, _, rfl, sn, ps, true, true, g.deb, g.th, (fun z => nomatch z), fun _ => ⟨.inl ⟨s, rfl, (decide_eq_true g.mem).symm⟩, (fun z => nomatch z), fun _ => ⟨wa, f, s, rfl, g.wt, rfl, mine_ne g.mem, fun H' n e hn => ?_⟩⟩⟩
  rw [hn.eq hm]
  exact q H' e
theorem sp_cheap {q0 : Int × List Str} (g : Good K H x wa s sn ps f) (hm : IsMin m ((mine sn ps f s).map (·.1))) (h0 : ((mine sn ps f s).filter fun q => decide (q.1 = m))[0]? = some q0)
    (q : ∀ H' t, Same H H' → H t = none → H' t = some (.lst (q0.2.map V.str)) → Q (.ref t) H') : spCheapest K [.ref x, .ref wa, .str s] H Q E := by
  refine ⟨x, _, _, rfl, sn, ps, true, true, g.deb, g.th, (fun z => nomatch z), fun _ => ⟨.inl ⟨s, rfl, (decide_eq_true g.mem).symm⟩, (fun z => nomatch z), fun _ => ⟨wa, f, s, rfl, g.wt, rfl, mine_ne g.mem, fun H' n r t e hn hr ht h' => ?_⟩⟩⟩
  rw [hn.eq hm, h0] at hr
  obtain rfl := Option.some.inj hr
  exact q H' t e ht h'
theorem sp_most {B : Int} (g : Good K H x wa s sn ps f) (hB : 0 ≤ B) (q : ∀ H' v, Same H H' → MostV sn ps f s B v → Q v H') : spMost K [.ref x, .ref wa, .str s, .int B] H Q E := by
  refine ⟨x, _, _, _, true, rfl, .inl ⟨B, rfl, (decide_eq_true hB).symm⟩, sn, ps, true, true, g.deb, g.th, (fun z => nomatch z), fun _ => ⟨.inl ⟨s, rfl, (decide_eq_true g.mem).symm⟩, (fun z => nomatch z), fun _ => ⟨wa, f, s, rfl, g.wt, rfl, (fun z => nomatch z), fun B' e _ H' e1 => ?_⟩⟩⟩
  obtain rfl := V.int.inj e
  exact ⟨fun z => q H' _ e1 (.inl ⟨z, rfl⟩), fun n hn => q H' _ e1 (.inr ⟨n, hn, rfl⟩)⟩
end
theorem SD.two {K : PySem.W.Frag} {H : Hp} {n : Nat} {a b : Addr} {x1 x2 y1 y2 : V} (ha : H a = some (.lst [x1, x2])) (hb : H b = some (.lst [y1, y2])) (h1 : SD K H n x1 y1) (h2 : SD K H n x2 y2) : SD K H (n + 1) (.ref a) (.ref b) :=
  .lst (SqL.of ha) (SqL.of hb) rfl (by show 2 ≤ _; decide) fun i x y p q => match i, p, q with
    | 0, p, q => by cases p; cases q; exact h1
    | 1, p, q => by cases p; cases q; exact h2
    | i + 2, p, _ => nomatch p
theorem SD.strs {K : PySem.W.Frag} {H : Hp} {n : Nat} {a b : Addr} {l : List Str} (ha : H a = some (.lst (l.map V.str))) (hb : H b = some (.lst (l.map V.str))) (hl : l.length ≤ 100000) : SD K H (n + 1) (.ref a) (.ref b) :=
  .lst (SqL.of ha) (SqL.of hb) rfl (by rw [List.length_map]; exact hl) fun i x y p q => by
    rw [p] at q
    obtain rfl := Option.some.inj q
    obtain ⟨s, _, rfl⟩ := get_map p
    exact .flat rfl
/-- all the checks of one name -/
def spRight (K : PySem.W.Frag) : Sp := fun vs H Q _ => ∃ (st cl a wa pr x : Addr) (s : Str) (sn : List Str) (ps ws : List (Str × Str)) (f : Str × Str → Int) (zs : List (V × (Str × Str))) (qs : List (V × (Int × List Str))) (N : Nat),
  vs = [.ref st, .ref a, .ref wa, .ref pr, .ref x, .str s] ∧ Strm N st cl H ∧ N < 1000000 ∧ Lof (hid2 st cl H) IsPair a zs ∧ (zs.map (·.2)).Perm ps ∧ zs.length ≤ 200 ∧ WtF (hid2 st cl H) wa ws f ∧ ws.Perm (zs.map (·.2)) ∧ (∀ p ∈ ws, 1 ≤ f p) ∧
  Deb K (hid2 st cl H) x sn ps ∧ s ∈ sn ∧ Lof (hid2 st cl H) IsPrice pr qs ∧ qs.map (·.2) = pricesOf sn ps f ∧ ∀ H', Stp st cl H H' → Strm (N + 1) st cl H' → Q (.bl true) H'
section
variable {P : Program} {w : World} {K : PySem.W.Frag} {mg : Str → Option Value} {base : Heap}
theorem cl_right (T : Top K mg) : Cl P w K mg base CX0 6 "_law_name_right" ["_law_stream", "_law_pairs", "_law_weights", "_law_prices", "_law_made", "_law_name"] (spRight K) := by
  have C_least_budget := cl_least (P := P) (w := w) (base := base) T
  have C_cheapest_lot := cl_cheapest (P := P) (w := w) (base := base) T
  have C_most_for := cl_most (P := P) (w := w) (base := base) T
  have C_stands := cl_stands (P := P) (w := w) (base := base) T
  have C_law_m_sum := cl_sum (P := P) (w := w) (base := base) T
  have C_law_draw := cl_draw (P := P) (w := w) (base := base) T
  refine Cl.of T.f_law_name_right T.g_law_name_right sc_law_name_right (fun _ _ _ _ _ _ us hl => match us, hl with | [_, _, _, _, _, _], _ => rfl) (fun vs H Q E h => ?_) (fun cdv A outer s H vs Q E hr h => ?_)
  · obtain ⟨st, cl, a, wa, pr, x, s, sn, ps, ws, f, zs, qs, N, rfl, _⟩ := h
    rfl
  · obtain ⟨st, cl, a, wa, pr, x, s, sn, ps, ws, f, zs, qs, N, rfl, hs, hN, hZ, hZp, zl, hW, hWp, hW1, hD, hsn, hQ, eQ, k⟩ := h
    have C_law_same := cl_same (P := P) (w := w) (base := base) T 2
    have K_least_budget := kk_least (P := P) (w := w) (base := base) T
    have K_cheapest_lot := kk_cheapest (P := P) (w := w) (base := base) T
    have K_most_for := kk_most (P := P) (w := w) (base := base) T
    refine ⟨_, (pss_cons (ps_setLc (i := 6) (own := [("_law_price", 13), ("_law_lot", 14)]) (g := gTup K 2 (gCons (gName 13) (gCons (gName 14) gNil))) rfl sc_law_name_right.nd rfl rfl (sw_true rfl rfl rfl (by decide +kernel)) (pi_K K (pv 3)) (blkOk_by (own := [("_law_price", 13), ("_law_lot", 14)]) (N := N_law_name_right) (sc := defScope s_law_name_right) (by decide +kernel)) (fun _ _ _ _ _ => (pgt_K K rfl (pgs_cons (pg_name (i := 13) sc_law_name_right.nd rfl (Or.inl rfl)) (pgs_cons (pg_name (i := 14) sc_law_name_right.nd rfl (Or.inl rfl)) pgs_nil)))) (fun _ _ _ _ _ => pts_one (pt_cmpR (in_K K) (pv 5) (pv 14) rfl)) (fun _ _ _ _ _ => (pe_tup (pa_cons (pv 13) (pa_cons (pv 14) pa_nil)))))
    (pss_cons (ps_set (i := 7) sc_law_name_right.nd rfl (Or.inr rfl) (pe_callB (min_K K rfl) (by rfl) T.z_min (by decide +kernel) (pa_cons (pe_lc (own := [("_law_price", 13), ("_law_lot", 14)]) (g := gTup K 2 (gCons (gName 13) (gCons (gName 14) gNil))) (tt := tYes) rfl sc_law_name_right.nd (pi_K K (pv 6)) (blkOk_by (own := [("_law_price", 13), ("_law_lot", 14)]) (N := N_law_name_right) (sc := defScope s_law_name_right) (by decide +kernel)) (fun _ _ _ _ _ => (pgt_K K rfl (pgs_cons (pg_name (i := 13) sc_law_name_right.nd rfl (Or.inl rfl)) (pgs_cons (pg_name (i := 14) sc_law_name_right.nd rfl (Or.inl rfl)) pgs_nil)))) (fun _ _ _ _ _ => pts_nil) (fun _ _ _ _ _ => (pv 13))) pa_nil)))
    (pss_cons (ps_set (i := 8) sc_law_name_right.nd rfl (Or.inl rfl) (pe_ix (ixl_K K) (pe_lc (own := [("_law_price", 13), ("_law_lot", 14)]) (g := gTup K 2 (gCons (gName 13) (gCons (gName 14) gNil))) rfl sc_law_name_right.nd (pi_K K (pv 6)) (blkOk_by (own := [("_law_price", 13), ("_law_lot", 14)]) (N := N_law_name_right) (sc := defScope s_law_name_right) (by decide +kernel)) (fun _ _ _ _ _ => (pgt_K K rfl (pgs_cons (pg_name (i := 13) sc_law_name_right.nd rfl (Or.inl rfl)) (pgs_cons (pg_name (i := 14) sc_law_name_right.nd rfl (Or.inl rfl)) pgs_nil)))) (fun _ _ _ _ _ => pts_one (pt_cmpR op_eq (pv 13) (pv 7) (nomark _))) (fun _ _ _ _ _ => (pv 14))) pe_int (fun _ _ => rfl)))
    (pss_cons (ps_if (pt_not (pt_val (pe_k C_law_same hr (by decide) pass0 (pa_cons (pe_lst (pa_cons (pe_k C_least_budget hr (by decide) passL (pa_cons (pv 4) (pa_cons (pv 2) (pa_cons (pv 5) pa_nil)))) (pa_cons (pe_k C_cheapest_lot hr (by decide) passL (pa_cons (pv 4) (pa_cons (pv 2) (pa_cons (pv 5) pa_nil)))) pa_nil))) (pa_cons (pe_lst (pa_cons (pv 7) (pa_cons (pv 8) pa_nil))) pa_nil)))))
    (pss_one (ps_ret pe_bl))
    pss_nil)
    (pss_cons (ps_expr (bm_K K PySem.F.plainAttrs_list PySem.F.slot_list_append PySem.F.type_list_append mt_append (pe_k C_cheapest_lot hr (by decide) passL (pa_cons (pv 4) (pa_cons (pv 2) (pa_cons (pv 5) pa_nil)))) (pa_cons pe_str pa_nil)))
    (pss_cons (ps_if (pt_not (pt_val (pe_k C_law_same hr (by decide) pass0 (pa_cons (pe_kk K_cheapest_lot hr (by decide) passL (pk_cons (pv 5) (pk_cons (pv 2) (pk_cons (pv 4) pk_nil)))) (pa_cons (pv 8) pa_nil)))))
    (pss_one (ps_ret pe_bl))
    pss_nil)
    (pss_cons (ps_if (pt_not (pt_val (pe_k C_law_same hr (by decide) pass0 (pa_cons (pe_kk K_least_budget hr (by decide) passL (pk_cons (pv 5) (pk_cons (pv 2) (pk_cons (pv 4) pk_nil)))) (pa_cons (pv 7) pa_nil)))))
    (pss_one (ps_ret pe_bl))
    pss_nil)
    (pss_cons (ps_if (pt_cmpR op_gt (pv 7) (pe_k C_law_m_sum hr (by decide) pass0 (pa_cons (pv 2) (pa_cons (pe_lc (own := [("_law_pair", 15)]) (g := gName 15) rfl sc_law_name_right.nd (pi_K K (pv 1)) (blkOk_by (own := [("_law_pair", 15)]) (N := N_law_name_right) (sc := defScope s_law_name_right) (by decide +kernel)) (fun _ _ _ _ _ => (pg_name (i := 15) sc_law_name_right.nd rfl (Or.inl rfl))) (fun _ _ _ _ _ => pts_one (pt_cmpR op_eq (pe_ix (ixt_K K) (pv 15) pe_int (fun _ _ => rfl)) (pv 5) (nomark _))) (fun _ _ _ _ _ => (pv 15))) pa_nil))) (nomark _))
    (pss_one (ps_ret pe_bl))
    pss_nil)
    (pss_cons (ps_if (pt_cmpR op_ne (pe_cmpR op_eq (pv 7) pe_int (nomark _)) (pe_k C_stands hr (by decide) passL (pa_cons (pv 4) (pa_cons pe_str (pa_cons (pv 5) (pa_cons pe_str pa_nil))))) (nomark _))
    (pss_one (ps_ret pe_bl))
    pss_nil)
    (pss_cons (ps_for PassesOwn.never rfl (pi_K K (pe_lst (pa_cons (pv 7) (pa_cons (pe_callB (call_max2 rfl) (by rfl) T.z_max (by decide +kernel) (pa_cons pe_int (pa_cons (pe_op op_sub (pv 7) pe_int) pa_nil))) (pa_cons (pe_op op_add (pv 7) (pe_k C_law_draw hr (by decide) pass0 (pa_cons (pv 0) (pa_cons pe_int pa_nil)))) (pa_cons (pe_callB (cr_sumVals rfl) (by rfl) T.z_sum (by decide +kernel) (pa_cons (bm0_K K PySem.F.plainAttrs_dict PySem.F.slot_dict_values PySem.F.type_dict_values mt_valuesT (pv 2)) pa_nil)) pa_nil)))))) (pg_name (i := 9) sc_law_name_right.nd rfl (Or.inr rfl))
    (pss_cons (ps_setLc (i := 10) (own := [("_law_price", 13), ("_law_lot", 14)]) (g := gTup K 2 (gCons (gName 13) (gCons (gName 14) gNil))) rfl sc_law_name_right.nd rfl rfl (sw_true rfl rfl rfl (by decide +kernel)) (pi_K K (pv 6)) (blkOk_by (own := [("_law_price", 13), ("_law_lot", 14)]) (N := N_law_name_right) (sc := defScope s_law_name_right) (by decide +kernel)) (fun _ _ _ _ _ => (pgt_K K rfl (pgs_cons (pg_name (i := 13) sc_law_name_right.nd rfl (Or.inl rfl)) (pgs_cons (pg_name (i := 14) sc_law_name_right.nd rfl (Or.inl rfl)) pgs_nil)))) (fun _ _ _ _ _ => pts_one (pt_cmpR op_le (pv 13) (pv 9) (nomark _))) (fun _ _ _ _ _ => (pe_callB (len_K K) (by rfl) T.z_len (by decide +kernel) (pa_cons (pv 14) pa_nil))))
    (pss_cons (ps_set (i := 11) sc_law_name_right.nd rfl (Or.inl rfl) (pe_ifExp (pt_cmpR (neD_K K hr.units) (pv 10) (pe_lst pa_nil) (nomark _)) (pe_callB (max_K K rfl) (by rfl) T.z_max (by decide +kernel) (pa_cons (pv 10) pa_nil)) pe_non))
    (pss_cons (ps_set (i := 12) sc_law_name_right.nd rfl (Or.inl rfl) (pe_lst (pa_cons (pe_k C_most_for hr (by decide) passL (pa_cons (pv 4) (pa_cons (pv 2) (pa_cons (pv 5) (pa_cons (pv 9) pa_nil))))) pa_nil)))
    (pss_one (ps_if (pt_not (pt_val (pe_k C_law_same hr (by decide) pass0 (pa_cons (pe_op op_cat (pv 12) (pe_lst (pa_cons (pe_kk K_most_for hr (by decide) passL (pk_cons (pv 9) (pk_cons (pv 5) (pk_cons (pv 2) (pk_cons (pv 4) pk_nil))))) pa_nil))) (pa_cons (pe_op op_rep (pe_lst (pa_cons (pv 11) pa_nil)) pe_int) pa_nil)))))
    (pss_one (ps_ret pe_bl))
    pss_nil))))))
    (pss_one (ps_ret pe_bl)))))))))))), ?_⟩
    have G0 : Good K (hid2 st cl H) x wa s sn ps f := ⟨hD, wth_of hW (hWp.trans hZp) hW1, hW.wt fun p hp => (hWp.trans hZp).mem_iff.mpr hp, hsn⟩
    have ql : qs.length ≤ 1024 := by
      have q := congrArg List.length eQ
      rw [List.length_map, List.length_map, (lotsOf_perm sn).length_eq, subs_len] at q
      have := pow_le hD.len
      omega
    obtain ⟨qh1, qh2⟩ := hQ
    have q1 := hid2_le _ _ _ _ _ qh1
    -- the lots with the name
    refine ⟨_, rfl, pr, rfl, ⟨_, SqL.of q1⟩, fun D hDn => ?_⟩
    refine lc_rel (K := K) (a := pr) (fun z : V × (Int × List Str) => z.1) qs (fun z => if decide (s ∈ z.2.2) = true then some z.2 else none)
      (fun H3 v q => ∃ t l, v = .ref t ∧ t ≠ D ∧ l ≠ D ∧ ((t ≠ st ∧ t ≠ cl) ∧ l ≠ st ∧ l ≠ cl) ∧ H3 t = some (.tup [.int q.1, .ref l]) ∧ H3 l = some (.lst (q.2.map V.str))) (SqL.of q1) hDn (lt_sl (by omega))
      (fun _ _ _ _ e r => by obtain ⟨t, l, a1, a4, a5, a8, a6, a7⟩ := r; exact ⟨t, l, a1, a4, a5, a8, e _ _ a4 a6, e _ _ a5 a7⟩) ?_ ?_
    · intro z hz H3 acc kk1 kk0 s3 h3 kk kn
      obtain ⟨t, l, et, a4, hl⟩ := qh2 z hz
      obtain ⟨lt, rfl, a5⟩ := hl
      have a4' := s3 _ _ (hid2_le _ _ _ _ _ a4)
      have a5' := s3 _ _ (hid2_le _ _ _ _ _ a5)
      refine ⟨t, _, et, SqT.of a4', rfl, _, _, rfl, _, _, rfl, rfl, rfl, _, rfl, _, rfl, lt, _, rfl, .inl (SqL.of a5'), rfl, flat_strs _, _, rfl, ?_⟩
      have e : (if false = true then !inV (.str s) (z.2.2.map V.str) else inV (.str s) (z.2.2.map V.str)) = decide (s ∈ z.2.2) := by rw [if_neg Bool.false_ne_true, inV_str]
      by_cases q : s ∈ z.2.2
      · refine iteB1 (by rw [e, decide_eq_true q]) ⟨_, rfl, _, rfl, le_sl (by show 2 ≤ _; decide), fun r hr' => ?_⟩
        exact kk _ z.2 _ (same_new hr') (if_pos (decide_eq_true q)) ⟨r, lt, rfl, (ne_of_none h3 hr').symm, ne_of_none (hid2_le _ _ _ _ _ a5) hDn, ⟨hs.fst (s3.free hr'), (fun z => by rw [z, hid2_st] at a5; cases a5), fun z => by rw [z, hid2_cl] at a5; cases a5⟩, upd_same, same_new hr' _ _ a5'⟩
      · exact iteB0 (by rw [e, decide_eq_false q]) (kn _ (fun _ _ e => e) (if_neg (by rw [decide_eq_false q]; decide)))
    · intro H1 zz s1 h1 e1 n1
      have e2 : zz.map (·.2) = mine sn ps f s := by
        rw [e1, fmIf (fun z : V × (Int × List Str) => decide (s ∈ z.2.2)) (fun z => z.2)]
        unfold mine
        rw [← eQ, List.filter_map]
        rfl
      have zzl : zz.length ≤ 1024 := by
        have q := mine_len (ps := ps) (f := f) (s := s) hD.len
        rw [← e2, List.length_map] at q
        exact q
      -- the least
      refine ⟨_, rfl, D, rfl, ⟨_, SqL.of h1⟩, fun D2 hD2 => ?_⟩
      refine lc_map (fun z : V × (Int × List Str) => z.1) zz (fun z => .int z.2.1) (SqL.of h1) hD2 (lt_sl (by omega)) (fun z hz H2 k1 s2 kk => ?_) fun H2 s2 h2 => ?_
      · obtain ⟨t, l, et, _, _, _, a4, a5⟩ := n1 z hz
        exact ⟨t, _, et, SqT.of (s2 _ _ a4), rfl, _, _, rfl, _, _, rfl, rfl, rfl, _, rfl, kk _ _ (fun _ _ e => e) rfl⟩
      · have e3 : zz.map (fun z => z.2.1) = (mine sn ps f s).map (·.1) := by rw [← e2, List.map_map]; rfl
        refine ⟨D2, zz.map (fun z => z.2.1), rfl, SqL.of (by rw [h2, List.map_map]; rfl), ?_, fun m hm hle => ?_⟩
        · rw [e3, List.length_map]
          exact List.length_pos_iff.mpr (mine_ne hsn)
        · have hmin : IsMin m ((mine sn ps f s).map (·.1)) := by
            rw [e3] at hm hle
            exact ⟨hm, hle⟩
          -- the first
          refine ⟨_, rfl, D, rfl, ⟨_, SqL.of (s2 _ _ h1)⟩, fun D3 hD3 => ?_⟩
          refine lc_fm (fun z : V × (Int × List Str) => z.1) zz (fun z => if decide (z.2.1 = m) = true then some (lotV H1 z.1) else none) (SqL.of (s2 _ _ h1)) hD3 (lt_sl (by omega)) (fun z hz H3 k1 k0 s3 kk kn => ?_) fun H3 s3 h3 => ?_
          · obtain ⟨t, l, et, _, _, _, a4, a5⟩ := n1 z hz
            have a4' := s2 _ _ a4
            refine ⟨t, _, et, SqT.of (s3 _ _ a4'), rfl, _, _, rfl, _, _, rfl, rfl, rfl, _, rfl, _, rfl, rfl, _, rfl, ?_⟩
            by_cases q : z.2.1 = m
            · refine iteB1 (dT (congrArg V.int q)) ⟨_, rfl, kk _ _ (fun _ _ e => e) ((if_pos (decide_eq_true q)).trans ?_)⟩
              rw [et, lotV_eq a4]
            · exact iteB0 (dF fun z => q (V.int.inj z)) (kn _ (fun _ _ e => e) (if_neg (by rw [decide_eq_false q]; decide)))
          · rw [fmIf (fun z : V × (Int × List Str) => decide (z.2.1 = m)) (fun z => lotV H1 z.1)] at h3
            have ef : (mine sn ps f s).filter (fun q => decide (q.1 = m)) = (zz.filter fun z => decide (z.2.1 = m)).map (·.2) := by
              rw [← e2, List.filter_map]
              rfl
            have hne : (zz.filter fun z => decide (z.2.1 = m)) ≠ [] := fun z => by
              obtain ⟨y, hy, ey⟩ := List.mem_map.mp hm
              have : y ∈ zz.filter fun z => decide (z.2.1 = m) := List.mem_filter.mpr ⟨hy, decide_eq_true ey⟩
              rw [z] at this
              cases this
            obtain ⟨y, r, ey⟩ := List.exists_cons_of_ne_nil hne
            have hy : y ∈ zz := (List.mem_filter.mp (by rw [ey]; exact List.mem_cons_self : y ∈ zz.filter fun z => decide (z.2.1 = m))).1
            obtain ⟨t, l, et, _, _, _, a4, a5⟩ := n1 y hy
            have el : lotV H1 y.1 = .ref l := by rw [et, lotV_eq a4]
            refine ⟨D3, _, 0, .ref l, rfl, rfl, SqL.of h3, atI_nat (j := 0) ?_, ?_⟩
            · rw [ey, List.map_cons, el]
              rfl
            · have hf0 : ((mine sn ps f s).filter fun q => decide (q.1 = m))[0]? = some y.2 := by rw [ef, ey]; rfl
              have t03 : Same H1 H3 := s2.trans s3
              have s03 : Same H H3 := s1.trans t03
              have gG : ∀ {H' : Hp}, Same H H' → Good K H' x wa s sn ps f := fun e => G0.same ((hid2_le st cl H).trans e)
              have yl : y.2.2.length ≤ 100000 := by
                have hy2 : y.2 ∈ mine sn ps f s := by
                  rw [← e2]
                  exact List.mem_map_of_mem hy
                exact Nat.le_trans (subs_le (mine_iff.mp hy2).1) (Nat.le_trans hD.len (by decide))
              refine ⟨_, rfl, _, rfl, _, rfl, ?_⟩
              refine tNil_i ?_
              refine sp_least (gG s03) hmin fun H4 s4 => ?_
              refine ⟨_, rfl, _, rfl, _, rfl, ?_⟩
              refine tNil_i ?_
              refine sp_cheap (gG (s03.trans s4)) hmin hf0 fun H5 u s5 hu h5 => ?_
              refine ⟨le_sl (by show 2 ≤ _; decide), fun p1 hp1 => ?_⟩
              have e6 := same_new (o := .lst [.int m, .ref u]) hp1
              refine ⟨_, rfl, _, rfl, le_sl (by show 2 ≤ _; decide), fun p2 hp2 => ?_⟩
              have e7 := same_new (o := .lst [.int m, .ref l]) hp2
              have hl3 := s4.trans (s5.trans (e6.trans e7)) _ _ ((s2.trans s3) _ _ a5)
              refine ⟨_, _, rfl, SD.two (e7 _ _ upd_same) upd_same (.flat rfl) (SD.strs (e6.trans e7 _ _ h5) hl3 yl), fun H6 s6 => ?_⟩
              have t06 := t03.trans (s4.trans (s5.trans (e6.trans (e7.trans s6))))
              refine ⟨true, rfl, iteB0 rfl ?_⟩
              have s06 := s1.trans t06
              have hl6 := s6 _ _ hl3
              clear h5 hl3 e6 e7 hp1 hp2 hu s4 s5
              -- a changed answer
              refine ⟨_, rfl, _, rfl, _, rfl, tNil_i ?_⟩
              refine sp_cheap (gG s06) hmin hf0 fun H7 u2 s7 hu2 h7 => ?_
              refine ⟨.inl ⟨rfl, _, SqL.of h7⟩, u2, _, _, rfl, rfl, h7, lt_sl (by rw [List.length_map]; omega), ?_⟩
              have t08 := t06.trans (same_upd (o := .lst (y.2.2.map V.str ++ [.str (Str.ofString "late")])) s7 hu2)
              have s08 := s1.trans t08
              have hl8 := same_upd (o := .lst (y.2.2.map V.str ++ [.str (Str.ofString "late")])) s7 hu2 _ _ hl6
              clear hl6 h7 s7 hu2
              -- by keywords
              refine ⟨_, rfl, _, rfl, _, rfl, tNil_i ⟨rfl, ?_⟩⟩
              refine sp_cheap (gG s08) hmin hf0 fun H9 u3 s9 hu3 h9 => ?_
              refine ⟨_, rfl, _, _, rfl, SD.strs h9 (s9 _ _ hl8) yl, fun H10 s10 => ⟨true, rfl, iteB0 rfl ?_⟩⟩
              have t010 := t08.trans (s9.trans s10)
              have s010 := s1.trans t010
              refine ⟨_, rfl, _, rfl, _, rfl, tNil_i ⟨rfl, ?_⟩⟩
              refine sp_least (gG s010) hmin fun H11 s11 => ?_
              refine ⟨_, rfl, _, _, rfl, .flat rfl, fun H12 s12 => ⟨true, rfl, iteB0 rfl ?_⟩⟩
              have t012 := t010.trans (s11.trans s12)
              have s012 := s1.trans t012
              clear h9 hu3 s9 s10 s11 s12 hl8
              -- the weight of what objects to the name
              have hZ12 := (hid2_le _ _ _ _ _ hZ.1)
              have hW12 : Same (hid2 st cl H) H12 := (hid2_le st cl H).trans s012
              refine ⟨_, rfl, _, rfl, _, rfl, a, rfl, ⟨_, SqL.of (s012 _ _ hZ12)⟩, fun D4 hD4 => ?_⟩
              refine lc_fm (fun z : V × (Str × Str) => z.1) zs (fun z => if decide (z.2.2 = s) = true then some z.1 else none) (SqL.of (s012 _ _ hZ12)) hD4 (lt_sl (by omega)) (fun z hz H13 k1 k0 s13 kk kn => ?_) fun H13 s13 h13 => ?_
              · obtain ⟨t, et, hp⟩ := hZ.2 z hz
                have hp' := s13 _ _ (s012 _ _ (hid2_le _ _ _ _ _ hp))
                refine ⟨rfl, _, rfl, t, _, 1, .str z.2.2, et, rfl, SqT.of hp', atI_nat (j := 1) rfl, _, rfl, rfl, _, rfl, ?_⟩
                by_cases q : z.2.2 = s
                · exact iteB1 (dT (congrArg V.str q)) ⟨_, rfl, kk _ _ (fun _ _ e => e) (if_pos (decide_eq_true q))⟩
                · exact iteB0 (dF fun z => q (V.str.inj z)) (kn _ (fun _ _ e => e) (if_neg (by rw [decide_eq_false q]; decide)))
              · rw [fmIf (fun z : V × (Str × Str) => decide (z.2.2 = s)) (fun z => z.1)] at h13
                have t013 := t012.trans s13
                have s013 := s1.trans t013
                have hW13 : Same (hid2 st cl H) H13 := (hid2_le st cl H).trans s013
                refine ⟨wa, D4, zs.filter (fun z => decide (z.2.2 = s)), f, rfl, ⟨h13, fun z hz => (hZ.2 z (List.mem_filter.mp hz).1).same hW13⟩, Nat.le_trans (List.length_filter_le _ _) zl, ((hW.wt fun p hp => ?_).same hW13), fun H14 s14 => ?_⟩
                · obtain ⟨z, hz, ez⟩ := List.mem_map.mp hp
                  exact hWp.mem_iff.mpr (List.mem_map.mpr ⟨z, (List.mem_filter.mp hz).1, ez⟩)
                · have e14 : (((zs.filter fun z : V × (Str × Str) => decide (z.2.2 = s)).map (·.2)).map f).sum = ((ps.filter fun p => decide (p.2 = s)).map f).sum := by
                    have e : (zs.filter fun z => decide (z.2.2 = s)).map (·.2) = (zs.map (·.2)).filter fun p => decide (p.2 = s) := by
                      rw [List.filter_map]
                      rfl
                    rw [e]
                    exact sum_perm ((hZp.filter _).map f)
                  have w1 : ∀ p ∈ ps, 1 ≤ f p := fun p hp => hW1 p ((hWp.trans hZp).mem_iff.mpr hp)
                  have le14 := least_le w1 hsn hmin
                  rw [e14]
                  refine ⟨_, _, rfl, rfl, _, rfl, iteB0 (decide_eq_false (by omega)) ?_⟩
                  have t014 := t013.trans s14
                  have s014 := s1.trans t014
                  clear hZ12 hW12 h13 hW13 s14 yl le14 e14
                  -- nought just if it stands
                  have e15 : decide (V.int m = V.int 0) = decide (∃ l ∈ subs sn, heldB ps l = true ∧ s ∈ l) := decide_eq_decide.mpr ⟨fun z => (least_zero w1 hmin).mp (V.int.inj z), fun z => congrArg V.int ((least_zero w1 hmin).mpr z)⟩
                  refine ⟨_, rfl, rfl, _, rfl, _, rfl, x, s, sn, ps, rfl, (gG s014).deb, hsn, fun H15 s15 => ⟨rfl, _, rfl, iteB0 ?_ ?_⟩⟩
                  · rw [e15]
                    rw [decide_eq_true rfl]
                    rfl
                  · have t015 := t014.trans s15
                    have s015 := s1.trans t015
                    have s015' := s015
                    have hs15 := hs.same s015
                    have DD := hs.fst hDn
                    have gD : hid2 st cl H15 D = some (.lst (zz.map (·.1))) := by
                      rw [hid2_ne DD.1 DD.2]
                      exact t015 _ _ h1
                    have gz : ∀ z ∈ zz, ∃ t l, z.1 = .ref t ∧ hid2 st cl H15 t = some (.tup [.int z.2.1, .ref l]) ∧ hid2 st cl H15 l = some (.lst (z.2.2.map V.str)) := fun z hz => by
                      obtain ⟨t, l, et, _, _, ⟨⟨b1, b2⟩, b3, b4⟩, a4, a5⟩ := n1 z hz
                      exact ⟨t, l, et, by rw [hid2_ne b1 b2]; exact t015 _ _ a4, by rw [hid2_ne b3 b4]; exact t015 _ _ a5⟩
                    have gg : Good K (hid2 st cl H15) x wa s sn ps f := G0.same (Stp.of s015)
                    have gw : WtF (hid2 st cl H15) wa ws f := (Stp.of s015) _ _ hW
                    have m0 := least_nonneg w1 hmin
                    clear t015 t014 t013 t012 t010 t08 t06 t03 s014 s013 s012 s010 s08 s06 s03 s15 e15 gG n1
                    refine ⟨_, rfl, _, rfl, _, _, rfl, rfl, _, _, rfl, _, rfl, _, rfl, st, cl, 9, N, rfl, hs15, by omega, by decide, by decide, fun H16 d t16 s16 d0 d1 => ?_⟩
                    refine ⟨_, _, rfl, rfl, _, rfl, .inr (.inr (.inl ⟨rfl, .inr ⟨_, hid2_le _ _ _ _ _ (t16 _ _ gw)⟩⟩)), wa, _, rfl, rfl, hid2_le _ _ _ _ _ (t16 _ _ gw), fun p17 hp17 => ?_⟩
                    have f17 := hid2_new s16 hp17
                    have e17 : Same (hid2 st cl H15) (hid2 st cl (upd H16 p17 (valsO p17 wa))) := t16.trans (Stp.of (same_new hp17))
                    refine ⟨p17, wa, _, ws.map f, rfl, upd_same, same_new hp17 _ _ (hid2_le _ _ _ _ _ (t16 _ _ gw)), by rw [List.map_map, List.map_map]; rfl, ?_⟩
                    refine ⟨le_sl (by show 4 ≤ _; decide), fun LB hLB => ⟨LB, rfl, ⟨_, SqL.of upd_same⟩, ?_⟩⟩
                    have e18 := same_new (o := .lst [V.int m, V.int (if m - 1 > 0 then m - 1 else 0), V.int (m + d), V.int (ws.map f).sum]) hLB
                    have s18 := (s16.same (same_new (o := valsO p17 wa) hp17)).same e18
                    have e19 := e17.trans (Stp.of (st := st) (cl := cl) e18)
                    have hLB2 : (upd (upd H16 p17 (valsO p17 wa)) LB (.lst [V.int m, V.int (if m - 1 > 0 then m - 1 else 0), V.int (m + d), V.int (ws.map f).sum])) LB = some (.lst ([m, if m - 1 > 0 then m - 1 else 0, m + d, (ws.map f).sum].map V.int)) := upd_same
                    have bs0 : ∀ b ∈ [m, if m - 1 > 0 then m - 1 else 0, m + d, (ws.map f).sum], (0 : Int) ≤ b := by
                      have w0 := sum_nonneg (l := ws) (f := f) hW1
                      intro b hb
                      rcases List.mem_cons.mp hb with rfl | hb
                      · exact m0
                      rcases List.mem_cons.mp hb with rfl | hb
                      · split <;> omega
                      rcases List.mem_cons.mp hb with rfl | hb
                      · omega
                      · rw [List.mem_singleton.mp hb]
                        exact w0
                    generalize upd (upd H16 p17 (valsO p17 wa)) LB (.lst [V.int m, V.int (if m - 1 > 0 then m - 1 else 0), V.int (m + d), V.int (ws.map f).sum]) = H19 at s18 e19 hLB2
                    generalize [m, if m - 1 > 0 then m - 1 else 0, m + d, (ws.map f).sum] = bs at hLB2 bs0
                    refine for_it walk_list (fun i σ H2 => Same H19 H2 ∧ ∃ u1 u2 u3 u4 u5 u6 u7, σ = [some (.ref st), some (.ref a), some (.ref wa), some (.ref pr), some (.ref x), some (.str s), some (.ref D), some (.int m), some (.ref l), u1, u2, u3, u4, u5, u6, u7])
                      ⟨(fun _ _ e => e), _, _, _, _, _, _, _, rfl⟩ (fun i σ H2 _ h => SqL.of (h.1 _ _ hLB2)) ?_ ?_
                    · rintro i v0 σ H2 H3 hi ⟨r2, u1, u2, u3, u4, u5, u6, u7, rfl⟩ ⟨rfl, hv⟩
                      obtain ⟨B, hB, rfl⟩ := get_map hv
                      have hB0 := bs0 B (List.mem_of_getElem? hB)
                      have e20 : Same (hid2 st cl H15) H3 := Same.trans e19 (Same.trans (hid2_le st cl H19) r2)
                      refine ⟨_, rfl, D, rfl, ⟨_, SqL.of (e20 _ _ gD)⟩, fun D5 hD5 => ?_⟩
                      refine lc_fm (fun z : V × (Int × List Str) => z.1) zz (fun z => if decide (z.2.1 ≤ B) = true then some (.int ((z.2.2.length : Nat) : Int)) else none) (SqL.of (e20 _ _ gD)) hD5 (lt_sl (by omega)) (fun z hz H4 k1 k0 s4 kk kn => ?_) fun H4 s4 h4 => ?_
                      · obtain ⟨t, l, et, a4, a5⟩ := gz z hz
                        refine ⟨t, _, et, SqT.of (s4 _ _ (e20 _ _ a4)), rfl, _, _, rfl, _, _, rfl, rfl, rfl, _, rfl, _, rfl, _, _, rfl, rfl, _, rfl, ?_⟩
                        by_cases q : z.2.1 ≤ B
                        · refine iteB1 (dT q) ⟨_, rfl, l, _, rfl, .inl (SqL.of (s4 _ _ (e20 _ _ a5))), kk _ _ (fun _ _ e => e) ((if_pos (decide_eq_true q)).trans ?_)⟩
                          rw [List.length_map]
                        · exact iteB0 (dF q) (kn _ (fun _ _ e => e) (if_neg (by rw [decide_eq_false q]; decide)))
                      · rw [fmIf (fun z : V × (Int × List Str) => decide (z.2.1 ≤ B)) (fun z => V.int ((z.2.2.length : Nat) : Int))] at h4
                        have ef4 : (mine sn ps f s).filter (fun q => decide (q.1 ≤ B)) = (zz.filter fun z => decide (z.2.1 ≤ B)).map (·.2) := by
                          rw [← e2, List.filter_map]
                          rfl
                        have e4 : (zz.filter fun z => decide (z.2.1 ≤ B)).map (fun z => V.int ((z.2.2.length : Nat) : Int)) = (((mine sn ps f s).filter (fun q => decide (q.1 ≤ B))).map fun q => ((q.2.length : Nat) : Int)).map V.int := by
                          rw [ef4, List.map_map, List.map_map]
                          rfl
                        rw [e4] at h4
                        have e21 := Same.trans e20 s4
                        have r4 := r2.trans s4
                        dsimp only
                        refine seq_cut (fun σ H5 => ∃ v, MostV sn ps f s B v ∧ Same H4 H5 ∧ ∃ u4 u5 u6 u7, σ = [some (.ref st), some (.ref a), some (.ref wa), some (.ref pr), some (.ref x), some (.str s), some (.ref D), some (.int m), some (.ref l), some (.int B), some (.ref D5), some v, u4, u5, u6, u7]) ?_ ?_
                        · rintro σ H5 ⟨v, hv, s5, u4, u5, u6, u7, rfl⟩
                          have e22 := Same.trans e21 s5
                          refine ⟨_, rfl, _, rfl, _, rfl, _, rfl, tNil_i ?_⟩
                          refine sp_most (gg.same e22) hB0 fun H6 v6 s6 hv6 => ?_
                          obtain rfl := hv.eq hv6
                          refine ⟨le_sl (by show 1 ≤ _; decide), fun p1 hp1 => ?_⟩
                          have s61 := same_new (o := .lst [v]) hp1
                          have h61 : upd H6 p1 (.lst [v]) p1 = some (.lst [v]) := upd_same
                          refine ⟨_, rfl, _, rfl, _, rfl, _, rfl, _, rfl, tNil_i ⟨rfl, ?_⟩⟩
                          refine sp_most (gg.same (Same.trans e22 (Same.trans s6 s61))) hB0 fun H7 v7 s7 hv7 => ?_
                          obtain rfl := hv.eq hv7
                          refine ⟨le_sl (by show 1 ≤ _; decide), fun p2 hp2 => ?_⟩
                          have s71 := same_new (o := .lst [v]) hp2
                          refine ⟨p1, p2, _, _, rfl, rfl, s71 _ _ (s7 _ _ h61), upd_same, le_sl (by show 2 ≤ _; decide), fun p3 hp3 => ?_⟩
                          have s81 := same_new (o := .lst ([v] ++ [v])) hp3
                          refine ⟨_, rfl, le_sl (by show 1 ≤ _; decide), fun p4 hp4 => ?_⟩
                          have s91 := same_new (o := .lst [v]) hp4
                          refine ⟨p4, 2, _, rfl, rfl, upd_same, by decide, by decide, le_sl (by show 1 * 2 ≤ _; decide), fun p5 hp5 => ?_⟩
                          have sA1 := same_new (o := .lst (List.replicate (2 : Int).toNat [v]).flatten) hp5
                          refine ⟨_, _, rfl, SD.two (sA1 _ _ (s91 _ _ upd_same)) upd_same (.flat hv.flat) (.flat hv.flat), fun H8 s8 => ⟨true, rfl, iteB0 rfl ?_⟩⟩
                          exact ⟨r4.trans (s5.trans (s6.trans (s61.trans (s7.trans (s71.trans (s81.trans (s91.trans (sA1.trans s8)))))))), _, _, _, _, _, _, _, rfl⟩
                        · intro X hX
                          have hz : ∀ mm, IsMax mm (((mine sn ps f s).filter (fun q => decide (q.1 ≤ B))).map fun q => ((q.2.length : Nat) : Int)) → MostV sn ps f s B (.int mm) := fun mm hmm => .inr ⟨mm, hmm, rfl⟩
                          have hz0 : (((mine sn ps f s).filter (fun q => decide (q.1 ≤ B))).map fun q => ((q.2.length : Nat) : Int)) = [] → MostV sn ps f s B .non := fun z => .inl ⟨List.map_eq_nil_iff.mp z, rfl⟩
                          generalize (((mine sn ps f s).filter (fun q => decide (q.1 ≤ B))).map fun q => ((q.2.length : Nat) : Int)) = sizes at h4 hz hz0
                          refine ⟨_, rfl, le_sl (Nat.zero_le _), fun r hr' => ?_⟩
                          have s41 := same_new (o := .lst []) hr'
                          have h4' := s41 _ _ h4
                          refine ⟨.list (sizes.map .int), .list [], .lst (SqL.of h4') (dpAll_ints _), .lst (SqL.of upd_same) .nil, shaped_ints _, by rfl, _, rfl, ?_⟩
                          rw [eqv_nil]
                          cases sizes with
                          | nil => exact iteB0 rfl (hX _ _ ⟨_, hz0 rfl, s41, _, _, _, _, rfl⟩)
                          | cons n ns => exact iteB1 rfl ⟨_, rfl, D5, n :: ns, rfl, SqL.of h4', Nat.succ_pos _, fun mm hm hle => hX _ _ ⟨_, hz mm ⟨hm, hle⟩, s41, _, _, _, _, rfl⟩⟩
                    · rintro σ H2 ⟨e2, u1, u2, u3, u4, u5, u6, u7, rfl⟩
                      exact k H2 ((Stp.of s015').trans (e19.trans (Stp.of e2))) (s18.same e2)
end
/-! ### several except clauses, each with the one name n -/
/-- what the clauses wish, one after the other; slot i is the name's -/
def wManyA (K : PySem.W.Frag) (i : Nat) (Wo : WX) (D : Ends) : List (Value × (Addr → Value → Option Addr → TS)) → WX
  | [] => Wo
  | (c, ts) :: r => fun cls d σ H => ∃ b, PySem.W.exmOne K cls c = some b ∧
    (b = true → ∀ a, H a = none → ts a cls d { nx := fun σ2 H2 => D.nx (σ2.set i none) H2, rt := D.rt, bk := fun σ2 H2 => D.bk (σ2.set i none) H2, ct := fun σ2 H2 => D.ct (σ2.set i none) H2 } (σ.set i (some (.ref a))) H) ∧
    (b = false → wManyA K i Wo D r cls d σ H)
inductive HdsA (X : Cx) (n : Str) : List ExceptHandler → List (Value × (Addr → Value → Option Addr → TS)) → Prop
  | nil : HdsA X n [] []
  | cons {x : Str} {c : Value} {ts : Addr → Value → Option Addr → TS} {b₀ : Stmt} {suite : List Stmt} {np pos2 : Pos} {hds : List ExceptHandler} {l : List (Value × (Addr → Value → Option Addr → TS))} (hc : Names X x c)
      (hsu : ∀ (a : Addr) (ob : Obj) (cls : Value) (d : Option Addr) (pn : List (Addr × Obj)), Zc cls d ob → (∃ vs, ob.data = .fields vs) → PSs (X.suite a ((a, ob) :: pn)) (b₀ :: suite) (ts a cls d)) (r : HdsA X n hds l) :
      HdsA X n (.ExceptHandler (some (.Name x np)) (some n) (b₀ :: suite) pos2 :: hds) ((c, ts) :: l)
section
variable {X : Cx} {n : Str} {i : Nat} {body : List Stmt} {hd0 : ExceptHandler} {hds : List ExceptHandler} {l : List (Value × (Addr → Value → Option Addr → TS))} {pos : Pos} {tb : WX → TS} {Wo : WX}
theorem ps_try_manyA (hs : X.stack = X.env :: X.outer) (hf : X.env.frame = some X.env.locals) (hN : X.N.Nodup) (hi : X.N[i]? = some n) (hln : X.env.kindOf n = some .local) (tk : Takes X Wo)
    (hb : ∀ (W : WX) (pn : List (Addr × Obj)) (xe : Value → Shared → Prop), Takes (X.tr pn xe) W → PassesOwn (model X.prog X.w) X.A X.env xe → PSs (X.tr pn xe) body (tb W)) (hh : HdsA X n (hd0 :: hds) l) :
    PS X (.Try body (hd0 :: hds) [] [] pos) (fun D σ H => tb (wManyA X.K i Wo D l) D σ H) := by
  refine ⟨fun pins s σ H D I h => ?_⟩
  have okX := I.ok
  have fram : X.A.frames = some (X.env :: X.outer) := by rw [okX.frames, hs]
  have hloc : Loc X.env.scope n := .inl hln
  refine wpAny_Try_except ?_
  refine wpAny_mono ((hb (wManyA X.K i Wo D l) (X.pn ++ pins) (fun e z1 => wpAny (model X.prog X.w) X.A (noteFrame e X.env) (fun _ z2 => wpAny (model X.prog X.w) X.A (setFlight e none) (fun _ z3 =>
    wpAny (model X.prog X.w) X.A (handleBy e X.env (hd0 :: hds)) (SP X pins D) X.xe z3) X.xe z2) X.xe z1) (fun u z xx => ?_) PassesOwn.looking).run [] s σ H D (I.toTry _) h) (fun f z1 hsp => ?_) (fun e z1 he => he)
  · obtain ⟨a, B, sI, pin2, σ2, H2, cls, d, rfl, J2, nb, up, sky, na, os, ag, w⟩ := xx
    have J : Inv X pins σ2 H2 sI := J2.ofTry okX
    have sk2 : Sky B (X.env :: X.outer) a (Zc cls d) X.env.locals z.heap := by rw [← hs]; exact sky
    show wpAny (model X.prog X.w) X.A (noteFrame (.ref a) X.env) _ _ _
    refine Sky.land Zc.steady fram hf sk2 fun g3 fl3 up3 => ?_
    have J3 : Inv X pins σ2 H2 { z with heap := g3 } := J.landed nb fl3.1 (up.trans up3) os ag
    obtain ⟨ob3, vs3, at3, hz3, hd3⟩ := fl3.there
    have offFr : ∀ {h : Heap} {o : Obj} {vs : Array Value}, h.FunFrames B (X.env :: X.outer) → h.get? a = some o → o.data = .fields vs → a ∉ frs (X.env :: X.outer) := fun {h o vs} ff e dd hm => by
      obtain ⟨_, o2, e2, hnf⟩ := ff.mem hm
      rw [e] at e2
      cases e2
      exact hnf _ dd
    have nfr := offFr fl3.2.2.1 at3 hd3
    have offL : a ≠ X.env.locals := fun z => nfr (List.mem_filterMap.mpr ⟨X.env, List.mem_cons_self, by rw [hf, z]⟩)
    have offF : a ∉ X.fs := fun hm => by
      obtain ⟨e, he, q⟩ := List.mem_filterMap.mp hm
      exact nfr (List.mem_filterMap.mpr ⟨e, List.mem_cons_of_mem _ he, q⟩)
    have S3 := J3.suite at3 hd3 na offL offF
    have go : ∀ {hs2 : List ExceptHandler} {l2 : List (Value × (Addr → Value → Option Addr → TS))}, HdsA X n hs2 l2 → wManyA X.K i Wo D l2 cls d σ2 H2 →
        wpAny (model X.prog X.w) X.A (handleBy (.ref a) X.env hs2) (SP X pins D) X.xe { z with heap := g3 } := by
      intro hs2 l2 hk
      induction hk with
      | nil =>
        intro w
        refine wpAny_handleBy_nil ?_
        obtain ⟨k1, k2, k3, ob, vs, T, oT, ts', he, hz, hd, h1, hr⟩ := id fl3
        unfold PySem.passOn
        refine wpAny_bind (wpAny_field he hd h1 ?_)
        rw [if_neg (show ¬ ((Value.ref T == Value.none) = true) from by simp)]
        have fin : wpAny (model X.prog X.w) X.A (setFlight (.ref a) X.env.frame) (fun _ z4 => wpAny (model X.prog X.w) X.A (throw (.ref a) : Sem Flow) (SP X pins D) X.xe z4) X.xe { z with heap := g3 } := by
          rw [hf]
          refine HandSPX.setFlight_upZ fl3 fun g4 hh4 up4 => wpAny_throw (tk _ _ ?_)
          exact ⟨a, B, sI, pins, σ2, H2, cls, d, rfl, J, nb, (up.trans up3).trans up4, .inr (.inr (by rw [hs]; exact hh4)), na, os, ag, w⟩
        first
          | exact wpAny_bind (wpAny_pure (wpAny_bind fin))
          | exact wpAny_bind fin
      | @cons x c ts b₀ suite np pos2 hds2 l2 hc hsu r ih =>
        intro w
        obtain ⟨b, hb1, hyes, hno⟩ := w
        refine wpAny_handleBy_cons (codeAny_handlers_test ?_) (by intro q; cases q)
        have lk : PySem.W.Looks (model X.prog X.w) g3 (typeOf (.ref a)) cls := fun A Q E s k q => wpAny_typeOf_ref (k _ _ at3) (by rw [hz3.1]; exact q)
        have lm := PySem.W.exm_one (M := model X.prog X.w) (J3.kIn) lk hb1
        have test : ∀ {Q : Value → Shared → Prop} {E : Value → Shared → Prop}, Q c { z with heap := g3 } → wpAny (model X.prog X.w) (X.A.mark (some (.ref a))) (eval (.Name x np) X.env) Q E { z with heap := g3 } := fun {Q E} q => by
          obtain ⟨hg, hdbg, hm | ⟨hm, hv, hnn⟩⟩ := hc
          · exact ld_glob (X := X.suite a ((a, ob3) :: (X.pn ++ pins))) S3 hg hm q hdbg
          · exact ld_blt (X := X.suite a ((a, ob3) :: (X.pn ++ pins))) S3 hg hm hv q hnn hdbg
        refine test (lm.here ?_)
        cases b with
        | true =>
          refine codeAny_handlers_suite_as ?_
          refine HandSPX.lands_againZ fl3 fun g4 fl4 up4 => ?_
          have J4 : Inv X pins σ2 H2 { z with heap := g4 } := J.landed nb fl4.1 ((up.trans up3).trans up4) os ag
          obtain ⟨ob4, vs4, at4, hz4, hd4⟩ := fl4.there
          have S4 := J4.suite at4 hd4 na offL offF
          refine store_ok (X := X.suite a ((a, ob4) :: (X.pn ++ pins))) (v := .ref a) S4 hN hi hloc rfl (fun z5 S5 => ?_) (.inr hln)
          refine wpAny_mono ((hsu a ob4 cls d (X.pn ++ pins) hz4 ⟨_, hd4⟩).run [] z5 _ H2 _ S5 (hyes rfl a na)) (fun f z6 hsp => ?_) (fun _ _ z => False.elim z)
          have fin6 : ∀ {σ6 : L2.St} {H6 : Hp} {Q : Shared → Prop}, Inv (X.suite a ((a, ob4) :: (X.pn ++ pins))) [] σ6 H6 z6 → (∀ z7, Inv X pins (σ6.set i none) H6 z7 → Q z7) →
              wpAny (model X.prog X.w) X.A (do bindName X.env n .none; unbindBehindTheSuite X.env n pos2) (fun _ z7 => Q z7) X.xe z6 := fun {σ6 H6 Q} S6 hq => gone_ok (S6.unsuite okX) hN hi hln hq
          cases f with
          | next => obtain ⟨σ6, H6, S6, q6⟩ := hsp; exact fin6 S6 fun z7 J7 => ⟨_, _, J7, q6⟩
          | brk => obtain ⟨σ6, H6, S6, q6⟩ := hsp; exact fin6 S6 fun z7 J7 => ⟨_, _, J7, q6⟩
          | cont => obtain ⟨σ6, H6, S6, q6⟩ := hsp; exact fin6 S6 fun z7 J7 => ⟨_, _, J7, q6⟩
          | ret u => obtain ⟨v6, σ6, H6, S6, r6, q6⟩ := hsp; exact fin6 S6 fun z7 J7 => ⟨_, _, _, J7, r6, q6⟩
        | false =>
          show wpAny _ X.A (handleBy (.ref a) X.env hds2) _ _ _
          exact ih (hno rfl)
    exact go hh w
  · cases f with
    | next => obtain ⟨σ2, H2, J2, q⟩ := hsp; exact wpAny_execs_nil ⟨σ2, H2, J2.ofTry okX, q⟩
    | brk => obtain ⟨σ2, H2, J2, q⟩ := hsp; exact ⟨σ2, H2, J2.ofTry okX, q⟩
    | cont => obtain ⟨σ2, H2, J2, q⟩ := hsp; exact ⟨σ2, H2, J2.ofTry okX, q⟩
    | ret u => obtain ⟨v, σ2, H2, J2, r, q⟩ := hsp; exact ⟨v, σ2, H2, J2.ofTry okX, r, q⟩
end
/-! ### code objects with their tables; lambdas within lambdas -/
/-- a code object: its name, its table -/
def CodeP (c : Addr) (q : Str) (P : Addr) : HO := .ext fun h => (∃ (o : Obj) (vs : Array Value) (t : Tok), h.get? c = some o ∧ o.data = .fields vs ∧ vs[1]? = some (.str q t)) ∧ PySem.W.CodeHd h c P
theorem codeP_ne {c P : Addr} {q : Str} (ps : Array Value) : CodeP c q P ≠ .tbl ps := fun z => by
  unfold CodeP at z
  cases z
theorem codeP_at {Pg : Program} {w : World} {H : Hp} {h : Heap} {c P : Addr} {q : Str} (hok : HOk Pg w H h) (e : H c = some (CodeP c q P)) : h.CodeRec (.ref c) q ∧ PySem.W.CodeHd h c P := by
  obtain ⟨⟨⟨o, vs, t, h1, h2, h3⟩, h4⟩, _, _⟩ := hok c _ e
  exact ⟨⟨c, o, vs, t, rfl, h1, h2, h3⟩, h4⟩
/-- all but tables stays -/
def ExtT (H H' : Hp) : Prop := ∀ b o, H b = some o → (∀ ps, o ≠ .tbl ps) → H' b = some o
/-- the table at P2 (not P), and what it tells: code objects of the name q -/
def Sub (base : Heap) (H : Hp) (P P2 : Addr) (q : Str) : Prop := P2 ≠ P ∧ base.get? P2 = none ∧ ∃ ps : Array Value, H P2 = some (.tbl ps) ∧ TriplesOk ps.toList ∧
  ∀ (pos : Pos) (cv : Value), codeAmong pos ps.toList = some cv → ∃ c P3, cv = .ref c ∧ H c = some (CodeP c q P3)
/-- the table at P tells code objects of the name q1, whose tables tell code objects of the name q2 -/
def LT (base : Heap) (P : Addr) (q1 q2 : Str) (H : Hp) : Prop := ∃ ps : Array Value, H P = some (.tbl ps) ∧ TriplesOk ps.toList ∧
  ∀ (pos : Pos) (cv : Value), codeAmong pos ps.toList = some cv → ∃ c P2, cv = .ref c ∧ H c = some (CodeP c q1 P2) ∧ Sub base H P P2 q2
theorem Sub.ext {base : Heap} {H H' : Hp} {P P2 : Addr} {q : Str} (s : Sub base H P P2 q) (e : ∀ b o, H b = some o → H' b = some o) : Sub base H' P P2 q := by
  obtain ⟨h1, h2, ps, h3, h4, h5⟩ := s
  refine ⟨h1, h2, ps, e _ _ h3, h4, fun pos cv z => ?_⟩
  obtain ⟨c, P3, e1, e2⟩ := h5 pos cv z
  exact ⟨c, P3, e1, e _ _ e2⟩
theorem LT.ext {base : Heap} {H H' : Hp} {P : Addr} {q1 q2 : Str} (s : LT base P q1 q2 H) (e : ∀ b o, H b = some o → H' b = some o) : LT base P q1 q2 H' := by
  obtain ⟨ps, h3, h4, h5⟩ := s
  refine ⟨ps, e _ _ h3, h4, fun pos cv z => ?_⟩
  obtain ⟨c, P3, e1, e2, e3⟩ := h5 pos cv z
  exact ⟨c, P3, e1, e _ _ e2, e3.ext e⟩
theorem LT.nil {base : Heap} {H : Hp} {P : Addr} {q1 q2 : Str} (h : H P = some (.tbl #[])) : LT base P q1 q2 H := ⟨#[], h, True.intro, fun pos cv hc => by
  have z : codeAmong pos [] = some cv := hc
  simp [codeAmong] at z⟩
/-- the heap behind the making of a lambda: R tells of the new code object's table -/
def Made (R : Addr → Prop) (base : Heap) (H : Hp) (P : Addr) (ps : Array Value) (c P2 : Addr) (q : Str) (H1 : Hp) : Prop :=
  (H1 = H ∧ R P2) ∨ ∃ pos : Pos, H c = none ∧ H P2 = none ∧ c ≠ P2 ∧ base.get? P2 = none ∧ H1 = upd (upd (upd H P (.tbl (ps ++ #[rawInt pos.line, rawInt pos.col, .ref c]))) c (CodeP c q P2)) P2 (.tbl #[])
theorem u3_at {H : Hp} {a b c d : Addr} {x y z : HO} (h1 : d ≠ a) (h2 : d ≠ b) (h3 : d ≠ c) : upd (upd (upd H a x) b y) c z d = H d := by rw [upd_ne h3, upd_ne h2, upd_ne h1]
theorem Made.ext {R : Addr → Prop} {base : Heap} {H H1 : Hp} {P c P2 : Addr} {ps : Array Value} {q : Str} (m : Made R base H P ps c P2 q H1) (hP : H P = some (.tbl ps)) : ExtT H H1 := by
  rcases m with ⟨rfl, _⟩ | ⟨pos, n1, n2, n3, n4, rfl⟩
  · exact fun _ _ e _ => e
  · intro b o e n
    rw [u3_at (fun z => n ps (Option.some.inj (e.symm.trans (by rw [z]; exact hP)))) (ne_of_none e n1) (ne_of_none e n2)]
    exact e
theorem Sub.made {R : Addr → Prop} {base : Heap} {H H1 : Hp} {P Pa P2 c P3 : Addr} {ps : Array Value} {q : Str} (m : Made R base H P2 ps c P3 q H1) (hP2 : H P2 = some (.tbl ps)) (s2 : Sub base H P P2 q) (s : Sub base H P Pa q) : Sub base H1 P Pa q := by
  have ex := m.ext hP2
  rcases m with ⟨rfl, _⟩ | ⟨pos, n1, n2, n3, n4, rfl⟩
  · exact s
  · have old : ∀ {ps' : Array Value}, (∀ (pos : Pos) (cv : Value), codeAmong pos ps'.toList = some cv → ∃ c P3, cv = .ref c ∧ H c = some (CodeP c q P3)) → ∀ (pos : Pos) (cv : Value), codeAmong pos ps'.toList = some cv → ∃ c' P', cv = .ref c' ∧
        upd (upd (upd H P2 (.tbl (ps ++ #[rawInt _, rawInt _, .ref c]))) c (CodeP c q P3)) P3 (.tbl #[]) c' = some (CodeP c' q P') := fun {ps'} g pos cv z => by
      obtain ⟨c', P', e1, e2⟩ := g pos cv z
      exact ⟨c', P', e1, ex _ _ e2 codeP_ne⟩
    obtain ⟨a1, a2, ps', a3, a4, a5⟩ := s
    refine ⟨a1, a2, ?_⟩
    by_cases hb : Pa = P2
    · subst hb
      rw [hP2] at a3
      obtain rfl : ps = ps' := HO.tbl.inj (Option.some.inj a3)
      have eL : (ps ++ #[rawInt pos.line, rawInt pos.col, .ref c]).toList = ps.toList ++ [rawInt pos.line, rawInt pos.col, .ref c] := by simp
      refine ⟨_, by rw [upd_ne (ne_of_none hP2 n2), upd_ne (ne_of_none hP2 n1), upd_same], by rw [eL]; exact PySem.TriplesOk_snoc _ _ _ _ a4, fun p' cv hcv => ?_⟩
      rw [eL] at hcv
      rcases LamX.among_app _ a4 hcv with z | z
      · exact old a5 p' cv z
      · exact ⟨c, P3, z, by rw [upd_ne n3, upd_same]⟩
    · exact ⟨ps', by rw [u3_at hb (ne_of_none a3 n1) (ne_of_none a3 n2)]; exact a3, a4, old a5⟩
theorem LT.made1 {R : Addr → Prop} {base : Heap} {H H1 : Hp} {P P2 c P3 : Addr} {ps : Array Value} {q1 q2 : Str} (m : Made R base H P2 ps c P3 q2 H1) (hP2 : H P2 = some (.tbl ps)) (s2 : Sub base H P P2 q2) (s : LT base P q1 q2 H) : LT base P q1 q2 H1 := by
  have ex := m.ext hP2
  obtain ⟨pa, a3, a4, a5⟩ := s
  refine ⟨pa, ?_, a4, fun pos cv z => ?_⟩
  · rcases m with ⟨rfl, _⟩ | ⟨pos, n1, n2, n3, n4, rfl⟩
    · exact a3
    · rw [u3_at s2.1.symm (ne_of_none a3 n1) (ne_of_none a3 n2)]
      exact a3
  · obtain ⟨c', P', e1, e2, e3⟩ := a5 pos cv z
    exact ⟨c', P', e1, ex _ _ e2 codeP_ne, Sub.made m hP2 s2 e3⟩
theorem LT.made0 {base : Heap} {H H1 : Hp} {P c P2 : Addr} {ps : Array Value} {q1 q2 : Str} (m : Made (fun Pn => Sub base H P Pn q2) base H P ps c P2 q1 H1) (hP : H P = some (.tbl ps)) (s : LT base P q1 q2 H) : LT base P q1 q2 H1 ∧ Sub base H1 P P2 q2 := by
  have ex := m.ext hP
  rcases m with ⟨rfl, r⟩ | ⟨pos, n1, n2, n3, n4, rfl⟩
  · exact ⟨s, r⟩
  · obtain ⟨pa, a3, a4, a5⟩ := s
    rw [hP] at a3
    obtain rfl : ps = pa := HO.tbl.inj (Option.some.inj a3)
    have new : Sub base (upd (upd (upd H P (.tbl (ps ++ #[rawInt pos.line, rawInt pos.col, .ref c]))) c (CodeP c q1 P2)) P2 (.tbl #[])) P P2 q2 := ⟨(ne_of_none hP n2).symm, n4, #[], upd_same, True.intro, fun pos cv hc => by
      have z : codeAmong pos [] = some cv := hc
      simp [codeAmong] at z⟩
    have eL : (ps ++ #[rawInt pos.line, rawInt pos.col, .ref c]).toList = ps.toList ++ [rawInt pos.line, rawInt pos.col, .ref c] := by simp
    refine ⟨⟨_, by rw [upd_ne (ne_of_none hP n2), upd_ne (ne_of_none hP n1), upd_same], by rw [eL]; exact PySem.TriplesOk_snoc _ _ _ _ a4, fun p' cv hcv => ?_⟩, new⟩
    rw [eL] at hcv
    rcases LamX.among_app _ a4 hcv with z | z
    · obtain ⟨c', P', e1, e2, b1, b2, pb, b3, b4, b5⟩ := a5 p' cv z
      refine ⟨c', P', e1, ex _ _ e2 codeP_ne, b1, b2, pb, by rw [u3_at b1 (ne_of_none b3 n1) (ne_of_none b3 n2)]; exact b3, b4, fun p2 c2 z2 => ?_⟩
      obtain ⟨c3, P3, f1, f2⟩ := b5 p2 c2 z2
      exact ⟨c3, P3, f1, ex _ _ f2 codeP_ne⟩
    · exact ⟨c, P2, z, by rw [upd_ne n3, upd_same], new⟩
/-! ### a lambda made: its code object, and that one's table -/
section
variable {M : Model} {A : Around} {E : Value → Shared → Prop} {s : Shared} {name qual : Str} {params : Arguments} {body : Expr} {scope : Scope} {env : Env} {c P : Addr} {ps : Array Value} {pos : Pos} {line : Nat} {mg : Str → Option Value} {clos : List (Str × Addr)} {Q : Value → Shared → Prop}
theorem lam_new (hcl : closureFor scope env = pure clos) (hge : env.globals = mainGlobals) (hg : s.heap.Ns mainGlobals mg) (hcode : env.code = .ref c) (C : PySem.W.CodeHd s.heap c P) (hP : s.heap.get? P = some (PySem.W.tabObj ps)) (ht : TriplesOk ps.toList)
    (hnf : codeAmong pos ps.toList = none) (hgP : mainGlobals ≠ P) (hb : s.heap.BuiltinsAt mg P)
    (h : ∀ c' P' ctv h' tk, Heap.ExtBut P s.heap h' → s.heap.objs.size ≤ c' → s.heap.objs.size ≤ P' → c' < h'.objs.size → h'.CodeRec (.ref c') qual → PySem.W.CodeHd h' c' P' → h'.get? P' = some (PySem.W.tabObj #[]) → h'.get? P = some (PySem.W.tabObj (ps ++ #[rawInt pos.line, rawInt pos.col, .ref c'])) →
      Q (.ref h'.objs.size) { s with heap := h'.push (PySem.W.kla_obj name qual params body scope clos ((mg "__name__").getD .none) c' ctv), toks := tk }) :
    wpAny M A (makeFunction name qual params (.expr body) scope env [] [] [] pos line) Q E s := by
  rw [makeFunction_eq]
  simp only [List.zip_nil_right, List.filterMap_nil, List.isEmpty_nil, if_true, pure_bind]
  obtain ⟨bm, ob, hbm, hn0, _, hnP, hbo, hcls, hdict, hdata⟩ := hb
  unfold makeTail
  rw [hcl, hge]
  refine wpAny_bind (wpAny_pure ?_)
  cases clos with
  | nil =>
    simp only [List.isEmpty_nil, if_true]
    refine wpAny_bind (wpAny_pure ?_)
    refine wpAny_bind (PySem.wpAny_functionCodeX hcode (C.code hP ht) (C.tab hP) hnf fun c' h' tk hx hgt hlt _ hrec htb hnew => ?_)
    obtain ⟨P', hP', g1, g2⟩ := hnew
    have hg' := hg.extBut hx hgP
    refine wpAny_bind (PySem.wpAny_builtinsFor hg' hbm hn0 (hx _ _ hnP hbo) hcls hdict hdata ?_)
    refine wpAny_bind (wpAny_nsGet hg' ?_)
    exact wpAny_bind (wpAny_pure (wpAny_newObj_type (h c' P' .none h' tk hx hgt hP' hlt hrec (PySem.W.CodeHd.of g1 g2) g2.2 htb.2) (by size_fits)))
  | cons q r =>
    simp only [List.isEmpty_cons, Bool.false_eq_true, if_false]
    refine wpAny_bind (wpAny_newTextTuple ?_)
    refine wpAny_bind (PySem.wpAny_functionCodeX hcode ((C.keeps fun b o e => Heap.get?_push_of_some _ e).code (Heap.get?_push_of_some _ hP) ht) ((C.keeps fun b o e => Heap.get?_push_of_some _ e).tab (Heap.get?_push_of_some _ hP)) hnf fun c' h' tk hx hgt hlt _ hrec htb hnew => ?_)
    obtain ⟨P', hP', g1, g2⟩ := hnew
    have hg' := (hg.push _).extBut hx hgP
    have hx2 : Heap.ExtBut P s.heap h' := fun b o hb' e => hx b o hb' (Heap.get?_push_of_some _ e)
    have up : ∀ a, (s.heap.push ⟨.type "tuple", none, .seq ((q :: r).map fun _ => Value.none).toArray, #[]⟩).objs.size ≤ a → s.heap.objs.size ≤ a := fun a z => Nat.le_trans (by rw [Heap.size_push]; omega) z
    have hg2 : s.heap.objs.size ≤ c' := Nat.le_trans (by rw [Heap.size_push]; omega) hgt
    have hP2 : s.heap.objs.size ≤ P' := Nat.le_trans (by rw [Heap.size_push]; omega) hP'
    refine wpAny_bind (PySem.wpAny_builtinsFor hg' hbm hn0 (hx2 _ _ hnP hbo) hcls hdict hdata ?_)
    refine wpAny_bind (wpAny_nsGet hg' ?_)
    exact wpAny_bind (wpAny_pure (wpAny_newObj_type (h c' P' _ h' tk hx2 hg2 hP2 hlt hrec (PySem.W.CodeHd.of g1 g2) g2.2 htb.2) (by size_fits)))
end
section
variable {X : Cx} {pins : List (Addr × Obj)} {σ : L2.St} {H : Hp} {s : Shared}
/-- the table's object is written; the code object at c and its table at P2 are new, known from now on -/
theorem inv_tab3 {P c P2 : Addr} {q : Str} {ps more : Array Value} {h' : Heap} {t' : Nat} (I : Inv X pins σ H s) (hP : H P = some (.tbl ps)) (k : ∀ b o, b ≠ P → s.heap.get? b = some o → h'.get? b = some o)
    (hm : h'.get? P = some (PySem.W.tabObj (ps ++ more))) (hc : s.heap.objs.size ≤ c) (hp : s.heap.objs.size ≤ P2) (hcp : c ≠ P2) (h2 : h'.get? P2 = some (PySem.W.tabObj #[]))
    (ho : ∃ (oc : Obj) (vs : Array Value) (t : Tok), h'.get? c = some oc ∧ oc.data = .fields vs ∧ vs[1]? = some (.str q t)) (hd : PySem.W.CodeHd h' c P2) :
    Inv X pins σ (upd (upd (upd H P (.tbl (ps ++ more))) c (CodeP c q P2)) P2 (.tbl #[])) { s with heap := h', toks := t' } := by
  have n1 : H c = none := I.hok.fresh hc
  have n2 : H P2 = none := I.hok.fresh hp
  have Pc : P ≠ c := ne_of_none hP n1
  have Pp : P ≠ P2 := ne_of_none hP n2
  have off : ∀ b, b ≠ P → b ≠ c → b ≠ P2 → upd (upd (upd H P (.tbl (ps ++ more))) c (CodeP c q P2)) P2 (.tbl #[]) b = H b := fun b h1 h2 h3 => u3_at h1 h2 h3
  have onP : upd (upd (upd H P (.tbl (ps ++ more))) c (CodeP c q P2)) P2 (.tbl #[]) P = some (.tbl (ps ++ more)) := by rw [upd_ne Pp, upd_ne Pc, upd_same]
  have onC : upd (upd (upd H P (.tbl (ps ++ more))) c (CodeP c q P2)) P2 (.tbl #[]) c = some (CodeP c q P2) := by rw [upd_ne hcp, upd_same]
  have noP : ∀ b u, H b = some u → (∀ q, u ≠ .tbl q) → b ≠ P := fun b u e q z => by
    rw [z, hP] at e
    exact q ps (Option.some.inj e).symm
  have noN : ∀ b, H b = none → b ≠ P := fun b e z => by
    rw [z, hP] at e
    cases e
  have ltc : ∀ b o, s.heap.get? b = some o → b ≠ c := fun b o e z => by
    rw [z] at e
    exact Nat.lt_irrefl _ (Nat.lt_of_lt_of_le (Heap.lt_size e) hc)
  have ltp : ∀ b o, s.heap.get? b = some o → b ≠ P2 := fun b o e z => by
    rw [z] at e
    exact Nat.lt_irrefl _ (Nat.lt_of_lt_of_le (Heap.lt_size e) hp)
  have keepU : ∀ b u, H b = some u → (∀ q, u ≠ .tbl q) → upd (upd (upd H P (.tbl (ps ++ more))) c (CodeP c q P2)) P2 (.tbl #[]) b = some u := fun b u e n => by
    rw [off b (noP b u e n) (ne_of_none e n1) (ne_of_none e n2)]
    exact e
  refine I.step (g' := s.gens) (d' := s.drawn) (ch := []) (fun b hb => absurd hb (by simp)) (fun b o _ _ _ e n => k b o (noN b n) e) (fun b o _ _ _ e n => ⟨o.slots, k b o (noN b n) e⟩)
    (fun b o _ e n => by rw [off b (noN b n) (ltc b o e) (ltp b o e)]; exact n) (fun b o _ e => ?_) (fun b xs e => keepU b _ e (fun q z => by cases z)) (fun b o u e => keepU b _ e (fun q z => by cases z)) (fun b qs e => ?_) (fun m hn => ?_) (fun b u e => ?_) I.bare
  · by_cases hb : b = P
    · rw [hb]
      exact ⟨_, hm⟩
    · exact ⟨o, k b o hb e⟩
  · by_cases hb : b = P
    · rw [hb, hP] at e
      cases e
      rw [hb, onP]
      exact ⟨more, rfl⟩
    · rw [off b hb (ne_of_none e n1) (ne_of_none e n2), e]
      exact ⟨#[], by simp⟩
  · obtain ⟨ob, es, ep, ho, r⟩ := hn
    exact ⟨ob, es, ep, k _ ob (noN _ I.free) ho, r⟩
  · by_cases hb : b = c
    · rw [hb, onC] at e
      cases e
      rw [hb]
      obtain ⟨oc, vs, t, e1, e2, e3⟩ := ho
      refine ⟨⟨⟨oc, vs, t, e1, e2, e3⟩, hd⟩, ⟨oc, e1⟩, fun g1 g2 ⟨⟨oc, vs, t, a, b, c⟩, d⟩ st => ⟨⟨oc, vs, t, st _ a, b, c⟩, ?_⟩⟩
      obtain ⟨o, vs, file, tf, flags, tg, inF, text, tt, z, r⟩ := d
      exact ⟨o, vs, file, tf, flags, tg, inF, text, tt, st _ z, r⟩
    · by_cases hb3 : b = P2
      · rw [hb3, upd_same] at e
        cases e
        rw [hb3]
        exact h2
      · by_cases hb2 : b = P
        · rw [hb2, onP] at e
          cases e
          rw [hb2]
          exact hm
        · rw [off b hb2 hb hb3] at e
          refine (I.hok b u e).stay (fun d v hd q => k d v ?_ q) (fun d q => keepU d _ q (fun q z => by cases z)) fun d xs q => keepU d _ q (fun q z => by cases z)
          rcases hd with z | z
          · rw [z]
            exact hb2
          · exact noP d _ z (fun q z => by cases z)
/-- the lambda is made: its code object is new, or found in the table -/
theorem mk_lam {R : Addr → Prop} {c P : Addr} {ps : Array Value} {params : Arguments} {body : Expr} {scope : Scope} {pos : Pos} {E : Value → Shared → Prop} {Q : Value → Shared → Prop} (I : Inv X pins σ H s) (C : PySem.W.CodeHd s.heap c P) (bm : X.base.BuiltinsAt X.mg P) (gP : mainGlobals ≠ P)
    (hcode : X.env.code = .ref c) (hP : H P = some (.tbl ps)) (ht : TriplesOk ps.toList) (told : ∀ (pos : Pos) (cv : Value), codeAmong pos ps.toList = some cv → ∃ c' P', cv = .ref c' ∧ H c' = some (CodeP c' (X.env.qual ++ "<lambda>") P') ∧ R P')
    (hdef : defaultsOf params X.env = ([], [])) (hfree : ∀ y ∈ scope.names, y.2 = .free → ∃ c, X.env.cells.lookup y.1 = some c)
    (h : ∀ (f c' P' : Addr) (pm ctv : Value) (H1 : Hp) (s' : Shared), Inv X pins σ H1 s' → Made R X.base H P ps c' P' (X.env.qual ++ "<lambda>") H1 →
      s'.heap.get? f = some (PySem.W.kla_obj "<lambda>" (X.env.qual ++ "<lambda>") params body scope (cloFrom X.env.cells scope.names []) pm c' ctv) → H1 f = none → f ∉ frs X.stack → H1 c' = some (CodeP c' (X.env.qual ++ "<lambda>") P') → Q (.ref f) s') :
    wpAny (model X.prog X.w) X.A (eval (.Lambda params body scope pos) X.env) Q E s := by
  refine PySem.W.kla_eval hdef ?_
  have bP : s.heap.BuiltinsAt X.mg P := bm.keeps I.bk
  have aP : s.heap.get? P = some (PySem.W.tabObj ps) := I.hok P _ hP
  have nofr : ∀ f, s.heap.objs.size ≤ f → f ∉ frs X.stack := fun f hf z => by
    rcases List.mem_cons.mp (I.stkSub _ z) with e | e
    · have h1 := I.lt
      rw [← e] at h1
      exact Nat.lt_irrefl _ (Nat.lt_of_lt_of_le h1 hf)
    · exact I.nofs hf e
  cases hc : codeAmong pos ps.toList with
  | none =>
    refine lam_new (mg := X.mg) (c := c) (P := P) (ps := ps) (closure_ok hfree) I.ok.glob (I.mod.glob.keeps I.bk) hcode C aP ht hc gP bP fun c' P' ctv h' tk hx hge hgp hlt hrec hhd hnew htb => ?_
    obtain ⟨c2, oc, vs, t, e2, hoc, hd, hv⟩ := hrec
    cases e2
    have hsz : s.heap.objs.size ≤ h'.objs.size := Nat.le_trans hge (Nat.le_of_lt hlt)
    have nC : H c' = none := I.hok.fresh hge
    have nP : H P' = none := I.hok.fresh hgp
    have cp : c' ≠ P' := by
      obtain ⟨_, _, _, _, _, _, _, _, _, _, _, _, _, _, _, _, _, _, z⟩ := hhd
      exact z
    have I1 := inv_tab3 (q := X.env.qual ++ "<lambda>") (t' := tk) (more := #[rawInt pos.line, rawInt pos.col, .ref c']) (h' := h'.push (PySem.W.kla_obj "<lambda>" (X.env.qual ++ "<lambda>") params body scope (cloFrom X.env.cells scope.names []) ((X.mg "__name__").getD .none) c' ctv)) I hP
      (fun b o hb e => Heap.get?_push_of_some _ (hx b o hb e)) (Heap.get?_push_of_some _ htb) hge hgp cp (Heap.get?_push_of_some _ hnew) ⟨oc, vs, t, Heap.get?_push_of_some _ hoc, hd, hv⟩ (hhd.keeps fun b o e => Heap.get?_push_of_some _ e)
    have bn : X.base.get? P' = none := by
      cases z : X.base.get? P' with
      | none => rfl
      | some o => exact absurd (Nat.lt_of_lt_of_le (Heap.lt_size (I.bk _ _ z)) hgp) (Nat.lt_irrefl _)
    have pP : P' < h'.objs.size := Heap.lt_size hnew
    refine h h'.objs.size c' P' ((X.mg "__name__").getD .none) ctv _ _ I1 (.inr ⟨pos, nC, nP, cp, bn, rfl⟩) (Heap.get?_push_size _ rfl) ?_ (nofr _ hsz) (by rw [upd_ne cp, upd_same])
    rw [u3_at (Nat.ne_of_gt (Nat.lt_of_lt_of_le (Heap.lt_size aP) hsz)) (Nat.ne_of_gt hlt) (Nat.ne_of_gt pP)]
    exact I.hok.fresh hsz
  | some cv =>
    obtain ⟨c', P', e, hco, r⟩ := told pos cv hc
    subst e
    refine PySem.W.kla_makeFunctionHit (mg := X.mg) (c := c) (P := P) (ps := ps) (closure_ok hfree) I.ok.glob (I.mod.glob.keeps I.bk) hcode C aP ht hc bP fun ctv h' tk hx hsz => ?_
    have I1 : Inv X pins σ H { s with heap := h'.push (PySem.W.kla_obj "<lambda>" (X.env.qual ++ "<lambda>") params body scope (cloFrom X.env.cells scope.names []) ((X.mg "__name__").getD .none) c' ctv), toks := tk } := I.kept fun b o e => Heap.get?_push_of_some _ (hx b o e)
    exact h h'.objs.size c' P' ((X.mg "__name__").getD .none) ctv H _ I1 (.inl ⟨rfl, r⟩) (Heap.get?_push_size _ rfl) (I.hok.fresh hsz) (nofr _ hsz) hco
end
/-! ### a lambda called -/
section
variable {X : Cx} {pins : List (Addr × Obj)} {σ : L2.St} {H : Hp} {s : Shared}
/-- x(), in the def that got the lambda -/
theorem act0 {CXg : CXT} {Eg : XK} {Ng : List Str} {qg : Str} {sg : Scope} {g f c' P' : Addr} {cdg pm ctv : Value} {params : Arguments} {body : Expr} {scope : Scope} {k i : Nat} {a : Str} {pn : List (Addr × Obj)} {xe : Value → Shared → Prop} {W : WX} {E : XK} {tb : TE} {p1 p2 : Pos}
    (I : Inv X pins σ H s) (L : LamX.LamS X.env.scope scope) (hf : s.heap.get? f = some (PySem.W.kla_obj "<lambda>" (X.env.qual ++ "<lambda>") params body scope (cloFrom X.env.cells scope.names []) pm c' ctv)) (hfn : H f = none) (hfr : f ∉ frs X.stack)
    (hbind : bindArgs (PySem.W.kla_fn "<lambda>" (X.env.qual ++ "<lambda>") params body scope (cloFrom X.env.cells scope.names []) pm (.ref c') ctv) ⟨[], []⟩ = pure [])
    (tk : Takes ((cxOf CXg X.prog X.w X.K X.mg X.base Ng qg sg g cdg X.A X.stack s H Eg).tr pn xe) W) (hW : ∀ cls d σ' H', σ'.length = Ng.length → E cls d H' → W cls d σ' H') (hr : Room (k + 1) (X.A.deeper (envOfC qg sg s.heap.objs.size g cdg)))
    (hbody : ∀ (A : Around) (outer : List Env) (s : Shared) (H : Hp), Room k (A.deeper (LamX.lamEnv X scope s.heap.objs.size f c')) → PE (LamX.lamCx X A outer s H E scope f c') body tb)
    (hN : Ng[i]? = some a) (hv : Vis sg a) (hd : (a == ("__debug__" : Str)) = false := by decide) (hcd : (a == ("__classdict__" : Str)) = false := by decide) :
    PE ((cxOf CXg X.prog X.w X.K X.mg X.base Ng qg sg g cdg X.A X.stack s H Eg).tr pn xe) (.Call (.Name a p1) [] [] p2)
      (fun σZ HZ Q => σZ[i]? = some (some (.ref f)) ∧ HZ c' = some (CodeP c' (X.env.qual ++ "<lambda>") P') ∧ tb σ HZ Q) := by
  refine ⟨fun pinZ sZ σZ HZ Q IZ h => ?_⟩
  obtain ⟨hs, hc, ht⟩ := h
  refine wpAny_Call_Name_kw (thn ((pe_var (pos := p1) (i := i) hN hv hd hcd).run pinZ sZ σZ HZ (fun v H1 => v = .ref f ∧ H1 = HZ) IZ ⟨.ref f, hs, rfl, rfl⟩) fun u s1 ⟨v, H1, I1, r1, q1⟩ => ?_)
  obtain ⟨rfl, rfl⟩ := q1
  obtain rfl : u = Value.ref f := r1
  have at1 : s1.heap.get? f = some (PySem.W.kla_obj "<lambda>" (X.env.qual ++ "<lambda>") params body scope (cloFrom X.env.cells scope.names []) pm c' ctv) := I1.base.keep f _ hf hfn hfr (fun z => nomatch (show f ∈ ([] : List Addr) from z))
  refine PySem.W.callWith_F0 ⟨_, _, _, _, at1⟩ ?_
  have un : Un (frs X.stack) [] H H1 s.heap s1.heap := I1.base
  have rc : codeAny (model X.prog X.w) (X.A.deeper (envOfC qg sg s.heap.objs.size g cdg)) (.call (.ref f) ⟨[], []⟩) (CR (L2.CX X.prog X.w) (envOfC qg sg s.heap.objs.size g cdg :: X.stack) X.prog X.w H1 s1 Q E) s1 := by
    refine PySem.W.kla_callFunE hr.depth at1 rfl L.co L.gen rfl (codeP_at I1.hok hc).1 ?_
    rw [hbind]
    refine wpAny_pure (wpAny_newFunctionEnv (fun y hy => (L.own y hy).2) (fun y hy => absurd hy (by simp)) (fun h₁ hns hsb => ⟨I1.nolimit.fresh _ hsb, ?_⟩) L.kind)
    show codeAny _ _ (.expr body (LamX.lamEnv X scope s1.heap.objs.size f c')) _ _
    have kp : ∀ b o, s1.heap.get? b = some o → h₁.get? b = some o := fun b o e => hsb.extBut b o (Nat.ne_of_lt (Heap.lt_size e)) (Heap.get?_push_of_some _ e)
    have J : Inv (LamX.lamCx X (X.A.deeper (envOfC qg sg s.heap.objs.size g cdg)) (envOfC qg sg s.heap.objs.size g cdg :: X.stack) s1 H1 E scope f c') [] σ H1 { s1 with heap := h₁, toks := s1.toks + ([] : List (Str × Value)).length } :=
      LamX.lam_start2 I L I1.env0 hr.hd un hns kp
    refine PySem.W.kla_codeExpr (wpAny_mono ((hbody _ _ s1 H1 (hr.deeper _)).run [] _ _ H1 Q J ht) (fun v s' hq => ?_) fun e s' hq => hq)
    obtain ⟨w', H', J', rv, q⟩ := hq
    exact ⟨w', H', J'.os, J'.bare, J'.base, J'.hok, rv, q⟩
  refine wpAny_call (codeAny_mono rc fun r s' hq => ?_)
  cases r with
  | error e => exact tk e s' (XE.of_call I1 (fun cls d H' h => hW cls d σZ H' I1.len h) hq)
  | ok fl =>
    cases fl with
    | ret u => exact I1.after hq
    | next => exact False.elim hq
    | brk => exact False.elim hq
    | cont => exact False.elim hq
/-! ### a lambda of one parameter, which a lambda within it captures -/
/-- one parameter, kept in a cell; captured ones and globals -/
structure LamS1 (sc scope : Scope) (x : Str) : Prop where
  kind : scope.kind = .function
  co : scope.isCoroutine = false
  gen : scope.isGenerator = false
  cel : scope.names.lookup x = some .cell
  own : ∀ y ∈ scope.names, y.2 ≠ .local ∧ (y.2 = .cell → y.1 = x)
  one : ∀ (n : Nat) (acc : List (Str × Addr)), cellsFrom n scope.names acc = (x, n) :: acc
  lay : ∀ h : Heap, pushCells h scope.names = h.push { cls := .type "cell", data := .cell none }
  free : ∀ y ∈ scope.names, y.2 = .free → y.1 ≠ x ∧ (sc.names.lookup y.1 = some .cell ∨ sc.names.lookup y.1 = some .free)
abbrev lam1Env (X : Cx) (scope : Scope) (x : Str) (L f c' : Addr) : Env := PySem.W.envX (X.env.qual ++ "<lambda>") scope L f (.ref c') ((x, L + 1) :: cloFrom X.env.cells scope.names [])
def lam1Cx (X : Cx) (A : Around) (outer : List Env) (s : Shared) (H : Hp) (scope : Scope) (x : Str) (f c' : Addr) : Cx where
  prog := X.prog
  w := X.w
  K := X.K
  mg := X.mg
  base := X.base
  A := A.deeper (lam1Env X scope x s.heap.objs.size f c')
  N := X.N ++ [x]
  s_0 := s
  H_0 := H
  env := lam1Env X scope x s.heap.objs.size f c'
  outer := outer
  stack := lam1Env X scope x s.heap.objs.size f c' :: outer
  ex := []
  fn := fun _ => false
  calm := true
  pn := []
  xe := fun e s' => wpAny (model X.prog X.w) (A.deeper (lam1Env X scope x s.heap.objs.size f c')) (leaving (lam1Env X scope x s.heap.objs.size f c') e) (fun _ s2 => C8.CX0 outer H s C8.E0 e s2) (fun e2 s2 => C8.CX0 outer H s C8.E0 e2 s2) s'
theorem newEnv1 {M : Model} {A : Around} {E : Value → Shared → Prop} {s : Shared} {scope sc : Scope} {globals : Addr} {closure : List (Str × Addr)} {x qual : Str} {v : Value} {func : Option Addr} {code : Value} {builtins : Addr} {Q : Env → Shared → Prop} (L : LamS1 sc scope x)
    (hQ : ∀ h' tk, h'.Ns s.heap.objs.size (fun _ => none) → h'.IsCell (s.heap.objs.size + 1) (some v) → (∀ b o, s.heap.get? b = some o → h'.get? b = some o) →
      Q (newEnv scope s.heap.objs.size globals ((x, s.heap.objs.size + 1) :: closure) qual func code none builtins) { s with heap := h', toks := tk }) :
    wpAny M A (newFunctionEnv scope globals closure [(x, v)] qual func code none builtins) Q E s := by
  simp only [newFunctionEnv, Option.isSome_none, Bool.false_eq_true, if_false]
  refine wpAny_bind (wpAny_alloc ?_)
  refine wpAny_bind (wpAny_layCells _ (fun name kind cells => by cases hkc : kind == NameKind.cell <;> simp [hkc]) _ _ _ _ ?_)
  rw [show ({ s with heap := s.heap.push { cls := .type "frame", data := .dict #[] } } : Shared).heap.objs.size = s.heap.objs.size + 1 from Heap.size_push .., L.one, L.lay]
  rw [List.forIn_cons]
  have hcell : ((s.heap.push { cls := .type "frame", data := .dict #[] }).push { cls := .type "cell", data := .cell none }).IsCell (s.heap.objs.size + 1) none := by
    have z := Heap.get?_push_size (s.heap.push { cls := .type "frame", data := .dict #[] }) (o := { cls := .type "cell", data := .cell none }) rfl
    rw [Heap.size_push] at z
    exact ⟨_, z, rfl⟩
  have hlk : ((x, s.heap.objs.size + 1) :: closure).lookup x = some (s.heap.objs.size + 1) := by rw [List.lookup_cons, beq_self_eq_true]
  refine wpAny_bind (wpAny_bind (wpAny_bind (wpAny_storeName_cell (env := { scope := scope, locals := s.heap.objs.size, globals := globals, cells := (x, s.heap.objs.size + 1) :: closure, qual := qual, func := func, code := code, frame := some s.heap.objs.size, builtins := builtins }) (name := x) (v := v) (c := s.heap.objs.size + 1) (v₀ := none) L.kind L.cel hlk hcell fun h' hc' hs' => wpAny_pure ?_)))
  show wpAny M A (forIn [] _ _) _ _ _
  rw [List.forIn_nil]
  refine wpAny_pure (wpAny_pure (hQ h' _ ?_ hc' fun b o e => ?_))
  · exact ((Heap.Ns.new s.heap (.type "frame")).push _).sameBut hs' (Nat.ne_of_lt (Nat.lt_succ_self _))
  · exact (hs'.2 b (Nat.ne_of_lt (Nat.lt_succ_of_lt (Heap.lt_size e)))).trans (Heap.get?_push_of_some _ (Heap.get?_push_of_some _ e))
end
section
variable {X : Cx} {pins : List (Addr × Obj)} {σ : L2.St} {H HZ : Hp} {s s1 : Shared}
theorem look1 {x y : Str} {L c : Addr} {cl : List (Str × Addr)} (h : ((x, L) :: cl).lookup y = some c) : (y = x ∧ c = L) ∨ (y ≠ x ∧ cl.lookup y = some c) := by
  rw [List.lookup_cons] at h
  cases e : y == x with
  | true =>
    rw [e] at h
    exact .inl ⟨beq_iff_eq.mp e, (Option.some.inj h).symm⟩
  | false =>
    rw [e] at h
    exact .inr ⟨fun z => (by rw [z, beq_self_eq_true] at e; cases e), h⟩
theorem look_off {x y : Str} {L : Addr} {cl : List (Str × Addr)} (h : y ≠ x) : ((x, L) :: cl).lookup y = cl.lookup y := by
  rw [List.lookup_cons, beq_eq_false_iff_ne.mpr h]
theorem look_on {x : Str} {L : Addr} {cl : List (Str × Addr)} : ((x, L) :: cl).lookup x = some L := by rw [List.lookup_cons, beq_self_eq_true]
theorem lam1_start {A : Around} {outer : List Env} {scope : Scope} {x : Str} {f c' : Addr} {h₁ : Heap} {tk : Nat} {u : Value} {v : V} (I : Inv X pins σ H s) (L : LamS1 X.env.scope scope x) (nx : x ∉ X.N) (e0 : Env0 X.prog X.w X.K X.mg X.base A outer s1 HZ) (hd : A.handled = none)
    (un : Un (frs X.stack) [] H HZ s.heap s1.heap) (hns : h₁.Ns s1.heap.objs.size fun _ => none) (hcell : h₁.IsCell (s1.heap.objs.size + 1) (some u)) (rv : RelV v u) (kp : ∀ b o, s1.heap.get? b = some o → h₁.get? b = some o) :
    Inv (lam1Cx X A outer s1 HZ scope x f c') [] (σ ++ [some v]) HZ { s1 with heap := h₁, toks := tk } := by
  have hfree : ∀ y ∈ scope.names, y.2 = .free → ∃ c, X.env.cells.lookup y.1 = some c := fun y hy e => by
    rcases (L.free y hy e).2 with k | k
    · exact I.ok.has _ (.inl k)
    · exact I.ok.has _ (.inr k)
  have cm : ∀ {y c}, (cloFrom X.env.cells scope.names []).lookup y = some c → X.env.cells.lookup y = some c := fun {y c} e => by
    rcases cloFrom_mem (PySem.mem_of_lookup e) with hm | ⟨h1, h2⟩
    · cases hm
    · obtain ⟨c1, hc⟩ := hfree _ h1 rfl
      have hc : X.env.cells.lookup y = some c1 := hc
      have e2 : c = c1 := by
        rw [h2, hc] <;> rfl
      rw [e2]
      exact hc
  have look : ∀ {y}, scope.names.lookup y = some .free → ∃ c, (cloFrom X.env.cells scope.names []).lookup y = some c := fun {y} hl => by
    have hy : (y, NameKind.free) ∈ scope.names := PySem.mem_of_lookup hl
    exact mem_lookup (cloFrom_has (cells := X.env.cells) (acc := []) hy)
  have cellK : ∀ {c : Addr} {v : Option Value}, H c = none → s.heap.IsCell c v → h₁.IsCell c v := fun {c v} n ⟨o, ho, hd⟩ => by
    obtain ⟨sl, q⟩ := un.any ho n (by simp)
    exact ⟨_, kp _ _ q, hd⟩
  have clt : ∀ {y c}, (cloFrom X.env.cells scope.names []).lookup y = some c → c < s1.heap.objs.size := fun {y c} e => by
    obtain ⟨v, o, ho, hd⟩ := I.cell y c (cm e)
    obtain ⟨sl, q⟩ := un.any ho (I.freeC y c (cm e)) (by simp)
    exact Heap.lt_size q
  have noA : ∀ b : Addr, b ∉ (lam1Cx X A outer s1 HZ scope x f c').ex := fun b z => absurd (show b ∈ ([] : List Addr) from z) (by simp)
  refine ⟨⟨e0.mod, L.kind, rfl, rfl, Nat.le_refl _, fun y z c e1 e2 => ?_, fun y hy => ?_, fun y c z _ => (nomatch (show false = true from z)), fun _ => hd, Around.frames_deeper e0.frames, .inr ⟨rfl, rfl⟩, fun b z => absurd z (noA b), e0.bs, e0.bsz, fun b _ _ => noA b,
      fun b z => absurd z (noA b), e0.funs, e0.frf⟩,
    rfl, e0.bare, Un.kept kp, ⟨_, hns, fun i y w e1 e2 e3 => ?_⟩, fun y c e => ?_, e0.hok.fresh (Nat.le_refl _), fun y c e => ?_, fun q hq => absurd (show q ∈ ([] : List (Addr × Obj)) ++ [] from hq) (by simp), e0.hok.kept kp, ?_⟩
  · rcases look1 e1 with ⟨a1, a2⟩ | ⟨a1, a2⟩
    · rcases look1 e2 with ⟨b1, b2⟩ | ⟨b1, b2⟩
      · rw [a1, b1]
      · have q := clt b2
        rw [a2] at q
        exact absurd q (Nat.not_lt_of_le (Nat.le_succ _))
    · rcases look1 e2 with ⟨b1, b2⟩ | ⟨b1, b2⟩
      · have q := clt a2
        rw [b2] at q
        exact absurd q (Nat.not_lt_of_le (Nat.le_succ _))
      · exact I.ok.inj y z c (cm a2) (cm b2)
  · have hy : scope.names.lookup y = some .cell ∨ scope.names.lookup y = some .free := hy
    by_cases yx : y = x
    · rw [yx]
      exact ⟨_, look_on⟩
    · rcases hy with hy | hy
      · exact absurd ((L.own _ (PySem.mem_of_lookup hy)).2 rfl) yx
      · obtain ⟨c, e⟩ := look hy
        exact ⟨c, (look_off yx).trans e⟩
  · have e3 : Vis scope y := e3
    have e1 : (X.N ++ [x])[i]? = some y := e1
    have nl := I.len
    by_cases hi : i < X.N.length
    · rw [List.getElem?_append_left hi] at e1
      rw [List.getElem?_append_left (by omega)] at e2
      have yx : y ≠ x := fun z => nx (by rw [← z]; exact List.mem_of_getElem? e1)
      rcases e3 with k | k | k
      · exact absurd rfl (L.own _ (PySem.mem_of_lookup k)).1
      · exact absurd ((L.own _ (PySem.mem_of_lookup k)).2 rfl) yx
      · obtain ⟨m, hn, hl⟩ := I.loc
        have vis : Vis X.env.scope y := ((L.free _ (PySem.mem_of_lookup k) rfl).2).elim (fun k => .inr (.inl k)) (fun k => .inr (.inr k))
        obtain ⟨w', r, q⟩ := hl i y w e1 e2 vis
        obtain ⟨c2, h2⟩ := look k
        refine ⟨w', r, .inr ⟨.inr k, c2, (look_off yx).trans h2, ?_⟩⟩
        have c1 := cm h2
        rcases q with ⟨k', _⟩ | ⟨_, c3, e', z⟩
        · have k' : X.env.scope.names.lookup y = some .local := k'
          rcases (L.free _ (PySem.mem_of_lookup k) rfl).2 with k2 | k2 <;> rw [show X.env.scope.names.lookup y = _ from k2] at k' <;> cases k'
        · rw [c1] at e'
          cases e'
          exact cellK (I.freeC y _ c1) z
    · rw [List.getElem?_append_right (by omega)] at e1 e2
      have i0 : i - X.N.length = 0 := by
        by_cases z : i - X.N.length = 0
        · exact z
        · rw [List.getElem?_eq_none (by show 1 ≤ _; omega)] at e1
          cases e1
      rw [i0] at e1
      rw [nl, i0] at e2
      obtain rfl := Option.some.inj e1
      obtain rfl := Option.some.inj (Option.some.inj e2)
      exact ⟨u, rv, .inr ⟨.inl L.cel, _, look_on, hcell⟩⟩
  · rcases look1 e with ⟨a1, rfl⟩ | ⟨a1, a2⟩
    · exact ⟨_, hcell⟩
    · obtain ⟨w', z⟩ := I.cell y c (cm a2)
      exact ⟨w', cellK (I.freeC y c (cm a2)) z⟩
  · rcases look1 e with ⟨a1, rfl⟩ | ⟨a1, a2⟩
    · exact e0.hok.fresh (Nat.le_succ _)
    · obtain ⟨v, o, ho, hd⟩ := I.cell y c (cm a2)
      exact un.free c o ho (I.freeC y c (cm a2)) (by simp)
  · show (σ ++ [some v]).length = (X.N ++ [x]).length
    rw [List.length_append, List.length_append, I.len]
    rfl
/-- x(v), in the def that got the lambda; nothing is let out -/
theorem act1 {CXg : CXT} {Eg : XK} {Ng : List Str} {qg : Str} {sg : Scope} {g f c' P' : Addr} {cdg pm ctv : Value} {params : Arguments} {body : Expr} {scope : Scope} {k i : Nat} {a x : Str} {tb : TE} {ta : TA} {e : Expr} {p1 p2 : Pos}
    (I : Inv X pins σ H s) (L : LamS1 X.env.scope scope x) (nx : x ∉ X.N) (hf : s.heap.get? f = some (PySem.W.kla_obj "<lambda>" (X.env.qual ++ "<lambda>") params body scope (cloFrom X.env.cells scope.names []) pm c' ctv)) (hfn : H f = none) (hfr : f ∉ frs X.stack)
    (hbind : ∀ u : Value, bindArgs (PySem.W.kla_fn "<lambda>" (X.env.qual ++ "<lambda>") params body scope (cloFrom X.env.cells scope.names []) pm (.ref c') ctv) ⟨[u], []⟩ = pure [(x, u)])
    (hr : Room (k + 1) (X.A.deeper (envOfC qg sg s.heap.objs.size g cdg)))
    (hbody : ∀ (A : Around) (outer : List Env) (s : Shared) (H : Hp), Room k (A.deeper (lam1Env X scope x s.heap.objs.size f c')) → PE (lam1Cx X A outer s H scope x f c') body tb)
    (hN : Ng[i]? = some a) (hv : Vis sg a) (ha : PA (cxOf CXg X.prog X.w X.K X.mg X.base Ng qg sg g cdg X.A X.stack s H Eg).nox [e] ta) (hd : (a == ("__debug__" : Str)) = false := by decide) (hcd : (a == ("__classdict__" : Str)) = false := by decide)
    (hst : starEach [e] (cxOf CXg X.prog X.w X.K X.mg X.base Ng qg sg g cdg X.A X.stack s H Eg).nox.env = (false, eval e (cxOf CXg X.prog X.w X.K X.mg X.base Ng qg sg g cdg X.A X.stack s H Eg).nox.env) :: starEach [] (cxOf CXg X.prog X.w X.K X.mg X.base Ng qg sg g cdg X.A X.stack s H Eg).nox.env := by rfl)
    (hpl : (backTo p2 (starEach [] (cxOf CXg X.prog X.w X.K X.mg X.base Ng qg sg g cdg X.A X.stack s H Eg).nox.env)).any (·.1) = false := by rfl) :
    PE (cxOf CXg X.prog X.w X.K X.mg X.base Ng qg sg g cdg X.A X.stack s H Eg).nox (.Call (.Name a p1) [e] [] p2)
      (fun σZ HZ Q => σZ[i]? = some (some (.ref f)) ∧ ta σZ HZ fun vs H1 => ∃ v, vs = [v] ∧ H1 c' = some (CodeP c' (X.env.qual ++ "<lambda>") P') ∧ tb (σ ++ [some v]) H1 Q) := by
  refine ⟨fun pinZ sZ σZ HZ Q IZ h => ?_⟩
  obtain ⟨hs, ht⟩ := h
  refine wpAny_Call_Name_kw (thn ((pe_var (pos := p1) (i := i) hN hv hd hcd).run pinZ sZ σZ HZ (fun v H1 => v = .ref f ∧ H1 = HZ) IZ ⟨.ref f, hs, rfl, rfl⟩) fun u s1 ⟨v, H1, I1, r1, q1⟩ => ?_)
  obtain ⟨rfl, rfl⟩ := q1
  obtain rfl : u = Value.ref f := r1
  have at1 : s1.heap.get? f = some (PySem.W.kla_obj "<lambda>" (X.env.qual ++ "<lambda>") params body scope (cloFrom X.env.cells scope.names []) pm c' ctv) := I1.base.keep f _ hf hfn hfr (fun z => nomatch (show f ∈ ([] : List Addr) from z))
  have FnAt2 : ∀ {s2 : Shared} {H2 : Hp}, Inv (cxOf CXg X.prog X.w X.K X.mg X.base Ng qg sg g cdg X.A X.stack s H Eg).nox pinZ σZ H2 s2 → s2.heap.get? f = some (PySem.W.kla_obj "<lambda>" (X.env.qual ++ "<lambda>") params body scope (cloFrom X.env.cells scope.names []) pm c' ctv) := fun I2 => I2.base.keep f _ hf hfn hfr (fun z => nomatch (show f ∈ ([] : List Addr) from z))
  refine PySem.W.callWith_F (first := []) ⟨_, _, _, _, at1⟩ (thn (ha.run p2 pinZ s1 σZ H1 _ I1 ht) fun us s2 ⟨vs, H2, I2, r, q⟩ => ⟨⟨_, _, _, _, FnAt2 I2⟩, ?_⟩) hst hpl
  obtain ⟨v, rfl, hc, ht2⟩ := q
  obtain ⟨u, rfl, ru⟩ := vals1 r
  have at2 := FnAt2 I2
  have un : Un (frs X.stack) [] H H2 s.heap s2.heap := I2.base
  have rc : codeAny (model X.prog X.w) (X.A.deeper (envOfC qg sg s.heap.objs.size g cdg)) (.call (.ref f) ⟨[u], []⟩) (CR C8.CX0 (envOfC qg sg s.heap.objs.size g cdg :: X.stack) X.prog X.w H2 s2 Q C8.E0) s2 := by
    refine PySem.W.kla_callFunE hr.depth at2 rfl L.co L.gen rfl (codeP_at I2.hok hc).1 ?_
    rw [hbind]
    refine wpAny_pure (newEnv1 L fun h₁ tk hns hcell kp => ⟨I2.nolimit.keeps kp, ?_⟩)
    show codeAny _ _ (.expr body (lam1Env X scope x s2.heap.objs.size f c')) _ _
    have J : Inv (lam1Cx X (X.A.deeper (envOfC qg sg s.heap.objs.size g cdg)) (envOfC qg sg s.heap.objs.size g cdg :: X.stack) s2 H2 scope x f c') [] (σ ++ [some v]) H2 { s2 with heap := h₁, toks := tk } :=
      lam1_start I L nx I2.env0 hr.hd un hns hcell ru kp
    refine PySem.W.kla_codeExpr (wpAny_mono ((hbody _ _ s2 H2 (hr.deeper _)).run [] _ _ H2 Q J ht2) (fun v s' hq => ?_) fun e s' hq => hq)
    obtain ⟨w', H', J', rv, q⟩ := hq
    exact ⟨w', H', J'.os, J'.bare, J'.base, J'.hok, rv, q⟩
  refine wpAny_call (codeAny_mono rc fun r s' hq => ?_)
  cases r with
  | error e => exact (show False from hq).elim
  | ok fl =>
    cases fl with
    | ret u => exact I2.after hq
    | next => exact False.elim hq
    | brk => exact False.elim hq
    | cont => exact False.elim hq
end
/-- the code object at c with its table at P, as D tells them; R: of a made code object's table -/
def TabD (X : Cx) (c P : Addr) (q : Str) (D : Hp → Prop) (R : Hp → Addr → Prop) : Prop := ∀ {pins : List (Addr × Obj)} {σ : L2.St} {H : Hp} {s : Shared}, Inv X pins σ H s → D H → ∃ ps : Array Value, PySem.W.CodeHd s.heap c P ∧ X.base.BuiltinsAt X.mg P ∧ mainGlobals ≠ P ∧
  H P = some (.tbl ps) ∧ TriplesOk ps.toList ∧ (∀ (pos : Pos) (cv : Value), codeAmong pos ps.toList = some cv → ∃ c' P', cv = .ref c' ∧ H c' = some (CodeP c' q P') ∧ R H P') ∧
  ∀ c' P' H1, Made (R H) X.base H P ps c' P' q H1 → D H1 ∧ R H1 P'
theorem tabD0 {X : Cx} {c P : Addr} {q1 q2 : Str} (T : LamX.TabB X.base X.mg c P) : TabD X c P q1 (LT X.base P q1 q2) (fun H P' => Sub X.base H P P' q2) := fun I d => by
  obtain ⟨ps, h1, h2, h3⟩ := id d
  exact ⟨ps, T.code.keeps I.bk, T.bm, T.gP, h1, h2, h3, fun c' P' H1 m => LT.made0 m h1 d⟩
theorem tabD1 {X : Cx} {c c2 P P2 : Addr} {q1 q2 : Str} (T : LamX.TabB X.base X.mg c P) : TabD X c2 P2 q2 (fun H => LT X.base P q1 q2 H ∧ Sub X.base H P P2 q2 ∧ H c2 = some (CodeP c2 q1 P2)) (fun _ _ => True) := fun {pins σ H s} I d => by
  obtain ⟨d1, d2, d3⟩ := d
  obtain ⟨h1, h2, ps, h3, h4, h5⟩ := id d2
  refine ⟨ps, (codeP_at I.hok d3).2, ?_, fun z => ?_, h3, h4, fun pos cv z => ?_, fun c' P' H1 m => ⟨⟨LT.made1 m h3 d2 d1, Sub.made m h3 d2 d2, m.ext h3 _ _ d3 codeP_ne⟩, trivial⟩⟩
  · obtain ⟨bm, ob, b1, b2, b3, b4, b5, b6⟩ := T.bm
    exact ⟨bm, ob, b1, b2, b3, fun z => (by rw [z, h2] at b5; cases b5), b5, b6⟩
  · obtain ⟨o, es, ep, e, _⟩ := I.mod.glob
    rw [z, h2] at e
    cases e
  · obtain ⟨c', P', e1, e2⟩ := h5 pos cv z
    exact ⟨c', P', e1, e2, trivial⟩
/-- the def that calls what it got: a() -/
def Gives0 (X : Cx) (Ng : List Str) (x : Str) (sg : Scope) (g : Addr) (cdg : Value) (bg : List Stmt) (a q : Str) (TT : (XK → Hp → VK → Prop) → Hp → VK → Prop) : Prop :=
  ∀ (f c' P' : Addr) (s : Shared) (H : Hp) (Q : VK) (tl : XK → Hp → VK → Prop),
    (∀ (W : WX) (pn : List (Addr × Obj)) (xe : Value → Shared → Prop) (E : XK) (p1 p2 : Pos), Takes ((cxOf C8.CX0 X.prog X.w X.K X.mg X.base Ng x sg g cdg X.A X.stack s H C8.E0).tr pn xe) W → (∀ cls d σ' H', σ'.length = Ng.length → E cls d H' → W cls d σ' H') →
      PE ((cxOf C8.CX0 X.prog X.w X.K X.mg X.base Ng x sg g cdg X.A X.stack s H C8.E0).tr pn xe) (.Call (.Name a p1) [] [] p2) (fun σZ HZ Q => σZ[0]? = some (some (.ref f)) ∧ HZ c' = some (CodeP c' q P') ∧ tl E HZ Q)) →
    H c' = some (CodeP c' q P') → TT tl H Q →
    ∃ t, PSs (cxOf C8.CX0 X.prog X.w X.K X.mg X.base Ng x sg g cdg X.A X.stack s H C8.E0).nox bg t ∧ t { nx := fun _ H' => Q .non H', rt := Q } (L2.start Ng [.ref f]) H
/-- the def that calls what it got: a(y) -/
def Gives1 (X : Cx) (Ng : List Str) (x : Str) (sg : Scope) (g : Addr) (cdg : Value) (bg : List Stmt) (a q : Str) (TT : (V → Hp → VK → Prop) → Hp → VK → Prop) : Prop :=
  ∀ (f c' P' : Addr) (s : Shared) (H : Hp) (Q : VK) (tl : V → Hp → VK → Prop),
    (∀ (y : Str) (ta : TA) (p1 p2 p3 : Pos), PA (cxOf C8.CX0 X.prog X.w X.K X.mg X.base Ng x sg g cdg X.A X.stack s H C8.E0).nox [.Name y p3] ta →
      PE (cxOf C8.CX0 X.prog X.w X.K X.mg X.base Ng x sg g cdg X.A X.stack s H C8.E0).nox (.Call (.Name a p1) [.Name y p3] [] p2) (fun σZ HZ Q => σZ[0]? = some (some (.ref f)) ∧ ta σZ HZ fun vs H1 => ∃ v, vs = [v] ∧ H1 c' = some (CodeP c' q P') ∧ tl v H1 Q)) →
    H c' = some (CodeP c' q P') → TT tl H Q →
    ∃ t, PSs (cxOf C8.CX0 X.prog X.w X.K X.mg X.base Ng x sg g cdg X.A X.stack s H C8.E0).nox bg t ∧ t { nx := fun _ H' => Q .non H', rt := Q } (L2.start Ng [.ref f]) H
def tLam0 (D : Hp → Prop) (TT : (XK → Hp → VK → Prop) → Hp → VK → Prop) (t : XK → TE) : TE := fun σ H Q => D H ∧ ∀ H1, ExtT H H1 → D H1 → TT (fun E H' Q' => t E σ H' Q') H1 Q
def tLam1 (q : Str) (D : Hp → Prop) (R : Hp → Addr → Prop) (TT : (V → Hp → VK → Prop) → Hp → VK → Prop) (t : Addr → Addr → TE) : TE := fun σ H Q => D H ∧ ∀ H1 c' P', ExtT H H1 → D H1 → R H1 P' → H1 c' = some (CodeP c' q P') → TT (fun v H' Q' => t c' P' (σ ++ [some v]) H' Q') H1 Q
section
variable {X : Cx}
/-- x(lambda: body) -/
theorem pe_lam0 {D : Hp → Prop} {R : Hp → Addr → Prop} {TT : (XK → Hp → VK → Prop) → Hp → VK → Prop} {x a : Str} {g c P : Addr} {k : Nat} {pg : Arguments} {bg : List Stmt} {sg : Scope} {dV kV doc pm cdv ct oc : Value} {an od : Option Addr} {osl : Array (Option Value)} {Ng : List Str}
    {params : Arguments} {body : Expr} {scope : Scope} {t : XK → TE} {p lpos pos : Pos} (hg : Gl X x) (hm : X.mg x = some (.ref g)) (hk : PySem.W.keepIn X.K (.ref g) = true)
    (lk : X.K.lookup g = some ⟨oc, od, .func (PySem.W.fnOf x x pg bg sg dV kV doc pm an cdv ct), osl⟩) (hcg : PySem.W.codeIn X.K cdv x = true) (hb : L2.Binds X.K (PySem.W.fnOf x x pg bg sg dV kV doc pm an cdv ct) [a] []) (Sg : FnScope Ng [a] sg) (hNg : Ng[0]? = some a) (hva : Vis sg a)
    (hG : Gives0 X Ng x sg g cdv bg a (X.env.qual ++ "<lambda>") TT) (TD : TabD X c P (X.env.qual ++ "<lambda>") D R) (hcode : X.env.code = .ref c) (hr : Room (k + 2) X.A) (L : LamX.LamS X.env.scope scope) (hdef : defaultsOf params X.env = ([], []))
    (hbind : ∀ (q : Str) (cl : List (Str × Addr)) (pm cv ctv : Value), bindArgs (PySem.W.kla_fn "<lambda>" q params body scope cl pm cv ctv) ⟨[], []⟩ = pure [])
    (hbody : ∀ (A : Around) (outer : List Env) (s : Shared) (H : Hp) (E : XK) (f c' : Addr), Room k (A.deeper (LamX.lamEnv X scope s.heap.objs.size f c')) → PE (LamX.lamCx X A outer s H E scope f c') body (t E))
    (hdb : (x == ("__debug__" : Str)) = false := by decide) (hd : (a == ("__debug__" : Str)) = false := by decide) (hcd : (a == ("__classdict__" : Str)) = false := by decide) :
    PE X (.Call (.Name x p) [.Lambda params body scope lpos] [] pos) (tLam0 D TT t) := by
  refine ⟨fun pins s σ H Q I h => ?_⟩
  obtain ⟨hT, h⟩ := h
  obtain ⟨ps, C, bm, gP, hP, ht, told, made⟩ := TD I hT
  refine wpAny_Call_Name_kw (ld_glob I hg hm ?_ hdb)
  refine PySem.W.callWith_K (h₀ := X.base) I.ok.mod.kin hk ?_ (by rfl) (by rfl)
  show wpAny _ _ (spliced ((false, eval (.Lambda params body scope lpos) X.env) :: backTo pos (starEach [] X.env))) _ _ s
  refine Calls.spliced_cons (mk_lam I C bm gP hcode hP ht told hdef (L.has I.ok) fun f c' P' pm' ctv H1 s' I1 md hf hfn hfr hco => ?_)
  refine Calls.spliced_nil ⟨I1.kIn, ?_⟩
  have rc : codeAny (model X.prog X.w) X.A (.call (.ref g) ⟨[.ref f], []⟩) (CR C8.CX0 X.stack X.prog X.w H1 s' Q C8.E0) s' := by
    refine LamX.run_ofS (N := Ng) (ps := [a]) (us := [.ref f]) (vs := [.ref f]) lk hcg Sg hr I1.env0 (hb s' [.ref f] I1.kIn rfl) (.cons rfl .nil) rfl fun hr2 => ?_
    obtain ⟨t2, ht2, hq2⟩ := hG f c' P' s' H1 Q (fun E H' Q' => t E σ H' Q') (fun W pn xe E p1 p2 tk hW => act0 (i := 0) I1 L hf hfn hfr (hbind _ _ _ _ _) tk hW hr2 (fun A outer s H hr3 => hbody A outer s H E f c' hr3) hNg hva hd hcd) hco (h H1 (md.ext hP) (made _ _ _ md).1)
    exact ⟨t2, ht2.nox, hq2⟩
  refine wpAny_call (codeAny_mono rc fun r s2 hq => ?_)
  cases r with
  | error e => exact (show False from hq).elim
  | ok fl =>
    cases fl with
    | ret u => exact I1.after hq
    | next => exact False.elim hq
    | brk => exact False.elim hq
    | cont => exact False.elim hq
/-- x(lambda y: body), y captured -/
theorem pe_lam1 {D : Hp → Prop} {R : Hp → Addr → Prop} {TT : (V → Hp → VK → Prop) → Hp → VK → Prop} {x a y : Str} {g c P : Addr} {k : Nat} {pg : Arguments} {bg : List Stmt} {sg : Scope} {dV kV doc pm cdv ct oc : Value} {an od : Option Addr} {osl : Array (Option Value)} {Ng : List Str}
    {params : Arguments} {body : Expr} {scope : Scope} {t : Addr → Addr → TE} {p lpos pos : Pos} (hg : Gl X x) (hm : X.mg x = some (.ref g)) (hk : PySem.W.keepIn X.K (.ref g) = true)
    (lk : X.K.lookup g = some ⟨oc, od, .func (PySem.W.fnOf x x pg bg sg dV kV doc pm an cdv ct), osl⟩) (hcg : PySem.W.codeIn X.K cdv x = true) (hb : L2.Binds X.K (PySem.W.fnOf x x pg bg sg dV kV doc pm an cdv ct) [a] []) (Sg : FnScope Ng [a] sg) (hNg : Ng[0]? = some a) (hva : Vis sg a)
    (hG : Gives1 X Ng x sg g cdv bg a (X.env.qual ++ "<lambda>") TT) (TD : TabD X c P (X.env.qual ++ "<lambda>") D R) (hcode : X.env.code = .ref c) (hr : Room (k + 2) X.A) (L : LamS1 X.env.scope scope y) (ny : y ∉ X.N) (hdef : defaultsOf params X.env = ([], []))
    (hbind : ∀ (q : Str) (cl : List (Str × Addr)) (pm cv ctv u : Value), bindArgs (PySem.W.kla_fn "<lambda>" q params body scope cl pm cv ctv) ⟨[u], []⟩ = pure [(y, u)])
    (hbody : ∀ (A : Around) (outer : List Env) (s : Shared) (H : Hp) (f c' P' : Addr), Room k (A.deeper (lam1Env X scope y s.heap.objs.size f c')) → PE (lam1Cx X A outer s H scope y f c') body (t c' P'))
    (hdb : (x == ("__debug__" : Str)) = false := by decide) (hd : (a == ("__debug__" : Str)) = false := by decide) (hcd : (a == ("__classdict__" : Str)) = false := by decide) :
    PE X (.Call (.Name x p) [.Lambda params body scope lpos] [] pos) (tLam1 (X.env.qual ++ "<lambda>") D R TT t) := by
  refine ⟨fun pins s σ H Q I h => ?_⟩
  obtain ⟨hT, h⟩ := h
  obtain ⟨ps, C, bm, gP, hP, ht, told, made⟩ := TD I hT
  have hfree : ∀ y ∈ scope.names, y.2 = .free → ∃ c, X.env.cells.lookup y.1 = some c := fun y hy e => by
    rcases (L.free y hy e).2 with k | k
    · exact I.ok.has _ (.inl k)
    · exact I.ok.has _ (.inr k)
  refine wpAny_Call_Name_kw (ld_glob I hg hm ?_ hdb)
  refine PySem.W.callWith_K (h₀ := X.base) I.ok.mod.kin hk ?_ (by rfl) (by rfl)
  show wpAny _ _ (spliced ((false, eval (.Lambda params body scope lpos) X.env) :: backTo pos (starEach [] X.env))) _ _ s
  refine Calls.spliced_cons (mk_lam I C bm gP hcode hP ht told hdef hfree fun f c' P' pm' ctv H1 s' I1 md hf hfn hfr hco => ?_)
  refine Calls.spliced_nil ⟨I1.kIn, ?_⟩
  have rc : codeAny (model X.prog X.w) X.A (.call (.ref g) ⟨[.ref f], []⟩) (CR C8.CX0 X.stack X.prog X.w H1 s' Q C8.E0) s' := by
    refine LamX.run_ofS (N := Ng) (ps := [a]) (us := [.ref f]) (vs := [.ref f]) lk hcg Sg hr I1.env0 (hb s' [.ref f] I1.kIn rfl) (.cons rfl .nil) rfl fun hr2 => ?_
    obtain ⟨d1, r1⟩ := made _ _ _ md
    obtain ⟨t2, ht2, hq2⟩ := hG f c' P' s' H1 Q (fun v H' Q' => t c' P' (σ ++ [some v]) H' Q') (fun z ta p1 p2 p3 ha => act1 (i := 0) I1 L ny hf hfn hfr (fun u => hbind _ _ _ _ _ u) hr2 (fun A outer s H hr3 => hbody A outer s H f c' P' hr3) hNg hva ha hd hcd) hco (h H1 c' P' (md.ext hP) d1 r1 hco)
    exact ⟨t2, ht2.nox, hq2⟩
  refine wpAny_call (codeAny_mono rc fun r s2 hq => ?_)
  cases r with
  | error e => exact (show False from hq).elim
  | ok fl =>
    cases fl with
    | ret u => exact I1.after hq
    | next => exact False.elim hq
    | brk => exact False.elim hq
    | cont => exact False.elim hq
end
/-! ### _law_met, _law_m_held: they call what they got -/
/-- the tuple that tells of a caught error -/
def metX (K : PySem.W.Frag) (Q : VK) : XK := fun cls d H' => ∃ x label : Str, ((x = "BadWeights" ∧ label = "weights") ∨ (x = "NoStatement" ∧ label = "statement") ∨ (x = "BadNumber" ∧ label = "number")) ∧ cls = .ref (He.ga K x) ∧
  ∃ (dd : Addr) (v : V), d = some dd ∧ H' dd = some (.xd [("thing", v)]) ∧ [V.str label, v].length ≤ sizeLine ∧ ∀ p, H' p = none → Q (.ref p) (upd H' p (.tup [.str label, v]))
def TTmet (K : PySem.W.Frag) : (XK → Hp → VK → Prop) → Hp → VK → Prop := fun tl H Q => tl (metX K Q) H (fun v H' => [V.str "told", v].length ≤ sizeLine ∧ ∀ p, H' p = none → Q (.ref p) (upd H' p (.tup [.str "told", v])))
theorem met_gives {X : Cx} (T : Top X.K X.mg) {g : Addr} {cdg : Value} {q : Str} : Gives0 X N_law_met "_law_met" (defScope s_law_met) g cdg (defBody s_law_met) "_law_ask" q (TTmet X.K) := by
  intro f c' P' s H Q tl act hc h
  refine ⟨_, pss_one (ps_try_manyA (X := (cxOf C8.CX0 X.prog X.w X.K X.mg X.base N_law_met "_law_met" (defScope s_law_met) g cdg X.A X.stack s H C8.E0).nox) (n := "e") (i := 1)
    (l := [(.ref (He.ga X.K "BadWeights"), _), (.ref (He.ga X.K "NoStatement"), _), (.ref (He.ga X.K "BadNumber"), _)])
    (tb := fun W D σ H => ∃ Ech : XK, (∀ cls d σ' H', σ'.length = N_law_met.length → Ech cls d H' → W cls d σ' H') ∧ σ[0]? = some (some (.ref f)) ∧ H c' = some (CodeP c' q P') ∧ tl Ech H (fun v H1 => [V.str "told", v].length ≤ sizeLine ∧ ∀ p, H1 p = none → D.rt (.ref p) (upd H1 p (.tup [.str "told", v]))))
    rfl rfl sc_law_met.nd rfl rfl LamX.takes0 (fun W pn xe tk _ => ?_)
    (.cons ⟨rfl, by decide, .inl T.g_BadWeights⟩ (fun a ob cls d pn hz hf => pss_one (ps_ret (pe_tup (pa_cons pe_str (pa_cons (pe_xf (C := He.ga X.K "BadWeights") T.e_BadWeights.xf T.e_BadWeights.thing hz hf (pv 1)) pa_nil)))))
    (.cons ⟨rfl, by decide, .inl T.g_NoStatement⟩ (fun a ob cls d pn hz hf => pss_one (ps_ret (pe_tup (pa_cons pe_str (pa_cons (pe_xf (C := He.ga X.K "NoStatement") T.e_NoStatement.xf T.e_NoStatement.thing hz hf (pv 1)) pa_nil)))))
    (.cons ⟨rfl, by decide, .inl T.g_BadNumber⟩ (fun a ob cls d pn hz hf => pss_one (ps_ret (pe_tup (pa_cons pe_str (pa_cons (pe_xf (C := He.ga X.K "BadNumber") T.e_BadNumber.xf T.e_BadNumber.thing hz hf (pv 1)) pa_nil))))) .nil)))), ?_⟩
  · refine ⟨fun pins s' σ H' D I h' => ?_⟩
    obtain ⟨Ech, hW, h1, h2, h3⟩ := h'
    exact (pss_one (ps_ret (pe_tup (pa_cons pe_str (pa_cons (act W pn xe Ech _ _ tk hW) pa_nil))))).run pins s' σ H' D I ⟨h1, h2, h3⟩
  · refine ⟨metX X.K Q, fun cls d σ' H' hl hx => ?_, rfl, hc, h⟩
    obtain ⟨x, label, hm, rfl, dd, v, rfl, hd, hsz, hq⟩ := hx
    obtain ⟨y0, y1, rfl⟩ : ∃ y0 y1, σ' = [y0, y1] := by
      match σ', hl with
      | [y0, y1], _ => exact ⟨y0, y1, rfl⟩
    rcases hm with ⟨rfl, rfl⟩ | ⟨rfl, rfl⟩ | ⟨rfl, rfl⟩
    · exact ⟨true, T.x_BadWeights_BadWeights, fun _ a ha => ⟨_, rfl, rfl, rfl, dd, _, v, rfl, hd, rfl, hsz, hq⟩, fun z => nomatch z⟩
    · exact ⟨false, T.x_NoStatement_BadWeights, (fun z => nomatch z), fun _ => ⟨true, T.x_NoStatement_NoStatement, fun _ a ha => ⟨_, rfl, rfl, rfl, dd, _, v, rfl, hd, rfl, hsz, hq⟩, fun z => nomatch z⟩⟩
    · exact ⟨false, T.x_BadNumber_BadWeights, (fun z => nomatch z), fun _ => ⟨false, T.x_BadNumber_NoStatement, (fun z => nomatch z), fun _ => ⟨true, T.x_BadNumber_BadNumber, fun _ a ha => ⟨_, rfl, rfl, rfl, dd, _, v, rfl, hd, rfl, hsz, hq⟩, fun z => nomatch z⟩⟩⟩
/-- _law_m_held: the thing is changed behind the call; the rest of the tuple is told -/
def TTheld : (V → Hp → VK → Prop) → Hp → VK → Prop := fun tl H Q => ∀ p, H p = none → ∀ R : VK, (∀ (t : Addr) (x y : V) (H' : Hp), H' t = some (.tup [x, y]) → H' p = some (.lst [.non]) →
  (∀ p2, upd H' p (.lst [.non, .str "late"]) p2 = none → Q (.ref p2) (upd (upd H' p (.lst [.non, .str "late"])) p2 (.tup [y]))) → R (.ref t) H') → tl (.ref p) (upd H p (.lst [.non])) R
theorem held_gives {X : Cx} (T : Top X.K X.mg) {g : Addr} {cdg : Value} {q : Str} : Gives1 X N_law_m_held "_law_m_held" (defScope s_law_m_held) g cdg (defBody s_law_m_held) "_law_ask" q TTheld := by
  intro f c' P' s H Q tl act hc h
  let K := X.K
  refine ⟨_, (pss_cons (ps_set (i := 1) sc_law_m_held.nd rfl (Or.inl rfl) (pe_lst (pa_cons pe_non pa_nil)))
    (pss_cons (ps_set (i := 2) sc_law_m_held.nd rfl (Or.inl rfl) (act _ _ _ _ _ (pa_cons (pv 1) pa_nil)))
    (pss_cons (ps_expr (bm_K K PySem.F.plainAttrs_list PySem.F.slot_list_append PySem.F.type_list_append mt_append (pv 1) (pa_cons pe_str pa_nil)))
    (pss_one (ps_ret (pe_slice sl_tup (pv 2) (po_some pe_int) po_none)))))), ?_⟩
  refine ⟨le_sl (by show 1 ≤ _; decide), fun p hp => ?_⟩
  refine ⟨rfl, _, rfl, _, rfl, same_new hp _ _ hc, ?_⟩
  refine h p hp _ fun t x y H' ht hp' k => ?_
  refine ⟨_, rfl, .inl ⟨rfl, _, SqL.of hp'⟩, p, _, _, rfl, rfl, hp', lt_sl (by show 1 < _; decide), ?_⟩
  have tp : t ≠ p := ne_of ht hp' (fun z => nomatch z)
  refine ⟨_, rfl, _, rfl, t, _, rfl, SqT.of ((upd_ne tp).trans ht), ?_, fun p2 hp2 => ?_⟩
  · exact (by decide : ¬(HT.sIx 2 0 (some 1) = 0 ∧ HT.sIx 2 2 none = 2))
  · exact k p2 hp2
/-! ### the heap without its tables -/
def noT (H : Hp) : Hp := fun b => match H b with
  | some (.tbl _) => none
  | x => x
theorem noT_at {H : Hp} {b : Addr} {o : HO} (h : H b = some o) (n : ∀ ps, o ≠ .tbl ps) : noT H b = some o := by
  unfold noT
  rw [h]
  cases o with
  | tbl ps => exact absurd rfl (n ps)
  | _ => rfl
theorem noT_tbl {H : Hp} {b : Addr} {ps : Array Value} (h : H b = some (.tbl ps)) : noT H b = none := by
  unfold noT
  rw [h]
theorem noT_of {H : Hp} {b : Addr} {o : HO} (h : noT H b = some o) : H b = some o ∧ ∀ ps, o ≠ .tbl ps := by
  cases e : H b with
  | none =>
    have : noT H b = none := by
      unfold noT
      rw [e]
    rw [this] at h
    cases h
  | some u =>
    cases u with
    | tbl ps =>
      rw [noT_tbl e] at h
      cases h
    | _ =>
      rw [noT_at e (fun ps z => nomatch z)] at h
      cases h
      exact ⟨rfl, fun ps z => nomatch z⟩
theorem noT_le (H : Hp) : Same (noT H) H := fun b o e => (noT_of e).1
theorem ExtT.noT {H H' : Hp} (e : ExtT H H') : Same (noT H) (noT H') := fun b o h => noT_at (e b o (noT_of h).1 (noT_of h).2) (noT_of h).2
theorem same_noT {H H' : Hp} (e : Same H H') : Same (noT H) (noT H') := fun b o h => noT_at (e b o (noT_of h).1) (noT_of h).2
section
variable {K : PySem.W.Frag} {H : Hp}
theorem SqL.noT {a : Addr} {xs : List V} (h : SqL K H a xs) : SqL K (noT H) a xs := by
  rcases h with (h | ⟨o, h⟩) | h
  · exact .inl (.inl (noT_at h fun _ z => nomatch z))
  · exact .inl (.inr ⟨o, noT_at h fun _ z => nomatch z⟩)
  · exact .inr h
theorem SqT.noT {a : Addr} {xs : List V} (h : SqT K H a xs) : SqT K (noT H) a xs := by
  rcases h with (h | ⟨o, h⟩) | h
  · exact .inl (.inl (noT_at h fun _ z => nomatch z))
  · exact .inl (.inr ⟨o, noT_at h fun _ z => nomatch z⟩)
  · exact .inr h
theorem noT_l {b : Addr} {xs : List V} (h : H b = some (.lst xs)) : noT H b = some (.lst xs) := noT_at h fun _ z => (nomatch z)
theorem noT_t {b : Addr} {xs : List V} (h : H b = some (.tup xs)) : noT H b = some (.tup xs) := noT_at h fun _ z => (nomatch z)
theorem noT_dK {b : Addr} {xs : List (L2.Key × V)} (h : H b = some (.dK xs)) : noT H b = some (.dK xs) := noT_at h fun _ z => (nomatch z)
theorem noT_dT {b : Addr} {xs : List (List L2.Key × V)} (h : H b = some (.dT xs)) : noT H b = some (.dT xs) := noT_at h fun _ z => (nomatch z)
theorem noT_ins {b C dx : Addr} {fs : List (Str × V)} (h : H b = some (.ins C dx fs)) : noT H b = some (.ins C dx fs) := noT_at h fun _ z => (nomatch z)
theorem TyX.noT {x : V} {t : Value} (h : TyX K H x t) : TyX K (noT H) x t := by
  cases h with
  | base b =>
    refine .base ?_
    cases b with
    | non => exact .non
    | bl x => exact .bl x
    | int x => exact .int x
    | str x => exact .str x
    | flt x => exact .flt x
    | lst e => exact .lst (noT_l e)
    | frz e => exact .frz (noT_at e fun _ z => (nomatch z))
    | tup e => exact .tup (noT_t e)
    | dK e => exact .dK (noT_dK e)
    | dT e => exact .dT (noT_dT e)
    | ins e a b c d d2 => exact .ins (noT_ins e) a b c d d2
  | byt b => exact .byt b
  | set e => exact .set (noT_at e fun _ z => (nomatch z))
  | kList e c => exact .kList e c
  | kTuple e c => exact .kTuple e c
  | kDict e c => exact .kDict e c
  | fTuple e => exact .fTuple (noT_at e fun _ z => (nomatch z))
  | fDict e => exact .fDict (noT_at e fun _ z => (nomatch z))
theorem SD.noT {n : Nat} {x y : V} (h : SD K H n x y) : SD K (noT H) n x y := by
  induction h with
  | flat h => exact .flat h
  | lst a b c z _ ih => exact .lst (Ob.SqL.noT a) (Ob.SqL.noT b) c z ih
  | tup a b c z _ ih => exact .tup (Ob.SqT.noT a) (Ob.SqT.noT b) c z ih
  | dT a b z _ ih => exact .dT (noT_dT a) b z ih
  | dK a z _ ih => exact .dK (noT_dK a) z ih
theorem WTh.noT {ps : List (Str × Str)} {v : V} {b : Bool} (h : WTh K H ps v b) : WTh K (noT H) ps v b := by
  cases h with
  | no a b c => exact .no a b (Ob.TyX.noT c)
  | txt a b => exact .txt (noT_dK a) b
  | tup a b => exact .tup (noT_dT a) fun p v q => (b p v q).elim .inl fun ⟨t, x, y, z⟩ => .inr ⟨t, x, y, Ob.TyX.noT z⟩
theorem Deb.noT {x : Addr} {sn : List Str} {ps : List (Str × Str)} (h : Deb K H x sn ps) : Deb K (noT H) x sn ps := by
  obtain ⟨dx, so, oo, ro, jo, zs, g1, g2, h1, h2, h3, h4, h5, h6, h7, h8⟩ := h
  refine ⟨dx, so, oo, ro, jo, zs, g1, g2, noT_ins h1, noT_l h2, ⟨noT_l h3.1, fun z hz => ?_⟩, h4, noT_dK h5, noT_dK h6, fun s hs => ⟨noT_l (h7 s hs).1, noT_l (h7 s hs).2⟩, h8⟩
  obtain ⟨t, a, b⟩ := h3.2 z hz
  exact ⟨t, a, noT_t b⟩
end
theorem Sub.hid {base : Heap} {H : Hp} {P P2 st cl : Addr} {N : Nat} {q : Str} (s : Sub base H P P2 q) (hs : Strm N st cl H) : Sub base (hid2 st cl H) P P2 q := by
  obtain ⟨h1, h2, ps, h3, h4, h5⟩ := s
  obtain ⟨ne, cs, c, n, m, a, b, r⟩ := hs
  refine ⟨h1, h2, ps, by rw [hid2_ne (ne_of h3 a fun z => nomatch z) (ne_of h3 b fun z => nomatch z)]; exact h3, h4, fun pos cv z => ?_⟩
  obtain ⟨c, P3, e1, e2⟩ := h5 pos cv z
  exact ⟨c, P3, e1, by rw [hid2_ne (ne_of e2 a fun z => nomatch z) (ne_of e2 b fun z => nomatch z)]; exact e2⟩
theorem LT.hid {base : Heap} {H : Hp} {P st cl : Addr} {N : Nat} {q1 q2 : Str} (s : LT base P q1 q2 H) (hs : Strm N st cl H) : LT base P q1 q2 (hid2 st cl H) := by
  obtain ⟨ps, h3, h4, h5⟩ := s
  have hs0 := hs
  obtain ⟨ne, cs, c, n, m, a, b, r⟩ := hs0
  refine ⟨ps, by rw [hid2_ne (ne_of h3 a fun z => nomatch z) (ne_of h3 b fun z => nomatch z)]; exact h3, h4, fun pos cv z => ?_⟩
  obtain ⟨c, P3, e1, e2, e3⟩ := h5 pos cv z
  exact ⟨c, P3, e1, by rw [hid2_ne (ne_of e2 a fun z => nomatch z) (ne_of e2 b fun z => nomatch z)]; exact e2, e3.hid hs⟩
theorem LT.stp {base : Heap} {H H' : Hp} {P st cl : Addr} {N : Nat} {q1 q2 : Str} (s : LT base P q1 q2 H) (hs : Strm N st cl H) (t : Stp st cl H H') : LT base P q1 q2 H' := (s.hid hs).ext fun b o e => hid2_le _ _ _ _ _ (t _ _ e)
theorem Strm.extT {st cl : Addr} {N : Nat} {H H' : Hp} (hs : Strm N st cl H) (e : ExtT H H') : Strm N st cl H' := by
  obtain ⟨ne, cs, c, n, m, a, b, r⟩ := hs
  exact ⟨ne, cs, c, n, m, e _ _ a fun _ z => (nomatch z), e _ _ b fun _ z => (nomatch z), r⟩
/-! ### the prices sorted by their lots -/
def enS (q : Int × List Str) : PyData := enL q.2
theorem sort_lots (ws : List (V × (Int × List Str))) {sn : List Str} {ps : List (Str × Str)} {f : Str × Str → Int} (h : ws.map (·.2) = pricesOf sn ps f) : sortBy enS ws = ws := by
  have T : PySem.W.TotalLe (PySem.W.dataLe false enL) := PySem.W.sortLe_total _ _ _
  have h1 : (lotsOf sn).Pairwise fun a b => PySem.W.dataLe false enL a b = true := List.pairwise_mergeSort (fun a b c => T.trans a b c) (fun a b => Bool.or_eq_true_iff.mpr (T.total a b)) (subs sn)
  have h2 : ws.map (fun z => z.2.2) = lotsOf sn := by
    have e := congrArg (List.map (fun q : Int × List Str => q.2)) h
    rw [List.map_map, List.map_map] at e
    have e2 : List.map ((fun q : Int × List Str => q.2) ∘ fun l => (price ps f l, l)) (lotsOf sn) = lotsOf sn := List.map_id _
    rw [e2] at e
    exact e
  rw [← h2, List.pairwise_map] at h1
  exact List.mergeSort_of_pairwise h1
theorem alikeQ (ws : List (V × (Int × List Str))) : PySem.W.AllAlike (ws.map fun z => enS z.2) := by
  have q := alikeL (ws.map fun z => (z.1, z.2.2))
  rw [List.map_map] at q
  exact q
theorem sortQ (ws : List (V × (Int × List Str))) : PySem.W.Sortable (ws.map fun z => enS z.2) := by
  have q := sortL (ws.map fun z => (z.1, z.2.2))
  rw [List.map_map] at q
  exact q
/-! ### the two defs called with lambdas -/
section
variable {X : Cx}
theorem pe_met (T : Top X.K X.mg) {D : Hp → Prop} {R : Hp → Addr → Prop} {c P : Addr} {k : Nat} {params : Arguments} {body : Expr} {scope : Scope} {t : XK → TE} {p lpos pos : Pos} (TD : TabD X c P (X.env.qual ++ "<lambda>") D R) (hcode : X.env.code = .ref c) (hr : Room (k + 2) X.A)
    (L : LamX.LamS X.env.scope scope) (hbody : ∀ (A : Around) (outer : List Env) (s : Shared) (H : Hp) (E : XK) (f c' : Addr), Room k (A.deeper (LamX.lamEnv X scope s.heap.objs.size f c')) → PE (LamX.lamCx X A outer s H E scope f c') body (t E))
    (hg : Gl X "_law_met" := by rfl) (hdef : defaultsOf params X.env = ([], []) := by rfl)
    (hbind : ∀ (q : Str) (cl : List (Str × Addr)) (pm cv ctv : Value), bindArgs (PySem.W.kla_fn "<lambda>" q params body scope cl pm cv ctv) ⟨[], []⟩ = pure [] := by intros; rfl) :
    PE X (.Call (.Name "_law_met" p) [.Lambda params body scope lpos] [] pos) (tLam0 D (TTmet X.K) t) := by
  obtain ⟨fd, F⟩ := T.f_law_met
  have hb := F.bindsN (ps := ["_law_ask"]) fun _ _ _ _ _ _ us hl => match us, hl with | [_], _ => rfl
  obtain ⟨oc, od, dV, kV, doc, pm, an, cdv, ct, osl, rfl, lk, hcd, _, _⟩ := F.ex
  exact pe_lam0 hg T.g_law_met F.kp lk hcd hb sc_law_met rfl (.inl rfl) (met_gives T) TD hcode hr L hdef hbind hbody
theorem pe_held (T : Top X.K X.mg) {D : Hp → Prop} {R : Hp → Addr → Prop} {c P : Addr} {y : Str} {k : Nat} {params : Arguments} {body : Expr} {scope : Scope} {t : Addr → Addr → TE} {p lpos pos : Pos} (TD : TabD X c P (X.env.qual ++ "<lambda>") D R) (hcode : X.env.code = .ref c) (hr : Room (k + 2) X.A)
    (L : LamS1 X.env.scope scope y) (ny : y ∉ X.N) (hbody : ∀ (A : Around) (outer : List Env) (s : Shared) (H : Hp) (f c' P' : Addr), Room k (A.deeper (lam1Env X scope y s.heap.objs.size f c')) → PE (lam1Cx X A outer s H scope y f c') body (t c' P'))
    (hg : Gl X "_law_m_held" := by rfl) (hdef : defaultsOf params X.env = ([], []) := by rfl)
    (hbind : ∀ (q : Str) (cl : List (Str × Addr)) (pm cv ctv u : Value), bindArgs (PySem.W.kla_fn "<lambda>" q params body scope cl pm cv ctv) ⟨[u], []⟩ = pure [(y, u)] := by intros; rfl) :
    PE X (.Call (.Name "_law_m_held" p) [.Lambda params body scope lpos] [] pos) (tLam1 (X.env.qual ++ "<lambda>") D R TTheld t) := by
  obtain ⟨fd, F⟩ := T.f_law_m_held
  have hb := F.bindsN (ps := ["_law_ask"]) fun _ _ _ _ _ _ us hl => match us, hl with | [_], _ => rfl
  obtain ⟨oc, od, dV, kV, doc, pm, an, cdv, ct, osl, rfl, lk, hcd, _, _⟩ := F.ex
  exact pe_lam1 hg T.g_law_m_held F.kp lk hcd hb sc_law_m_held rfl (.inl rfl) (held_gives T) TD hcode hr L ny hdef hbind hbody
/-- a call of a name that holds one of several defs -/
def tCallAX (i : Nat) (S : Addr → Sp → Prop) (E : XK) (t : TA) : TE := fun σ H Q => ∃ f sp, σ[i]? = some (some (.ref f)) ∧ S f sp ∧ t σ H fun vs H1 => sp vs H1 Q E
theorem pe_callAX {CX : CXT} {k j i : Nat} {E : XK} {x : Str} {p pos : Pos} {e : Expr} {es : List Expr} {t : TA} {S : Addr → Sp → Prop} (AA : ∀ f sp, S f sp → ∃ (fd : FuncData) (ps : List Str), FnOk X.prog X.w X.K X.mg X.base CX k f fd ps sp ∧ PySem.W.keepIn X.K (.ref f) = true ∧ Binds X.K fd ps [])
    (hr : Room j X.A) (hkj : k ≤ j) (hN : X.N[i]? = some x) (hv : Vis X.env.scope x) (hx : Passes CX X E) (ha : PA X (e :: es) t) (hdb : (x == ("__debug__" : Str)) = false := by decide) (hcd : (x == ("__classdict__" : Str)) = false := by decide)
    (he : starEach (e :: es) X.env = (false, eval e X.env) :: starEach es X.env := by rfl) (hpl : (backTo pos (starEach es X.env)).any (·.1) = false := by rfl) : PE X (.Call (.Name x p) (e :: es) [] pos) (tCallAX i S E t) := by
  refine ⟨fun pins s σ H Q I h => ?_⟩
  obtain ⟨f, sp, hs, hS, ht⟩ := h
  obtain ⟨fd, ps, F, hk, hb⟩ := AA f sp hS
  refine (pe_callL (i := i) (f := f) (sp := sp) (dvs := []) (E := E) F (hr.mono hkj) hN hv hk hb .nil hx ha hdb hcd he hpl).run pins s σ H Q I ⟨hs, ?_⟩
  have e0 : (fun (vs : List V) (H1 : Hp) => sp (vs ++ []) H1 Q E) = fun vs H1 => sp vs H1 Q E := by
    funext vs H1
    rw [List.append_nil]
  show t σ H (fun vs H1 => sp (vs ++ []) H1 Q E)
  rw [e0]
  exact ht
end
theorem lam1_own {scope : Scope} {x : Str} (h : (scope.names.all fun y => !decide (y.2 = .local) && (!decide (y.2 = .cell) || decide (y.1 = x))) = true) : ∀ y ∈ scope.names, y.2 ≠ .local ∧ (y.2 = .cell → y.1 = x) := fun y hy => by
  have q := List.all_eq_true.mp h y hy
  obtain ⟨a, b⟩ := Bool.and_eq_true_iff.mp q
  refine ⟨fun z => ?_, fun z => ?_⟩
  · rw [decide_eq_true z] at a
    cases a
  · rw [decide_eq_true z] at b
    exact of_decide_eq_true b
theorem lam1_free {sc scope : Scope} {x : Str} (h : (scope.names.all fun y => !decide (y.2 = .free) || (!decide (y.1 = x) && (decide (sc.names.lookup y.1 = some .cell) || decide (sc.names.lookup y.1 = some .free)))) = true) :
    ∀ y ∈ scope.names, y.2 = .free → y.1 ≠ x ∧ (sc.names.lookup y.1 = some .cell ∨ sc.names.lookup y.1 = some .free) := fun y hy e => by
  have q := List.all_eq_true.mp h y hy
  rw [decide_eq_true e] at q
  obtain ⟨a, b⟩ := Bool.and_eq_true_iff.mp (show (_ && _) = true from q)
  refine ⟨fun z => ?_, ?_⟩
  · rw [decide_eq_true z] at a
    cases a
  · rcases Bool.or_eq_true_iff.mp b with b | b
    · exact .inl (of_decide_eq_true b)
    · exact .inr (of_decide_eq_true b)
/-! ### a statement with its own promise -/
theorem ps_imp {X : Cx} {st : Stmt} {t t2 : TS} (p : PS X st t) (h : ∀ D σ H, t2 D σ H → t D σ H) : PS X st t2 := ⟨fun pins s σ H D I q => p.run pins s σ H D I (h D σ H q)⟩
/-! ### the law, statement by statement -/
abbrev q1L : Str := (Str.ofString "law" ++ Str.ofString ".<locals>.") ++ Str.ofString "<lambda>"
abbrev q2L : Str := (q1L ++ Str.ofString ".<locals>.") ++ Str.ofString "<lambda>"
def bodyOf : Stmt → List Stmt
  | .For _ _ b _ _ => b
  | _ => []
abbrev noSt : Stmt := .Pass ⟨0, 0, 0, 0⟩
abbrev turnB : List Stmt := bodyOf ((defBody s_law).getD 1 noSt)
abbrev stL (i : Nat) : Stmt := turnB.getD i noSt
abbrev LX (P : Program) (w : World) (K : PySem.W.Frag) (mg : Str → Option Value) (base : Heap) (c0 : Addr) (A : Around) (outer : List Env) (s : Shared) (H : Hp) (E : XK) : Cx :=
  (cxOf CX0 P w K mg base N_law "law" (defScope s_law) (He.ga K "law") (.ref c0) A outer s H E).nox
abbrev s16 (u0 u1 u2 u3 u4 u5 u6 u7 u8 u9 u10 u11 u12 u13 u14 u15 : Option V) : L2.St := [u0, u1, u2, u3, u4, u5, u6, u7, u8, u9, u10, u11, u12, u13, u14, u15]
def tL0 : TS := fun D σ H => ∃ (u0 u3 u4 u5 u6 u7 u8 u9 u10 u11 u12 u13 u14 u15 : Option V) (st cl : Addr) (i : Int) (N : Nat), σ = s16 u0 (some (.ref st)) (some (.int i)) u3 u4 u5 u6 u7 u8 u9 u10 u11 u12 u13 u14 u15 ∧ Strm N st cl H ∧ N < 900000 ∧
  ∀ (H' : Hp) (na : Addr) (ns : List Str), Stp st cl H H' → Strm (N + 20) st cl H' → hid2 st cl H' na = some (.lst (ns.map V.str)) → ns.Nodup → (∀ n ∈ ns, n ∈ ten) → ns.length ≤ 8 →
    D.nx (s16 u0 (some (.ref st)) (some (.int i)) (some (.ref na)) u4 u5 u6 u7 u8 u9 u10 u11 u12 u13 u14 u15) H'
def tL1 : TS := fun D σ H => ∃ (u0 u2 u4 u5 u6 u7 u8 u9 u10 u11 u12 u13 u14 u15 : Option V) (st cl na : Addr) (ns : List Str) (N : Nat), σ = s16 u0 (some (.ref st)) u2 (some (.ref na)) u4 u5 u6 u7 u8 u9 u10 u11 u12 u13 u14 u15 ∧ Strm N st cl H ∧ N < 900000 ∧ hid2 st cl H na = some (.lst (ns.map V.str)) ∧ (∀ n ∈ ns, n ∈ ten) ∧ ns.length ≤ 8 ∧
  ∀ (H' : Hp) (pa : Addr) (zs : List (V × (Str × Str))), Stp st cl H H' → Strm (N + 1000) st cl H' → Lof (hid2 st cl H') IsPair pa zs → (zs.map (·.2)).Nodup → (∀ z ∈ zs, z.2.1 ∈ ns ∧ z.2.2 ∈ ns) → zs.length ≤ 200 →
    D.nx (s16 u0 (some (.ref st)) u2 (some (.ref na)) (some (.ref pa)) u5 u6 u7 u8 u9 u10 u11 u12 u13 u14 u15) H'
theorem hid2_cases {st cl : Addr} {N : Nat} {H H' : Hp} (hs : Strm N st cl H) : ∀ b, hid2 st cl H' b = H' b ∨ ∃ xs, H b = some (.lst xs) := fun b => by
  obtain ⟨ne, cs, c, n, m, a, e, r⟩ := hs
  by_cases h1 : b = st
  · exact .inr ⟨_, by rw [h1]; exact a⟩
  · by_cases h2 : b = cl
    · exact .inr ⟨_, by rw [h2]; exact e⟩
    · exact .inl (hid2_ne h1 h2)
def tL2 (K : PySem.W.Frag) : TS := fun D σ H => ∃ (u0 u2 u5 u6 u7 u8 u9 u10 u11 u12 u13 u14 u15 : Option V) (st cl na pa : Addr) (ns : List Str) (zs : List (V × (Str × Str))) (N : Nat), σ = s16 u0 (some (.ref st)) u2 (some (.ref na)) (some (.ref pa)) u5 u6 u7 u8 u9 u10 u11 u12 u13 u14 u15 ∧ Strm N st cl H ∧ N < 90000 ∧
  hid2 st cl H na = some (.lst (ns.map V.str)) ∧ ns.Nodup ∧ (∀ n ∈ ns, n ∈ ten) ∧ ns.length ≤ 8 ∧ Lof (hid2 st cl H) IsPair pa zs ∧ (zs.map (·.2)).Nodup ∧ (∀ z ∈ zs, z.2.1 ∈ ns ∧ z.2.2 ∈ ns) ∧ zs.length ≤ 200 ∧
  ∀ (H' : Hp) (wa x : Addr) (ws : List (Str × Str)) (f : Str × Str → Int) (ps : List (Str × Str)), Stp st cl H H' → Strm (N + 1500) st cl H' → WtF (hid2 st cl H') wa ws f → ws.Perm (zs.map (·.2)) → (∀ p ∈ ws, 1 ≤ f p) → Deb K (hid2 st cl H') x (sortN ns) ps → ps.Perm (zs.map (·.2)) →
    D.nx (s16 u0 (some (.ref st)) u2 (some (.ref na)) (some (.ref pa)) (some (.ref wa)) (some (.ref x)) u7 u8 u9 u10 u11 u12 u13 u14 u15) H'
def tL3 (K : PySem.W.Frag) : TS := fun D σ H => ∃ (u0 u1 u2 u6 u7 u8 u9 u10 u11 u12 u13 u14 u15 : Option V) (na pa wa : Addr) (ns : List Str) (zs : List (V × (Str × Str))) (f : Str × Str → Int), σ = s16 u0 u1 u2 (some (.ref na)) (some (.ref pa)) (some (.ref wa)) u6 u7 u8 u9 u10 u11 u12 u13 u14 u15 ∧
  H na = some (.lst (ns.map V.str)) ∧ ns.length ≤ 8 ∧ Lof H IsPair pa zs ∧ zs.length ≤ 200 ∧ Wt H wa (zs.map (·.2)) f ∧
  ∀ (H' : Hp) (pr : Addr) (qs : List (V × (Int × List Str))), Same H H' → H pr = none → H' pr = some (.lst (qs.map (·.1))) → (∀ z ∈ qs, NewPrice H H' z.1 z.2) → qs.map (·.2) = pricesOf (sortN ns) (zs.map (·.2)) f → 
    D.nx (s16 u0 u1 u2 (some (.ref na)) (some (.ref pa)) (some (.ref wa)) u6 (some (.ref pr)) u8 u9 u10 u11 u12 u13 u14 u15) H'
section
variable {P : Program} {w : World} {K : PySem.W.Frag} {mg : Str → Option Value} {base : Heap} {c0 : Addr} {A : Around} {outer : List Env} {s : Shared} {H0 : Hp} {E : XK}
theorem law0 (T : Top K mg) (hr : Room 9 (A.deeper (envOfC "law" (defScope s_law) s.heap.objs.size (He.ga K "law") (.ref c0)))) : PS (LX P w K mg base c0 A outer s H0 E) (stL 0) tL0 := by
  have C_law_d_names := cl_names (P := P) (w := w) (base := base) T
  have C_law_draw := cl_draw (P := P) (w := w) (base := base) T
  refine ps_imp (ps_set (i := 3) sc_law.nd rfl (Or.inl rfl) (pe_k C_law_d_names hr (by decide) pass0 (pa_cons (pv 1) (pa_cons (pe_k C_law_draw hr (by decide) pass0 (pa_cons (pv 1) (pa_cons (pe_ifExp (pt_cmpR op_eq (pv 2) pe_int (nomark _)) pe_int pe_int) pa_nil))) pa_nil)))) (fun D σ H h => ?_)
  obtain ⟨u0, u3, u4, u5, u6, u7, u8, u9, u10, u11, u12, u13, u14, u15, st, cl, i, N, rfl, hs, hN, k⟩ := h
  have key : ∀ m : Int, 0 < m → m ≤ 9 → spDraw [.ref st, .int m] H (fun x H1 => spNames K [.ref st, x] H1 (fun x H1 => D.nx (s16 u0 (some (.ref st)) (some (.int i)) (some x) u4 u5 u6 u7 u8 u9 u10 u11 u12 u13 u14 u15) H1) E0) E0 := fun m m0 m9 => by
    refine ⟨st, cl, m, N, rfl, hs, by omega, m0, by omega, fun H1 d t1 s1 d0 d1 => ?_⟩
    refine ⟨st, cl, d, N + 1, rfl, s1, by omega, d0, by omega, fun H2 na ns t2 s2 _ h2 nd ht hl => ?_⟩
    exact k H2 na ns (t1.trans t2) (s2.mono (by omega)) h2 nd ht hl
  refine ⟨_, rfl, _, rfl, _, rfl, rfl, _, rfl, ?_⟩
  by_cases q : i = 0
  · exact iteB1 (dT (congrArg V.int q)) (key 9 (by decide) (by decide))
  · exact iteB0 (dF fun z => q (V.int.inj z)) (key 6 (by decide) (by decide))
theorem law1 (T : Top K mg) (hr : Room 9 (A.deeper (envOfC "law" (defScope s_law) s.heap.objs.size (He.ga K "law") (.ref c0)))) : PS (LX P w K mg base c0 A outer s H0 E) (stL 1) tL1 := by
  have C_law_d_pairs := cl_pairs (P := P) (w := w) (base := base) T
  refine ps_imp (ps_set (i := 4) sc_law.nd rfl (Or.inl rfl) (pe_k C_law_d_pairs hr (by decide) pass0 (pa_cons (pv 1) (pa_cons (pv 3) pa_nil)))) (fun D σ H h => ?_)
  obtain ⟨u0, u2, u4, u5, u6, u7, u8, u9, u10, u11, u12, u13, u14, u15, st, cl, na, ns, N, rfl, hs, hN, hn, ht, hl, k⟩ := h
  exact ⟨_, rfl, _, rfl, st, cl, na, ns, N, rfl, hs, by omega, hn, ht, hl, fun H1 pa zs t1 s1 _ h1 nd hz zl => k H1 pa zs t1 s1 h1 nd hz zl⟩
theorem law2 (T : Top K mg) (hr : Room 9 (A.deeper (envOfC "law" (defScope s_law) s.heap.objs.size (He.ga K "law") (.ref c0)))) : PS (LX P w K mg base c0 A outer s H0 E) (stL 2) (tL2 K) := by
  have C_law_m_weights := cl_weightsM (P := P) (w := w) (base := base) T
  have C_law_loose := cl_loose2 (P := P) (w := w) (base := base) T
  obtain ⟨fd_Debate, OK_Debate, B_Debate⟩ := ok_init (P := P) (w := w) (base := base) T
  refine ps_imp (ps_asg (pe_tup (pa_cons (pe_k C_law_m_weights hr (by decide) pass0 (pa_cons (pv 1) (pa_cons (pv 4) pa_nil))) (pa_cons (pe_make T.m_Debate OK_Debate (hr.mono (by decide)) rfl T.g_Debate B_Debate .nil pass0 (pa_cons (pv 3) (pa_cons (pe_k C_law_loose hr (by decide) pass0 (pa_cons (pv 1) (pa_cons (pv 4) pa_nil))) pa_nil))) pa_nil))) (pgt_K K rfl (pgs_cons (pg_name (i := 5) sc_law.nd rfl (Or.inr rfl)) (pgs_cons (pg_name (i := 6) sc_law.nd rfl (Or.inr rfl)) pgs_nil)))) (fun D σ H h => ?_)
  obtain ⟨u0, u2, u5, u6, u7, u8, u9, u10, u11, u12, u13, u14, u15, st, cl, na, pa, ns, zs, N, rfl, hs, hN, hn, nd, ht, hl, hZ, nz, hzn, zl, k⟩ := h
  refine ⟨_, rfl, _, rfl, st, cl, pa, zs, N, rfl, hs, by omega, hZ, nz, zl, fun H1 wa ws f t1 s1 _ hW hp' h1 => ?_⟩
  refine ⟨_, rfl, _, rfl, _, rfl, st, cl, pa, zs, N + 1000, rfl, s1, by omega, hZ.pairs t1, zl, fun H2 u wv t2 s2 hA hW2 e2 => ?_⟩
  refine fun x dx hx hdx dne => ?_
  have s02 := hs
  have t12 := t1.trans t2
  have hn2 := t12 _ _ hn
  have eu : SqA K H2 u (wv.map fun x => V.ref x.1) := hA.same (hid2_le _ _ _)
  have hW3 : ∀ y ∈ wv, IsW2 K H2 y := fun y hy => (hW2 y hy).same (hid2_le _ _ _)
  have hx2 : Same H2 (upd (upd H2 dx (.own x)) x (.ins (He.ga K "Debate") dx [])) := (same_new hdx).trans (same_new (by rw [upd_ne dne.symm]; exact hx))
  have zn : ∀ y ∈ wv, y.2.1 ∈ ns ∧ y.2.2 ∈ ns := fun y hy => by
    have q : y.2 ∈ zs.map (·.2) := by
      rw [← e2]
      exact List.mem_map_of_mem hy
    obtain ⟨z, hz, ez⟩ := List.mem_map.mp q
    rw [← ez]
    exact hzn z hz
  have wl : wv.length ≤ 200 := by
    have q := congrArg List.length e2
    rw [List.length_map, List.length_map] at q
    omega
  refine ⟨x, dx, na, u, ns, wv, H2, rfl, hx, hx2, upd_same, SqL.of (hid2_le _ _ _ _ _ hn2), nd, (fun n hn => ten_ok n (ht n hn)), by omega, eu, hW3, zn, by rw [e2]; exact nz, wl, fun H3 ps s3 hD pp => ⟨rfl, ?_⟩⟩
  rw [e2] at pp
  have t13 : Stp st cl H H3 := t12.trans (Stp.of s3)
  refine ⟨le_sl (by show 2 ≤ _; decide), fun p hp => ⟨p, _, rfl, SqT.of upd_same, rfl, _, _, rfl, _, _, rfl, rfl, ?_⟩⟩
  have s4 := same_new (o := .tup [.ref wa, .ref x]) hp
  refine k _ wa x ws f ps (t13.trans (Stp.of s4)) (((s2.same s3).same s4).mono (by omega)) (((t2.trans (Stp.of s3)).trans (Stp.of s4)) _ _ hW) hp' h1 ((hD _ (hid2_cases s2)).same (Stp.of s4)) pp
theorem law3 (T : Top K mg) (hr : Room 9 (A.deeper (envOfC "law" (defScope s_law) s.heap.objs.size (He.ga K "law") (.ref c0)))) : PS (LX P w K mg base c0 A outer s H0 E) (stL 3) (tL3 K) := by
  have C_law_m_prices := cl_pricesM (P := P) (w := w) (base := base) T
  obtain ⟨f_second, fd_second, F_second, g_second, k_second, B_second, _⟩ := (cl_second (P := P) (w := w) (base := base) T).ex
  obtain rfl : f_second = He.ga K "_law_m_second" := Value.ref.inj (Option.some.inj (g_second.symm.trans T.g_law_m_second))
  refine ps_imp (ps_set (i := 7) sc_law.nd rfl (Or.inl rfl) (pe_callBK (cr_sortK (k := 1) enS F_second B_second (hr.mono (by decide))) (by rfl) T.z_sorted (by decide +kernel) (pa_cons (pe_k C_law_m_prices hr (by decide) pass0 (pa_cons (pv 3) (pa_cons (pv 4) (pa_cons (pv 5) pa_nil)))) pa_nil) (pk_cons (pe_gc (v := .ref (He.ga K "_law_m_second")) rfl ⟨_, T.g_law_m_second, rfl⟩) pk_nil))) (fun D σ H h => ?_)
  obtain ⟨u0, u1, u2, u6, u7, u8, u9, u10, u11, u12, u13, u14, u15, na, pa, wa, ns, zs, f, rfl, hn, hl, hZ, zl, hW, k⟩ := h
  refine ⟨_, rfl, _, rfl, _, rfl, na, pa, wa, ns, zs, f, rfl, SqL.of hn, by omega, hZ, zl, hW, fun H1 pr0 qs s1 hp1 hq1 hqn eq => ?_⟩
  refine ⟨pr0, qs, rfl, rfl, SqL.of hq1, fun z hz => ?_, alikeQ _, sortQ _, (fun z _ => by show (enL z.2.2).depth ≤ 60; rw [depthL]; decide), fun p2 hp2 => ?_⟩
  · obtain ⟨t, l, et, _, _, a4, a5⟩ := hqn z hz
    exact ⟨t, _, _, et, a4, dp_lot ⟨l, rfl, a5⟩⟩
  · rw [sort_lots qs eq]
    have s2 := same_new (o := .lst (qs.map (·.1))) hp2
    exact k _ p2 qs (s1.trans s2) (s1.free hp2) upd_same (fun z hz => (hqn z hz).same s2) eq
end
theorem cutV_mem {xs : List V} {lo hi : Option Int} {v : V} (h : v ∈ cutV xs lo hi) : v ∈ xs := by
  unfold cutV at h
  first
    | exact List.mem_of_mem_drop (List.mem_of_mem_take h)
    | exact List.mem_of_mem_take (List.mem_of_mem_drop h)
theorem cutV_len {xs : List V} {lo hi : Option Int} : (cutV xs lo hi).length ≤ xs.length := by
  unfold cutV
  simp only [List.length_drop, List.length_take]
  omega
theorem tag_none : Tag "NoneType" := by unfold Tag; decide
theorem tag_bool : Tag "bool" := by unfold Tag; decide
theorem tag_int : Tag "int" := by unfold Tag; decide
theorem tag_str : Tag "str" := by unfold Tag; decide
theorem tag_list : Tag "list" := by unfold Tag; decide
theorem tag_tuple : Tag "tuple" := by unfold Tag; decide
theorem none_ten : ¬ (Str.ofString "none") ∈ ten := by decide +kernel
theorem sd_nil {K : PySem.W.Frag} {G : Hp} {e : Addr} (h : G e = some (.lst [])) : SD K G 5 (.ref e) (.ref e) := .lst (n := 4) (SqL.of h) (SqL.of h) rfl (Nat.zero_le _) fun i x y p _ => nomatch p
theorem sd_one {K : PySem.W.Frag} {G : Hp} {e : Addr} {v : V} (h : G e = some (.tup [v])) (hv : isFlat v = true) : SD K G 5 (.ref e) (.ref e) := .tup (n := 4) (SqT.of h) (SqT.of h) rfl (by show 1 ≤ 100000; decide) fun i x y p q => by
  rw [p] at q
  obtain rfl := Option.some.inj q
  rw [List.mem_singleton.mp (List.mem_of_getElem? p)]
  exact .flat hv
def tL4 (K : PySem.W.Frag) : TS := fun D σ H => ∃ (u0 u2 u8 u9 u10 u11 u12 u13 u14 u15 : Option V) (st cl na pa wa x pr : Addr) (ns : List Str) (zs : List (V × (Str × Str))) (ws ps : List (Str × Str)) (f : Str × Str → Int) (qs : List (V × (Int × List Str))) (N : Nat),
  σ = s16 u0 (some (.ref st)) u2 (some (.ref na)) (some (.ref pa)) (some (.ref wa)) (some (.ref x)) (some (.ref pr)) u8 u9 u10 u11 u12 u13 u14 u15 ∧ Strm N st cl H ∧ N < 90000 ∧ hid2 st cl H na = some (.lst (ns.map V.str)) ∧ ns.length ≤ 8 ∧ Lof (hid2 st cl H) IsPair pa zs ∧ (zs.map (·.2)).Perm ps ∧ zs.length ≤ 200 ∧
  WtF (hid2 st cl H) wa ws f ∧ ws.Perm (zs.map (·.2)) ∧ (∀ p ∈ ws, 1 ≤ f p) ∧ Deb K (hid2 st cl H) x (sortN ns) ps ∧ Lof (hid2 st cl H) IsPrice pr qs ∧ qs.map (·.2) = pricesOf (sortN ns) ps f ∧
  ∀ (H' : Hp) (u : Option V), Stp st cl H H' → Strm (N + 50) st cl H' → D.nx (s16 u0 (some (.ref st)) u2 (some (.ref na)) (some (.ref pa)) (some (.ref wa)) (some (.ref x)) (some (.ref pr)) u u9 u10 u11 u12 u13 u14 u15) H'
def tL5 (K : PySem.W.Frag) : TS := fun D σ H => ∃ (u0 u2 u3 u6 u7 u8 u9 u10 u11 u12 u13 u14 u15 : Option V) (st cl pa wa : Addr) (zs : List (V × (Str × Str))) (ws : List (Str × Str)) (f : Str × Str → Int) (N : Nat),
  σ = s16 u0 (some (.ref st)) u2 u3 (some (.ref pa)) (some (.ref wa)) u6 u7 u8 u9 u10 u11 u12 u13 u14 u15 ∧ Strm N st cl H ∧ N < 90000 ∧ Lof (hid2 st cl H) IsPair pa zs ∧ (∀ z ∈ zs, z.2.1 ∈ ten ∧ z.2.2 ∈ ten) ∧ zs.length ≤ 200 ∧ WtF (hid2 st cl H) wa ws f ∧ ws.Perm (zs.map (·.2)) ∧
  ∀ (H' : Hp) (v b : V), Stp st cl H H' → Strm (N + 10) st cl H' → WTh K (hid2 st cl H') (zs.map (·.2)) v false → SD K (hid2 st cl H') 5 v v → BTh K (hid2 st cl H') b false → SD K (hid2 st cl H') 5 b b → D.nx (s16 u0 (some (.ref st)) u2 u3 (some (.ref pa)) (some (.ref wa)) u6 u7 u8 (some v) (some b) u11 u12 u13 u14 u15) H'
def tL6 (K : PySem.W.Frag) : TS := fun D σ H => ∃ (u0 u2 u3 u4 u5 u6 u7 u8 u9 u10 u11 u12 u13 u14 u15 : Option V) (st cl : Addr) (sn : List Str) (N : Nat),
  σ = s16 u0 (some (.ref st)) u2 u3 u4 u5 u6 u7 u8 u9 u10 u11 u12 u13 u14 u15 ∧ Strm N st cl H ∧ N < 90000 ∧ (∀ n ∈ sn, n ∈ ten) ∧
  ∀ (H' : Hp) (v : V), Stp st cl H H' → Strm (N + 10) st cl H' → STh K (hid2 st cl H') sn v false → SD K (hid2 st cl H') 5 v v → D.nx (s16 u0 (some (.ref st)) u2 u3 u4 u5 u6 u7 u8 u9 u10 (some v) u12 u13 u14 u15) H'
section
variable {P : Program} {w : World} {K : PySem.W.Frag} {mg : Str → Option Value} {base : Heap} {c0 : Addr} {A : Around} {outer : List Env} {s : Shared} {H0 : Hp} {E : XK}
theorem law4 (T : Top K mg) (hr : Room 9 (A.deeper (envOfC "law" (defScope s_law) s.heap.objs.size (He.ga K "law") (.ref c0)))) : PS (LX P w K mg base c0 A outer s H0 E) (stL 4) (tL4 K) := by
  have C_law_mixed := cl_mixed (P := P) (w := w) (base := base) T
  have C_law_name_right := cl_right (P := P) (w := w) (base := base) T
  refine ps_imp (ps_for PassesOwn.never rfl (pi_K K (pe_slice (sl_K K) (pe_k C_law_mixed hr (by decide) pass0 (pa_cons (pv 1) (pa_cons (pv 3) pa_nil))) po_none (po_some pe_int))) (pg_name (i := 8) sc_law.nd rfl (Or.inr rfl))
    (pss_one (ps_if (pt_not (pt_val (pe_k C_law_name_right hr (by decide) pass0 (pa_cons (pv 1) (pa_cons (pv 4) (pa_cons (pv 5) (pa_cons (pv 7) (pa_cons (pv 6) (pa_cons (pv 8) pa_nil)))))))))
    (pss_one (ps_ret pe_bl))
    pss_nil))) (fun D σ H h => ?_)
  obtain ⟨u0, u2, u8, u9, u10, u11, u12, u13, u14, u15, st, cl, na, pa, wa, x, pr, ns, zs, ws, ps, f, qs, N, rfl, hs, hN, hn, hl, hZ, hZp, zl, hW, hWp, h1, hD, hQ, eQ, k⟩ := h
  refine ⟨_, rfl, _, rfl, st, cl, na, ns.map V.str, N, rfl, hs, by omega, SqL.of hn, by rw [List.length_map]; omega, fun H1 p ys t1 s1 hp h1' yp => ?_⟩
  refine ⟨_, rfl, p, ys, rfl, SqL.of (hid2_le _ _ _ _ _ h1'), fun p2 hp2 => ⟨p2, rfl, ⟨_, SqL.of upd_same⟩, ?_⟩⟩
  have s2 := same_new (o := .lst (cutV ys none (some 5))) hp2
  obtain ⟨n1, n2⟩ := s1.fst hp2
  have g2 : hid2 st cl (upd H1 p2 (.lst (cutV ys none (some 5)))) p2 = some (.lst (cutV ys none (some 5))) := by rw [hid2_ne n1 n2]; exact upd_same
  have t2 := t1.trans (Stp.of s2)
  have z2 := s1.same s2
  have cl8 : (cutV ys none (some 5)).length ≤ 8 := by
    have a := cutV_length ys none (some 5)
    have b := yp.length_eq
    rw [List.length_map] at b
    omega
  have cm : ∀ v ∈ cutV ys none (some 5), ∃ n ∈ ns, v = .str n := fun v hv => by
    obtain ⟨n, hn, e⟩ := List.mem_map.mp (yp.mem_iff.mp (cutV_mem hv))
    exact ⟨n, hn, e.symm⟩
  rw [List.length_map] at z2
  generalize upd H1 p2 (.lst (cutV ys none (some 5))) = H2 at g2 t2 z2
  generalize cutV ys none (some 5) = us at g2 cl8 cm
  refine for_it walk_list (fun i σ H3 => Stp st cl H2 H3 ∧ Strm (N + ns.length + i) st cl H3 ∧ ∃ u, σ = s16 u0 (some (.ref st)) u2 (some (.ref na)) (some (.ref pa)) (some (.ref wa)) (some (.ref x)) (some (.ref pr)) u u9 u10 u11 u12 u13 u14 u15)
    ⟨Stp.refl, z2, _, rfl⟩ (fun i σ H3 _ h => SqL.of (hid2_le _ _ _ _ _ (h.1 _ _ g2))) ?_ ?_
  · rintro i v0 σ H3 H4 hi ⟨t3, z3, u, rfl⟩ ⟨rfl, hv⟩
    obtain ⟨n, hn', rfl⟩ := cm v0 (List.mem_of_getElem? hv)
    have t4 := t2.trans t3
    refine ⟨_, rfl, _, rfl, _, rfl, _, rfl, _, rfl, _, rfl, st, cl, pa, wa, pr, x, n, sortN ns, ps, ws, f, zs, qs, N + ns.length + i, rfl, z3, by omega, hZ.pairs t4, hZp, zl, t4 _ _ hW, hWp, h1, hD.same t4, sortN_mem.mpr hn', hQ.prices t4, eQ, fun H5 t5 z5 => ⟨true, rfl, iteB0 rfl ⟨t3.trans t5, z5, _, rfl⟩⟩⟩
  · rintro σ H3 ⟨t3, z3, u, rfl⟩
    exact k H3 u (t2.trans t3) (z3.mono (by omega))
theorem law5 (T : Top K mg) (hr : Room 9 (A.deeper (envOfC "law" (defScope s_law) s.heap.objs.size (He.ga K "law") (.ref c0)))) : PS (LX P w K mg base c0 A outer s H0 E) (stL 5) (tL5 K) := by
  have C_law_m_odd_weights := cl_oddW (P := P) (w := w) (base := base) T
  have C_law_pick := cl_pick (P := P) (w := w) (base := base) T
  refine ps_imp (ps_asg (pe_tup (pa_cons (pe_k C_law_m_odd_weights hr (by decide) pass0 (pa_cons (pv 1) (pa_cons (pv 4) (pa_cons (pv 5) pa_nil)))) (pa_cons (pe_k C_law_pick hr (by decide) pass0 (pa_cons (pv 1) (pa_cons (pe_lst (pa_cons pe_non (pa_cons (pe_un un_neg pe_int) (pa_cons pe_bl (pa_cons pe_str (pa_cons (pe_lst pa_nil) (pa_cons (pe_tup (pa_cons pe_int pa_nil)) pa_nil))))))) pa_nil))) pa_nil))) (pgt_K K rfl (pgs_cons (pg_name (i := 9) sc_law.nd rfl (Or.inr rfl)) (pgs_cons (pg_name (i := 10) sc_law.nd rfl (Or.inr rfl)) pgs_nil)))) (fun D σ H h => ?_)
  obtain ⟨u0, u2, u3, u6, u7, u8, u9, u10, u11, u12, u13, u14, u15, st, cl, pa, wa, zs, ws, f, N, rfl, hs, hN, hZ, zt, zl, hW, hWp, k⟩ := h
  refine ⟨_, rfl, _, rfl, _, rfl, st, cl, pa, wa, zs, ws, f, N, rfl, hs, by omega, hZ, zt, zl, hW, hWp, fun H1 v t1 s1 hv sv => ?_⟩
  refine ⟨_, rfl, _, rfl, le_sl (Nat.zero_le _), fun e1 he1 => ⟨le_sl (by show 1 ≤ _; decide), fun e2 he2 => ⟨le_sl (by show 6 ≤ _; decide), fun lp hlp => ?_⟩⟩⟩
  have a1 := same_new (o := .lst []) he1
  have a2 := same_new (o := .tup [.int 1]) he2
  have a3 := same_new (o := .lst [.non, .int (-1), .bl true, .str "1", .ref e1, .ref e2]) hlp
  have b1 := s1.fst he1
  have b2 := s1.fst (a1.free he2)
  have b3 := s1.fst ((a1.trans a2).free hlp)
  have s2 := s1.same (a1.trans (a2.trans a3))
  have t2 := t1.trans (Stp.of (st := st) (cl := cl) (a1.trans (a2.trans a3)))
  have hv2 := hv.same (Stp.of (st := st) (cl := cl) (a1.trans (a2.trans a3)))
  have sv2 := sv.same (Stp.of (st := st) (cl := cl) (a1.trans (a2.trans a3)))
  have c1 : hid2 st cl (upd (upd (upd H1 e1 (.lst [])) e2 (.tup [.int 1])) lp (.lst [.non, .int (-1), .bl true, .str "1", .ref e1, .ref e2])) e1 = some (.lst []) := by
    rw [hid2_ne b1.1 b1.2]
    exact a3 _ _ (a2 _ _ upd_same)
  have c2 : hid2 st cl (upd (upd (upd H1 e1 (.lst [])) e2 (.tup [.int 1])) lp (.lst [.non, .int (-1), .bl true, .str "1", .ref e1, .ref e2])) e2 = some (.tup [.int 1]) := by
    rw [hid2_ne b2.1 b2.2]
    exact a3 _ _ upd_same
  have c3 : hid2 st cl (upd (upd (upd H1 e1 (.lst [])) e2 (.tup [.int 1])) lp (.lst [.non, .int (-1), .bl true, .str "1", .ref e1, .ref e2])) lp = some (.lst [.non, .int (-1), .bl true, .str "1", .ref e1, .ref e2]) := by
    rw [hid2_ne b3.1 b3.2]
    exact upd_same
  generalize upd (upd (upd H1 e1 (.lst [])) e2 (.tup [.int 1])) lp (.lst [.non, .int (-1), .bl true, .str "1", .ref e1, .ref e2]) = H2 at s2 t2 hv2 sv2 c1 c2 c3
  refine ⟨st, cl, lp, _, N + 2, rfl, s2, by omega, SqL.of c3, by show 0 < 6; decide, by show 6 ≤ 100000; decide, fun H3 b t3 s3 hb => ?_⟩
  refine ⟨le_sl (by show 2 ≤ _; decide), fun q hq => ⟨q, _, rfl, SqT.of upd_same, rfl, _, _, rfl, _, _, rfl, rfl, ?_⟩⟩
  have a4 := same_new (o := .tup [v, b]) hq
  have t4 := t3.trans (Stp.of (st := st) (cl := cl) a4)
  have d1 := t4 _ _ c1
  have d2 := t4 _ _ c2
  have key : BTh K (hid2 st cl (upd H3 q (.tup [v, b]))) b false ∧ SD K (hid2 st cl (upd H3 q (.tup [v, b]))) 5 b b := by
    rcases List.mem_cons.mp hb with rfl | hb
    · exact ⟨.inr ⟨"NoneType", tag_none, by decide, .base .non, rfl⟩, .flat rfl⟩
    rcases List.mem_cons.mp hb with rfl | hb
    · exact ⟨.inl ⟨-1, rfl, rfl⟩, .flat rfl⟩
    rcases List.mem_cons.mp hb with rfl | hb
    · exact ⟨.inr ⟨"bool", tag_bool, by decide, .base (.bl _), rfl⟩, .flat rfl⟩
    rcases List.mem_cons.mp hb with rfl | hb
    · exact ⟨.inr ⟨"str", tag_str, by decide, .base (.str _), rfl⟩, .flat rfl⟩
    rcases List.mem_cons.mp hb with rfl | hb
    · exact ⟨.inr ⟨"list", tag_list, by decide, .base (.lst d1), rfl⟩, sd_nil d1⟩
    · obtain rfl := List.mem_singleton.mp hb
      exact ⟨.inr ⟨"tuple", tag_tuple, by decide, .base (.tup d2), rfl⟩, sd_one d2 rfl⟩
  exact k _ v b (t2.trans t4) ((s3.same a4).mono (by omega)) (hv2.same t4) (sv2.same t4) key.1 key.2
theorem law6 (T : Top K mg) (hr : Room 9 (A.deeper (envOfC "law" (defScope s_law) s.heap.objs.size (He.ga K "law") (.ref c0)))) : PS (LX P w K mg base c0 A outer s H0 E) (stL 6) (tL6 K) := by
  have C_law_pick := cl_pick (P := P) (w := w) (base := base) T
  refine ps_imp (ps_set (i := 11) sc_law.nd rfl (Or.inr rfl) (pe_k C_law_pick hr (by decide) pass0 (pa_cons (pv 1) (pa_cons (pe_lst (pa_cons pe_non (pa_cons pe_int (pa_cons pe_str (pa_cons (pe_lst pa_nil) (pa_cons pe_bl (pa_cons (pe_tup (pa_cons pe_str pa_nil)) pa_nil))))))) pa_nil)))) (fun D σ H h => ?_)
  obtain ⟨u0, u2, u3, u4, u5, u6, u7, u8, u9, u10, u11, u12, u13, u14, u15, st, cl, sn, N, rfl, hs, hN, hn, k⟩ := h
  refine ⟨_, rfl, le_sl (Nat.zero_le _), fun e1 he1 => ⟨le_sl (by show 1 ≤ _; decide), fun e2 he2 => ⟨le_sl (by show 6 ≤ _; decide), fun lp hlp => ?_⟩⟩⟩
  have a1 := same_new (o := .lst []) he1
  have a2 := same_new (o := .tup [.str "a"]) he2
  have a3 := same_new (o := .lst [.non, .int 5, .str "none", .ref e1, .bl true, .ref e2]) hlp
  have b1 := hs.fst he1
  have b2 := hs.fst (a1.free he2)
  have b3 := hs.fst ((a1.trans a2).free hlp)
  have s2 := hs.same (a1.trans (a2.trans a3))
  have t2 := Stp.of (st := st) (cl := cl) (a1.trans (a2.trans a3))
  have c1 : hid2 st cl (upd (upd (upd H e1 (.lst [])) e2 (.tup [.str "a"])) lp (.lst [.non, .int 5, .str "none", .ref e1, .bl true, .ref e2])) e1 = some (.lst []) := by
    rw [hid2_ne b1.1 b1.2]
    exact a3 _ _ (a2 _ _ upd_same)
  have c2 : hid2 st cl (upd (upd (upd H e1 (.lst [])) e2 (.tup [.str "a"])) lp (.lst [.non, .int 5, .str "none", .ref e1, .bl true, .ref e2])) e2 = some (.tup [.str "a"]) := by
    rw [hid2_ne b2.1 b2.2]
    exact a3 _ _ upd_same
  have c3 : hid2 st cl (upd (upd (upd H e1 (.lst [])) e2 (.tup [.str "a"])) lp (.lst [.non, .int 5, .str "none", .ref e1, .bl true, .ref e2])) lp = some (.lst [.non, .int 5, .str "none", .ref e1, .bl true, .ref e2]) := by
    rw [hid2_ne b3.1 b3.2]
    exact upd_same
  generalize upd (upd (upd H e1 (.lst [])) e2 (.tup [.str "a"])) lp (.lst [.non, .int 5, .str "none", .ref e1, .bl true, .ref e2]) = H2 at s2 t2 c1 c2 c3
  refine ⟨st, cl, lp, _, N, rfl, s2, by omega, SqL.of c3, by show 0 < 6; decide, by show 6 ≤ 100000; decide, fun H3 b t3 s3 hb => ?_⟩
  have d1 := t3 _ _ c1
  have d2 := t3 _ _ c2
  have key : STh K (hid2 st cl H3) sn b false ∧ SD K (hid2 st cl H3) 5 b b := by
    rcases List.mem_cons.mp hb with rfl | hb
    · exact ⟨.inr ⟨"NoneType", tag_none, by decide, .base .non, rfl⟩, .flat rfl⟩
    rcases List.mem_cons.mp hb with rfl | hb
    · exact ⟨.inr ⟨"int", tag_int, by decide, .base (.int _), rfl⟩, .flat rfl⟩
    rcases List.mem_cons.mp hb with rfl | hb
    · exact ⟨.inl ⟨_, rfl, (decide_eq_false fun z => none_ten (hn _ z)).symm⟩, .flat rfl⟩
    rcases List.mem_cons.mp hb with rfl | hb
    · exact ⟨.inr ⟨"list", tag_list, by decide, .base (.lst d1), rfl⟩, sd_nil d1⟩
    rcases List.mem_cons.mp hb with rfl | hb
    · exact ⟨.inr ⟨"bool", tag_bool, by decide, .base (.bl _), rfl⟩, .flat rfl⟩
    · obtain rfl := List.mem_singleton.mp hb
      exact ⟨.inr ⟨"tuple", tag_tuple, by decide, .base (.tup d2), rfl⟩, sd_one d2 rfl⟩
  exact k H3 b (t2.trans t3) (s3.mono (by omega)) key.1 key.2
end
/-! ### what the calls with lambdas need -/
/-- a told thing: its label, itself -/
def IsTold (H : Hp) (v : V) (q : Str × V) : Prop := ∃ t, v = .ref t ∧ H t = some (.tup [.str q.1, q.2])
theorem IsTold.same {H H' : Hp} {v : V} {q : Str × V} (e : Same H H') (h : IsTold H v q) : IsTold H' v q := by
  obtain ⟨t, a, b⟩ := h
  exact ⟨t, a, e _ _ b⟩
structure FX (K : PySem.W.Frag) (G : Hp) (x wa na : Addr) (bad wrong non : V) (sn : List Str) (ps : List (Str × Str)) (f : Str × Str → Int) (ns : List Str) : Prop where
  deb : Deb K G x sn ps
  th : WTh K G ps (.ref wa) true
  wt : Wt G wa ps f
  wb : WTh K G ps bad false
  sno : STh K G sn non false
  bw : BTh K G wrong false
  sb : SD K G 5 bad bad
  sw : SD K G 5 wrong wrong
  so : SD K G 5 non non
  nm : G na = some (.lst (ns.map V.str))
  nl : ns.length ≤ 8
  nn : ∀ n ∈ ns, n ∈ sn
section
variable {K : PySem.W.Frag} {G G' : Hp} {x wa na : Addr} {bad wrong non : V} {sn : List Str} {ps : List (Str × Str)} {f : Str × Str → Int} {ns : List Str}
theorem FX.same (h : FX K G x wa na bad wrong non sn ps f ns) (e : Same G G') : FX K G' x wa na bad wrong non sn ps f ns :=
  ⟨h.deb.same e, h.th.same e, h.wt.same e, h.wb.same e, h.sno.same e, h.bw.same e, h.sb.same e, h.sw.same e, h.so.same e, e _ _ h.nm, h.nl, h.nn⟩
end
/-- without three lists and the tables -/
def gG (a b c : Addr) (H : Hp) : Hp := hid2 a b (hid2 c c (noT H))
theorem gG_at {a b c d : Addr} {H : Hp} {o : HO} (h1 : d ≠ a) (h2 : d ≠ b) (h3 : d ≠ c) (h : H d = some o) (n : ∀ ps, o ≠ .tbl ps) : gG a b c H d = some o := by
  unfold gG
  rw [hid2_ne h1 h2, hid2_ne h3 h3]
  exact noT_at h n
theorem gG_of {a b c d : Addr} {H : Hp} {o : HO} (h : gG a b c H d = some o) : d ≠ a ∧ d ≠ b ∧ d ≠ c ∧ H d = some o ∧ ∀ ps, o ≠ .tbl ps := by
  unfold gG at h
  have h1 : d ≠ a := fun z => by rw [z, hid2_st] at h; cases h
  have h2 : d ≠ b := fun z => by rw [z, hid2_cl] at h; cases h
  rw [hid2_ne h1 h2] at h
  have h3 : d ≠ c := fun z => by rw [z, hid2_st] at h; cases h
  rw [hid2_ne h3 h3] at h
  exact ⟨h1, h2, h3, noT_of h⟩
theorem gG_le (a b c : Addr) (H : Hp) : Same (gG a b c H) H := fun d o h => (gG_of h).2.2.2.1
theorem ExtT.gG {a b c : Addr} {H H' : Hp} (e : ExtT H H') : Same (gG a b c H) (gG a b c H') := fun d o h => by
  obtain ⟨h1, h2, h3, h4, h5⟩ := gG_of h
  exact gG_at h1 h2 h3 (e _ _ h4 h5) h5
theorem ExtT.of {H H' : Hp} (e : Same H H') : ExtT H H' := fun b o h _ => e _ _ h
theorem ExtT.trans {H H1 H2 : Hp} (a : ExtT H H1) (b : ExtT H1 H2) : ExtT H H2 := fun c o h n => b _ _ (a _ _ h n) n
theorem ExtT.new {H H' : Hp} {p : Addr} {o : HO} (e : ExtT H H') (h : H p = none) : ExtT H (upd H' p o) := fun b u z n => by
  rw [upd_ne (ne_of_none z h)]
  exact e b u z n
/-- one of the three is written -/
theorem gG_put {a b c d : Addr} {H : Hp} {o : HO} (h : d = a ∨ d = b ∨ d = c) : Same (gG a b c H) (gG a b c (upd H d o)) := fun e u z => by
  obtain ⟨h1, h2, h3, h4, h5⟩ := gG_of z
  have hd : e ≠ d := fun q => by rcases h with r | r | r <;> rw [r] at q <;> contradiction
  exact gG_at h1 h2 h3 ((upd_ne hd).trans h4) h5
/-- another third one: new -/
theorem gG_re {a b c d : Addr} {H : Hp} {o : HO} (h : H d = none) : Same (gG a b c H) (gG a b d (upd H d o)) := fun e u z => by
  obtain ⟨h1, h2, h3, h4, h5⟩ := gG_of z
  have hd : e ≠ d := ne_of_none h4 h
  exact gG_at h1 h2 hd ((upd_ne hd).trans h4) h5
theorem Sub.upd {base : Heap} {H : Hp} {P P2 a : Addr} {q : Str} {xs : List V} {o : HO} (s : Sub base H P P2 q) (h : H a = some (.lst xs)) : Sub base (upd H a o) P P2 q := by
  obtain ⟨h1, h2, ps, h3, h4, h5⟩ := s
  refine ⟨h1, h2, ps, (upd_ne (ne_of h3 h fun z => nomatch z)).trans h3, h4, fun pos cv z => ?_⟩
  obtain ⟨c, P3, e1, e2⟩ := h5 pos cv z
  exact ⟨c, P3, e1, (upd_ne (ne_of e2 h fun z => nomatch z)).trans e2⟩
theorem LT.upd {base : Heap} {H : Hp} {P a : Addr} {q1 q2 : Str} {xs : List V} {o : HO} (s : LT base P q1 q2 H) (h : H a = some (.lst xs)) : LT base P q1 q2 (upd H a o) := by
  obtain ⟨ps, h3, h4, h5⟩ := s
  refine ⟨ps, (upd_ne (ne_of h3 h fun z => nomatch z)).trans h3, h4, fun pos cv z => ?_⟩
  obtain ⟨c, P3, e1, e2, e3⟩ := h5 pos cv z
  exact ⟨c, P3, e1, (upd_ne (ne_of e2 h fun z => nomatch z)).trans e2, e3.upd h⟩
/-- the state between these calls: L is found, M is due -/
structure LS (K : PySem.W.Frag) (base : Heap) (P0 st cl : Addr) (N : Nat) (x wa na : Addr) (bad wrong non : V) (sn : List Str) (ps : List (Str × Str)) (f : Str × Str → Int) (ns : List Str) (fa da ha : Addr) (L M : List (Str × V)) (H : Hp) : Prop where
  lt : LT base P0 q1L q2L H
  strm : Strm N st cl (gG fa da ha H)
  fx : FX K (gG fa da ha H) x wa na bad wrong non sn ps f ns
  ne : fa ≠ da
  fo : ∃ zs : List (V × (Str × V)), H fa = some (.lst (zs.map (·.1))) ∧ (∀ z ∈ zs, IsTold (gG fa da ha H) z.1 z.2) ∧ zs.map (·.2) = L
  du : ∃ zs : List (V × (Str × V)), H da = some (.lst (zs.map (·.1))) ∧ (∀ z ∈ zs, IsTold (gG fa da ha H) z.1 z.2) ∧ zs.map (·.2) = M
section
variable {K : PySem.W.Frag} {base : Heap} {P0 st cl : Addr} {N : Nat} {x wa na : Addr} {bad wrong non : V} {sn : List Str} {ps : List (Str × Str)} {f : Str × Str → Int} {ns : List Str} {fa da ha : Addr} {L M : List (Str × V)} {H H' : Hp}
theorem LS.ext (h : LS K base P0 st cl N x wa na bad wrong non sn ps f ns fa da ha L M H) (e : ExtT H H') (l : LT base P0 q1L q2L H') : LS K base P0 st cl N x wa na bad wrong non sn ps f ns fa da ha L M H' := by
  have eg := e.gG (a := fa) (b := da) (c := ha)
  obtain ⟨z1, a1, b1, c1⟩ := h.fo
  obtain ⟨z2, a2, b2, c2⟩ := h.du
  exact ⟨l, h.strm.same eg, h.fx.same eg, h.ne, ⟨z1, e _ _ a1 (fun _ z => nomatch z), fun z hz => (b1 z hz).same eg, c1⟩, ⟨z2, e _ _ a2 (fun _ z => nomatch z), fun z hz => (b2 z hz).same eg, c2⟩⟩
theorem LS.same (h : LS K base P0 st cl N x wa na bad wrong non sn ps f ns fa da ha L M H) (e : Same H H') : LS K base P0 st cl N x wa na bad wrong non sn ps f ns fa da ha L M H' := h.ext (.of e) (h.lt.ext e)
theorem LS.re {d : Addr} {o : HO} (h : LS K base P0 st cl N x wa na bad wrong non sn ps f ns fa da ha L M H) (hd : H d = none) : LS K base P0 st cl N x wa na bad wrong non sn ps f ns fa da d L M (upd H d o) := by
  have eg := gG_re (a := fa) (b := da) (c := ha) (o := o) hd
  obtain ⟨z1, a1, b1, c1⟩ := h.fo
  obtain ⟨z2, a2, b2, c2⟩ := h.du
  exact ⟨h.lt.ext (same_new hd), h.strm.same eg, h.fx.same eg, h.ne, ⟨z1, same_new hd _ _ a1, fun z hz => (b1 z hz).same eg, c1⟩, ⟨z2, same_new hd _ _ a2, fun z hz => (b2 z hz).same eg, c2⟩⟩
theorem LS.appF {p : Addr} {q : Str × V} (h : LS K base P0 st cl N x wa na bad wrong non sn ps f ns fa da ha L M H) (hp : H p = some (.tup [.str q.1, q.2])) (ph : p ≠ ha) : ∃ xs, H fa = some (.lst xs) ∧ xs.length = L.length ∧
    LS K base P0 st cl N x wa na bad wrong non sn ps f ns fa da ha (L ++ [q]) M (upd H fa (.lst (xs ++ [.ref p]))) := by
  obtain ⟨z1, a1, b1, c1⟩ := h.fo
  obtain ⟨z2, a2, b2, c2⟩ := h.du
  have eg : Same (gG fa da ha H) (gG fa da ha (upd H fa (.lst (z1.map (·.1) ++ [.ref p])))) := gG_put (.inl rfl)
  have pf : p ≠ fa := ne_of hp a1 fun z => nomatch z
  have pd : p ≠ da := ne_of hp a2 fun z => nomatch z
  refine ⟨z1.map (·.1), a1, by rw [← c1, List.length_map, List.length_map], h.lt.upd a1, h.strm.same eg, h.fx.same eg, h.ne, ⟨z1 ++ [(.ref p, q)], by rw [upd_same, List.map_append]; rfl, fun z hz => ?_, by rw [List.map_append, c1]; rfl⟩,
    ⟨z2, (upd_ne h.ne.symm).trans a2, fun z hz => (b2 z hz).same eg, c2⟩⟩
  rcases List.mem_append.mp hz with hz | hz
  · exact (b1 z hz).same eg
  · rw [List.mem_singleton.mp hz]
    exact ⟨p, rfl, gG_at pf pd ph ((upd_ne pf).trans hp) fun _ z => nomatch z⟩
theorem LS.appD {p : Addr} {q : Str × V} (h : LS K base P0 st cl N x wa na bad wrong non sn ps f ns fa da ha L M H) (hp : H p = some (.tup [.str q.1, q.2])) (ph : p ≠ ha) : ∃ xs, H da = some (.lst xs) ∧ xs.length = M.length ∧
    LS K base P0 st cl N x wa na bad wrong non sn ps f ns fa da ha L (M ++ [q]) (upd H da (.lst (xs ++ [.ref p]))) := by
  obtain ⟨z1, a1, b1, c1⟩ := h.fo
  obtain ⟨z2, a2, b2, c2⟩ := h.du
  have eg : Same (gG fa da ha H) (gG fa da ha (upd H da (.lst (z2.map (·.1) ++ [.ref p])))) := gG_put (.inr (.inl rfl))
  have pf : p ≠ fa := ne_of hp a1 fun z => nomatch z
  have pd : p ≠ da := ne_of hp a2 fun z => nomatch z
  refine ⟨z2.map (·.1), a2, by rw [← c2, List.length_map, List.length_map], h.lt.upd a2, h.strm.same eg, h.fx.same eg, h.ne, ⟨z1, (upd_ne h.ne).trans a1, fun z hz => (b1 z hz).same eg, c1⟩, ⟨z2 ++ [(.ref p, q)], by rw [upd_same, List.map_append]; rfl, fun z hz => ?_, by rw [List.map_append, c2]; rfl⟩⟩
  rcases List.mem_append.mp hz with hz | hz
  · exact (b2 z hz).same eg
  · rw [List.mem_singleton.mp hz]
    exact ⟨p, rfl, gG_at pf pd ph ((upd_ne pd).trans hp) fun _ z => nomatch z⟩
end
/-- an error that _law_met tells -/
theorem badw_met {K : PySem.W.Frag} {H1 : Hp} {x label : Str} {v : V} {Q : VK} (hm : (x = "BadWeights" ∧ label = "weights") ∨ (x = "NoStatement" ∧ label = "statement") ∨ (x = "BadNumber" ∧ label = "number"))
    (h : ∀ H' p, Same H1 H' → H' p = none → Q (.ref p) (upd H' p (.tup [.str label, v]))) : BadW K H1 x v (metX K Q) := fun d H' e _ hd =>
  ⟨x, label, hm, rfl, d, v, rfl, hd, le_sl (by show 2 ≤ _; decide), fun p hp => h H' p e hp⟩
section
variable {K : PySem.W.Frag} {H : Hp} {vs : List V} {v u : V} {x wa : Addr} {E : XK} {sn : List Str} {ps : List (Str × Str)} {f : Str × Str → Int} {s : Str} {k : (sn : List Str) → (ps : List (Str × Str)) → (f : Str × Str → Int) → (s : Str) → Prop}
theorem chk_w (hD : Deb K H x sn ps) (hw : WTh K H ps v false) (b : BadW K H "BadWeights" v E) : Chk K vs v u x H E k := ⟨sn, ps, false, true, hD, hw, fun _ => b, fun z => nomatch z⟩
theorem chk_s (hD : Deb K H x sn ps) (hw : WTh K H ps v true) (hs : STh K H sn u false) (b : BadW K H "NoStatement" u E) : Chk K vs v u x H E k := ⟨sn, ps, true, false, hD, hw, (fun z => nomatch z), fun _ => ⟨hs, fun _ => b, fun z => nomatch z⟩⟩
theorem chk_k (hD : Deb K H x sn ps) (hw : WTh K H ps (.ref wa) true) (ht : Wt H wa ps f) (hs : s ∈ sn) (h : k sn ps f s) : Chk K vs (.ref wa) (.str s) x H E k :=
  ⟨sn, ps, true, true, hD, hw, (fun z => nomatch z), fun _ => ⟨.inl ⟨s, rfl, (decide_eq_true hs).symm⟩, (fun z => nomatch z), fun _ => ⟨wa, f, s, rfl, ht, rfl, h⟩⟩⟩
end
theorem gG_new {a b c : Addr} {H H1 H' : Hp} (e : ExtT H H1) (s : Same H1 H') (h1 : H1 a = none) (h2 : H1 b = none) (h3 : H1 c = none) : Same (noT H) (gG a b c H') := fun d o z => by
  have q := noT_of (e.noT _ _ z)
  exact gG_at (ne_of_none q.1 h1) (ne_of_none q.1 h2) (ne_of_none q.1 h3) (s _ _ q.1) q.2
def tL7 (K : PySem.W.Frag) (base : Heap) (P0 : Addr) : TS := fun D σ H => ∃ (u0 u1 u2 u3 u4 u5 u7 u8 u12 u13 u14 u15 : Option V) (st cl : Addr) (N : Nat) (x wa na : Addr) (bad wrong non : V) (sn : List Str) (ps : List (Str × Str)) (f : Str × Str → Int) (ns : List Str),
  σ = s16 u0 u1 u2 u3 u4 u5 (some (.ref x)) u7 u8 (some bad) (some wrong) (some non) u12 u13 u14 u15 ∧ LT base P0 q1L q2L H ∧ Strm N st cl (noT H) ∧ FX K (noT H) x wa na bad wrong non sn ps f ns ∧
  ∀ (H' : Hp) (fa da : Addr), LS K base P0 st cl N x wa na bad wrong non sn ps f ns fa da fa [("weights", bad)] [("weights", bad), ("statement", non)] H' → D.nx (s16 u0 u1 u2 u3 u4 u5 (some (.ref x)) u7 u8 (some bad) (some wrong) (some non) (some (.ref fa)) (some (.ref da)) u14 u15) H'
def tL8 (K : PySem.W.Frag) (base : Heap) (P0 : Addr) : TS := fun D σ H => ∃ (u0 u1 u2 u3 u4 u7 u8 u9 u13 u14 u15 : Option V) (st cl : Addr) (N : Nat) (x wa na : Addr) (bad wrong non : V) (sn : List Str) (ps : List (Str × Str)) (f : Str × Str → Int) (ns : List Str) (fa da : Addr) (L M : List (Str × V)),
  σ = s16 u0 u1 u2 u3 u4 (some (.ref wa)) (some (.ref x)) u7 u8 u9 (some wrong) (some non) (some (.ref fa)) u13 u14 u15 ∧ LS K base P0 st cl N x wa na bad wrong non sn ps f ns fa da fa L M H ∧ L.length ≤ 100 ∧
  ∀ H', LS K base P0 st cl N x wa na bad wrong non sn ps f ns fa da fa (L ++ [((Str.ofString "statement"), non)]) M H' → D.nx σ H'
section
variable {P : Program} {w : World} {K : PySem.W.Frag} {mg : Str → Option Value} {base : Heap} {c0 P0 : Addr} {A : Around} {outer : List Env} {s : Shared} {H0 : Hp} {E : XK}
theorem law7 (T : Top K mg) (TB : LamX.TabB base mg c0 P0) (hr : Room 9 (A.deeper (envOfC "law" (defScope s_law) s.heap.objs.size (He.ga K "law") (.ref c0)))) : PS (LX P w K mg base c0 A outer s H0 E) (stL 7) (tL7 K base P0) := by
  have C_most_for := cl_most (P := P) (w := w) (base := base) T
  refine ps_imp (ps_par (i := 12) (j := 13) rfl sc_law.nd rfl rfl (by decide) rfl rfl (pa_cons (pe_lst (pa_cons (pe_met T (tabD0 (q2 := q2L) TB) rfl hr (LamX.lamS_by (by rfl)) (fun A1 o1 s1 H1 E1 f1 c1 hr2 => (pe_k C_most_for hr2 (by decide) (passes_call (takes_of rfl rfl rfl rfl) (fun _ _ _ _ h => h)) (pa_cons (pv 6) (pa_cons (pv 9) (pa_cons (pv 11) (pa_cons (pv 10) pa_nil))))))) pa_nil)) (pa_cons (pe_lst (pa_cons (pe_tup (pa_cons pe_str (pa_cons (pv 9) pa_nil))) (pa_cons (pe_tup (pa_cons pe_str (pa_cons (pv 11) pa_nil))) pa_nil))) pa_nil)) rfl) (fun D σ H h => ?_)
  obtain ⟨u0, u1, u2, u3, u4, u5, u7, u8, u12, u13, u14, u15, st, cl, N, x, wa, na, bad, wrong, non, sn, ps, f, ns, rfl, hlt, hst, hfx, k⟩ := h
  refine ⟨hlt, fun H1 e1 d1 => ?_⟩
  have fx := (hfx.same e1.noT).same (noT_le H1)
  refine ⟨_, rfl, _, rfl, _, rfl, _, rfl, x, bad, non, wrong, false, rfl, fx.bw, chk_w fx.deb fx.wb (badw_met (.inl ⟨rfl, rfl⟩) fun H2 p s2 hp => ?_)⟩
  have c1 := same_new (o := .tup [.str "weights", bad]) hp
  refine ⟨le_sl (by show 1 ≤ _; decide), fun fa hfa => ?_⟩
  have c2 := same_new (o := .lst [.ref p]) hfa
  refine ⟨_, rfl, le_sl (by show 2 ≤ _; decide), fun t1 ht1 => ?_⟩
  have c3 := same_new (o := .tup [.str "weights", bad]) ht1
  refine ⟨_, rfl, le_sl (by show 2 ≤ _; decide), fun t2 ht2 => ?_⟩
  have c4 := same_new (o := .tup [.str "statement", non]) ht2
  refine ⟨le_sl (by show 2 ≤ _; decide), fun da hda => ⟨_, _, rfl, ?_⟩⟩
  have c5 := same_new (o := .lst [.ref t1, .ref t2]) hda
  have c15 := s2.trans (c1.trans (c2.trans (c3.trans (c4.trans c5))))
  have f1 : H1 fa = none := (s2.trans c1).free hfa
  have d1' : H1 da = none := (s2.trans (c1.trans (c2.trans (c3.trans c4)))).free hda
  have eg := gG_new e1 c15 f1 d1' f1
  have p1 := c5 _ _ (c4 _ _ (c3 _ _ (c2 _ _ (upd_same (H := H2) (a := p) (o := .tup [.str "weights", bad])))))
  have p2 := c5 _ _ (c4 _ _ (upd_same (H := upd (upd H2 p (.tup [.str "weights", bad])) fa (.lst [.ref p])) (a := t1) (o := .tup [.str "weights", bad])))
  have p3 := c5 _ _ (upd_same (H := upd (upd (upd H2 p (.tup [.str "weights", bad])) fa (.lst [.ref p])) t1 (.tup [.str "weights", bad])) (a := t2) (o := .tup [.str "statement", non]))
  have p4 := c5 _ _ (c4 _ _ (c3 _ _ (upd_same (H := upd H2 p (.tup [.str "weights", bad])) (a := fa) (o := .lst [.ref p]))))
  have p5 := upd_same (H := upd (upd (upd (upd H2 p (.tup [.str "weights", bad])) fa (.lst [.ref p])) t1 (.tup [.str "weights", bad])) t2 (.tup [.str "statement", non])) (a := da) (o := .lst [.ref t1, .ref t2])
  refine k _ fa da ⟨d1.ext c15, hst.same eg, hfx.same eg, ?_, ⟨[(.ref p, ("weights", bad))], p4, fun z hz => ?_, rfl⟩, ⟨[(.ref t1, ("weights", bad)), (.ref t2, ("statement", non))], p5, fun z hz => ?_, rfl⟩⟩
  · exact ne_of_none (c4 _ _ (c3 _ _ upd_same)) hda
  · rw [List.mem_singleton.mp hz]
    exact ⟨p, rfl, gG_at (ne_of p1 p4 fun z => nomatch z) (ne_of p1 p5 fun z => nomatch z) (ne_of p1 p4 fun z => nomatch z) p1 fun _ z => nomatch z⟩
  · rcases List.mem_cons.mp hz with rfl | hz
    · exact ⟨t1, rfl, gG_at (ne_of p2 p4 fun z => nomatch z) (ne_of p2 p5 fun z => nomatch z) (ne_of p2 p4 fun z => nomatch z) p2 fun _ z => nomatch z⟩
    · rw [List.mem_singleton.mp hz]
      exact ⟨t2, rfl, gG_at (ne_of p3 p4 fun z => nomatch z) (ne_of p3 p5 fun z => nomatch z) (ne_of p3 p4 fun z => nomatch z) p3 fun _ z => nomatch z⟩
theorem law8 (T : Top K mg) (TB : LamX.TabB base mg c0 P0) (hr : Room 9 (A.deeper (envOfC "law" (defScope s_law) s.heap.objs.size (He.ga K "law") (.ref c0)))) : PS (LX P w K mg base c0 A outer s H0 E) (stL 8) (tL8 K base P0) := by
  have C_most_for := cl_most (P := P) (w := w) (base := base) T
  refine ps_imp (ps_expr (bm_K K PySem.F.plainAttrs_list PySem.F.slot_list_append PySem.F.type_list_append mt_append (pv 12) (pa_cons (pe_met T (tabD0 (q2 := q2L) TB) rfl hr (LamX.lamS_by (by rfl)) (fun A1 o1 s1 H1 E1 f1 c1 hr2 => (pe_k C_most_for hr2 (by decide) (passes_call (takes_of rfl rfl rfl rfl) (fun _ _ _ _ h => h)) (pa_cons (pv 6) (pa_cons (pv 5) (pa_cons (pv 11) (pa_cons (pv 10) pa_nil))))))) pa_nil))) (fun D σ H h => ?_)
  obtain ⟨u0, u1, u2, u3, u4, u7, u8, u9, u13, u14, u15, st, cl, N, x, wa, na, bad, wrong, non, sn, ps, f, ns, fa, da, L, M, rfl, hls, hl, k⟩ := h
  obtain ⟨z1, a1, _, _⟩ := hls.fo
  refine ⟨_, rfl, .inl ⟨rfl, _, SqL.of a1⟩, hls.lt, fun H1 e1 d1 => ?_⟩
  have ls1 := hls.ext e1 d1
  have fx := ls1.fx.same (gG_le _ _ _ _)
  refine ⟨_, rfl, _, rfl, _, rfl, _, rfl, x, .ref wa, non, wrong, false, rfl, fx.bw, chk_s fx.deb fx.th fx.sno (badw_met (.inr (.inl ⟨rfl, rfl⟩)) fun H2 p s2 hp => ?_)⟩
  have ls2 := (ls1.same s2).same (same_new (o := .tup [.str "statement", non]) hp)
  obtain ⟨a2, hf2, _, _⟩ := (ls1.same s2).fo
  obtain ⟨xs, b1, b2, b3⟩ := ls2.appF (q := ("statement", non)) upd_same (ne_of_none hf2 hp).symm
  refine ⟨fa, _, _, rfl, rfl, b1, lt_sl (by omega), ?_⟩
  exact k _ b3
end
def tL9 (K : PySem.W.Frag) (base : Heap) (P0 : Addr) : TS := fun D σ H => ∃ (u0 u1 u2 u4 u7 u8 u9 u11 u14 u15 : Option V) (st cl : Addr) (N : Nat) (x wa na : Addr) (bad wrong non : V) (sn : List Str) (ps : List (Str × Str)) (f : Str × Str → Int) (ns : List Str) (fa da : Addr) (L M : List (Str × V)),
  σ = s16 u0 u1 u2 (some (.ref na)) u4 (some (.ref wa)) (some (.ref x)) u7 u8 u9 (some wrong) u11 (some (.ref fa)) (some (.ref da)) u14 u15 ∧ LS K base P0 st cl N x wa na bad wrong non sn ps f ns fa da fa L M H ∧ L.length ≤ 50 ∧ M.length ≤ 50 ∧
  ∀ (H' : Hp) (u : Option V) (Y : List (Str × V)), LS K base P0 st cl N x wa na bad wrong non sn ps f ns fa da fa (L ++ Y) (M ++ Y) H' → (∀ q ∈ Y, q = (Str.ofString "number", wrong)) → Y.length ≤ 8 → D.nx (s16 u0 u1 u2 (some (.ref na)) u4 (some (.ref wa)) (some (.ref x)) u7 u u9 (some wrong) u11 (some (.ref fa)) (some (.ref da)) u14 u15) H'
def tL10 (K : PySem.W.Frag) (base : Heap) (P0 : Addr) : TS := fun D σ H => ∃ (u0 u1 u2 u3 u4 u7 u8 u10 u14 u15 : Option V) (st cl : Addr) (N : Nat) (x wa na : Addr) (bad wrong non : V) (sn : List Str) (ps : List (Str × Str)) (f : Str × Str → Int) (ns : List Str) (fa da : Addr) (L M : List (Str × V)),
  σ = s16 u0 u1 u2 u3 u4 (some (.ref wa)) (some (.ref x)) u7 u8 (some bad) u10 (some non) (some (.ref fa)) (some (.ref da)) u14 u15 ∧ LS K base P0 st cl N x wa na bad wrong non sn ps f ns fa da fa L M H ∧ L.length ≤ 60 ∧ M.length ≤ 60 ∧
  ∀ (H' : Hp) (u : Option V) (Y : List (Str × V)), LS K base P0 st cl N x wa na bad wrong non sn ps f ns fa da fa (L ++ Y) (M ++ Y) H' → (∀ q ∈ Y, q = (Str.ofString "weights", bad) ∨ q = (Str.ofString "statement", non)) → Y.length ≤ 4 → D.nx (s16 u0 u1 u2 u3 u4 (some (.ref wa)) (some (.ref x)) u7 u8 (some bad) u10 (some non) (some (.ref fa)) (some (.ref da)) u u15) H'
section
variable {K : PySem.W.Frag} {base : Heap} {P0 st cl : Addr} {N : Nat} {x wa na : Addr} {bad wrong non : V} {sn : List Str} {ps : List (Str × Str)} {f : Str × Str → Int} {ns : List Str} {fa da ha : Addr} {L M : List (Str × V)} {H H' : Hp}
theorem LS.appD2 {p1 p2 : Addr} {q1 q2 : Str × V} (h : LS K base P0 st cl N x wa na bad wrong non sn ps f ns fa da ha L M H) (h1 : H p1 = some (.tup [.str q1.1, q1.2])) (h2 : H p2 = some (.tup [.str q2.1, q2.2])) (n1 : p1 ≠ ha) (n2 : p2 ≠ ha) : ∃ xs, H da = some (.lst xs) ∧ xs.length = M.length ∧
    LS K base P0 st cl N x wa na bad wrong non sn ps f ns fa da ha L (M ++ [q1, q2]) (upd H da (.lst (xs ++ [.ref p1, .ref p2]))) := by
  obtain ⟨z1, a1, b1, c1⟩ := h.fo
  obtain ⟨z2, a2, b2, c2⟩ := h.du
  have eg : Same (gG fa da ha H) (gG fa da ha (upd H da (.lst (z2.map (·.1) ++ [.ref p1, .ref p2])))) := gG_put (.inr (.inl rfl))
  have at_ : ∀ {p : Addr} {q : Str × V}, H p = some (.tup [.str q.1, q.2]) → p ≠ ha → gG fa da ha (upd H da (.lst (z2.map (·.1) ++ [.ref p1, .ref p2]))) p = some (.tup [.str q.1, q.2]) := fun {p q} hp ph =>
    gG_at (ne_of hp a1 fun z => nomatch z) (ne_of hp a2 fun z => nomatch z) ph ((upd_ne (ne_of hp a2 fun z => nomatch z)).trans hp) fun _ z => nomatch z
  refine ⟨z2.map (·.1), a2, by rw [← c2, List.length_map, List.length_map], h.lt.upd a2, h.strm.same eg, h.fx.same eg, h.ne, ⟨z1, (upd_ne h.ne).trans a1, fun z hz => (b1 z hz).same eg, c1⟩, ⟨z2 ++ [(.ref p1, q1), (.ref p2, q2)], by rw [upd_same, List.map_append]; rfl, fun z hz => ?_, by rw [List.map_append, c2]; rfl⟩⟩
  rcases List.mem_append.mp hz with hz | hz
  · exact (b2 z hz).same eg
  · rcases List.mem_cons.mp hz with rfl | hz
    · exact ⟨p1, rfl, at_ h1 n1⟩
    · rw [List.mem_singleton.mp hz]
      exact ⟨p2, rfl, at_ h2 n2⟩
/-- found is told one more thing: the end of an append -/
theorem LS.tellF {p : Addr} (q : Str × V) (h : LS K base P0 st cl N x wa na bad wrong non sn ps f ns fa da fa L M H) (hp : H p = none) (hl : L.length ≤ 1000) : ∃ xs : List V, upd H p (.tup [.str q.1, q.2]) fa = some (.lst xs) ∧ xs.length < sizeLine ∧
    LS K base P0 st cl N x wa na bad wrong non sn ps f ns fa da fa (L ++ [q]) M (upd (upd H p (.tup [.str q.1, q.2])) fa (.lst (xs ++ [.ref p]))) ∧ Same (gG fa da fa H) (gG fa da fa (upd (upd H p (.tup [.str q.1, q.2])) fa (.lst (xs ++ [.ref p])))) := by
  have s1 := same_new (o := .tup [.str q.1, q.2]) hp
  obtain ⟨a2, hf2, _, _⟩ := h.fo
  obtain ⟨xs, b1, b2, b3⟩ := (h.same s1).appF (q := q) upd_same (ne_of_none hf2 hp).symm
  exact ⟨xs, b1, lt_sl (by omega), b3, Same.trans (ExtT.of s1).gG (gG_put (.inl rfl))⟩
end
section
variable {P : Program} {w : World} {K : PySem.W.Frag} {mg : Str → Option Value} {base : Heap} {c0 P0 : Addr} {A : Around} {outer : List Env} {s : Shared} {H0 : Hp} {E : XK}
theorem law9 (T : Top K mg) (TB : LamX.TabB base mg c0 P0) (hr : Room 9 (A.deeper (envOfC "law" (defScope s_law) s.heap.objs.size (He.ga K "law") (.ref c0)))) : PS (LX P w K mg base c0 A outer s H0 E) (stL 9) (tL9 K base P0) := by
  have C_most_for := cl_most (P := P) (w := w) (base := base) T
  refine ps_imp (ps_for PassesOwn.never rfl (pi_K K (pe_slice (sl_K K) (pv 3) po_none (po_some pe_int))) (pg_name (i := 8) sc_law.nd rfl (Or.inr rfl))
    (pss_cons (ps_expr (bm_K K PySem.F.plainAttrs_list PySem.F.slot_list_append PySem.F.type_list_append mt_append (pv 12) (pa_cons (pe_met T (tabD0 (q2 := q2L) TB) rfl hr (LamX.lamS_by (by rfl)) (fun A1 o1 s1 H1 E1 f1 c1 hr2 => (pe_k C_most_for hr2 (by decide) (passes_call (takes_of rfl rfl rfl rfl) (fun _ _ _ _ h => h)) (pa_cons (pv 6) (pa_cons (pv 5) (pa_cons (pv 8) (pa_cons (pv 10) pa_nil))))))) pa_nil)))
    (pss_one (ps_expr (bm_K K PySem.F.plainAttrs_list PySem.F.slot_list_append PySem.F.type_list_append mt_append (pv 13) (pa_cons (pe_tup (pa_cons pe_str (pa_cons (pv 10) pa_nil))) pa_nil)))))) (fun D σ H h => ?_)
  obtain ⟨u0, u1, u2, u4, u7, u8, u9, u11, u14, u15, st, cl, N, x, wa, na, bad, wrong, non, sn, ps, f, ns, fa, da, L, M, rfl, hls, hL, hM, k⟩ := h
  have fx0 := hls.fx.same (gG_le _ _ _ _)
  refine ⟨_, rfl, _, rfl, na, _, rfl, SqL.of fx0.nm, fun p2 hp2 => ⟨p2, rfl, ⟨_, SqL.of upd_same⟩, ?_⟩⟩
  have s2 := same_new (o := .lst (cutV (ns.map V.str) none (some 1))) hp2
  have ls2 := hls.same s2
  obtain ⟨_, fo, _, _⟩ := hls.fo
  obtain ⟨_, du, _, _⟩ := hls.du
  have g2 : gG fa da fa (upd H p2 (.lst (cutV (ns.map V.str) none (some 1)))) p2 = some (.lst (cutV (ns.map V.str) none (some 1))) := gG_at (ne_of_none fo hp2).symm (ne_of_none du hp2).symm (ne_of_none fo hp2).symm upd_same fun _ z => nomatch z
  have cl8 : (cutV (ns.map V.str) none (some 1)).length ≤ 8 := by
    have a := cutV_length (ns.map V.str) none (some 1)
    have b := fx0.nl
    rw [List.length_map] at a
    omega
  have cm : ∀ v ∈ cutV (ns.map V.str) none (some 1), ∃ n ∈ ns, v = .str n := fun v hv => by
    obtain ⟨n, hn, e⟩ := List.mem_map.mp (cutV_mem hv)
    exact ⟨n, hn, e.symm⟩
  generalize upd H p2 (.lst (cutV (ns.map V.str) none (some 1))) = H2 at ls2 g2
  generalize cutV (ns.map V.str) none (some 1) = us at g2 cl8 cm
  refine for_it walk_list (fun i σ H3 => gG fa da fa H3 p2 = some (.lst us) ∧ (∃ Y, LS K base P0 st cl N x wa na bad wrong non sn ps f ns fa da fa (L ++ Y) (M ++ Y) H3 ∧ (∀ q ∈ Y, q = (Str.ofString "number", wrong)) ∧ Y.length = i) ∧ ∃ u, σ = s16 u0 u1 u2 (some (.ref na)) u4 (some (.ref wa)) (some (.ref x)) u7 u u9 (some wrong) u11 (some (.ref fa)) (some (.ref da)) u14 u15)
    ⟨g2, ⟨[], by rw [List.append_nil, List.append_nil]; exact ls2, (fun q hq => nomatch hq), rfl⟩, _, rfl⟩ (fun i σ H3 _ h => SqL.of (gG_le _ _ _ _ _ _ h.1)) ?_ ?_
  · rintro i v0 σ H3 H4 hi ⟨g3, ⟨Y, ls3, hY, yl⟩, u, rfl⟩ ⟨rfl, hv⟩
    obtain ⟨n, hn', rfl⟩ := cm v0 (List.mem_of_getElem? hv)
    obtain ⟨z1, a1, _, _⟩ := ls3.fo
    refine ⟨_, rfl, .inl ⟨rfl, _, SqL.of a1⟩, ls3.lt, fun H5 e5 d5 => ?_⟩
    have ls5 := ls3.ext e5 d5
    have fx := ls5.fx.same (gG_le _ _ _ _)
    refine ⟨_, rfl, _, rfl, _, rfl, _, rfl, x, .ref wa, .str n, wrong, false, rfl, fx.bw, chk_k fx.deb fx.th fx.wt (fx.nn n hn') ⟨fun _ => badw_met (.inr (.inr ⟨rfl, rfl⟩)) fun H6 p s6 hp => ?_, fun B _ z => nomatch z⟩⟩
    have ls6 := ls5.same s6
    obtain ⟨x7, c7, l7, ls7, e7⟩ := ls6.tellF ("number", wrong) hp (by rw [List.length_append]; omega)
    refine ⟨fa, _, _, rfl, rfl, c7, l7, ?_⟩
    generalize upd (upd H6 p (.tup [.str "number", wrong])) fa (.lst (x7 ++ [.ref p])) = H7 at ls7 e7
    have g7 := e7 _ _ ((ExtT.of s6).gG _ _ (e5.gG _ _ g3))
    obtain ⟨z2, a2, _, _⟩ := ls7.du
    refine ⟨_, rfl, .inl ⟨rfl, _, SqL.of a2⟩, _, rfl, le_sl (by show 2 ≤ _; decide), fun t ht => ?_⟩
    have s8 := same_new (o := .tup [.str "number", wrong]) ht
    obtain ⟨z3, a3, _, _⟩ := ls7.fo
    obtain ⟨xs, b1, b2, b3⟩ := (ls7.same s8).appD (q := ("number", wrong)) upd_same (ne_of_none a3 ht).symm
    refine ⟨da, _, _, rfl, rfl, b1, lt_sl (by rw [b2, List.length_append]; omega), ?_⟩
    refine ⟨gG_put (.inr (.inl rfl)) _ _ ((ExtT.of s8).gG _ _ g7), ⟨Y ++ [(Str.ofString "number", wrong)], ?_, fun q hq => ?_, ?_⟩, _, rfl⟩
    · rw [← List.append_assoc, ← List.append_assoc]
      exact b3
    · rcases List.mem_append.mp hq with hq | hq
      · exact hY q hq
      · exact List.mem_singleton.mp hq
    · rw [List.length_append, yl]
      rfl
  · rintro σ H3 ⟨g3, ⟨Y, ls3, hY, yl⟩, u, rfl⟩
    exact k H3 u Y ls3 hY (by omega)
theorem law10 (T : Top K mg) (TB : LamX.TabB base mg c0 P0) (hr : Room 9 (A.deeper (envOfC "law" (defScope s_law) s.heap.objs.size (He.ga K "law") (.ref c0)))) : PS (LX P w K mg base c0 A outer s H0 E) (stL 10) (tL10 K base P0) := by
  have C_least_budget := cl_least (P := P) (w := w) (base := base) T
  have C_cheapest_lot := cl_cheapest (P := P) (w := w) (base := base) T
  have AA_ask : ∀ (f : Addr) (sp : Sp), ((f = He.ga K "least_budget" ∧ sp = spLeast K) ∨ (f = He.ga K "cheapest_lot" ∧ sp = spCheapest K)) → ∃ (fd : FuncData) (ps : List Str), FnOk P w K mg base (L2.CX P w) 5 f fd ps sp ∧ PySem.W.keepIn K (.ref f) = true ∧ Binds K fd ps [] := fun f sp h => by
    rcases h with ⟨rfl, rfl⟩ | ⟨rfl, rfl⟩
    · obtain ⟨f, fd, F, g, kp, b, _⟩ := C_least_budget.ex
      obtain rfl : f = He.ga K "least_budget" := Value.ref.inj (Option.some.inj (g.symm.trans T.g_least_budget))
      exact ⟨fd, _, F, kp, b⟩
    · obtain ⟨f, fd, F, g, kp, b, _⟩ := C_cheapest_lot.ex
      obtain rfl : f = He.ga K "cheapest_lot" := Value.ref.inj (Option.some.inj (g.symm.trans T.g_cheapest_lot))
      exact ⟨fd, _, F, kp, b⟩
  refine ps_imp (ps_for PassesOwn.never rfl (pit_K K (pe_tup (pa_cons (pe_gc (v := .ref (He.ga K "least_budget")) rfl ⟨_, T.g_least_budget, rfl⟩) (pa_cons (pe_gc (v := .ref (He.ga K "cheapest_lot")) rfl ⟨_, T.g_cheapest_lot, rfl⟩) pa_nil)))) (pg_name (i := 14) sc_law.nd rfl (Or.inr rfl))
    (pss_cons (ps_expr (bm_K K PySem.F.plainAttrs_list PySem.F.slot_list_append PySem.F.type_list_append mt_append (pv 12) (pa_cons (pe_met T (tabD0 (q2 := q2L) TB) rfl hr (LamX.lamS_by (by rfl)) (fun A1 o1 s1 H1 E1 f1 c1 hr2 => (pe_callAX (i := 14) AA_ask hr2 (by decide) rfl (Or.inr (Or.inr rfl)) (passes_call (takes_of rfl rfl rfl rfl) (fun _ _ _ _ h => h)) (pa_cons (pv 6) (pa_cons (pv 9) (pa_cons (pv 11) pa_nil)))))) pa_nil)))
    (pss_cons (ps_expr (bm_K K PySem.F.plainAttrs_list PySem.F.slot_list_append PySem.F.type_list_append mt_append (pv 12) (pa_cons (pe_met T (tabD0 (q2 := q2L) TB) rfl hr (LamX.lamS_by (by rfl)) (fun A1 o1 s1 H1 E1 f1 c1 hr2 => (pe_callAX (i := 14) AA_ask hr2 (by decide) rfl (Or.inr (Or.inr rfl)) (passes_call (takes_of rfl rfl rfl rfl) (fun _ _ _ _ h => h)) (pa_cons (pv 6) (pa_cons (pv 5) (pa_cons (pv 11) pa_nil)))))) pa_nil)))
    (pss_one (ps_expr (bm_K K PySem.F.plainAttrs_list PySem.F.slot_list_extend PySem.F.type_list_extend mt_extend (pv 13) (pa_cons (pe_lst (pa_cons (pe_tup (pa_cons pe_str (pa_cons (pv 9) pa_nil))) (pa_cons (pe_tup (pa_cons pe_str (pa_cons (pv 11) pa_nil))) pa_nil))) pa_nil))))))) (fun D σ H h => ?_)
  obtain ⟨u0, u1, u2, u3, u4, u7, u8, u10, u14, u15, st, cl, N, x, wa, na, bad, wrong, non, sn, ps, f, ns, fa, da, L, M, rfl, hls, hL, hM, k⟩ := h
  have sh : ∀ (f : Addr) (sp : Sp), ((f = He.ga K "least_budget" ∧ sp = spLeast K) ∨ (f = He.ga K "cheapest_lot" ∧ sp = spCheapest K)) → ∀ (v u : V) (H : Hp) (Q : VK) (E : XK), (∀ k, Chk K [.ref x, v, u] v u x H E k) → sp [.ref x, v, u] H Q E := fun f sp h v u H Q E c => by
    rcases h with ⟨_, rfl⟩ | ⟨_, rfl⟩
    · exact ⟨x, v, u, rfl, c _⟩
    · exact ⟨x, v, u, rfl, c _⟩
  refine ⟨le_sl (by show 2 ≤ _; decide), fun tp htp => ⟨tp, rfl, ⟨_, SqT.of upd_same⟩, ?_⟩⟩
  have s2 := same_new (o := .tup [.ref (He.ga K "least_budget"), .ref (He.ga K "cheapest_lot")]) htp
  have ls2 := hls.same s2
  obtain ⟨_, fo, _, _⟩ := hls.fo
  obtain ⟨_, du, _, _⟩ := hls.du
  have g2 : gG fa da fa (upd H tp (.tup [.ref (He.ga K "least_budget"), .ref (He.ga K "cheapest_lot")])) tp = some (.tup [.ref (He.ga K "least_budget"), .ref (He.ga K "cheapest_lot")]) :=
    gG_at (ne_of_none fo htp).symm (ne_of_none du htp).symm (ne_of_none fo htp).symm upd_same fun _ z => nomatch z
  generalize upd H tp (.tup [.ref (He.ga K "least_budget"), .ref (He.ga K "cheapest_lot")]) = H2 at ls2 g2
  refine for_it walk_tup (fun i σ H3 => gG fa da fa H3 tp = some (.tup [.ref (He.ga K "least_budget"), .ref (He.ga K "cheapest_lot")]) ∧ (∃ Y, LS K base P0 st cl N x wa na bad wrong non sn ps f ns fa da fa (L ++ Y) (M ++ Y) H3 ∧ (∀ q ∈ Y, q = (Str.ofString "weights", bad) ∨ q = (Str.ofString "statement", non)) ∧ Y.length = 2 * i) ∧
      ∃ u, σ = s16 u0 u1 u2 u3 u4 (some (.ref wa)) (some (.ref x)) u7 u8 (some bad) u10 (some non) (some (.ref fa)) (some (.ref da)) u u15)
    ⟨g2, ⟨[], by rw [List.append_nil, List.append_nil]; exact ls2, (fun q hq => nomatch hq), rfl⟩, _, rfl⟩ (fun i σ H3 _ h => SqT.of (gG_le _ _ _ _ _ _ h.1)) ?_ ?_
  · rintro i v0 σ H3 H4 hi ⟨g3, ⟨Y, ls3, hY, yl⟩, u, rfl⟩ ⟨rfl, hv⟩
    have hi2 : i < 2 := hi
    obtain ⟨a, sp, rfl, hS⟩ : ∃ (a : Addr) (sp : Sp), v0 = .ref a ∧ ((a = He.ga K "least_budget" ∧ sp = spLeast K) ∨ (a = He.ga K "cheapest_lot" ∧ sp = spCheapest K)) := by
      rcases i with _ | _ | i
      · exact ⟨_, _, (Option.some.inj hv).symm, .inl ⟨rfl, rfl⟩⟩
      · exact ⟨_, _, (Option.some.inj hv).symm, .inr ⟨rfl, rfl⟩⟩
      · omega
    have hsh := sh a sp hS
    obtain ⟨z1, a1, _, _⟩ := ls3.fo
    -- with the odd weights
    refine ⟨_, rfl, .inl ⟨rfl, _, SqL.of a1⟩, ls3.lt, fun H5 e5 d5 => ?_⟩
    have ls5 := ls3.ext e5 d5
    have fx := ls5.fx.same (gG_le _ _ _ _)
    refine ⟨a, sp, rfl, hS, _, rfl, _, rfl, _, rfl, hsh _ _ _ _ _ fun k => chk_w fx.deb fx.wb (badw_met (.inl ⟨rfl, rfl⟩) fun H6 p s6 hp => ?_)⟩
    obtain ⟨x7, c7, l7, ls7, e7⟩ := (ls5.same s6).tellF ("weights", bad) hp (by rw [List.length_append]; omega)
    refine ⟨fa, _, _, rfl, rfl, c7, l7, ?_⟩
    have g7 := e7 _ _ ((ExtT.of s6).gG _ _ (e5.gG _ _ g3))
    generalize upd (upd H6 p (.tup [.str "weights", bad])) fa (.lst (x7 ++ [.ref p])) = H7 at ls7 e7 g7
    -- with the weights
    obtain ⟨z7, a7, _, _⟩ := ls7.fo
    refine ⟨_, rfl, .inl ⟨rfl, _, SqL.of a7⟩, ls7.lt, fun H8 e8 d8 => ?_⟩
    have ls8 := ls7.ext e8 d8
    have fx8 := ls8.fx.same (gG_le _ _ _ _)
    refine ⟨a, sp, rfl, hS, _, rfl, _, rfl, _, rfl, hsh _ _ _ _ _ fun k => chk_s fx8.deb fx8.th fx8.sno (badw_met (.inr (.inl ⟨rfl, rfl⟩)) fun H9 p9 s9 hp9 => ?_)⟩
    obtain ⟨xA, cA, lA, lsA, eA⟩ := (ls8.same s9).tellF ("statement", non) hp9 (by rw [List.length_append, List.length_append, List.length_singleton]; omega)
    refine ⟨fa, _, _, rfl, rfl, cA, lA, ?_⟩
    have gA := eA _ _ ((ExtT.of s9).gG _ _ (e8.gG _ _ g7))
    generalize upd (upd H9 p9 (.tup [.str "statement", non])) fa (.lst (xA ++ [.ref p9])) = HA at lsA eA gA
    -- due
    obtain ⟨zA, aA, _, _⟩ := lsA.du
    obtain ⟨zB, aB, _, _⟩ := lsA.fo
    refine ⟨_, rfl, .inl ⟨rfl, _, SqL.of aA⟩, _, rfl, le_sl (by show 2 ≤ _; decide), fun t1 ht1 => ⟨_, rfl, le_sl (by show 2 ≤ _; decide), fun t2 ht2 => ⟨le_sl (by show 2 ≤ _; decide), fun tl htl => ?_⟩⟩⟩
    have b1 := same_new (o := .tup [.str "weights", bad]) ht1
    have b2 := same_new (o := .tup [.str "statement", non]) ht2
    have b3 := same_new (o := .lst [.ref t1, .ref t2]) htl
    have b13 := b1.trans (b2.trans b3)
    have q1 := b3 _ _ (b2 _ _ (upd_same (H := HA) (a := t1) (o := .tup [.str "weights", bad])))
    have q2 := b3 _ _ (upd_same (H := upd HA t1 (.tup [.str "weights", bad])) (a := t2) (o := .tup [.str "statement", non]))
    have q3 := upd_same (H := upd (upd HA t1 (.tup [.str "weights", bad])) t2 (.tup [.str "statement", non])) (a := tl) (o := .lst [.ref t1, .ref t2])
    have lsB := lsA.same b13
    have aB' := b13 _ _ aB
    obtain ⟨xs, c1, c2, c3⟩ := lsB.appD2 (q1 := (Str.ofString "weights", bad)) (q2 := (Str.ofString "statement", non)) q1 q2 (ne_of q1 aB' fun z => nomatch z) (ne_of q2 aB' fun z => nomatch z)
    refine ⟨da, tl, _, _, rfl, rfl, c1, q3, le_sl (by rw [c2, List.length_append, List.length_cons, List.length_cons, List.length_nil]; omega), ?_⟩
    refine ⟨gG_put (.inr (.inl rfl)) _ _ ((ExtT.of b13).gG _ _ gA), ⟨Y ++ [(Str.ofString "weights", bad), (Str.ofString "statement", non)], ?_, fun q hq => ?_, ?_⟩, _, rfl⟩
    · have e1 : L ++ (Y ++ [(Str.ofString "weights", bad), (Str.ofString "statement", non)]) = L ++ Y ++ [(Str.ofString "weights", bad)] ++ [(Str.ofString "statement", non)] := by simp
      rw [e1, ← List.append_assoc M]
      exact c3
    · rcases List.mem_append.mp hq with hq | hq
      · exact hY q hq
      · rcases List.mem_cons.mp hq with rfl | hq
        · exact .inl rfl
        · exact .inr (List.mem_singleton.mp hq)
    · rw [List.length_append, yl, List.length_cons, List.length_cons, List.length_nil]
      omega
  · rintro σ H3 ⟨g3, ⟨Y, ls3, hY, yl⟩, u, rfl⟩
    have yl2 : Y.length = 2 * 2 := yl
    exact k H3 u Y ls3 hY (by omega)
end
def Hd (G : Hp) (t : Addr) : Prop := ∃ p, G t = some (.tup [.ref p]) ∧ G p = some (.lst [.non, .str "late"])
theorem Hd.same {G G' : Hp} {t : Addr} (h : Hd G t) (e : Same G G') : Hd G' t := by
  obtain ⟨p, a, b⟩ := h
  exact ⟨p, e _ _ a, e _ _ b⟩
def tL11 (K : PySem.W.Frag) (base : Heap) (P0 : Addr) : TS := fun D σ H => ∃ (u0 u1 u2 u3 u4 u7 u8 u9 u10 u11 u12 u13 u14 u15 : Option V) (st cl : Addr) (N : Nat) (x wa na : Addr) (bad wrong non : V) (sn : List Str) (ps : List (Str × Str)) (f : Str × Str → Int) (ns : List Str) (fa da : Addr) (L M : List (Str × V)),
  σ = s16 u0 u1 u2 u3 u4 (some (.ref wa)) (some (.ref x)) u7 u8 u9 u10 u11 u12 u13 u14 u15 ∧ LS K base P0 st cl N x wa na bad wrong non sn ps f ns fa da fa L M H ∧
  ∀ (H' : Hp) (ha t : Addr), LS K base P0 st cl N x wa na bad wrong non sn ps f ns fa da ha L M H' → ha ≠ fa → ha ≠ da → H' ha = some (.lst [.ref t]) → Hd (gG fa da ha H') t → D.nx (s16 u0 u1 u2 u3 u4 (some (.ref wa)) (some (.ref x)) u7 u8 u9 u10 u11 u12 u13 u14 (some (.ref ha))) H'
def tL12 (K : PySem.W.Frag) (base : Heap) (P0 : Addr) : TS := fun D σ H => ∃ (u0 u1 u2 u3 u4 u5 u7 u8 u9 u10 u11 u12 u13 u14 : Option V) (st cl : Addr) (N : Nat) (x wa na : Addr) (bad wrong non : V) (sn : List Str) (ps : List (Str × Str)) (f : Str × Str → Int) (ns : List Str) (fa da ha t : Addr) (L M : List (Str × V)),
  σ = s16 u0 u1 u2 u3 u4 u5 (some (.ref x)) u7 u8 u9 u10 u11 u12 u13 u14 (some (.ref ha)) ∧ LS K base P0 st cl N x wa na bad wrong non sn ps f ns fa da ha L M H ∧ ha ≠ fa ∧ ha ≠ da ∧ H ha = some (.lst [.ref t]) ∧ Hd (gG fa da ha H) t ∧
  ∀ (H' : Hp) (t2 : Addr), LS K base P0 st cl N x wa na bad wrong non sn ps f ns fa da ha L M H' → H' ha = some (.lst [.ref t, .ref t2]) → Hd (gG fa da ha H') t → Hd (gG fa da ha H') t2 → D.nx σ H'
section
variable {K : PySem.W.Frag} {base : Heap} {P0 st cl : Addr} {N : Nat} {x wa na : Addr} {bad wrong non : V} {sn : List Str} {ps : List (Str × Str)} {f : Str × Str → Int} {ns : List Str} {fa da ha : Addr} {L M : List (Str × V)} {H H' : Hp}
theorem LS.put3 {xs : List V} {o : HO} (h : LS K base P0 st cl N x wa na bad wrong non sn ps f ns fa da ha L M H) (hx : H ha = some (.lst xs)) (n1 : ha ≠ fa) (n2 : ha ≠ da) : LS K base P0 st cl N x wa na bad wrong non sn ps f ns fa da ha L M (upd H ha o) := by
  have eg : Same (gG fa da ha H) (gG fa da ha (upd H ha o)) := gG_put (.inr (.inr rfl))
  obtain ⟨z1, a1, b1, c1⟩ := h.fo
  obtain ⟨z2, a2, b2, c2⟩ := h.du
  exact ⟨h.lt.upd hx, h.strm.same eg, h.fx.same eg, h.ne, ⟨z1, (upd_ne n1.symm).trans a1, fun z hz => (b1 z hz).same eg, c1⟩, ⟨z2, (upd_ne n2.symm).trans a2, fun z hz => (b2 z hz).same eg, c2⟩⟩
end
section
variable {P : Program} {w : World} {K : PySem.W.Frag} {mg : Str → Option Value} {base : Heap} {c0 P0 : Addr} {A : Around} {outer : List Env} {s : Shared} {H0 : Hp} {E : XK}
theorem law11 (T : Top K mg) (TB : LamX.TabB base mg c0 P0) (hr : Room 9 (A.deeper (envOfC "law" (defScope s_law) s.heap.objs.size (He.ga K "law") (.ref c0)))) : PS (LX P w K mg base c0 A outer s H0 E) (stL 11) (tL11 K base P0) := by
  have C_least_budget := cl_least (P := P) (w := w) (base := base) T
  refine ps_imp (ps_set (i := 15) sc_law.nd rfl (Or.inl rfl) (pe_lst (pa_cons (pe_held (t := fun c1 P1 => tLam0 (fun H => LT base P0 q1L q2L H ∧ Sub base H P0 P1 q2L ∧ H c1 = some (CodeP c1 q1L P1)) (TTmet K) (fun E2 => tK (spLeast K) E2 (tCons (tVar 6) (tCons (tVar 5) (tCons (tVar 16) tNil))))) (y := "_law_thing") T (tabD0 (q2 := q2L) TB) rfl hr ⟨rfl, rfl, rfl, rfl, lam1_own rfl, fun _ _ => rfl, fun _ => rfl, lam1_free rfl⟩ (show (Str.ofString "_law_thing") ∉ N_law from by decide +kernel) (fun A1 o1 s1 H1 f1 c1 P1 hr2 => (pe_met (X := lam1Cx (LX P w K mg base c0 A outer s H0 E) A1 o1 s1 H1 _ "_law_thing" f1 c1) T (tabD1 (c2 := c1) (P2 := P1) (q1 := q1L) TB) rfl hr2 (LamX.lamS_by (by rfl)) (fun A2 o2 s2 H2 E2 f2 c2 hr3 => (pe_k C_least_budget hr3 (by decide) (passes_call (takes_of rfl rfl rfl rfl) (fun _ _ _ _ h => h)) (pa_cons (pv 6) (pa_cons (pv 5) (pa_cons (pv 16) pa_nil)))))))) pa_nil))) (fun D σ H h => ?_)
  obtain ⟨u0, u1, u2, u3, u4, u7, u8, u9, u10, u11, u12, u13, u14, u15, st, cl, N, x, wa, na, bad, wrong, non, sn, ps, f, ns, fa, da, L, M, rfl, hls, k⟩ := h
  refine ⟨hls.lt, fun H1 c1 P1 e1 d1 r1 hc p hp R hR => ?_⟩
  have ls1 := hls.ext e1 d1
  have s1 := same_new (o := .lst [.non]) hp
  refine ⟨⟨d1.ext s1, r1.ext s1, s1 _ _ hc⟩, fun H2 e2 d2 => ?_⟩
  have ls2 := (ls1.same s1).ext e2 d2.1
  have fx := ls2.fx.same (gG_le _ _ _ _)
  have hp2 : H2 p = some (.lst [.non]) := e2 _ _ upd_same fun _ z => nomatch z
  refine ⟨_, rfl, _, rfl, _, rfl, x, .ref wa, .ref p, rfl, chk_s fx.deb fx.th (.inr ⟨"list", tag_list, by decide, .base (.lst hp2), rfl⟩) (badw_met (.inr (.inl ⟨rfl, rfl⟩)) fun H3 t s3 ht => ?_)⟩
  have s4 := s3.trans (same_new (o := .tup [.str "statement", .ref p]) ht)
  refine hR t (.str "statement") (.ref p) _ upd_same (s4 _ _ hp2) fun p2 hq2 => ?_
  refine ⟨le_sl (by show 1 ≤ _; decide), fun ha hha => ?_⟩
  have eB := ExtT.new (o := .lst [.non, .str "late"]) (((ExtT.of s1).trans e2).trans (ExtT.of s4)) hp
  have lB := ((d2.1.ext s4).upd (o := .lst [.non, .str "late"]) (s4 _ _ hp2)).ext (same_new (o := .tup [.ref p]) hq2)
  have lsB := ls1.ext (eB.trans (ExtT.of (same_new (o := .tup [.ref p]) hq2))) lB
  obtain ⟨z1, a1, _, _⟩ := ls1.fo
  obtain ⟨z2, a2, _, _⟩ := ls1.du
  obtain ⟨z3, a3, _, _⟩ := lsB.fo
  obtain ⟨z4, a4, _, _⟩ := lsB.du
  have pp : p ≠ p2 := ne_of_none (upd_same (a := p)) hq2
  have b1 : upd (upd (upd H3 t (.tup [.str "statement", .ref p])) p (.lst [.non, .str "late"])) p2 (.tup [.ref p]) p = some (.lst [.non, .str "late"]) := (upd_ne pp).trans upd_same
  have b2 : upd (upd (upd H3 t (.tup [.str "statement", .ref p])) p (.lst [.non, .str "late"])) p2 (.tup [.ref p]) p2 = some (.tup [.ref p]) := upd_same
  generalize upd (upd (upd H3 t (.tup [.str "statement", .ref p])) p (.lst [.non, .str "late"])) p2 (.tup [.ref p]) = HB at *
  have sE := same_new (o := .lst [.ref p2]) hha
  refine k _ ha p2 (lsB.re hha) (ne_of_none a3 hha).symm (ne_of_none a4 hha).symm upd_same ⟨p, gG_at (ne_of b2 a3 fun z => nomatch z) (ne_of b2 a4 fun z => nomatch z) (ne_of_none b2 hha) (sE _ _ b2) (fun _ z => nomatch z),
    gG_at (ne_of_none a1 hp).symm (ne_of_none a2 hp).symm (ne_of_none b1 hha) (sE _ _ b1) fun _ z => nomatch z⟩
theorem law12 (T : Top K mg) (TB : LamX.TabB base mg c0 P0) (hr : Room 9 (A.deeper (envOfC "law" (defScope s_law) s.heap.objs.size (He.ga K "law") (.ref c0)))) : PS (LX P w K mg base c0 A outer s H0 E) (stL 12) (tL12 K base P0) := by
  have C_cheapest_lot := cl_cheapest (P := P) (w := w) (base := base) T
  refine ps_imp (ps_expr (bm_K K PySem.F.plainAttrs_list PySem.F.slot_list_append PySem.F.type_list_append mt_append (pv 15) (pa_cons (pe_held (t := fun c1 P1 => tLam0 (fun H => LT base P0 q1L q2L H ∧ Sub base H P0 P1 q2L ∧ H c1 = some (CodeP c1 q1L P1)) (TTmet K) (fun E2 => tK (spCheapest K) E2 (tCons (tVar 6) (tCons (tVar 16) (tCons (tC .non) tNil))))) (y := "_law_thing") T (tabD0 (q2 := q2L) TB) rfl hr ⟨rfl, rfl, rfl, rfl, lam1_own rfl, fun _ _ => rfl, fun _ => rfl, lam1_free rfl⟩ (show (Str.ofString "_law_thing") ∉ N_law from by decide +kernel) (fun A1 o1 s1 H1 f1 c1 P1 hr2 => (pe_met (X := lam1Cx (LX P w K mg base c0 A outer s H0 E) A1 o1 s1 H1 _ "_law_thing" f1 c1) T (tabD1 (c2 := c1) (P2 := P1) (q1 := q1L) TB) rfl hr2 (LamX.lamS_by (by rfl)) (fun A2 o2 s2 H2 E2 f2 c2 hr3 => (pe_k C_cheapest_lot hr3 (by decide) (passes_call (takes_of rfl rfl rfl rfl) (fun _ _ _ _ h => h)) (pa_cons (pv 6) (pa_cons (pv 16) (pa_cons pe_non pa_nil)))))))) pa_nil))) (fun D σ H h => ?_)
  obtain ⟨u0, u1, u2, u3, u4, u5, u7, u8, u9, u10, u11, u12, u13, u14, st, cl, N, x, wa, na, bad, wrong, non, sn, ps, f, ns, fa, da, ha, t1, L, M, rfl, hls, n1, n2, hh, hd1, k⟩ := h
  refine ⟨_, rfl, .inl ⟨rfl, _, SqL.of hh⟩, hls.lt, fun H1 c1 P1 e1 d1 r1 hc p hp R hR => ?_⟩
  have ls1 := hls.ext e1 d1
  have hh1 := e1 _ _ hh fun _ z => nomatch z
  have s1 := same_new (o := .lst [.non]) hp
  refine ⟨⟨d1.ext s1, r1.ext s1, s1 _ _ hc⟩, fun H2 e2 d2 => ?_⟩
  have ls2 := (ls1.same s1).ext e2 d2.1
  have fx := ls2.fx.same (gG_le _ _ _ _)
  have hp2 : H2 p = some (.lst [.non]) := e2 _ _ upd_same fun _ z => nomatch z
  refine ⟨_, rfl, _, rfl, x, .ref p, .non, rfl, chk_w fx.deb (.no tag_list (by decide) (.base (.lst hp2))) (badw_met (.inl ⟨rfl, rfl⟩) fun H3 t s3 ht => ?_)⟩
  have s4 := s3.trans (same_new (o := .tup [.str "weights", .ref p]) ht)
  refine hR t (.str "weights") (.ref p) _ upd_same (s4 _ _ hp2) fun p2 hq2 => ?_
  have eB := ExtT.new (o := .lst [.non, .str "late"]) (((ExtT.of s1).trans e2).trans (ExtT.of s4)) hp
  have lB := ((d2.1.ext s4).upd (o := .lst [.non, .str "late"]) (s4 _ _ hp2)).ext (same_new (o := .tup [.ref p]) hq2)
  have eC := eB.trans (ExtT.of (same_new (o := .tup [.ref p]) hq2))
  have lsB := ls1.ext eC lB
  have hdB := (hd1.same e1.gG).same eC.gG
  have hhB := eC _ _ hh1 fun _ z => nomatch z
  obtain ⟨z1, a1, _, _⟩ := ls1.fo
  obtain ⟨z2, a2, _, _⟩ := ls1.du
  obtain ⟨z3, a3, _, _⟩ := lsB.fo
  obtain ⟨z4, a4, _, _⟩ := lsB.du
  have pp : p ≠ p2 := ne_of_none (upd_same (a := p)) hq2
  have b1 : upd (upd (upd H3 t (.tup [.str "weights", .ref p])) p (.lst [.non, .str "late"])) p2 (.tup [.ref p]) p = some (.lst [.non, .str "late"]) := (upd_ne pp).trans upd_same
  have b2 : upd (upd (upd H3 t (.tup [.str "weights", .ref p])) p (.lst [.non, .str "late"])) p2 (.tup [.ref p]) p2 = some (.tup [.ref p]) := upd_same
  generalize upd (upd (upd H3 t (.tup [.str "weights", .ref p])) p (.lst [.non, .str "late"])) p2 (.tup [.ref p]) = HB at *
  refine ⟨ha, _, _, rfl, rfl, hhB, lt_sl (by show 1 < _; decide), ?_⟩
  have ep : Same (gG fa da ha HB) (gG fa da ha (upd HB ha (.lst ([.ref t1] ++ [.ref p2])))) := gG_put (.inr (.inr rfl))
  exact k _ p2 (lsB.put3 hhB n1 n2) upd_same (hdB.same ep) ⟨p, ep _ _ (gG_at (ne_of b2 a3 fun z => nomatch z) (ne_of b2 a4 fun z => nomatch z) (ne_of b2 hhB fun z => nomatch z) b2 fun _ z => nomatch z),
    ep _ _ (gG_at (ne_of_none a1 hp).symm (ne_of_none a2 hp).symm (ne_of_none hh1 hp).symm b1 fun _ z => nomatch z)⟩
end
def tL13 (K : PySem.W.Frag) (base : Heap) (P0 : Addr) : TS := fun D σ H => ∃ (u0 u1 u2 u3 u4 u5 u6 u7 u8 u9 u10 u11 u14 : Option V) (st cl : Addr) (N : Nat) (x wa na : Addr) (bad wrong non : V) (sn : List Str) (ps : List (Str × Str)) (f : Str × Str → Int) (ns : List Str) (fa da ha t1 t2 : Addr) (L : List (Str × V)),
  σ = s16 u0 u1 u2 u3 u4 u5 u6 u7 u8 u9 u10 u11 (some (.ref fa)) (some (.ref da)) u14 (some (.ref ha)) ∧ LS K base P0 st cl N x wa na bad wrong non sn ps f ns fa da ha L L H ∧ L.length ≤ 1000 ∧ (∀ q ∈ L, q.2 = bad ∨ q.2 = wrong ∨ q.2 = non) ∧ H ha = some (.lst [.ref t1, .ref t2]) ∧ Hd (gG fa da ha H) t1 ∧ Hd (gG fa da ha H) t2 ∧
  ∀ H', Same H H' → D.nx σ H'
theorem sd_flats {K : PySem.W.Frag} {G : Hp} {n : Nat} {a b : Addr} {xs : List V} (ha : G a = some (.lst xs)) (hb : G b = some (.lst xs)) (hx : ∀ v ∈ xs, isFlat v = true) (hl : xs.length ≤ 100000) : SD K G (n + 1) (.ref a) (.ref b) :=
  .lst (SqL.of ha) (SqL.of hb) rfl hl fun i x y p q => by
    rw [p] at q
    obtain rfl := Option.some.inj q
    exact .flat (hx _ (List.mem_of_getElem? p))
theorem sd_held {K : PySem.W.Frag} {G : Hp} {n : Nat} {t a b : Addr} (h : Hd G t) (ha : G a = some (.tup [.ref b])) (hb : G b = some (.lst [.non, .str "late"])) : SD K G (n + 2) (.ref t) (.ref a) := by
  obtain ⟨p, h1, h2⟩ := h
  refine .tup (SqT.of h1) (SqT.of ha) rfl (by show 1 ≤ 100000; decide) fun i x y e1 e2 => ?_
  match i, e1, e2 with
  | 0, e1, e2 =>
    obtain rfl := Option.some.inj e1
    obtain rfl := Option.some.inj e2
    exact sd_flats h2 hb (fun v hv => by
      rcases List.mem_cons.mp hv with rfl | hv
      · rfl
      · rw [List.mem_singleton.mp hv]
        rfl) (by show 2 ≤ 100000; decide)
theorem sd_told {K : PySem.W.Frag} {G : Hp} {a b : Addr} {z1 z2 : List (V × (Str × V))} (ha : G a = some (.lst (z1.map (·.1)))) (hb : G b = some (.lst (z2.map (·.1)))) (h1 : ∀ z ∈ z1, IsTold G z.1 z.2) (h2 : ∀ z ∈ z2, IsTold G z.1 z.2) (e : z1.map (·.2) = z2.map (·.2))
    (hl : z1.length ≤ 1000) (hs : ∀ z ∈ z1, SD K G 5 z.2.2 z.2.2) : SD K G 7 (.ref a) (.ref b) := by
  have len : z1.length = z2.length := by
    have q := congrArg List.length e
    rw [List.length_map, List.length_map] at q
    exact q
  refine .lst (SqL.of ha) (SqL.of hb) (by rw [List.length_map, List.length_map, len]) (by rw [List.length_map]; omega) fun i x y e1 e2 => ?_
  obtain ⟨y1, g1, rfl⟩ := get_map e1
  obtain ⟨y2, g2, rfl⟩ := get_map e2
  obtain ⟨t1, et1, f1⟩ := h1 y1 (List.mem_of_getElem? g1)
  obtain ⟨t2, et2, f2⟩ := h2 y2 (List.mem_of_getElem? g2)
  have eq : y1.2 = y2.2 := by
    have c1 : (z1.map (·.2))[i]? = some y1.2 := by rw [List.getElem?_map, g1]; rfl
    have c2 : (z2.map (·.2))[i]? = some y2.2 := by rw [List.getElem?_map, g2]; rfl
    rw [e, c2] at c1
    exact (Option.some.inj c1).symm
  have sv := hs y1 (List.mem_of_getElem? g1)
  rw [et1, et2]
  rw [← eq] at f2
  refine .tup (SqT.of f1) (SqT.of f2) rfl (by show 2 ≤ 100000; decide) fun i x y e1 e2 => ?_
  rw [e1] at e2
  obtain rfl := Option.some.inj e2
  match i, e1 with
  | 0, e1 =>
    obtain rfl := Option.some.inj e1
    exact .flat rfl
  | 1, e1 =>
    obtain rfl := Option.some.inj e1
    exact sv
section
variable {P : Program} {w : World} {K : PySem.W.Frag} {mg : Str → Option Value} {base : Heap} {c0 P0 : Addr} {A : Around} {outer : List Env} {s : Shared} {H0 : Hp} {E : XK}
theorem law13 (T : Top K mg) (hr : Room 9 (A.deeper (envOfC "law" (defScope s_law) s.heap.objs.size (He.ga K "law") (.ref c0)))) : PS (LX P w K mg base c0 A outer s H0 E) (stL 13) (tL13 K base P0) := by
  have C_law_same := cl_same (P := P) (w := w) (base := base) T 7
  refine ps_imp (ps_if (PW.pt (pw_or (pt_not (pt_val (pe_k C_law_same hr (by decide) pass0 (pa_cons (pv 12) (pa_cons (pv 13) pa_nil))))) (pw_or1 (pt_not (pt_val (pe_k C_law_same hr (by decide) pass0 (pa_cons (pv 15) (pa_cons (pe_op op_rep (pe_lst (pa_cons (pe_tup (pa_cons (pe_lst (pa_cons pe_non (pa_cons pe_str pa_nil))) pa_nil)) pa_nil)) pe_int) pa_nil))))))))
    (pss_one (ps_ret pe_bl))
    pss_nil) (fun D σ H h => ?_)
  obtain ⟨u0, u1, u2, u3, u4, u5, u6, u7, u8, u9, u10, u11, u14, st, cl, N, x, wa, na, bad, wrong, non, sn, ps, f, ns, fa, da, ha, t1, t2, L, rfl, hls, hl, hL, hh, hd1, hd2, k⟩ := h
  have le := gG_le fa da ha H
  obtain ⟨z1, a1, b1, c1⟩ := hls.fo
  obtain ⟨z2, a2, b2, c2⟩ := hls.du
  have sd : ∀ z ∈ z1, SD K H 5 z.2.2 z.2.2 := fun z hz => by
    have q := hL z.2 (by rw [← c1]; exact List.mem_map_of_mem hz)
    rcases q with q | q | q <;> rw [q]
    · exact hls.fx.sb.same le
    · exact hls.fx.sw.same le
    · exact hls.fx.so.same le
  refine ⟨_, rfl, _, rfl, _, _, rfl, sd_told a1 a2 (fun z hz => (b1 z hz).same le) (fun z hz => (b2 z hz).same le) (c1.trans c2.symm) (by rw [← c1, List.length_map] at hl; exact hl) sd, fun H1 s1 => ⟨true, rfl, iteB0 rfl ?_⟩⟩
  refine ⟨_, rfl, le_sl (by show 2 ≤ _; decide), fun d1 hd1' => ⟨le_sl (by show 1 ≤ _; decide), fun d2 hd2' => ⟨le_sl (by show 1 ≤ _; decide), fun d3 hd3' => ⟨d3, 2, _, rfl, rfl, upd_same, by decide, by decide, le_sl (by show 1 * 2 ≤ _; decide), fun d4 hd4' => ?_⟩⟩⟩⟩
  have g1 := same_new (o := .lst [.non, .str "late"]) hd1'
  have g2 := same_new (o := .tup [.ref d1]) hd2'
  have g3 := same_new (o := .lst [.ref d2]) hd3'
  have g4 := same_new (o := .lst (List.replicate (2 : Int).toNat [V.ref d2]).flatten) hd4'
  have q1 := g4 _ _ (g3 _ _ (g2 _ _ (upd_same (H := H1) (a := d1) (o := .lst [.non, .str "late"]))))
  have q2 := g4 _ _ (g3 _ _ (upd_same (H := upd H1 d1 (.lst [.non, .str "late"])) (a := d2) (o := .tup [.ref d1])))
  have q4 := upd_same (H := upd (upd (upd H1 d1 (.lst [.non, .str "late"])) d2 (.tup [.ref d1])) d3 (.lst [.ref d2])) (a := d4) (o := .lst (List.replicate (2 : Int).toNat [V.ref d2]).flatten)
  have s14 := s1.trans (g1.trans (g2.trans (g3.trans g4)))
  have lg := le.trans s14
  refine ⟨_, _, rfl, SD.two (s14 _ _ hh) q4 (sd_held (hd1.same lg) q2 q1) (sd_held (hd2.same lg) q2 q1), fun H2 s2 => ⟨true, rfl, iteB0 rfl ?_⟩⟩
  exact k H2 (s14.trans s2)
end
theorem prices_hid {st cl pr : Addr} {N : Nat} {H H' : Hp} {qs : List (V × (Int × List Str))} (hs : Strm N st cl H) (hp : H pr = none) (h : H' pr = some (.lst (qs.map (·.1)))) (hq : ∀ z ∈ qs, NewPrice H H' z.1 z.2) : Lof (hid2 st cl H') IsPrice pr qs := by
  have at_ : ∀ {b : Addr} {o : HO}, H b = none → H' b = some o → hid2 st cl H' b = some o := fun {b o} n e => by
    obtain ⟨a, c⟩ := hs.fst n
    rw [hid2_ne a c]
    exact e
  refine ⟨at_ hp h, fun z hz => ?_⟩
  obtain ⟨t, l, et, n1, n2, a4, a5⟩ := hq z hz
  exact ⟨t, _, et, at_ n1 a4, l, rfl, at_ n2 a5⟩
theorem STh.noT {K : PySem.W.Frag} {H : Hp} {sn : List Str} {v : V} {b : Bool} (h : STh K H sn v b) : STh K (noT H) sn v b := h.elim .inl fun ⟨t, a, b, c, d⟩ => .inr ⟨t, a, b, Ob.TyX.noT c, d⟩
theorem BTh.noT {K : PySem.W.Frag} {H : Hp} {v : V} {b : Bool} (h : BTh K H v b) : BTh K (noT H) v b := h.elim .inl fun ⟨t, a, b, c, d⟩ => .inr ⟨t, a, b, Ob.TyX.noT c, d⟩
theorem Strm.noT {st cl : Addr} {N : Nat} {H : Hp} (hs : Strm N st cl H) : Strm N st cl (noT H) := by
  obtain ⟨ne, cs, c, n, m, a, b, r⟩ := hs
  exact ⟨ne, cs, c, n, m, noT_l a, noT_l b, r⟩
def tTurn (K : PySem.W.Frag) (base : Heap) (P0 : Addr) : TS := tSeq tL0 (tSeq tL1 (tSeq (tL2 K) (tSeq (tL3 K) (tSeq (tL4 K) (tSeq (tL5 K) (tSeq (tL6 K) (tSeq (tL7 K base P0) (tSeq (tL8 K base P0) (tSeq (tL9 K base P0) (tSeq (tL10 K base P0) (tSeq (tL11 K base P0) (tSeq (tL12 K base P0) (tL13 K base P0)))))))))))))
theorem turn_ok {K : PySem.W.Frag} {base : Heap} {P0 st cl : Addr} {N : Nat} {H : Hp} {D : Ends} {i : Int} {u0 u3 u4 u5 u6 u7 u8 u9 u10 u11 u12 u13 u14 u15 : Option V} (hs : Strm N st cl H) (hlt : LT base P0 q1L q2L H) (hN : N < 50000)
    (k : ∀ (H' : Hp) (v3 v4 v5 v6 v7 v8 v9 v10 v11 v12 v13 v14 v15 : Option V), Strm (N + 3000) st cl H' → LT base P0 q1L q2L H' → D.nx (s16 u0 (some (.ref st)) (some (.int i)) v3 v4 v5 v6 v7 v8 v9 v10 v11 v12 v13 v14 v15) H') :
    tTurn K base P0 D (s16 u0 (some (.ref st)) (some (.int i)) u3 u4 u5 u6 u7 u8 u9 u10 u11 u12 u13 u14 u15) H := by
  refine ⟨_, _, _, _, _, _, _, _, _, _, _, _, _, _, st, cl, i, N, rfl, hs, by omega, fun H1 na ns t1 s1 hn1 nd ht hl => ?_⟩
  refine ⟨_, _, _, _, _, _, _, _, _, _, _, _, _, _, st, cl, na, ns, N + 20, rfl, s1, by omega, hn1, ht, hl, fun H2 pa zs t2 s2 hZ2 nz hzn zl => ?_⟩
  refine ⟨_, _, _, _, _, _, _, _, _, _, _, _, _, st, cl, na, pa, ns, zs, N + 20 + 1000, rfl, s2, by omega, t2 _ _ hn1, nd, ht, hl, hZ2, nz, hzn, zl, fun H3 wa x ws f ps t3 s3 hW3 hWp h1 hD3 hps => ?_⟩
  have hn3 := t3 _ _ (t2 _ _ hn1)
  have hZ3 := hZ2.pairs t3
  refine ⟨_, _, _, _, _, _, _, _, _, _, _, _, _, na, pa, wa, ns, zs, f, rfl, hid2_le _ _ _ _ _ hn3, hl, hZ3.pairs (hid2_le _ _ _), zl, (hW3.wt (fun p hp => hWp.mem_iff.mpr hp)).same (hid2_le _ _ _), fun H4 pr qs s4 hpr h4 hq eq => ?_⟩
  have t4 := Stp.of (st := st) (cl := cl) s4
  have hQ4 := prices_hid s3 hpr h4 hq
  refine ⟨_, _, _, _, _, _, _, _, _, _, st, cl, na, pa, wa, x, pr, ns, zs, ws, ps, f, qs, N + 20 + 1000 + 1500, rfl, s3.same s4, by omega, t4 _ _ hn3, hl, hZ3.pairs t4, hps.symm, zl, t4 _ _ hW3, hWp, h1, hD3.same t4, hQ4, eq.trans (pricesOf_perm hps.symm f _), fun H5 v8 t5 s5 => ?_⟩
  refine ⟨_, _, _, _, _, _, _, _, _, _, _, _, _, st, cl, pa, wa, zs, ws, f, N + 20 + 1000 + 1500 + 50, rfl, s5, by omega, (hZ3.pairs t4).pairs t5, (fun z hz => ⟨ht _ (hzn z hz).1, ht _ (hzn z hz).2⟩), zl, t5 _ _ (t4 _ _ hW3), hWp, fun H6 bad wrong t6 s6 hb sb hw sw => ?_⟩
  refine ⟨_, _, _, _, _, _, _, _, _, _, _, _, _, _, _, st, cl, sortN ns, N + 20 + 1000 + 1500 + 50 + 10, rfl, s6, by omega, (fun n hn => ht n (sortN_mem.mp hn)), fun H7 non t7 s7 hno sno => ?_⟩
  have t37 := t4.trans (t5.trans (t6.trans t7))
  have hlt7 := hlt.stp hs (t1.trans (t2.trans (t3.trans t37)))
  have le7 := hid2_le st cl H7
  have hW7 : WtF H7 wa ws f := le7 _ _ (t37 _ _ hW3)
  have fx : FX K (noT H7) x wa na bad wrong non (sortN ns) ps f ns := by
    refine ⟨Ob.Deb.noT ((hD3.same t37).same le7), Ob.WTh.noT (wth_of hW7 (hWp.trans hps.symm) h1), ?_, Ob.WTh.noT (((hb.same t7).same le7).perm hps.symm), Ob.STh.noT (hno.same le7), Ob.BTh.noT ((hw.same t7).same le7), Ob.SD.noT ((sb.same t7).same le7), Ob.SD.noT ((sw.same t7).same le7), Ob.SD.noT (sno.same le7), noT_l (le7 _ _ (t37 _ _ hn3)), hl, fun n hn => sortN_mem.mpr hn⟩
    obtain ⟨kvs, a, b⟩ := hW7.wt (ps := ps) fun p hp => (hWp.trans hps.symm).mem_iff.mpr hp
    exact ⟨kvs, noT_dT a, b⟩
  refine ⟨_, _, _, _, _, _, _, _, _, _, _, _, st, cl, N + 20 + 1000 + 1500 + 50 + 10 + 10, x, wa, na, bad, wrong, non, sortN ns, ps, f, ns, rfl, hlt7, s7.noT, fx, fun H8 fa da l8 => ?_⟩
  refine ⟨_, _, _, _, _, _, _, _, _, _, _, _, _, _, _, _, _, _, _, _, _, _, _, _, fa, da, _, _, rfl, l8, by show 1 ≤ 100; decide, fun H9 l9 => ?_⟩
  refine ⟨_, _, _, _, _, _, _, _, _, _, _, _, _, _, _, _, _, _, _, _, _, _, _, fa, da, _, _, rfl, l9, by show 2 ≤ 50; decide, by show 2 ≤ 50; decide, fun H10 v8' Y l10 hY yl => ?_⟩
  refine ⟨_, _, _, _, _, _, _, _, _, _, _, _, _, _, _, _, _, _, _, _, _, _, _, fa, da, _, _, rfl, l10, by rw [List.length_append]; show 2 + _ ≤ 60; omega, by rw [List.length_append]; show 2 + _ ≤ 60; omega, fun H11 v14 Z l11 hZ zl2 => ?_⟩
  refine ⟨_, _, _, _, _, _, _, _, _, _, _, _, _, _, _, _, _, _, _, _, _, _, _, _, _, _, _, fa, da, _, _, rfl, l11, fun H12 ha t l12 n1 n2 hh hd => ?_⟩
  refine ⟨_, _, _, _, _, _, _, _, _, _, _, _, _, _, _, _, _, _, _, _, _, _, _, _, _, _, _, fa, da, ha, t, _, _, rfl, l12, n1, n2, hh, hd, fun H13 tt l13 hh13 hd1 hd2 => ?_⟩
  refine ⟨_, _, _, _, _, _, _, _, _, _, _, _, _, _, _, _, _, _, _, _, _, _, _, _, _, _, fa, da, ha, t, tt, _, rfl, l13, ?_, ?_, hh13, hd1, hd2, fun H14 s14 => ?_⟩
  · rw [List.length_append, List.length_append]
    show 2 + _ + _ ≤ 1000
    omega
  · intro q hq
    rcases List.mem_append.mp hq with hq | hq
    · rcases List.mem_append.mp hq with hq | hq
      · rcases List.mem_cons.mp hq with rfl | hq
        · exact .inl rfl
        · rw [List.mem_singleton.mp hq]
          exact .inr (.inr rfl)
      · rw [hY q hq]
        exact .inr (.inl rfl)
    · rcases hZ q hq with rfl | rfl
      · exact .inl rfl
      · exact .inr (.inr rfl)
  · exact k H14 _ _ _ _ _ _ _ _ _ _ _ _ _ (((l13.strm.same (gG_le _ _ _ _)).same s14).mono (by omega)) (l13.lt.ext s14)
def spLaw (K : PySem.W.Frag) (P0 : Addr) : Sp := fun vs H Q _ => ∃ (a : Addr) (ns : List Int), vs = [.ref a] ∧ SqL K H a (ns.map V.int) ∧ H P0 = some (.tbl #[]) ∧ ∀ H', Q (.bl true) H'
theorem turnB_eq : turnB = [stL 0, stL 1, stL 2, stL 3, stL 4, stL 5, stL 6, stL 7, stL 8, stL 9, stL 10, stL 11, stL 12, stL 13] := rfl
section
variable {P : Program} {w : World} {K : PySem.W.Frag} {mg : Str → Option Value} {base : Heap} {c0 P0 : Addr} {A : Around} {outer : List Env} {s : Shared} {H0 : Hp} {E : XK}
theorem turn_pss (T : Top K mg) (TB : LamX.TabB base mg c0 P0) (hr : Room 9 (A.deeper (envOfC "law" (defScope s_law) s.heap.objs.size (He.ga K "law") (.ref c0)))) : PSs (LX P w K mg base c0 A outer s H0 E) turnB (tTurn K base P0) := by
  rw [turnB_eq]
  exact pss_cons (law0 T hr) (pss_cons (law1 T hr) (pss_cons (law2 T hr) (pss_cons (law3 T hr) (pss_cons (law4 T hr) (pss_cons (law5 T hr) (pss_cons (law6 T hr) (pss_cons (law7 T TB hr) (pss_cons (law8 T TB hr) (pss_cons (law9 T TB hr) (pss_cons (law10 T TB hr) (pss_cons (law11 T TB hr) (pss_cons (law12 T TB hr) (pss_one (law13 T hr))))))))))))))
theorem law_body (T : Top K mg) (TB : LamX.TabB base mg c0 P0) (hr : Room 9 (A.deeper (envOfC "law" (defScope s_law) s.heap.objs.size (He.ga K "law") (.ref c0)))) {vs : List V} {Q : VK} (h : spLaw K P0 vs H0 Q E) :
    ∃ t, PSs (LX P w K mg base c0 A outer s H0 E) (defBody s_law) t ∧ t { nx := fun _ H' => Q .non H', rt := Q } (start N_law vs) H0 := by
  obtain ⟨a, ns, rfl, ha, hP, k⟩ := h
  have C_law_start := cl_start (P := P) (w := w) (base := base) T
  refine ⟨_, pss_cons (ps_set (i := 1) sc_law.nd rfl (Or.inl rfl) (pe_k C_law_start hr (by decide) pass0 (pa_cons (pv 0) pa_nil))) (pss_cons (ps_for PassesOwn.never rfl (pi_range1 (by rfl) T.z_range (pa_cons pe_int pa_nil)) (pg_name (i := 2) sc_law.nd rfl (Or.inl rfl)) (turn_pss T TB hr)) (pss_one (ps_ret pe_bl))), ?_⟩
  refine ⟨_, rfl, a, ns, rfl, ha, fun H1 st cl s1 hst hcl hs => ?_⟩
  have hlt : LT base P0 q1L q2L H1 := LT.nil (s1 _ _ hP)
  refine ⟨4, rfl, by decide, by decide, for_range (lo := 0) (n := 4) (fun i σ H2 => Strm (3000 * i) st cl H2 ∧ LT base P0 q1L q2L H2 ∧ ∃ v2 v3 v4 v5 v6 v7 v8 v9 v10 v11 v12 v13 v14 v15, σ = s16 (some (.ref a)) (some (.ref st)) v2 v3 v4 v5 v6 v7 v8 v9 v10 v11 v12 v13 v14 v15)
    ⟨hs, hlt, _, _, _, _, _, _, _, _, _, _, _, _, _, _, rfl⟩ ?_ ?_⟩
  · rintro i σ H2 hi ⟨z2, l2, v2, v3, v4, v5, v6, v7, v8, v9, v10, v11, v12, v13, v14, v15, rfl⟩
    exact turn_ok z2 l2 (by omega) fun H' w3 w4 w5 w6 w7 w8 w9 w10 w11 w12 w13 w14 w15 z l => ⟨by rw [Nat.mul_succ]; exact z, l, _, _, _, _, _, _, _, _, _, _, _, _, _, _, rfl⟩
  · rintro σ H2 ⟨z2, l2, v2, v3, v4, v5, v6, v7, v8, v9, v10, v11, v12, v13, v14, v15, rfl⟩
    exact k H2
end
/-! ### the head: what the top says, the law as it stands behind the top -/
theorem top_of {w : World} {h : Heap} {K : PySem.W.Frag} {mg : Str → Option Value} (X : K.In h) (G : h.Ns mainGlobals mg) (c : He.SaysX fa fn [] tf ex w h K) : Top K mg := by
  refine ⟨c.t.d, c.more, fun x v e => ?_⟩
  cases v with
  | none => exact PySem.W.mg_none_of X G e
  | some v => exact PySem.W.mg_of X G e
theorem law_at {w : World} {h : Heap} {K : PySem.W.Frag} {mg : Str → Option Value} {f : Addr} (X : K.In h) (G : h.Ns mainGlobals mg) (hfa : mg ("law" : Str) = some (.ref f)) (c : He.SaysX fa fn [] tf ex w h K) :
    LamX.LawAtS PySem.Challenge.rw_objections_k72_whole_budgets_of_statemen w K CX0 10 63 "_law_script" mg f h := by
  have T := top_of X G c
  obtain ⟨fd, F⟩ := T.f_law
  obtain rfl : f = He.ga K "law" := Value.ref.inj (Option.some.inj (hfa.symm.trans T.g_law))
  have b := FunD.bindsA (ps := ["_law_script"]) F fun _ _ _ _ _ _ us hl => match us, hl with | [_], _ => rfl
  have F0 := F
  obtain ⟨oc, od, dV, kV, doc, pm, an, cdv, ct, osl, rfl, lk, hcd, _, _⟩ := F.ex
  obtain ⟨c0, rfl⟩ := He.codeIn_ref hcd
  have ec : He.codeOf K ("law", none) = c0 := He.codeOf_eq lk rfl
  have hh := c.hd ("law", none) List.mem_cons_self
  have ho := c.out ("law", none) List.mem_cons_self
  have he := c.empty ("law", none) List.mem_cons_self
  have ec2 : (He.cT K ("law", none)).1 = c0 := ec
  rw [ec2] at hh
  refine ⟨_, [(c0, (He.cT K ("law", none)).2)], spLaw K (He.cT K ("law", none)).2, fun p hp => ?_, fun p hp => ?_, fun p hp => ?_, fun s v => b s [v] rfl, fun H a ns _ _ ht hS => ⟨a, ns, rfl, hS, ht (c0, (He.cT K ("law", none)).2) List.mem_cons_self, fun _ => rfl⟩, fun base _ _ TB => ?_⟩
  · rw [List.mem_singleton.mp hp]
    exact he
  · rw [List.mem_singleton.mp hp]
    exact ho
  · rw [List.mem_singleton.mp hp]
    exact PySem.W.codeHd_of_K X hh
  · refine fn_of (k := 9) lk hcd sc_law (fun vs H Q E h => ?_) (fun A outer s H vs Q E hr h => ?_)
    · obtain ⟨a, ns, rfl, _⟩ := h
      rfl
    · obtain ⟨t, p, q⟩ := law_body T (TB _ List.mem_cons_self) hr h
      exact ⟨t, p.nox, q⟩
end Ob
open PySem PySem.W PySem.Calls PyProof.Rows
theorem PySem.Challenge.cw_objections_k72_whole_budgets_of_statemen_holds : PySem.Challenge.rw_objections_k72_whole_budgets_of_statemen.Holds := by
  w_on; o_law
  refine HandSHeadRun.head_any (r := Ob.R) (q := view Ob.R.prog [75]) (H := Ob.hk) (ob := Ob.ob) (M := 20000) (loose := Ob.loose) (d := HandSHeadRun.topDef Ob.R.prog 75) (kwd := []) Ob.ob_eq
    (by kernel_rfl) (fun s => by kernel_rfl) Ob.run (by kernel_rfl) (by kernel_rfl) (by kernel_rfl) (by rfl) (by first | assumption | decide +kernel) (by decide +kernel) ⟨rfl, rfl, rfl, rfl, rfl, by decide +kernel⟩ ?hw ?hc
  case hw => w_witness2
  case hc =>
    refine LamX.walk_ofTsE (l := PySem.Challenge.rw_objections_k72_whole_budgets_of_statemen) (n := 63) (k := 10) (x := "_law_script") (CX := fun _ => L2.CX0) rfl (by decide) (by kernel_rfl) ⟨rfl, by decide, by decide⟩ ?F (fun _ _ _ _ _ z => z)
    intro w mg fa h Y G hmg0
    obtain ⟨K, KX, c⟩ := Y
    have hmg : mg ("law" : PySem.Str) = some (.ref fa) := by
      have e : (HandSHeadRun.topDef Ob.R.prog 75).name = ("law" : PySem.Str) := by kernel_rfl
      rw [← e]
      exact hmg0
    exact ⟨K, KX, Ob.law_at KX G hmg c⟩
