import PyProof.Rows.All
import Wide.All
import OpenK.AllK
import Wide.FinOn
import HandS.ForMost
import HandS.ForExc
import HandS.Flow
import HandS.Evl
import HandS.Style
import KE.KOpsOwn
import HandS.ClsMeth
import HandS.OwnEq
import HandS.IsInst
import HandS.ExcIs
import HandS.ExcInit
import HandS.ExcField
import HandS.ExcValue
import HandS.MakeKwOnly
import KE.KExcIs
import KE.DataEq
import HandS.Wide
import HandS.Codes
import HandS.Text
import HandS.Defaults
import HandS.DictTup
import HandS.TupLen
import HandS.SortRule
import HandS.Conv
import HandS.Walk
import HandS.CallLocal
import HandS.Star
import HandS.HotCalls
import HandS.Deep
import PySem.Challenge.RW_lotcosts_k42_units_brought_back
set_option Elab.async false
set_option linter.all false
set_option pp.maxSteps 400
set_option maxRecDepth 100000
set_option maxHeartbeats 4000000
namespace Lot
open PySem L2
/-! ### steps -/
local macro_rules | `(tactic| walk_at "ne") => `(tactic| first
  | with_reducible assumption
  | (apply Ne.symm; with_reducible assumption)
  | exact ne_of_none (by with_reducible assumption) (by with_reducible assumption)
  | exact (ne_of_none (by with_reducible assumption) (by with_reducible assumption)).symm)
local macro_rules | `(tactic| walk_at "at") => `(tactic| first
  | with_reducible assumption
  | exact upd_same
  | (refine Eq.trans (upd_ne (by walk_at "ne")) ?_; walk_at "at"))
local macro_rules | `(tactic| walk_at "num") => `(tactic| first
  | decide
  | omega
  | (dsimp only; first | decide | omega))
local macro_rules | `(tactic| walk_at "fact") => `(tactic| first
  | with_reducible assumption
  | exact rfl
  | walk_at "at"
  | exact SqL.of (by walk_at "at")
  | exact SqT.of (by walk_at "at")
  | exact .inl (SqL.of (by walk_at "at"))
  | exact .inr (SqT.of (by walk_at "at"))
  | exact .inl ⟨rfl, _, SqL.of (by walk_at "at")⟩
  | exact Or.inl ⟨by walk_at "num", by walk_at "num"⟩
  | exact Or.inr ⟨by walk_at "num", by walk_at "num"⟩
  | exact ⟨by walk_at "num", by walk_at "num"⟩
  | exact ⟨by walk_at "num", by walk_at "num", by walk_at "num"⟩
  | exact wide_div (b := 9000) (by omega) (by assumption) (by decide) (by decide)
  | exact Nat.le_of_ble_eq_true rfl
  | assumption
  | walk_at "num")
local macro_rules | `(tactic| walk_at "go") => `(tactic| repeat (first
  | apply Exists.intro
  | refine And.intro (by walk_at "fact") ?_
  | refine Or.inl ⟨_, rfl, ?_⟩
  | refine Or.inr ⟨_, rfl, ?_⟩
  | refine iteT ?_
  | refine iteF ?_))
def top (i : Nat) : Stmt := PySem.Challenge.pw_lotcosts_k42_units_brought_back.main.body.getD i (.Pass ⟨0, 0, 0, 0⟩)
abbrev s_m_BadRule_init : Stmt := inClass (top 4) 0
abbrev N_m_BadRule_init : List Str := ["self", "word"]
abbrev P_m_BadRule_init : List Str := ["self", "word"]
theorem sc_m_BadRule_init : FnScope N_m_BadRule_init P_m_BadRule_init (defScope s_m_BadRule_init) := ⟨rfl, rfl, rfl, by decide +kernel, rfl, by decide +kernel, by decide +kernel⟩
abbrev s_m_Short_init : Stmt := inClass (top 5) 0
abbrev N_m_Short_init : List Str := ["self", "missing"]
abbrev P_m_Short_init : List Str := ["self", "missing"]
theorem sc_m_Short_init : FnScope N_m_Short_init P_m_Short_init (defScope s_m_Short_init) := ⟨rfl, rfl, rfl, by decide +kernel, rfl, by decide +kernel, by decide +kernel⟩
abbrev s_f_is_number : Stmt := top 8
abbrev N_f_is_number : List Str := ["value", "least"]
abbrev P_f_is_number : List Str := ["value", "least"]
theorem sc_f_is_number : FnScope N_f_is_number P_f_is_number (defScope s_f_is_number) := ⟨rfl, rfl, rfl, by decide +kernel, rfl, by decide +kernel, by decide +kernel⟩
abbrev s_f_common_divisor : Stmt := top 10
abbrev N_f_common_divisor : List Str := ["one", "other"]
abbrev P_f_common_divisor : List Str := ["one", "other"]
theorem sc_f_common_divisor : FnScope N_f_common_divisor P_f_common_divisor (defScope s_f_common_divisor) := ⟨rfl, rfl, rfl, by decide +kernel, rfl, by decide +kernel, by decide +kernel⟩
abbrev s_f_halves : Stmt := top 11
abbrev N_f_halves : List Str := ["value"]
abbrev P_f_halves : List Str := ["value"]
theorem sc_f_halves : FnScope N_f_halves P_f_halves (defScope s_f_halves) := ⟨rfl, rfl, rfl, by decide +kernel, rfl, by decide +kernel, by decide +kernel⟩
abbrev s_m_Ratio_init : Stmt := inClass (top 12) 0
abbrev N_m_Ratio_init : List Str := ["self", "top", "bottom", "divisor"]
abbrev P_m_Ratio_init : List Str := ["self", "top", "bottom"]
theorem sc_m_Ratio_init : FnScope N_m_Ratio_init P_m_Ratio_init (defScope s_m_Ratio_init) := ⟨rfl, rfl, rfl, by decide +kernel, rfl, by decide +kernel, by decide +kernel⟩
abbrev s_m_Ratio_add : Stmt := inClass (top 12) 1
abbrev N_m_Ratio_add : List Str := ["self", "other", "top", "bottom"]
abbrev P_m_Ratio_add : List Str := ["self", "other"]
theorem sc_m_Ratio_add : FnScope N_m_Ratio_add P_m_Ratio_add (defScope s_m_Ratio_add) := ⟨rfl, rfl, rfl, by decide +kernel, rfl, by decide +kernel, by decide +kernel⟩
abbrev s_m_Ratio_radd : Stmt := inClass (top 12) 2
abbrev N_m_Ratio_radd : List Str := ["self", "other"]
abbrev P_m_Ratio_radd : List Str := ["self", "other"]
theorem sc_m_Ratio_radd : FnScope N_m_Ratio_radd P_m_Ratio_radd (defScope s_m_Ratio_radd) := ⟨rfl, rfl, rfl, by decide +kernel, rfl, by decide +kernel, by decide +kernel⟩
abbrev s_m_Ratio_sub : Stmt := inClass (top 12) 3
abbrev N_m_Ratio_sub : List Str := ["self", "other", "top", "bottom"]
abbrev P_m_Ratio_sub : List Str := ["self", "other"]
theorem sc_m_Ratio_sub : FnScope N_m_Ratio_sub P_m_Ratio_sub (defScope s_m_Ratio_sub) := ⟨rfl, rfl, rfl, by decide +kernel, rfl, by decide +kernel, by decide +kernel⟩
abbrev s_m_Ratio_rsub : Stmt := inClass (top 12) 4
abbrev N_m_Ratio_rsub : List Str := ["self", "other"]
abbrev P_m_Ratio_rsub : List Str := ["self", "other"]
theorem sc_m_Ratio_rsub : FnScope N_m_Ratio_rsub P_m_Ratio_rsub (defScope s_m_Ratio_rsub) := ⟨rfl, rfl, rfl, by decide +kernel, rfl, by decide +kernel, by decide +kernel⟩
abbrev s_m_Ratio_mul : Stmt := inClass (top 12) 5
abbrev N_m_Ratio_mul : List Str := ["self", "other", "top", "bottom"]
abbrev P_m_Ratio_mul : List Str := ["self", "other"]
theorem sc_m_Ratio_mul : FnScope N_m_Ratio_mul P_m_Ratio_mul (defScope s_m_Ratio_mul) := ⟨rfl, rfl, rfl, by decide +kernel, rfl, by decide +kernel, by decide +kernel⟩
abbrev s_m_Ratio_rmul : Stmt := inClass (top 12) 6
abbrev N_m_Ratio_rmul : List Str := ["self", "other"]
abbrev P_m_Ratio_rmul : List Str := ["self", "other"]
theorem sc_m_Ratio_rmul : FnScope N_m_Ratio_rmul P_m_Ratio_rmul (defScope s_m_Ratio_rmul) := ⟨rfl, rfl, rfl, by decide +kernel, rfl, by decide +kernel, by decide +kernel⟩
abbrev s_m_Ratio_neg : Stmt := inClass (top 12) 7
abbrev N_m_Ratio_neg : List Str := ["self"]
abbrev P_m_Ratio_neg : List Str := ["self"]
theorem sc_m_Ratio_neg : FnScope N_m_Ratio_neg P_m_Ratio_neg (defScope s_m_Ratio_neg) := ⟨rfl, rfl, rfl, by decide +kernel, rfl, by decide +kernel, by decide +kernel⟩
abbrev s_m_Ratio_abs : Stmt := inClass (top 12) 8
abbrev N_m_Ratio_abs : List Str := ["self"]
abbrev P_m_Ratio_abs : List Str := ["self"]
theorem sc_m_Ratio_abs : FnScope N_m_Ratio_abs P_m_Ratio_abs (defScope s_m_Ratio_abs) := ⟨rfl, rfl, rfl, by decide +kernel, rfl, by decide +kernel, by decide +kernel⟩
abbrev s_m_Ratio_over : Stmt := inClass (top 12) 9
abbrev N_m_Ratio_over : List Str := ["self", "other", "top", "bottom"]
abbrev P_m_Ratio_over : List Str := ["self", "other"]
theorem sc_m_Ratio_over : FnScope N_m_Ratio_over P_m_Ratio_over (defScope s_m_Ratio_over) := ⟨rfl, rfl, rfl, by decide +kernel, rfl, by decide +kernel, by decide +kernel⟩
abbrev s_m_Ratio_less : Stmt := inClass (top 12) 10
abbrev N_m_Ratio_less : List Str := ["self", "other", "top", "bottom"]
abbrev P_m_Ratio_less : List Str := ["self", "other"]
theorem sc_m_Ratio_less : FnScope N_m_Ratio_less P_m_Ratio_less (defScope s_m_Ratio_less) := ⟨rfl, rfl, rfl, by decide +kernel, rfl, by decide +kernel, by decide +kernel⟩
abbrev s_m_Ratio_at_most : Stmt := inClass (top 12) 11
abbrev N_m_Ratio_at_most : List Str := ["self", "other", "top", "bottom"]
abbrev P_m_Ratio_at_most : List Str := ["self", "other"]
theorem sc_m_Ratio_at_most : FnScope N_m_Ratio_at_most P_m_Ratio_at_most (defScope s_m_Ratio_at_most) := ⟨rfl, rfl, rfl, by decide +kernel, rfl, by decide +kernel, by decide +kernel⟩
abbrev s_m_Ratio_same : Stmt := inClass (top 12) 12
abbrev N_m_Ratio_same : List Str := ["self", "other"]
abbrev P_m_Ratio_same : List Str := ["self", "other"]
theorem sc_m_Ratio_same : FnScope N_m_Ratio_same P_m_Ratio_same (defScope s_m_Ratio_same) := ⟨rfl, rfl, rfl, by decide +kernel, rfl, by decide +kernel, by decide +kernel⟩
abbrev s_m_Ratio_floor : Stmt := inClass (top 12) 13
abbrev N_m_Ratio_floor : List Str := ["self"]
abbrev P_m_Ratio_floor : List Str := ["self"]
theorem sc_m_Ratio_floor : FnScope N_m_Ratio_floor P_m_Ratio_floor (defScope s_m_Ratio_floor) := ⟨rfl, rfl, rfl, by decide +kernel, rfl, by decide +kernel, by decide +kernel⟩
abbrev s_m_Ratio_sum_of : Stmt := inClass (top 12) 15
abbrev N_m_Ratio_sum_of : List Str := ["items", "total", "item"]
abbrev P_m_Ratio_sum_of : List Str := ["items"]
theorem sc_m_Ratio_sum_of : FnScope N_m_Ratio_sum_of P_m_Ratio_sum_of (defScope s_m_Ratio_sum_of) := ⟨rfl, rfl, rfl, by decide +kernel, rfl, by decide +kernel, by decide +kernel⟩
abbrev s_f_stacked : Stmt := top 16
abbrev N_f_stacked : List Str := ["layers", "found", "lot", "amount"]
abbrev P_f_stacked : List Str := ["layers"]
theorem sc_f_stacked : FnScope N_f_stacked P_f_stacked (defScope s_f_stacked) := ⟨rfl, rfl, rfl, by decide +kernel, rfl, by decide +kernel, by decide +kernel⟩
abbrev s_f_units_in : Stmt := top 17
abbrev N_f_units_in : List Str := ["parts", "lot", "amount"]
abbrev P_f_units_in : List Str := ["parts"]
theorem sc_f_units_in : FnScope N_f_units_in P_f_units_in (defScope s_f_units_in) := ⟨rfl, rfl, rfl, by decide +kernel, rfl, by decide +kernel, by decide +kernel⟩
abbrev s_f_cut : Stmt := top 18
abbrev N_f_cut : List Str := ["parts", "units", "taken", "left", "rest", "lot", "amount", "part"]
abbrev P_f_cut : List Str := ["parts", "units"]
theorem sc_f_cut : FnScope N_f_cut P_f_cut (defScope s_f_cut) := ⟨rfl, rfl, rfl, by decide +kernel, rfl, by decide +kernel, by decide +kernel⟩
abbrev s_f_shared : Stmt := top 19
abbrev N_f_shared : List Str := ["parts", "share", "lot", "amount"]
abbrev P_f_shared : List Str := ["parts", "share"]
theorem sc_f_shared : FnScope N_f_shared P_f_shared (defScope s_f_shared) := ⟨rfl, rfl, rfl, by decide +kernel, rfl, by decide +kernel, by decide +kernel⟩
abbrev s_f_check_units : Stmt := top 20
abbrev N_f_check_units : List Str := ["parts", "units", "total"]
abbrev P_f_check_units : List Str := ["parts", "units"]
theorem sc_f_check_units : FnScope N_f_check_units P_f_check_units (defScope s_f_check_units) := ⟨rfl, rfl, rfl, by decide +kernel, rfl, by decide +kernel, by decide +kernel⟩
abbrev s_m_Rule_init : Stmt := inClass (top 21) 0
abbrev N_m_Rule_init : List Str := ["self", "take", "place", "period"]
abbrev P_m_Rule_init : List Str := ["self", "take", "place", "period"]
theorem sc_m_Rule_init : FnScope N_m_Rule_init P_m_Rule_init (defScope s_m_Rule_init) := ⟨rfl, rfl, rfl, by decide +kernel, rfl, by decide +kernel, by decide +kernel⟩
abbrev s_m_Rule_call : Stmt := inClass (top 21) 1
abbrev N_m_Rule_call : List Str := ["self", "layers", "units", "share", "taken", "left"]
abbrev P_m_Rule_call : List Str := ["self", "layers", "units"]
theorem sc_m_Rule_call : FnScope N_m_Rule_call P_m_Rule_call (defScope s_m_Rule_call) := ⟨rfl, rfl, rfl, by decide +kernel, rfl, by decide +kernel, by decide +kernel⟩
abbrev s_m_Rule_returned : Stmt := inClass (top 21) 2
abbrev N_m_Rule_returned : List Str := ["self", "parts", "units", "share", "back", "kept"]
abbrev P_m_Rule_returned : List Str := ["self", "parts", "units"]
theorem sc_m_Rule_returned : FnScope N_m_Rule_returned P_m_Rule_returned (defScope s_m_Rule_returned) := ⟨rfl, rfl, rfl, by decide +kernel, rfl, by decide +kernel, by decide +kernel⟩
abbrev s_m_Rule_laid : Stmt := inClass (top 21) 3
abbrev N_m_Rule_laid : List Str := ["self", "layers", "parts", "lots", "found", "part"]
abbrev P_m_Rule_laid : List Str := ["self", "layers", "parts", "lots"]
theorem sc_m_Rule_laid : FnScope N_m_Rule_laid P_m_Rule_laid (defScope s_m_Rule_laid) := ⟨rfl, rfl, rfl, by decide +kernel, rfl, by decide +kernel, by decide +kernel⟩
abbrev s_m_Rule_put : Stmt := inClass (top 21) 4
abbrev N_m_Rule_put : List Str := ["self", "layers", "part", "lots", "lot", "amount", "own", "joined", "later", "above", "spot"]
abbrev P_m_Rule_put : List Str := ["self", "layers", "part", "lots"]
theorem sc_m_Rule_put : FnScope N_m_Rule_put P_m_Rule_put (defScope s_m_Rule_put) := ⟨rfl, rfl, rfl, by decide +kernel, rfl, by decide +kernel, by decide +kernel⟩
abbrev s_l_bag : Stmt := top 23
abbrev N_l_bag : List Str := ["_law_script"]
abbrev P_l_bag : List Str := ["_law_script"]
theorem sc_l_bag : FnScope N_l_bag P_l_bag (defScope s_l_bag) := ⟨rfl, rfl, rfl, by decide +kernel, rfl, by decide +kernel, by decide +kernel⟩
abbrev s_l_draw : Stmt := top 24
abbrev N_l_draw : List Str := ["_law_bag_here", "_law_size", "_law_cell", "_law_digit", "_law_mixed"]
abbrev P_l_draw : List Str := ["_law_bag_here", "_law_size"]
theorem sc_l_draw : FnScope N_l_draw P_l_draw (defScope s_l_draw) := ⟨rfl, rfl, rfl, by decide +kernel, rfl, by decide +kernel, by decide +kernel⟩
abbrev s_l_names : Stmt := top 25
abbrev N_l_names : List Str := ["_law_bag_here", "_law_count", "_law_words", "_law_letters", "_law_size", "_law_stem", "_law_where", "_law_shift", "_law_longer", "_law_names_here", "_law_k", "_law_name", "_law_spot", "_law_word"]
abbrev P_l_names : List Str := ["_law_bag_here", "_law_count", "_law_words"]
theorem sc_l_names : FnScope N_l_names P_l_names (defScope s_l_names) := ⟨rfl, rfl, rfl, by decide +kernel, rfl, by decide +kernel, by decide +kernel⟩
abbrev s_l_pick : Stmt := top 26
abbrev N_l_pick : List Str := ["_law_bag_here", "_law_items"]
abbrev P_l_pick : List Str := ["_law_bag_here", "_law_items"]
theorem sc_l_pick : FnScope N_l_pick P_l_pick (defScope s_l_pick) := ⟨rfl, rfl, rfl, by decide +kernel, rfl, by decide +kernel, by decide +kernel⟩
abbrev s_l_rule : Stmt := top 27
abbrev N_l_rule : List Str := ["_law_bag_here", "_law_take", "_law_laid_here", "_law_span"]
abbrev P_l_rule : List Str := ["_law_bag_here"]
theorem sc_l_rule : FnScope N_l_rule P_l_rule (defScope s_l_rule) := ⟨rfl, rfl, rfl, by decide +kernel, rfl, by decide +kernel, by decide +kernel⟩
abbrev s_l_made : Stmt := top 28
abbrev N_l_made : List Str := ["_law_rule_here"]
abbrev P_l_made : List Str := ["_law_rule_here"]
theorem sc_l_made : FnScope N_l_made P_l_made (defScope s_l_made) := ⟨rfl, rfl, rfl, by decide +kernel, rfl, by decide +kernel, by decide +kernel⟩
abbrev s_l_total : Stmt := top 29
abbrev N_l_total : List Str := ["_law_parts", "_law_total_here", "_law_lot", "_law_amount_here"]
abbrev P_l_total : List Str := ["_law_parts"]
theorem sc_l_total : FnScope N_l_total P_l_total (defScope s_l_total) := ⟨rfl, rfl, rfl, by decide +kernel, rfl, by decide +kernel, by decide +kernel⟩
abbrev s_l_joined : Stmt := top 30
abbrev N_l_joined : List Str := ["_law_layers_here", "_law_found", "_law_lot", "_law_amount_here", "_law_before"]
abbrev P_l_joined : List Str := ["_law_layers_here"]
theorem sc_l_joined : FnScope N_l_joined P_l_joined (defScope s_l_joined) := ⟨rfl, rfl, rfl, by decide +kernel, rfl, by decide +kernel, by decide +kernel⟩
abbrev s_l_first : Stmt := top 31
abbrev N_l_first : List Str := ["_law_parts", "_law_units", "_law_taken", "_law_left", "_law_rest", "_law_lot", "_law_amount_here"]
abbrev P_l_first : List Str := ["_law_parts", "_law_units"]
theorem sc_l_first : FnScope N_l_first P_l_first (defScope s_l_first) := ⟨rfl, rfl, rfl, by decide +kernel, rfl, by decide +kernel, by decide +kernel⟩
abbrev s_l_part : Stmt := top 32
abbrev N_l_part : List Str := ["_law_parts", "_law_units", "_law_share", "_law_taken", "_law_lot", "_law_amount_here"]
abbrev P_l_part : List Str := ["_law_parts", "_law_units"]
theorem sc_l_part : FnScope N_l_part P_l_part (defScope s_l_part) := ⟨rfl, rfl, rfl, by decide +kernel, rfl, by decide +kernel, by decide +kernel⟩
abbrev s_l_back : Stmt := top 33
abbrev N_l_back : List Str := ["_law_take", "_law_parts", "_law_units", "_law_back_here", "_law_kept"]
abbrev P_l_back : List Str := ["_law_take", "_law_parts", "_law_units"]
theorem sc_l_back : FnScope N_l_back P_l_back (defScope s_l_back) := ⟨rfl, rfl, rfl, by decide +kernel, rfl, by decide +kernel, by decide +kernel⟩
abbrev s_l_put : Stmt := top 34
abbrev N_l_put : List Str := ["_law_laid_here", "_law_layers_here", "_law_part_here", "_law_lots", "_law_spots", "_law_both", "_law_later", "_law_k"]
abbrev P_l_put : List Str := ["_law_laid_here", "_law_layers_here", "_law_part_here", "_law_lots"]
theorem sc_l_put : FnScope N_l_put P_l_put (defScope s_l_put) := ⟨rfl, rfl, rfl, by decide +kernel, rfl, by decide +kernel, by decide +kernel⟩
abbrev s_l_side : Stmt := top 35
abbrev N_l_side : List Str := ["_law_rule_here"]
abbrev P_l_side : List Str := ["_law_rule_here"]
theorem sc_l_side : FnScope N_l_side P_l_side (defScope s_l_side) := ⟨rfl, rfl, rfl, by decide +kernel, rfl, by decide +kernel, by decide +kernel⟩
abbrev s_l_laid : Stmt := top 36
abbrev N_l_laid : List Str := ["_law_laid_here", "_law_layers_here", "_law_parts", "_law_lots", "_law_part_here"]
abbrev P_l_laid : List Str := ["_law_laid_here", "_law_layers_here", "_law_parts", "_law_lots"]
theorem sc_l_laid : FnScope N_l_laid P_l_laid (defScope s_l_laid) := ⟨rfl, rfl, rfl, by decide +kernel, rfl, by decide +kernel, by decide +kernel⟩
abbrev s_l_parts_same : Stmt := top 37
abbrev N_l_parts_same : List Str := ["_law_told", "_law_due", "_law_part_here", "_law_k"]
abbrev P_l_parts_same : List Str := ["_law_told", "_law_due"]
theorem sc_l_parts_same : FnScope N_l_parts_same P_l_parts_same (defScope s_l_parts_same) := ⟨rfl, rfl, rfl, by decide +kernel, rfl, by decide +kernel, by decide +kernel⟩
abbrev s_l_amount : Stmt := top 38
abbrev N_l_amount : List Str := ["_law_bag_here", "_law_choice"]
abbrev P_l_amount : List Str := ["_law_bag_here"]
theorem sc_l_amount : FnScope N_l_amount P_l_amount (defScope s_l_amount) := ⟨rfl, rfl, rfl, by decide +kernel, rfl, by decide +kernel, by decide +kernel⟩
abbrev s_l_layers : Stmt := top 39
abbrev N_l_layers : List Str := ["_law_bag_here", "_law_lots", "_law_most", "_law_found", "_law_k", "_law_lot"]
abbrev P_l_layers : List Str := ["_law_bag_here", "_law_lots", "_law_most"]
theorem sc_l_layers : FnScope N_l_layers P_l_layers (defScope s_l_layers) := ⟨rfl, rfl, rfl, by decide +kernel, rfl, by decide +kernel, by decide +kernel⟩
abbrev s_l_short : Stmt := top 40
abbrev N_l_short : List Str := ["_law_rule_here", "_law_parts", "_law_units", "e"]
abbrev P_l_short : List Str := ["_law_rule_here", "_law_parts", "_law_units"]
theorem sc_l_short : FnScope N_l_short P_l_short (defScope s_l_short) := ⟨rfl, rfl, rfl, by decide +kernel, rfl, by decide +kernel, by decide +kernel⟩
abbrev s_l_return_right : Stmt := top 41
abbrev N_l_return_right : List Str := ["_law_made_here", "_law_rule_here", "_law_layers_here", "_law_parts", "_law_units", "_law_lots", "_law_handed", "_law_due", "_law_turn", "_law_back_here", "_law_kept", "_law_below", "_law_shown", "_law_names_here", "_law_told", "_law_due_layers"]
abbrev P_l_return_right : List Str := ["_law_made_here", "_law_rule_here", "_law_layers_here", "_law_parts", "_law_units", "_law_lots"]
theorem sc_l_return_right : FnScope N_l_return_right P_l_return_right (defScope s_l_return_right) := ⟨rfl, rfl, rfl, by decide +kernel, rfl, by decide +kernel, by decide +kernel⟩
abbrev s_f_law : Stmt := top 42
abbrev N_f_law : List Str := ["_law_script", "_law_bag_here", "_law_rule_here", "_law_lots", "_law_layers_here", "_law_parts", "_law_made_here", "_law_whole", "_law_more", "_law_units", "_law_taken", "_law_left", "_law_back_here", "_law_kept", "_law_again", "_law_restored", "_law_lot"]
abbrev P_f_law : List Str := ["_law_script"]
theorem sc_f_law : FnScope N_f_law P_f_law (defScope s_f_law) := ⟨rfl, rfl, rfl, by decide +kernel, rfl, by decide +kernel, by decide +kernel⟩
/-- no __iop__ in the class's chain -/
def noI (K : PySem.W.Frag) (C : Addr) (nm : String) : Bool := (PySem.W.clsIn K C).any fun cd => cd.mro.all fun c => PySem.W.findIn K c (dunderI nm) == some none
/-- C.m is a staticmethod: its record at p, its def at g -/
structure SMet (K : PySem.W.Frag) (C : Addr) (m : Str) (p g : Addr) : Prop where
  rd : PySem.W.readsIn K C (.type "type") = true
  ga : PySem.W.specialIn K (.ref C) "__getattribute__" = some (some (.builtin "type.__getattribute__"))
  at_ : PySem.W.findCls K (.ref C) (.type "type") m = some (.get (.builtin "staticmethod.__get__") (.ref p) .none (.ref C))
  rc : ∃ rest, PySem.W.recIn K p "staticmethod" = some (.ref g :: rest)
  kp : PySem.W.keepIn K (.ref g) = true
/-- each of the classes cs is itself alone among them, and under CE and ValueError -/
def kitAll (K : PySem.W.Frag) (cs : List Addr) (CE : Addr) : Bool := cs.all fun C => cs.count C == 1 && (cs.all fun D => PySem.W.kitOne K (.ref C) (.ref D) == some (C == D)) && PySem.W.kitOne K (.ref C) (.ref CE) == some true && PySem.W.kitOne K (.ref C) (.type "ValueError") == some true
structure Ad where
  CostError : Addr
  NoRatio : Addr
  BadRule : Addr
  Short : Addr
  Ratio : Addr
  Rule : Addr
  m_BadRule_init : Addr
  fd_m_BadRule_init : FuncData
  m_Short_init : Addr
  fd_m_Short_init : FuncData
  f_is_number : Addr
  fd_f_is_number : FuncData
  f_common_divisor : Addr
  fd_f_common_divisor : FuncData
  f_halves : Addr
  fd_f_halves : FuncData
  m_Ratio_init : Addr
  fd_m_Ratio_init : FuncData
  m_Ratio_add : Addr
  fd_m_Ratio_add : FuncData
  m_Ratio_radd : Addr
  fd_m_Ratio_radd : FuncData
  m_Ratio_sub : Addr
  fd_m_Ratio_sub : FuncData
  m_Ratio_rsub : Addr
  fd_m_Ratio_rsub : FuncData
  m_Ratio_mul : Addr
  fd_m_Ratio_mul : FuncData
  m_Ratio_rmul : Addr
  fd_m_Ratio_rmul : FuncData
  m_Ratio_neg : Addr
  fd_m_Ratio_neg : FuncData
  m_Ratio_abs : Addr
  fd_m_Ratio_abs : FuncData
  m_Ratio_over : Addr
  fd_m_Ratio_over : FuncData
  m_Ratio_less : Addr
  fd_m_Ratio_less : FuncData
  m_Ratio_at_most : Addr
  fd_m_Ratio_at_most : FuncData
  m_Ratio_same : Addr
  fd_m_Ratio_same : FuncData
  m_Ratio_floor : Addr
  fd_m_Ratio_floor : FuncData
  m_Ratio_sum_of : Addr
  fd_m_Ratio_sum_of : FuncData
  sp_m_Ratio_sum_of : Addr
  f_stacked : Addr
  fd_f_stacked : FuncData
  f_units_in : Addr
  fd_f_units_in : FuncData
  f_cut : Addr
  fd_f_cut : FuncData
  f_shared : Addr
  fd_f_shared : FuncData
  f_check_units : Addr
  fd_f_check_units : FuncData
  m_Rule_init : Addr
  fd_m_Rule_init : FuncData
  m_Rule_call : Addr
  fd_m_Rule_call : FuncData
  m_Rule_returned : Addr
  fd_m_Rule_returned : FuncData
  m_Rule_laid : Addr
  fd_m_Rule_laid : FuncData
  m_Rule_put : Addr
  fd_m_Rule_put : FuncData
  l_bag : Addr
  fd_l_bag : FuncData
  l_draw : Addr
  fd_l_draw : FuncData
  l_names : Addr
  fd_l_names : FuncData
  l_pick : Addr
  fd_l_pick : FuncData
  l_rule : Addr
  fd_l_rule : FuncData
  l_made : Addr
  fd_l_made : FuncData
  l_total : Addr
  fd_l_total : FuncData
  l_joined : Addr
  fd_l_joined : FuncData
  l_first : Addr
  fd_l_first : FuncData
  l_part : Addr
  fd_l_part : FuncData
  l_back : Addr
  fd_l_back : FuncData
  l_put : Addr
  fd_l_put : FuncData
  l_side : Addr
  fd_l_side : FuncData
  l_laid : Addr
  fd_l_laid : FuncData
  l_parts_same : Addr
  fd_l_parts_same : FuncData
  l_amount : Addr
  fd_l_amount : FuncData
  l_layers : Addr
  fd_l_layers : FuncData
  l_short : Addr
  fd_l_short : FuncData
  l_return_right : Addr
  fd_l_return_right : FuncData
  f_law : Addr
  fd_f_law : FuncData
  TAKES : Addr
  SPOTS : Addr
  ds_m_Ratio_init : List Value
  dk_m_Rule_init : List Value
structure Txt (K : PySem.W.Frag) (mg : Str → Option Value) (A : Ad) : Prop where
  z_abs : mg "abs" = none
  z_all : mg "all" = none
  z_bool : mg "bool" = none
  z_int : mg "int" = none
  z_isinstance : mg "isinstance" = none
  z_len : mg "len" = none
  z_list : mg "list" = none
  z_range : mg "range" = none
  z_staticmethod : mg "staticmethod" = none
  z_tuple : mg "tuple" = none
  g_CostError : mg "CostError" = some (.ref A.CostError)
  ek_CostError : PySem.W.keepIn K (.ref A.CostError) = true
  eb_CostError : PySem.W.subIn K (.ref A.CostError) (.type "BaseException") = some true
  et_CostError : PySem.W.typeIn K (.ref A.CostError) = some (.type "type")
  eh_CostError : PySem.W.hasDictIn K A.CostError = true
  eic_CostError : PySem.W.isClsIn K A.CostError = true
  es_CostError : PySem.W.subIn K (.ref A.CostError) (.ref A.CostError) = some true
  xg_CostError : PySem.W.findIn K (.ref A.CostError) "__getattribute__" = some (some (.builtin "BaseException.__getattribute__"))
  xk_CostError : PySem.W.findIn K (.ref A.CostError) "__getattr__" = some none
  xa_CostError : PySem.W.findIn K (.ref A.CostError) "__class__" = some (some (.builtin "object.__class__"))
  xn_CostError : PySem.W.specialIn K (.builtin "object.__class__") "__get__" = some (some (.builtin "getset_descriptor.__get__"))
  xt_CostError : PySem.W.takesIn K (.builtin "object.__class__") = some true
  xm_CostError : PySem.W.mroIn K A.CostError (.type "object") = some true
  rd_CostError : PySem.W.readsIn K A.CostError (.type "type") = true
  cg_CostError : PySem.W.specialIn K (.ref A.CostError) "__getattribute__" = some (some (.builtin "type.__getattribute__"))
  vi_CostError : PySem.W.findCls K (.ref A.CostError) (.type "type") "__init__" = some (.val (.builtin "ValueError.__init__"))
  g_NoRatio : mg "NoRatio" = some (.ref A.NoRatio)
  ek_NoRatio : PySem.W.keepIn K (.ref A.NoRatio) = true
  eb_NoRatio : PySem.W.subIn K (.ref A.NoRatio) (.type "BaseException") = some true
  et_NoRatio : PySem.W.typeIn K (.ref A.NoRatio) = some (.type "type")
  eh_NoRatio : PySem.W.hasDictIn K A.NoRatio = true
  eic_NoRatio : PySem.W.isClsIn K A.NoRatio = true
  es_NoRatio : PySem.W.subIn K (.ref A.NoRatio) (.ref A.NoRatio) = some true
  xg_NoRatio : PySem.W.findIn K (.ref A.NoRatio) "__getattribute__" = some (some (.builtin "BaseException.__getattribute__"))
  xk_NoRatio : PySem.W.findIn K (.ref A.NoRatio) "__getattr__" = some none
  xa_NoRatio : PySem.W.findIn K (.ref A.NoRatio) "__class__" = some (some (.builtin "object.__class__"))
  xn_NoRatio : PySem.W.specialIn K (.builtin "object.__class__") "__get__" = some (some (.builtin "getset_descriptor.__get__"))
  xt_NoRatio : PySem.W.takesIn K (.builtin "object.__class__") = some true
  xm_NoRatio : PySem.W.mroIn K A.NoRatio (.type "object") = some true
  ex_NoRatio : PySem.W.excIn K A.NoRatio [.type "ValueError", .type "Exception", .type "BaseException", .type "object"] "ValueError.__new__" = true
  g_BadRule : mg "BadRule" = some (.ref A.BadRule)
  ek_BadRule : PySem.W.keepIn K (.ref A.BadRule) = true
  eb_BadRule : PySem.W.subIn K (.ref A.BadRule) (.type "BaseException") = some true
  et_BadRule : PySem.W.typeIn K (.ref A.BadRule) = some (.type "type")
  eh_BadRule : PySem.W.hasDictIn K A.BadRule = true
  eic_BadRule : PySem.W.isClsIn K A.BadRule = true
  es_BadRule : PySem.W.subIn K (.ref A.BadRule) (.ref A.BadRule) = some true
  xg_BadRule : PySem.W.findIn K (.ref A.BadRule) "__getattribute__" = some (some (.builtin "BaseException.__getattribute__"))
  xk_BadRule : PySem.W.findIn K (.ref A.BadRule) "__getattr__" = some none
  xa_BadRule : PySem.W.findIn K (.ref A.BadRule) "__class__" = some (some (.builtin "object.__class__"))
  xn_BadRule : PySem.W.specialIn K (.builtin "object.__class__") "__get__" = some (some (.builtin "getset_descriptor.__get__"))
  xt_BadRule : PySem.W.takesIn K (.builtin "object.__class__") = some true
  xm_BadRule : PySem.W.mroIn K A.BadRule (.type "object") = some true
  n_BadRule_word : PySem.W.findIn K (.ref A.BadRule) "word" = some none
  oi_BadRule : PySem.W.findIn K (.ref A.BadRule) "__init__" = some (some (.ref A.m_BadRule_init))
  ot_BadRule : PySem.W.typeIn K (.ref A.m_BadRule_init) = some (.type "function")
  ox_BadRule : OexC K A.BadRule
  g_Short : mg "Short" = some (.ref A.Short)
  ek_Short : PySem.W.keepIn K (.ref A.Short) = true
  eb_Short : PySem.W.subIn K (.ref A.Short) (.type "BaseException") = some true
  et_Short : PySem.W.typeIn K (.ref A.Short) = some (.type "type")
  eh_Short : PySem.W.hasDictIn K A.Short = true
  eic_Short : PySem.W.isClsIn K A.Short = true
  es_Short : PySem.W.subIn K (.ref A.Short) (.ref A.Short) = some true
  xg_Short : PySem.W.findIn K (.ref A.Short) "__getattribute__" = some (some (.builtin "BaseException.__getattribute__"))
  xk_Short : PySem.W.findIn K (.ref A.Short) "__getattr__" = some none
  xa_Short : PySem.W.findIn K (.ref A.Short) "__class__" = some (some (.builtin "object.__class__"))
  xn_Short : PySem.W.specialIn K (.builtin "object.__class__") "__get__" = some (some (.builtin "getset_descriptor.__get__"))
  xt_Short : PySem.W.takesIn K (.builtin "object.__class__") = some true
  xm_Short : PySem.W.mroIn K A.Short (.type "object") = some true
  xc_Short : PySem.W.kitOne K (.ref A.Short) (.ref A.CostError) = some true
  n_Short_missing : PySem.W.findIn K (.ref A.Short) "missing" = some none
  oi_Short : PySem.W.findIn K (.ref A.Short) "__init__" = some (some (.ref A.m_Short_init))
  ot_Short : PySem.W.typeIn K (.ref A.m_Short_init) = some (.type "function")
  ox_Short : OexC K A.Short
  g_Ratio : mg "Ratio" = some (.ref A.Ratio)
  cl_Ratio : Cls K A.Ratio
  n_Ratio_top : NoAttr K A.Ratio "top"
  n_Ratio_bottom : NoAttr K A.Ratio "bottom"
  mk_Ratio : Mk K A.Ratio A.m_Ratio_init
  m_Ratio___add__ : Meth K A.Ratio "__add__" A.m_Ratio_add
  m_Ratio___radd__ : Meth K A.Ratio "__radd__" A.m_Ratio_radd
  m_Ratio___sub__ : Meth K A.Ratio "__sub__" A.m_Ratio_sub
  m_Ratio___rsub__ : Meth K A.Ratio "__rsub__" A.m_Ratio_rsub
  m_Ratio___mul__ : Meth K A.Ratio "__mul__" A.m_Ratio_mul
  m_Ratio___rmul__ : Meth K A.Ratio "__rmul__" A.m_Ratio_rmul
  m_Ratio___neg__ : Meth K A.Ratio "__neg__" A.m_Ratio_neg
  m_Ratio___abs__ : Meth K A.Ratio "__abs__" A.m_Ratio_abs
  m_Ratio_over : Meth K A.Ratio "over" A.m_Ratio_over
  m_Ratio_less : Meth K A.Ratio "less" A.m_Ratio_less
  m_Ratio_at_most : Meth K A.Ratio "at_most" A.m_Ratio_at_most
  m_Ratio_same : Meth K A.Ratio "same" A.m_Ratio_same
  m_Ratio_floor : Meth K A.Ratio "floor" A.m_Ratio_floor
  sm_Ratio_sum_of : SMet K A.Ratio "sum_of" A.sp_m_Ratio_sum_of A.m_Ratio_sum_of
  tc_Ratio : PySem.W.findIn K (.ref A.Ratio) "__class__" = some (some (.builtin "object.__class__"))
  tn_Ratio : PySem.W.specialIn K (.builtin "object.__class__") "__get__" = some (some (.builtin "getset_descriptor.__get__"))
  tk_Ratio : PySem.W.takesIn K (.builtin "object.__class__") = some true
  tm_Ratio : PySem.W.mroIn K A.Ratio (.type "object") = some true
  ki_Ratio : PySem.W.kitOne K (.ref A.Ratio) (.type "int") = some false
  sf_Ratio : PySem.W.selfFirst K A.Ratio = true
  si_Ratio : PySem.W.subIn K (.type "int") (.ref A.Ratio) = some false
  sj_Ratio : PySem.W.subIn K (.ref A.Ratio) (.type "int") = some false
  o1a_Ratio : PySem.W.findIn K (.type "int") (PySem.dunder "add") = some (some (.builtin "int.__add__"))
  o2a_Ratio : PySem.W.findIn K (.type "int") (dunderR "add") = some (some (.builtin "int.__radd__"))
  o1s_Ratio : PySem.W.findIn K (.type "int") (PySem.dunder "sub") = some (some (.builtin "int.__sub__"))
  o2s_Ratio : PySem.W.findIn K (.type "int") (dunderR "sub") = some (some (.builtin "int.__rsub__"))
  o1m_Ratio : PySem.W.findIn K (.type "int") (PySem.dunder "mul") = some (some (.builtin "int.__mul__"))
  o2m_Ratio : PySem.W.findIn K (.type "int") (dunderR "mul") = some (some (.builtin "int.__rmul__"))
  nia_Ratio : noI K A.Ratio "add" = true
  nis_Ratio : noI K A.Ratio "sub" = true
  nim_Ratio : noI K A.Ratio "mul" = true
  rd_Ratio : PySem.W.readsIn K A.Ratio (.type "type") = true
  cga_Ratio : PySem.W.specialIn K (.ref A.Ratio) "__getattribute__" = some (some (.builtin "type.__getattribute__"))
  g_Rule : mg "Rule" = some (.ref A.Rule)
  cl_Rule : Cls K A.Rule
  n_Rule_take : NoAttr K A.Rule "take"
  n_Rule_place : NoAttr K A.Rule "place"
  n_Rule_period : NoAttr K A.Rule "period"
  mk_Rule : Mk K A.Rule A.m_Rule_init
  m_Rule___call__ : Meth K A.Rule "__call__" A.m_Rule_call
  m_Rule_returned : Meth K A.Rule "returned" A.m_Rule_returned
  m_Rule_laid : Meth K A.Rule "laid" A.m_Rule_laid
  m_Rule_put : Meth K A.Rule "put" A.m_Rule_put
  ca_Rule : PySem.W.findIn K (.ref A.Rule) "__call__" = some (some (.ref A.m_Rule_call))
  cf_Rule : PySem.W.isFn K (.ref A.m_Rule_call) = true
  ci_Rule : PySem.W.fnIn K A.m_Rule_call = true
  g_MOST : ∃ t, mg "MOST" = some (.int 1000000 t)
  g_TAKES : mg "TAKES" = some (.ref A.TAKES)
  tq_TAKES : ∃ (o : Obj) (its : Array Value) (n : Nat), K.lookup A.TAKES = some o ∧ o.cls = .type "tuple" ∧ o.data = .seq its n ∧ its.size ≤ sizeLine ∧ Vals [.str "oldest", .str "newest", .str "even"] its.toList
  g_SPOTS : mg "SPOTS" = some (.ref A.SPOTS)
  tq_SPOTS : ∃ (o : Obj) (its : Array Value) (n : Nat), K.lookup A.SPOTS = some o ∧ o.cls = .type "tuple" ∧ o.data = .seq its n ∧ its.size ≤ sizeLine ∧ Vals [.str "own", .str "top", .str "bottom"] its.toList
  F_m_BadRule_init : Fun K "__init__" "BadRule.__init__" s_m_BadRule_init A.m_BadRule_init A.fd_m_BadRule_init
  b_m_BadRule_init : Binds K A.fd_m_BadRule_init P_m_BadRule_init []
  F_m_Short_init : Fun K "__init__" "Short.__init__" s_m_Short_init A.m_Short_init A.fd_m_Short_init
  b_m_Short_init : Binds K A.fd_m_Short_init P_m_Short_init []
  F_f_is_number : Fun K "is_number" "is_number" s_f_is_number A.f_is_number A.fd_f_is_number
  b_f_is_number : Binds K A.fd_f_is_number P_f_is_number []
  g_is_number : mg "is_number" = some (.ref A.f_is_number)
  F_f_common_divisor : Fun K "common_divisor" "common_divisor" s_f_common_divisor A.f_common_divisor A.fd_f_common_divisor
  b_f_common_divisor : Binds K A.fd_f_common_divisor P_f_common_divisor []
  g_common_divisor : mg "common_divisor" = some (.ref A.f_common_divisor)
  F_f_halves : Fun K "halves" "halves" s_f_halves A.f_halves A.fd_f_halves
  b_f_halves : Binds K A.fd_f_halves P_f_halves []
  g_halves : mg "halves" = some (.ref A.f_halves)
  F_m_Ratio_init : FunD K "__init__" "Ratio.__init__" (defArgs s_m_Ratio_init) (defBody s_m_Ratio_init) (defScope s_m_Ratio_init) [.int 1] [] A.m_Ratio_init A.fd_m_Ratio_init
  b_m_Ratio_init : Binds K A.fd_m_Ratio_init P_m_Ratio_init []
  dv_m_Ratio_init : Vals [.int 1] A.ds_m_Ratio_init
  b_m_Ratio_init_d1 : Binds K A.fd_m_Ratio_init P_m_Ratio_init A.ds_m_Ratio_init
  F_m_Ratio_add : Fun K "__add__" "Ratio.__add__" s_m_Ratio_add A.m_Ratio_add A.fd_m_Ratio_add
  b_m_Ratio_add : Binds K A.fd_m_Ratio_add P_m_Ratio_add []
  F_m_Ratio_radd : Fun K "__radd__" "Ratio.__radd__" s_m_Ratio_radd A.m_Ratio_radd A.fd_m_Ratio_radd
  b_m_Ratio_radd : Binds K A.fd_m_Ratio_radd P_m_Ratio_radd []
  F_m_Ratio_sub : Fun K "__sub__" "Ratio.__sub__" s_m_Ratio_sub A.m_Ratio_sub A.fd_m_Ratio_sub
  b_m_Ratio_sub : Binds K A.fd_m_Ratio_sub P_m_Ratio_sub []
  F_m_Ratio_rsub : Fun K "__rsub__" "Ratio.__rsub__" s_m_Ratio_rsub A.m_Ratio_rsub A.fd_m_Ratio_rsub
  b_m_Ratio_rsub : Binds K A.fd_m_Ratio_rsub P_m_Ratio_rsub []
  F_m_Ratio_mul : Fun K "__mul__" "Ratio.__mul__" s_m_Ratio_mul A.m_Ratio_mul A.fd_m_Ratio_mul
  b_m_Ratio_mul : Binds K A.fd_m_Ratio_mul P_m_Ratio_mul []
  F_m_Ratio_rmul : Fun K "__rmul__" "Ratio.__rmul__" s_m_Ratio_rmul A.m_Ratio_rmul A.fd_m_Ratio_rmul
  b_m_Ratio_rmul : Binds K A.fd_m_Ratio_rmul P_m_Ratio_rmul []
  F_m_Ratio_neg : Fun K "__neg__" "Ratio.__neg__" s_m_Ratio_neg A.m_Ratio_neg A.fd_m_Ratio_neg
  b_m_Ratio_neg : Binds K A.fd_m_Ratio_neg P_m_Ratio_neg []
  F_m_Ratio_abs : Fun K "__abs__" "Ratio.__abs__" s_m_Ratio_abs A.m_Ratio_abs A.fd_m_Ratio_abs
  b_m_Ratio_abs : Binds K A.fd_m_Ratio_abs P_m_Ratio_abs []
  F_m_Ratio_over : Fun K "over" "Ratio.over" s_m_Ratio_over A.m_Ratio_over A.fd_m_Ratio_over
  b_m_Ratio_over : Binds K A.fd_m_Ratio_over P_m_Ratio_over []
  F_m_Ratio_less : Fun K "less" "Ratio.less" s_m_Ratio_less A.m_Ratio_less A.fd_m_Ratio_less
  b_m_Ratio_less : Binds K A.fd_m_Ratio_less P_m_Ratio_less []
  F_m_Ratio_at_most : Fun K "at_most" "Ratio.at_most" s_m_Ratio_at_most A.m_Ratio_at_most A.fd_m_Ratio_at_most
  b_m_Ratio_at_most : Binds K A.fd_m_Ratio_at_most P_m_Ratio_at_most []
  F_m_Ratio_same : Fun K "same" "Ratio.same" s_m_Ratio_same A.m_Ratio_same A.fd_m_Ratio_same
  b_m_Ratio_same : Binds K A.fd_m_Ratio_same P_m_Ratio_same []
  F_m_Ratio_floor : Fun K "floor" "Ratio.floor" s_m_Ratio_floor A.m_Ratio_floor A.fd_m_Ratio_floor
  b_m_Ratio_floor : Binds K A.fd_m_Ratio_floor P_m_Ratio_floor []
  F_m_Ratio_sum_of : Fun K "sum_of" "Ratio.sum_of" s_m_Ratio_sum_of A.m_Ratio_sum_of A.fd_m_Ratio_sum_of
  b_m_Ratio_sum_of : Binds K A.fd_m_Ratio_sum_of P_m_Ratio_sum_of []
  F_f_stacked : Fun K "stacked" "stacked" s_f_stacked A.f_stacked A.fd_f_stacked
  b_f_stacked : Binds K A.fd_f_stacked P_f_stacked []
  g_stacked : mg "stacked" = some (.ref A.f_stacked)
  F_f_units_in : Fun K "units_in" "units_in" s_f_units_in A.f_units_in A.fd_f_units_in
  b_f_units_in : Binds K A.fd_f_units_in P_f_units_in []
  g_units_in : mg "units_in" = some (.ref A.f_units_in)
  F_f_cut : Fun K "cut" "cut" s_f_cut A.f_cut A.fd_f_cut
  b_f_cut : Binds K A.fd_f_cut P_f_cut []
  g_cut : mg "cut" = some (.ref A.f_cut)
  F_f_shared : Fun K "shared" "shared" s_f_shared A.f_shared A.fd_f_shared
  b_f_shared : Binds K A.fd_f_shared P_f_shared []
  g_shared : mg "shared" = some (.ref A.f_shared)
  F_f_check_units : Fun K "check_units" "check_units" s_f_check_units A.f_check_units A.fd_f_check_units
  b_f_check_units : Binds K A.fd_f_check_units P_f_check_units []
  g_check_units : mg "check_units" = some (.ref A.f_check_units)
  F_m_Rule_init : FunD K "__init__" "Rule.__init__" (defArgs s_m_Rule_init) (defBody s_m_Rule_init) (defScope s_m_Rule_init) [] [("place", .str "own"), ("period", .int 0)] A.m_Rule_init A.fd_m_Rule_init
  F_m_Rule_call : Fun K "__call__" "Rule.__call__" s_m_Rule_call A.m_Rule_call A.fd_m_Rule_call
  b_m_Rule_call : Binds K A.fd_m_Rule_call P_m_Rule_call []
  F_m_Rule_returned : Fun K "returned" "Rule.returned" s_m_Rule_returned A.m_Rule_returned A.fd_m_Rule_returned
  b_m_Rule_returned : Binds K A.fd_m_Rule_returned P_m_Rule_returned []
  F_m_Rule_laid : Fun K "laid" "Rule.laid" s_m_Rule_laid A.m_Rule_laid A.fd_m_Rule_laid
  b_m_Rule_laid : Binds K A.fd_m_Rule_laid P_m_Rule_laid []
  F_m_Rule_put : Fun K "put" "Rule.put" s_m_Rule_put A.m_Rule_put A.fd_m_Rule_put
  b_m_Rule_put : Binds K A.fd_m_Rule_put P_m_Rule_put []
  F_l_bag : Fun K "_law_bag" "_law_bag" s_l_bag A.l_bag A.fd_l_bag
  b_l_bag : Binds K A.fd_l_bag P_l_bag []
  g__law_bag : mg "_law_bag" = some (.ref A.l_bag)
  F_l_draw : Fun K "_law_draw" "_law_draw" s_l_draw A.l_draw A.fd_l_draw
  b_l_draw : Binds K A.fd_l_draw P_l_draw []
  g__law_draw : mg "_law_draw" = some (.ref A.l_draw)
  F_l_names : Fun K "_law_names" "_law_names" s_l_names A.l_names A.fd_l_names
  b_l_names : Binds K A.fd_l_names P_l_names []
  g__law_names : mg "_law_names" = some (.ref A.l_names)
  F_l_pick : Fun K "_law_pick" "_law_pick" s_l_pick A.l_pick A.fd_l_pick
  b_l_pick : Binds K A.fd_l_pick P_l_pick []
  g__law_pick : mg "_law_pick" = some (.ref A.l_pick)
  F_l_rule : Fun K "_law_rule" "_law_rule" s_l_rule A.l_rule A.fd_l_rule
  b_l_rule : Binds K A.fd_l_rule P_l_rule []
  g__law_rule : mg "_law_rule" = some (.ref A.l_rule)
  F_l_made : Fun K "_law_made" "_law_made" s_l_made A.l_made A.fd_l_made
  b_l_made : Binds K A.fd_l_made P_l_made []
  g__law_made : mg "_law_made" = some (.ref A.l_made)
  F_l_total : Fun K "_law_total" "_law_total" s_l_total A.l_total A.fd_l_total
  b_l_total : Binds K A.fd_l_total P_l_total []
  g__law_total : mg "_law_total" = some (.ref A.l_total)
  F_l_joined : Fun K "_law_joined" "_law_joined" s_l_joined A.l_joined A.fd_l_joined
  b_l_joined : Binds K A.fd_l_joined P_l_joined []
  g__law_joined : mg "_law_joined" = some (.ref A.l_joined)
  F_l_first : Fun K "_law_first" "_law_first" s_l_first A.l_first A.fd_l_first
  b_l_first : Binds K A.fd_l_first P_l_first []
  g__law_first : mg "_law_first" = some (.ref A.l_first)
  F_l_part : Fun K "_law_part" "_law_part" s_l_part A.l_part A.fd_l_part
  b_l_part : Binds K A.fd_l_part P_l_part []
  g__law_part : mg "_law_part" = some (.ref A.l_part)
  F_l_back : Fun K "_law_back" "_law_back" s_l_back A.l_back A.fd_l_back
  b_l_back : Binds K A.fd_l_back P_l_back []
  g__law_back : mg "_law_back" = some (.ref A.l_back)
  F_l_put : Fun K "_law_put" "_law_put" s_l_put A.l_put A.fd_l_put
  b_l_put : Binds K A.fd_l_put P_l_put []
  g__law_put : mg "_law_put" = some (.ref A.l_put)
  F_l_side : Fun K "_law_side" "_law_side" s_l_side A.l_side A.fd_l_side
  b_l_side : Binds K A.fd_l_side P_l_side []
  g__law_side : mg "_law_side" = some (.ref A.l_side)
  F_l_laid : Fun K "_law_laid" "_law_laid" s_l_laid A.l_laid A.fd_l_laid
  b_l_laid : Binds K A.fd_l_laid P_l_laid []
  g__law_laid : mg "_law_laid" = some (.ref A.l_laid)
  F_l_parts_same : Fun K "_law_parts_same" "_law_parts_same" s_l_parts_same A.l_parts_same A.fd_l_parts_same
  b_l_parts_same : Binds K A.fd_l_parts_same P_l_parts_same []
  g__law_parts_same : mg "_law_parts_same" = some (.ref A.l_parts_same)
  F_l_amount : Fun K "_law_amount" "_law_amount" s_l_amount A.l_amount A.fd_l_amount
  b_l_amount : Binds K A.fd_l_amount P_l_amount []
  g__law_amount : mg "_law_amount" = some (.ref A.l_amount)
  F_l_layers : Fun K "_law_layers" "_law_layers" s_l_layers A.l_layers A.fd_l_layers
  b_l_layers : Binds K A.fd_l_layers P_l_layers []
  g__law_layers : mg "_law_layers" = some (.ref A.l_layers)
  F_l_short : Fun K "_law_short" "_law_short" s_l_short A.l_short A.fd_l_short
  b_l_short : Binds K A.fd_l_short P_l_short []
  g__law_short : mg "_law_short" = some (.ref A.l_short)
  F_l_return_right : Fun K "_law_return_right" "_law_return_right" s_l_return_right A.l_return_right A.fd_l_return_right
  b_l_return_right : Binds K A.fd_l_return_right P_l_return_right []
  g__law_return_right : mg "_law_return_right" = some (.ref A.l_return_right)
  F_f_law : Fun K "law" "law" s_f_law A.f_law A.fd_f_law
  b_f_law : Binds K A.fd_f_law P_f_law []
  g_law : mg "law" = some (.ref A.f_law)
/-- a word that the steps don't open -/
structure Wd (p : Prop) : Prop where
  ok : p
section
variable {X : Cx}
def tG (t : TS) : TS := fun D σ H => Wd (t D σ H)
def tGE (t : TE) : TE := fun σ H Q => Wd (t σ H Q)
theorem ps_g {st : Stmt} {t : TS} (h : PS X st t) : PS X st (tG t) := ⟨fun pins s σ H D I hw => h.run pins s σ H D I hw.ok⟩
theorem pss_g {st : List Stmt} {t : TS} (h : PSs X st t) : PSs X st (tG t) := ⟨fun pins s σ H D I hw => h.run pins s σ H D I hw.ok⟩
theorem pe_g {e : Expr} {t : TE} (h : PE X e t) : PE X e (tGE t) := ⟨fun pins s σ H Q I hw => h.run pins s σ H Q I hw.ok⟩
end
theorem if_int {i j : Int} {A B : Prop} (h1 : i = j → A) (h2 : i ≠ j → B) : if decide (V.int i = V.int j) = true then A else B := by
  by_cases e : i = j
  · rw [if_pos (decide_eq_true (congrArg V.int e))]
    exact h1 e
  · rw [if_neg fun z => e (V.int.inj (of_decide_eq_true z))]
    exact h2 e
theorem if_intN {i j : Int} {A B : Prop} (h1 : i ≠ j → A) (h2 : i = j → B) : if (!decide (V.int i = V.int j)) = true then A else B := by
  by_cases e : i = j
  · rw [decide_eq_true (congrArg V.int e)]
    exact iteF (h2 e)
  · rw [decide_eq_false fun z => e (V.int.inj z)]
    exact iteT (h1 e)
theorem if_dec {p A B : Prop} [Decidable p] (h1 : p → A) (h2 : ¬ p → B) : if decide p = true then A else B := by
  by_cases e : p
  · rw [if_pos (decide_eq_true e)]
    exact h1 e
  · rw [if_neg fun z => e (of_decide_eq_true z)]
    exact h2 e
theorem ifT {p A B : Prop} [Decidable p] (hp : p) (h : A) : if decide p = true then A else B := by
  rw [if_pos (decide_eq_true hp)]
  exact h
theorem ifF {p A B : Prop} [Decidable p] (hp : ¬ p) (h : B) : if decide p = true then A else B := by
  rw [if_neg fun z => hp (of_decide_eq_true z)]
  exact h
theorem ifNT {p A B : Prop} [Decidable p] (hp : p) (h : B) : if (!decide p) = true then A else B := by
  rw [decide_eq_true hp]
  exact iteF h
theorem ifNF {p A B : Prop} [Decidable p] (hp : ¬ p) (h : A) : if (!decide p) = true then A else B := by
  rw [decide_eq_false hp]
  exact iteT h
theorem if_bl {b : Bool} {A B : Prop} (h1 : b = true → A) (h2 : b = false → B) : if b = true then A else B := by
  cases b with
  | true => exact h1 rfl
  | false => exact iteF (h2 rfl)
/-- all but what stands at g is kept -/
def Kp (g : Addr) (H H' : Hp) : Prop := ∀ b o, H b = some o → b ≠ g → H' b = some o
theorem Kp.refl (g : Addr) (H : Hp) : Kp g H H := fun _ _ h _ => h
theorem Kp.trans {g : Addr} {H H1 H2 : Hp} (a : Kp g H H1) (b : Kp g H1 H2) : Kp g H H2 := fun c o h n => b c o (a c o h n) n
theorem Kp.up {g : Addr} {H H' : Hp} {o : HO} (k : Kp g H H') : Kp g H (upd H' g o) := fun b u e n => by
  rw [upd_ne n]
  exact k b u e n

/-! ### the bag of draws -/
structure Bag (H : Hp) (g l : Addr) : Prop where
  ex : ∃ (i r s c : Int) (ns : List Int), H g = some (.lst [.ref l, .int i, .int r, .int s, .int c]) ∧ H l = some (.lst (ns.map V.int)) ∧ 0 ≤ i
def spDraw : Sp := fun vs H Q _ => ∃ (g l : Addr) (z : Int), vs = [.ref g, .int z] ∧ Bag H g l ∧ 0 < z ∧ z.natAbs < 2 ^ 9000 ∧
  ∀ (n : Int) (H' : Hp), 0 ≤ n → n < z → Bag H' g l → Kp g H H' → Q (.int n) H'
theorem at_ints {ns : List Int} {i : Int} (h0 : 0 ≤ i) (h1 : i < (ns.length : Int)) : ∃ n, atI (ns.map V.int) i = some (.int n) := by
  obtain ⟨j, rfl⟩ := Int.eq_ofNat_of_zero_le h0
  have hj : j < ns.length := by omega
  exact ⟨ns[j], atI_nat (by rw [List.getElem?_map, List.getElem?_eq_getElem hj]; rfl)⟩
theorem cmul_r {i j : Int} (h : -(2 ^ 64) < j ∧ j < 2 ^ 64) : CMul i j := .inr h
theorem cmul_l {i j : Int} (h : -(2 ^ 64) < i ∧ i < 2 ^ 64) : CMul i j := .inl h
theorem cpow_of {i j : Int} (h1 : 0 ≤ j ∧ j ≤ 1000000) (h2 : -(2 ^ 63) < i ∧ i < 2 ^ 63) : CPow i j := ⟨h1.1, h1.2, by omega⟩
section
variable {P : Program} {w : World} {K : PySem.W.Frag} {mg : Str → Option Value} {base : Heap} {A : Ad}
theorem ok_l_draw (T : Txt K mg A) : FnOk P w K mg base CX0 1 A.l_draw A.fd_l_draw P_l_draw spDraw := by
  refine T.F_l_draw.ok sc_l_draw (fun vs H Q E h => ?_) (fun cdv Ar outer s H vs Q E hr h => ?_)
  · obtain ⟨g, l, z, rfl, _⟩ := h
    rfl
  · obtain ⟨g, l, z, rfl, ⟨i, r, sd, c, ns, hg, hl, hi⟩, hz, hz2, k⟩ := h
    have nlg : l ≠ g := ne_of hl hg (by intro q; cases ns <;> cases q)
    refine ⟨_, (pss_cons (ps_asg (pe_op op_add (pe_ix ix_list (pv 0) pe_int (fun _ _ => rfl)) pe_int) (pg_sub (pv 0) pe_int set_list))
      (pss_g (Evl.pss_cut (ps_if (PW.pt (pw_and (pt_cmpR op_eq (pe_ix ix_list (pv 0) pe_int (fun _ _ => rfl)) pe_int (nomark _)) (pw_and1 (pt_cmpR op_lt (pe_ix ix_list (pv 0) pe_int (fun _ _ => rfl)) (pe_callB call_len_seq (by rfl) T.z_len (by decide +kernel) (pa_cons (pe_ix ix_list (pv 0) pe_int (fun _ _ => rfl)) pa_nil)) (nomark _))))) (pss_cons (ps_set (i := 2) sc_l_draw.nd rfl (Or.inl rfl) (pe_ix ix_list (pe_ix ix_list (pv 0) pe_int (fun _ _ => rfl)) (pe_ix ix_list (pv 0) pe_int (fun _ _ => rfl)) (fun _ _ => rfl)))
      (pss_cons (ps_asg (pe_op op_add (pe_ix ix_list (pv 0) pe_int (fun _ _ => rfl)) pe_int) (pg_sub (pv 0) pe_int set_list))
      (pss_cons (ps_asg (pe_op op_mul (pe_op op_add (pe_op op_mul pe_int (pe_callB call_abs (by rfl) T.z_abs (by decide +kernel) (pa_cons (pv 2) pa_nil))) (pe_callTy call_int1 (by rfl) T.z_int (by decide +kernel) (pa_cons (pe_cmpR op_lt (pv 2) pe_int (nomark _)) pa_nil))) (pe_callTy call_int1 (by rfl) T.z_int (by decide +kernel) (pa_cons (pe_cmpR op_ge (pe_callB call_abs (by rfl) T.z_abs (by decide +kernel) (pa_cons (pv 2) pa_nil)) (pe_op op_pow pe_int pe_int) (nomark _)) pa_nil))) (pg_sub (pv 0) pe_int set_list))
      (pss_one (ps_asg (pe_op op_mod (pe_callTy call_int1 (by rfl) T.z_int (by decide +kernel) (pa_cons (pe_op op_add (pe_op op_add (pe_op op_mul (pe_ix ix_list (pv 0) pe_int (fun _ _ => rfl)) pe_int) (pe_op op_mul (pv 2) pe_int)) pe_int) pa_nil)) pe_int) (pg_sub (pv 0) pe_int set_list)))))) pss_nil)
      (pss_cons (ps_set (i := 3) sc_l_draw.nd rfl (Or.inl rfl) (pe_op op_mod (pe_callTy call_int1 (by rfl) T.z_int (by decide +kernel) (pa_cons (pe_ix ix_list (pv 0) pe_int (fun _ _ => rfl)) pa_nil)) (pv 1)))
      (pss_cons (ps_if (pt_cmpR op_gt (pe_ix ix_list (pv 0) pe_int (fun _ _ => rfl)) pe_int (nomark _)) (pss_cons (ps_asg (pe_op op_fdivW (pe_ix ix_list (pv 0) pe_int (fun _ _ => rfl)) (pv 1)) (pg_sub (pv 0) pe_int set_list))
      (pss_one (ps_ret (pv 3)))) pss_nil)
      (pss_cons (ps_set (i := 4) sc_l_draw.nd rfl (Or.inl rfl) (pe_op op_mod (pe_callTy call_int1 (by rfl) T.z_int (by decide +kernel) (pa_cons (pe_op op_add (pe_ix ix_list (pv 0) pe_int (fun _ _ => rfl)) (pe_op op_mul (pe_ix ix_list (pv 0) pe_int (fun _ _ => rfl)) pe_int)) pa_nil)) pe_int))
      (pss_cons (ps_set (i := 4) sc_l_draw.nd rfl (Or.inl rfl) (pe_op op_mod (pe_callTy call_int1 (by rfl) T.z_int (by decide +kernel) (pa_cons (pe_op op_add (pe_op op_add (pe_op op_pow (pv 4) pe_int) (pe_op op_mul (pe_ix ix_list (pv 0) pe_int (fun _ _ => rfl)) pe_int)) pe_int) pa_nil)) pe_int))
      (pss_one (ps_ret (pe_op op_mod (pe_op op_fdiv (pe_op op_mod (pe_callTy call_int1 (by rfl) T.z_int (by decide +kernel) (pa_cons (pe_op op_pow (pv 4) pe_int) pa_nil)) pe_int) pe_int) (pv 1))))))))))), ?_⟩
    refine ⟨_, rfl, g, _, _, _, rfl, rfl, SqL.of hg, rfl, _, _, rfl, rfl, _, rfl, g, _, _, _, rfl, rfl, hg, rfl, ?_⟩
    refine ⟨⟨fun σ' H' => Wd (∃ (i r s c : Int) (v : Option V), σ' = [some (.ref g), some (.int z), v, none, none] ∧ 0 ≤ i ∧ H' g = some (.lst [.ref l, .int i, .int r, .int s, .int c]) ∧ H' l = some (.lst (ns.map V.int)) ∧ Kp g H H'), ?_, ?_⟩⟩
    · walk_at "go"
      refine if_int (fun e0 => ?_) (fun e0 => ?_)
      · walk_at "go"
        refine if_dec (fun e1 => ?_) (fun e1 => ?_)
        · obtain ⟨n, hn⟩ := at_ints (ns := ns) hi (by simpa using e1)
          walk_at "go"
          exact ⟨i + 1, _, _, c + 1, _, rfl, by omega, upd_same, by walk_at "at", (((Kp.refl g H).up.up.up.up))⟩
        · exact ⟨i, r, sd, c + 1, none, rfl, hi, upd_same, by walk_at "at", (Kp.refl g H).up⟩
      · refine iteF ?_
        exact ⟨i, r, sd, c + 1, none, rfl, hi, upd_same, by walk_at "at", (Kp.refl g H).up⟩
    · rintro σ' H' ⟨i, r, s, c, v, rfl, hi, hg, hl, kp⟩
      walk_at "go"
      refine if_dec (fun e1 => ?_) (fun e1 => ?_)
      · walk_at "go"
        exact k _ _ (Int.emod_nonneg _ (by omega)) (Int.emod_lt_of_pos _ hz) ⟨i, _, s, c, ns, upd_same, by walk_at "at", hi⟩ kp.up
      · walk_at "go"
        exact k _ _ (Int.emod_nonneg _ (by omega)) (Int.emod_lt_of_pos _ hz) ⟨i, r, s, c, ns, hg, hl, hi⟩ kp
end

/-! ### calls in the body of a try: what they raise is wished for at the slots as they stand -/
section
open PySem.Spec PyProof.Rows
variable {X : Cx} {CX : CXT} {k : Nat} {f C : Addr} {fd : FuncData} {ps : List Str} {sp : Sp} {dvs : List V} {ds : List Value} {E : L2.St → XK} {x m : Str} {p pos apos : Pos} {e o : Expr} {es : List Expr} {ta : TE} {t : TA}
theorem run_mkS {pins : List (Addr × Obj)} {σ : L2.St} {H : Hp} {s : Shared} {Q : VK} {us : List Value} {vs : List V} (M : Mk X.K C f) (F : FnOk X.prog X.w X.K X.mg X.base CX k f fd ps sp)
    (hr : Room (k + 1) X.A) (hb : Binds X.K fd ps ds) (hd : Vals dvs ds) (hx : PassesAt CX X σ (E σ)) (I : Inv X pins σ H s) (r : Vals vs us)
    (h : ∀ x dx, H x = none → H dx = none → dx ≠ x → sp (.ref x :: (vs ++ dvs)) (upd (upd H dx (.own x)) x (.ins C dx [])) (fun v H2 => v = .non ∧ Q (.ref x) H2) (E σ)) :
    wpAny (model X.prog X.w) X.A (call (.ref C) us) (EP X pins σ Q) X.xe s := by
  have a1 := h (s.heap.objs.size + 1) s.heap.objs.size (I.hok.fresh (Nat.le_succ _)) (I.hok.fresh (Nat.le_refl _)) (Nat.ne_of_lt (Nat.lt_succ_self _))
  have J := Inv.made (C := C) I
  have a2 : Vals (V.ref (s.heap.objs.size + 1) :: (vs ++ dvs)) (Value.ref (s.heap.objs.size + 1) :: (us ++ ds)) := .cons rfl (r.append hd)
  have a3 : (Value.ref (s.heap.objs.size + 1) :: us ++ ds).length = ps.length := by
    have z := a2.length
    rw [F.len _ _ _ _ a1] at z
    exact z.symm
  refine wpAny_call (make_map (f := f) I.kIn M.makes M.init (beq_iff_eq.mp M.fn) (codeAny_mono (F.run _ X.stack _ _ ⟨Value.ref (s.heap.objs.size + 1) :: us, []⟩
    (Value.ref (s.heap.objs.size + 1) :: (us ++ ds)) _ _ (E σ) (hr.make C us []) (J.env0.make C us []) (hb _ (Value.ref (s.heap.objs.size + 1) :: us) J.kIn a3) a2 a1) fun r s' z => ?_))
  cases r with
  | error u => exact hx pins _ _ u s' J z
  | ok fl =>
    cases fl with
    | ret u =>
      obtain ⟨v, H', J3, rv, ev, q3⟩ := J.after z
      subst ev
      exact ⟨rv, V.ref (s.heap.objs.size + 1), H', J3, rfl, q3⟩
    | next => exact z.elim
    | brk => exact z.elim
    | cont => exact z.elim
def tMakeS (C : Addr) (sp : Sp) (dvs : List V) (E : L2.St → XK) (t : TA) : TE := fun σ H Q => t σ H fun vs H1 => ∀ x dx, H1 x = none → H1 dx = none → dx ≠ x →
  sp (.ref x :: (vs ++ dvs)) (upd (upd H1 dx (.own x)) x (.ins C dx [])) (fun v H2 => v = .non ∧ Q (.ref x) H2) (E σ)
theorem pe_makeS (M : Mk X.K C f) (F : FnOk X.prog X.w X.K X.mg X.base CX k f fd ps sp) (hr : Room (k + 1) X.A) (hg : Gl X x) (hm : X.mg x = some (.ref C)) (hb : Binds X.K fd ps ds) (hd : Vals dvs ds) (hx : ∀ σ, PassesAt CX X σ (E σ))
    (ha : PA X (e :: es) t) (hdb : (x == ("__debug__" : Str)) = false := by decide) (he : starEach (e :: es) X.env = (false, eval e X.env) :: starEach es X.env := by rfl)
    (hpl : (backTo pos (starEach es X.env)).any (·.1) = false := by rfl) : PE X (.Call (.Name x p) (e :: es) [] pos) (tMakeS C sp dvs E t) := ⟨fun pins s σ H Q I h =>
  wpAny_Call_Name_kw (ld_glob I hg hm (PySem.W.callWith_K (h₀ := X.base) I.ok.mod.kin M.kp (thn (ha.run pos pins s σ H _ I h) fun us s1 ⟨vs, H1, I1, r, q⟩ => ⟨I1.kIn, run_mkS M F hr hb hd (hx σ) I1 r q⟩) he hpl) hdb)⟩
def tMethS (C : Addr) (m : Str) (sp : Sp) (E : L2.St → XK) (ta : TE) (t : TA) : TE := fun σ H Q => ta σ H fun x H1 => ∃ a dx fs, x = .ref a ∧ H1 a = some (.ins C dx fs) ∧ fs.lookup m = none ∧
  t σ H1 fun vs H2 => sp (.ref a :: vs) H2 Q (E σ)
theorem pe_methA {pl : Sem Bool} (he : PE X o ta) (c : Cls X.K C) (hm : Meth X.K C m f) (F : FnOk X.prog X.w X.K X.mg X.base CX k f fd ps sp) (hr : Room k X.A) (hb : Binds X.K fd ps []) (hx : ∀ σ, PassesAt CX X σ (E σ)) (ha : PA X (e :: es) t)
    (hst : starEach (e :: es) X.env = (false, eval e X.env) :: starEach es X.env := by rfl) (hpl : (backTo pos (starEach es X.env)).any (·.1) = false := by rfl)
    (ht : eval (.Call (.Attribute o m apos) (e :: es) [] pos) X.env = (eval o X.env >>= fun ov => standAt apos.atName >>= fun _ => holding [ov] (getMethod ov m pl) >>= fun (f, first) =>
      callWith pos f first (backTo pos (starEach (e :: es) X.env)) (backToKw pos (keywordEach [] X.env))) := by rfl) :
    PE X (.Call (.Attribute o m apos) (e :: es) [] pos) (tMethS C m sp E ta t) := by
  refine ⟨fun pins s σ H Q I h => ?_⟩
  refine PySem.W.methodCall_KW (pl := pl) (thn (he.run pins s σ H _ I h) fun u s1 ⟨x, H1, I1, rx, a, dx, fs, ex, ea, l, q⟩ => ?_) ht
  cases ex
  obtain rfl : u = Value.ref a := rx
  exact getmeth_ok I1 ea c hm l (PySem.W.callWith_K (first := [.ref a]) (h₀ := X.base) I.ok.mod.kin hm.kp (thn (ha.run pos pins s1 σ H1 _ I1 q) fun us s2 ⟨vs, H2, I2, r, q2⟩ =>
    ⟨I2.kIn, run_fnS (E := E) (us := .ref a :: us) (vs := .ref a :: vs) F hr hb (hx σ) I2 (.cons rfl r) q2⟩) hst hpl)

def oe0 : Obj := { cls := .none, data := .fields #[] }
variable {n : Str} {c : Value} {i : Nat} {body suite : List Stmt} {b0 : Stmt} {np pos' : Pos} {Wout : WX}
  {tb : WX → List (Addr × Obj) → (Value → Shared → Prop) → TS} {ts : Addr → Obj → Value → Option Addr → List (Addr × Obj) → TS}
/-- try: .. except x as n: .., the readings of the body and of the suite free of what they can't hang on (both shown by rfl) -/
theorem ps_tryV (hs : X.stack = X.env :: X.outer) (hf : X.env.frame = some X.env.locals) (hN : X.N.Nodup) (hi : X.N[i]? = some n) (hln : X.env.kindOf n = some .local) (hc : Names X x c) (tk : Takes X Wout)
    (hb : ∀ (W : WX) (pn : List (Addr × Obj)) (xe : Value → Shared → Prop), Takes (X.tr pn xe) W → PassesOwn (model X.prog X.w) X.A X.env xe → PSs (X.tr pn xe) body (tb W pn xe))
    (hsu : ∀ (a : Addr) (oe : Obj) (cls : Value) (d : Option Addr) (pn : List (Addr × Obj)), Zc cls d oe → (∃ vs, oe.data = .fields vs) → PSs (X.suite a ((a, oe) :: pn)) (b0 :: suite) (ts a oe cls d pn))
    (e1 : ∀ W pn xe, tb W pn xe = tb W [] (fun _ _ => False)) (e2 : ∀ a oe cls d pn, ts a oe cls d pn = ts a oe0 cls d []) :
    PS X (.Try body [.ExceptHandler (some (.Name x np)) (some n) (b0 :: suite) pos'] [] [] pos) (fun D σ H => tb (wAs X.K c i (fun a cls d => ts a oe0 cls d []) Wout D) [] (fun _ _ => False) D σ H) :=
  ps_try_as (tb := fun W => tb W [] (fun _ _ => False)) (ts := fun a cls d => ts a oe0 cls d []) hs hf hN hi hln hc tk (fun W pn xe k po => by rw [← e1 W pn xe]; exact hb W pn xe k po)
    (fun a oe cls d pn z f => by rw [← e2 a oe cls d pn]; exact hsu a oe cls d pn z f)
/-- isinstance(e, C) of the error that the suite holds, one without a dict of its own -/
def rIsEV (K : PySem.W.Frag) (cls : Value) (d : Option Addr) (a : Addr) : List V → Hp → VK → Prop := fun xs H Q => ∃ (D : Addr) (c : V) (cv : Value) (b : Bool), cls = .ref D ∧ d = none ∧ ExcC K D ∧ xs = [.ref a, c] ∧ (∀ u, RelV c u → u = cv) ∧ PySem.W.kitOne K (.ref D) cv = some b ∧ Q (.bl b) H
theorem call_isEV {a : Addr} {oe : Obj} {cls : Value} {d : Option Addr} {pn : List (Addr × Obj)} (hz : Zc cls d oe) (hf : ∃ vs, oe.data = .fields vs) : CallR (X.suite a ((a, oe) :: pn)) (.builtin "isinstance") (rIsEV X.K cls d a) := by
  intro pins s σ H xs us Q I r h
  obtain ⟨D, c, cv, b, rfl, rfl, C, h⟩ := h
  exact call_isE C hz hf pins s σ H xs us Q I r ⟨c, cv, b, h⟩
end
/-! ### list comprehensions: the readings of their parts free of what they can't hang on -/
section
open PySem.Spec PyProof.Rows
variable {X : Cx} {elt tg iter : Expr} {ifs : List Expr} {scope : Scope} {own : List (Str × Nat)} {pos spos py : Pos} {wi : TI} {i : Nat} {y : Str}
abbrev Bk (α : Type) := Shared → Hp → Addr → List (Str × Addr) → List Addr → α
abbrev Bk.at0 {α : Type} (f : Bk α) (X : Cx) : α := f X.s_0 X.H_0 0 [] []
variable {g : Bk TG} {tt : Bk TT} {te : Bk TE}
theorem pe_lcV (hc : X.calm = true) (hN : X.N.Nodup) (hi : PI X tg iter wi) (ok : BlkOk X.N X.env.scope scope own)
    (hg : ∀ s H C cl fp, PG (X.blk s H scope (compEnvC scope cl C X.env) fp) tg (g s H C cl fp)) (ht : ∀ s H C cl fp, PTs (X.blk s H scope (compEnvC scope cl C X.env) fp) ifs (tt s H C cl fp))
    (he : ∀ s H C cl fp, PE (X.blk s H scope (compEnvC scope cl C X.env) fp) elt (te s H C cl fp)) (e1 : ∀ s H C cl fp, g s H C cl fp = g.at0 X) (e2 : ∀ s H C cl fp, tt s H C cl fp = tt.at0 X)
    (e3 : ∀ s H C cl fp, te s H C cl fp = te.at0 X) (hs : ∀ x, foldedSetIterable iter X.env x = pure x := by intro _; rfl) :
    PE X (.ListComp elt [⟨tg, iter, ifs, 0⟩] scope pos) (tLc wi (g.at0 X) (tt.at0 X) (te.at0 X) (own.map (·.2))) :=
  pe_lc hc hN hi ok (fun s H C cl fp => by rw [← e1 s H C cl fp]; exact hg s H C cl fp) (fun s H C cl fp => by rw [← e2 s H C cl fp]; exact ht s H C cl fp) (fun s H C cl fp => by rw [← e3 s H C cl fp]; exact he s H C cl fp) hs
theorem ps_setLcV (hc : X.calm = true) (hN : X.N.Nodup) (hy : X.N[i]? = some y) (hyl : X.env.scope.names.lookup y = some .local)
    (hsw : swapsWith (.ListComp elt [⟨tg, iter, ifs, 0⟩] scope pos) (some (.Name y py)) spos.line X.env = pure true) (hi : PI X tg iter wi) (ok : BlkOk X.N X.env.scope scope own)
    (hg : ∀ s H C cl fp, PG (X.blk s H scope (compEnvC scope cl C X.env) fp) tg (g s H C cl fp)) (ht : ∀ s H C cl fp, PTs (X.blk s H scope (compEnvC scope cl C X.env) fp) ifs (tt s H C cl fp))
    (he : ∀ s H C cl fp, PE (X.blk s H scope (compEnvC scope cl C X.env) fp) elt (te s H C cl fp)) (e1 : ∀ s H C cl fp, g s H C cl fp = g.at0 X) (e2 : ∀ s H C cl fp, tt s H C cl fp = tt.at0 X)
    (e3 : ∀ s H C cl fp, te s H C cl fp = te.at0 X) (hs : ∀ x, foldedSetIterable iter X.env x = pure x := by intro _; rfl) :
    PS X (.Assign [.Name y py] (.ListComp elt [⟨tg, iter, ifs, 0⟩] scope pos) spos) (tAsg (tLc wi (g.at0 X) (tt.at0 X) (te.at0 X) (own.map (·.2))) (gName i)) :=
  ps_setLc hc hN hy hyl hsw hi ok (fun s H C cl fp => by rw [← e1 s H C cl fp]; exact hg s H C cl fp) (fun s H C cl fp => by rw [← e2 s H C cl fp]; exact ht s H C cl fp) (fun s H C cl fp => by rw [← e3 s H C cl fp]; exact he s H C cl fp) hs
end

/-! ### errors of own classes with fields -/
section
open PySem.Spec PyProof.Rows
variable {X : Cx} {CX : CXT} {k n : Nat} {f C CE : Addr} {fd : FuncData} {ps ks : List Str} {sp : Sp} {ds : List Value} {dvs : List V} {x : Str} {p p1 p2 pos : Pos} {e : Expr} {es : List Expr} {kws : List Keyword} {ta t tk : TA} {te : TE}
/-- B.__init__(self, ..), B an own class that has it from ValueError -/
theorem pe_ceinit {pl : Sem Bool} (hg : Gl X x) (hm : X.mg x = some (.ref CE)) (rd : PySem.W.readsIn X.K CE (.type "type") = true) (ga : PySem.W.specialIn X.K (.ref CE) "__getattribute__" = some (some (.builtin "type.__getattribute__")))
    (vV : PySem.W.findCls X.K (.ref CE) (.type "type") "__init__" = some (.val (.builtin "ValueError.__init__"))) (ha : PA X (e :: es) ta) (hdb : (x == ("__debug__" : Str)) = false := by decide)
    (hc : eval (.Call (.Attribute (.Name x p1) "__init__" p2) (e :: es) [] pos) X.env = (eval (.Name x p1) X.env >>= fun ov => standAt p2.atName >>= fun _ => holding [ov] (getMethod ov "__init__" pl) >>= fun (f, first) =>
      callWith pos f first (backTo pos (starEach (e :: es) X.env)) (backToKw pos (keywordEach [] X.env))) := by rfl)
    (he : starEach (e :: es) X.env = (false, eval e X.env) :: starEach es X.env := by rfl) (hpl : (backTo pos (starEach es X.env)).any (·.1) = false := by rfl) :
    PE X (.Call (.Attribute (.Name x p1) "__init__" p2) (e :: es) [] pos) (tVeI X.K ta) := by
  refine ⟨fun pins s σ H Q I h => ?_⟩
  refine PySem.W.methodCall_KW (ld_glob I hg hm ?_ hdb) hc
  refine PySem.W.method_cls I.kIn ga (PySem.W.cls_value I.kIn rd vV (by decide +kernel) ?_)
  refine callWith_method1 (first := []) (id := "ValueError.__init__") (thn (ha.run pos pins _ σ H _ (I.tok _) h) fun us s1 z => ?_) he hpl
  obtain ⟨vs, H1, J, r1, a, C, ws, rfl, hl, T, ea, q⟩ := z
  obtain ⟨u0, ur, rfl, ra, rr⟩ : ∃ u0 ur, us = u0 :: ur ∧ RelV (.ref a) u0 ∧ Vals ws ur := by
    cases r1 with
    | cons a1 b1 => exact ⟨_, _, rfl, a1, b1⟩
  obtain rfl : u0 = Value.ref a := ra
  exact oinit_ok T J ea (by rw [← rr.length, sizeLine_eq]; omega) fun s' J' => ⟨.non, H1, J', rfl, q⟩
/-- isinstance(e, C) of the error that the suite holds, one with a dict of its own -/
def rIsEW (K : PySem.W.Frag) (cls : Value) (d : Option Addr) (a : Addr) : List V → Hp → VK → Prop := fun xs H Q => ∃ (D dd : Addr) (fs : List (Str × V)) (c : V) (cv : Value) (b : Bool), cls = .ref D ∧ d = some dd ∧ H dd = some (.xd fs) ∧ ExcC K D ∧ xs = [.ref a, c] ∧
  (∀ u, RelV c u → u = cv) ∧ PySem.W.kitOne K (.ref D) cv = some b ∧ Q (.bl b) H
theorem call_isEW {a : Addr} {oe : Obj} {cls : Value} {d : Option Addr} {pn : List (Addr × Obj)} (hz : Zc cls d oe) (hf : ∃ vs, oe.data = .fields vs) : CallR (X.suite a ((a, oe) :: pn)) (.builtin "isinstance") (rIsEW X.K cls d a) := by
  intro pins s σ H xs us Q I r h
  obtain ⟨D, dd, fs, c, cv, b, rfl, rfl, hd, Z, rfl, hcv, hk, q⟩ := h
  obtain ⟨u1, u2, rfl, r1, r2⟩ : ∃ u1 u2, us = [u1, u2] ∧ RelV (.ref a) u1 ∧ RelV c u2 := by
    cases r with
    | cons a1 b1 =>
      cases b1 with
      | cons a2 b2 =>
        cases b2
        exact ⟨_, _, rfl, a1, a2⟩
  obtain rfl : u1 = Value.ref a := r1
  obtain rfl := hcv _ r2
  obtain ⟨hget, _⟩ := I.pin (a, oe) (List.mem_append_left _ List.mem_cons_self)
  obtain ⟨vs, hv⟩ := hf
  obtain ⟨mA, hns, _⟩ := (show ObjOk X.prog X.w H s.heap dd (.xd fs) from I.hok dd _ hd)
  obtain ⟨od, ho, _⟩ := lookIn_ns hns
  have J : PySem.W.InstAt s.heap a oe D (some od) := ⟨hget, hz.1, by unfold PySem.W.notCls; rw [hv] <;> rfl, by rw [hz.2]; exact ho⟩
  obtain ⟨cd, hcd, _⟩ := PySem.W.any_some Z.hd
  exact PySem.W.kia_one (PySem.W.kitx_exc (by rw [hcd]; rfl) Z.hg Z.hk Z.hs Z.ha Z.hn Z.ht Z.hm) I.kIn J hk (fun z => nomatch z) fun tk => ⟨.bl b, H, I.kept (t' := tk) fun _ _ z => z, rfl, q⟩
/-- C(.., k = v, ..) in the body of a try -/
def tMakeKS (C : Addr) (n m : Nat) (sp : Sp) (gV : List V → List V → List V) (E : L2.St → XK) (t tk : TA) : TE := fun σ H Q => t σ H fun vs H1 => tk σ H1 fun zs H2 => vs.length = n ∧ zs.length = m ∧ ∀ x dx, H2 x = none → H2 dx = none → dx ≠ x →
  sp (gV (.ref x :: vs) zs) (upd (upd H2 dx (.own x)) x (.ins C dx [])) (fun v H3 => v = .non ∧ Q (.ref x) H3) (E σ)
theorem pe_makeKS {g : List Value → List Value → List Value} {gV : List V → List V → List V} {E : L2.St → XK} (M : Mk X.K C f) (F : FnOk X.prog X.w X.K X.mg X.base CX k f fd ps sp) (hr : Room (k + 1) X.A) (hg : Gl X x) (hm : X.mg x = some (.ref C)) (hb : KBn X.K fd ps (n + 1) ks g gV)
    (hx : ∀ σ, PassesAt CX X σ (E σ)) (ha : PA X (e :: es) t) (hkw : PK X kws tk)
    (hall : (backToKw pos (keywordEach kws X.env)).all (·.1.isSome) = true := by rfl) (hks : (backToKw pos (keywordEach kws X.env)).filterMap (·.1) = ks := by rfl) (hdb : (x == ("__debug__" : Str)) = false := by decide)
    (he : starEach (e :: es) X.env = (false, eval e X.env) :: starEach es X.env := by rfl) (hpl : ((backTo pos (starEach (e :: es) X.env)).any (·.1) || (backToKw pos (keywordEach kws X.env)).any (·.1.isNone)) = false := by rfl) :
    PE X (.Call (.Name x p) (e :: es) kws pos) (tMakeKS C n ks.length sp gV E t tk) := by
  refine ⟨fun pins s σ H Q I h => wpAny_Call_Name_kw (ld_glob I hg hm (PySem.W.callWith_KW (h₀ := X.base) I.ok.mod.kin M.kp hall (thn (ha.run pos pins s σ H _ I h) fun us s1 z => ?_) hpl he) hdb)⟩
  obtain ⟨vs, H1, I1, r, q⟩ := z
  refine thn (hkw.run pos pins s1 σ H1 _ I1 q) fun ws s2 z => ?_
  obtain ⟨zs, H2, I2, rz, l1, l2, q2⟩ := z
  refine ⟨I2.kIn, ?_⟩
  rw [hks]
  have a1 := q2 (s2.heap.objs.size + 1) s2.heap.objs.size (I2.hok.fresh (Nat.le_succ _)) (I2.hok.fresh (Nat.le_refl _)) (Nat.ne_of_lt (Nat.lt_succ_self _))
  have J := Inv.made (C := C) I2
  have r1 : Vals (V.ref (s2.heap.objs.size + 1) :: vs) (Value.ref (s2.heap.objs.size + 1) :: us) := .cons rfl r
  refine wpAny_call (make_map (f := f) I2.kIn M.makes M.init (beq_iff_eq.mp M.fn) (codeAny_mono (F.run _ X.stack _ _ ⟨Value.ref (s2.heap.objs.size + 1) :: us, ks.zip ws⟩ (g (Value.ref (s2.heap.objs.size + 1) :: us) ws) _ _ (E σ) (hr.make C us (ks.zip ws))
    (J.env0.make C us (ks.zip ws)) (hb.to _ (Value.ref (s2.heap.objs.size + 1) :: us) ws J.kIn (by rw [List.length_cons, ← r.length, l1]) (rz.length.symm.trans l2)) (hb.rel r1 rz) a1) fun o s' z => ?_))
  cases o with
  | error u => exact hx σ pins _ _ u s' J z
  | ok fl =>
    cases fl with
    | ret u =>
      obtain ⟨v, H', J3, rv, ev, q3⟩ := J.after z
      subst ev
      exact ⟨rv, V.ref (s2.heap.objs.size + 1), H', J3, rfl, q3⟩
    | next => exact z.elim
    | brk => exact z.elim
    | cont => exact z.elim
end
/-- C.__init__(self, v): the error gets its dict with one field -/
def spExc1 (C : Addr) (f : Str) : Sp := fun vs H Q _ => ∃ (a : Addr) (v : V), vs = [.ref a, v] ∧ H a = some (exo a C none) ∧ ∀ d, H d = none → d ≠ a → Q .non (upd (upd H d (exd d [(f, v)])) a (exo a C (some d)))

/-! ### operators that an own class defines -/
section
open PySem.W PySem.Calls PyProof.Rows
variable {prog : Program} {w : World} {A : Around} {E : Value → Shared → Prop} {s : Shared} {K : PySem.W.Frag} {x y C f r : Addr} {ox oy : Obj} {od : Option Obj} {nm : String}
/-- a op b, two instances of one class -/
theorem b1_same {b : Value} {Q : Value → Shared → Prop} (X : K.In s.heap) (I : InstAt s.heap x ox C od) (hb : Looks (model prog w) s.heap (typeOf b) (.ref C)) (hc : selfFirst K C = true)
    (hs : findIn K (.ref C) (PySem.dunder nm) = some (some (.ref f))) (hf : isFn K (.ref f) = true) (h : wpAny (model prog w) A (call (.ref f) [.ref x, b]) (PySem.W.CmpBack Q) E s) :
    wpAny (model prog w) A (binaryOp1 nm (.ref x) b) (fun o s' => ∃ v, o = some v ∧ Q v s') E s := by
  obtain ⟨cd, rest, hcd, hm⟩ := ksp_first hc
  have one := ksp_try X I hs hf h
  unfold binaryOp1
  refine wpAny_bind (I.type.here (wpAny_bind (hb.here (wpAny_bind ((fills_K X hcd hm hs).here ?_)))))
  simp only [beq_self_eq_true, if_true]
  refine wpAny_bind (wpAny_pure ?_)
  simp only [Bool.and_false, Bool.false_eq_true, if_false, Bool.false_and]
  refine wpAny_bind (wpAny_pure ?_)
  simp only [Bool.false_eq_true, if_false]
  refine wpAny_bind (wpAny_mono one (fun o s' ho => ?_) fun _ _ e => e)
  obtain ⟨v, rfl, hq⟩ := ho
  exact wpAny_pure ⟨v, rfl, hq⟩
/-- a op n, n an int -/
theorem b1_int {i : Int} {t : Tok} {fo ro rc : Option Value} {Q : Value → Shared → Prop} (X : K.In s.heap) (I : InstAt s.heap x ox C od) (hc : selfFirst K C = true)
    (hs : findIn K (.ref C) (PySem.dunder nm) = some (some (.ref f))) (hf : isFn K (.ref f) = true) (hr : findIn K (.ref C) (dunderR nm) = some rc) (hp : rc = none ∨ ∃ g : Addr, rc = some (.ref g))
    (h1 : findIn K (.type "int") (PySem.dunder nm) = some fo) (h2 : findIn K (.type "int") (dunderR nm) = some ro) (hsub : subIn K (.type "int") (.ref C) = some false)
    (h : wpAny (model prog w) A (call (.ref f) [.ref x, .int i t]) (PySem.W.CmpBack Q) E s) : wpAny (model prog w) A (binaryOp1 nm (.ref x) (.int i t)) (fun o s' => ∃ v, o = some v ∧ Q v s') E s := by
  obtain ⟨cd, rest, hcd, hm⟩ := ksp_first hc
  have one := ksp_try X I hs hf h
  obtain ⟨hh, g, d, tt, os⟩ := s
  have L1 : Looks (model prog w) hh (typeOf (.ref x)) (.ref C) := I.type
  have L2 : Looks (model prog w) hh (typeOf (.int i t)) (.type "int") := Looks.of_pure rfl
  have L3 : Looks (model prog w) hh (fillsNumberSlot (.ref C) nm) true := fills_K X hcd hm hs
  have L4 : Looks (model prog w) hh (fillsNumberSlot (.type "int") nm) ((fo.isSome && !isSeqSlot fo) || (ro.isSome && !isSeqSlot ro)) := ksp_fillsT X h1 h2
  have L5 : Looks (model prog w) hh (isSubtype (.type "int") (.ref C)) false := looks_subIn X hsub
  have L6 : Looks (model prog w) hh (numberSlotInPython (.ref C) nm) true := ksp_inPy X hs hr hp
  have L7 : Looks (model prog w) hh (numberSlotInPython (.type "int") nm) false := Looks.of_pure rfl
  have L8 : Looks (model prog w) hh (typeLookup (.type "int") (dunderR nm)) ro := looks_findIn X h2
  generalize ((fo.isSome && !isSeqSlot fo) || (ro.isSome && !isSeqSlot ro)) = right at L4
  have hne : (Value.ref C == Value.type "int") = false := Bool.eq_false_iff.mpr fun q => by cases beq_iff_eq.mp q
  unfold binaryOp1
  refine wpAny_bind (L1.at (wpAny_bind (L2.at (wpAny_bind (L3.at ?_)))))
  simp only [hne, Bool.false_eq_true, if_false]
  cases right with
  | false =>
    ksp_lk
    refine wpAny_mono one (fun o s' ho => ?_) fun _ _ e => e
    obtain ⟨v, rfl, hq⟩ := ho
    ksp_lk
    exact ⟨v, rfl, hq⟩
  | true =>
    ksp_lk
    refine wpAny_mono one (fun o s' ho => ?_) fun _ _ e => e
    obtain ⟨v, rfl, hq⟩ := ho
    ksp_lk
    exact ⟨v, rfl, hq⟩
/-- n op a, n an int: int's own way declines, the reflected one serves -/
theorem b1_rint {i : Int} {t : Tok} {id : String} {bi : Builtin} {Q : Value → Shared → Prop} (X : K.In s.heap) (I : InstAt s.heap y oy C od) (hc : selfFirst K C = true)
    (hs : findIn K (.ref C) (PySem.dunder nm) = some (some (.ref f))) (hr : findIn K (.ref C) (dunderR nm) = some (some (.ref r))) (hf : isFn K (.ref r) = true)
    (hfi : fillsNumberSlot (.type "int") nm = pure true) (hsub : subIn K (.ref C) (.type "int") = some false) (slot : Slot "int" (PySem.dunder nm) id) (entry : entryFor table id = some bi)
    (args : argsOk id ⟨[.int i t, .ref y], []⟩) (dec : wpAny (model prog w) A.in1 (bi ⟨[.int i t, .ref y], []⟩) (fun fin s' => fin = .done (.ret .notImplemented) ∧ s' = s) E s)
    (h : wpAny (model prog w) A (call (.ref r) [.ref y, .int i t]) (PySem.W.CmpBack Q) E s) : wpAny (model prog w) A (binaryOp1 nm (.int i t) (.ref y)) (fun o s' => ∃ v, o = some v ∧ Q v s') E s := by
  obtain ⟨cd, rest, hcd, hm⟩ := ksp_first hc
  have one := ksp_try X I hr hf h
  have two : wpAny (model prog w) A (call (.builtin id) [.int i t, .ref y]) (fun v s' => v = .notImplemented ∧ s' = s) E s :=
    wpAny_call_entry slot rfl entry (wpAny_mono dec (fun fin s' z => ⟨_, z.1, rfl, z.2⟩) fun _ _ e => e) args
  obtain ⟨hh, g, d, tt, os⟩ := s
  have L1 : Looks (model prog w) hh (typeOf (.ref y)) (.ref C) := I.type
  have L2 : Looks (model prog w) hh (typeOf (.int i t)) (.type "int") := Looks.of_pure rfl
  have L3 : Looks (model prog w) hh (fillsNumberSlot (.ref C) nm) true := fills_K X hcd hm hs
  have L4 : Looks (model prog w) hh (fillsNumberSlot (.type "int") nm) true := Looks.of_pure hfi
  have L5 : Looks (model prog w) hh (isSubtype (.ref C) (.type "int")) false := looks_subIn X hsub
  have L7 : Looks (model prog w) hh (numberSlotInPython (.type "int") nm) false := Looks.of_pure rfl
  have hne : (Value.type "int" == Value.ref C) = false := Bool.eq_false_iff.mpr fun q => by cases beq_iff_eq.mp q
  unfold binaryOp1
  refine wpAny_bind (L2.at (wpAny_bind (L1.at (wpAny_bind (L4.at ?_)))))
  simp only [hne, Bool.false_eq_true, if_false]
  ksp_lk
  refine wpAny_tryMethod_declines (s := ⟨hh, g, d, tt, os⟩) (T := "int") rfl slot (wpAny_mono two (fun v s' z => ⟨z.1, ?_⟩) fun _ _ e => e)
  obtain ⟨_, rfl⟩ := z
  ksp_lk
  refine wpAny_mono one (fun o s' ho => ?_) fun _ _ e => e
  obtain ⟨v, rfl, hq⟩ := ho
  ksp_lk
  exact ⟨v, rfl, hq⟩
/-- int's own way with an instance declines -/
theorem int_declines {i : Int} {t : Tok} {dx : Addr} {name : String} {g : Int → Int → Sem Fin} (hy : s.heap.get? y = some (instObj C dx)) :
    wpAny (model prog w) A (Builtin.Int.intBinary name g false ⟨[.int i t, .ref y], []⟩) (fun fin s' => fin = .done (.ret .notImplemented) ∧ s' = s) E s := by
  obtain ⟨hh, gg, d, tt, os⟩ := s
  wp_walk using wpAny_load hy
  exact ⟨rfl, rfl⟩
theorem fillsI_no {M : Model} {h : Heap} {add : Bool} (X : K.In h) (hn : noI K C nm = true) : Looks M h (fillsInplaceSlot (.ref C) nm add) false := by
  obtain ⟨cd, hcd, hall⟩ := any_some hn
  intro A Q E s k q
  have Lm : Looks M h (mroOf (.ref C)) cd.mro := (looks_clsIn X hcd).andThen (f := fun cd => pure cd.mro) .now
  unfold fillsInplaceSlot
  refine wpAny_bind (Lm A _ E s k ?_)
  have X' : K.In s.heap := X.keeps k
  generalize cd.mro = l at hall
  induction l with
  | nil => exact wpAny_pure q
  | cons c l ih =>
    rw [List.all_cons, Bool.and_eq_true] at hall
    rw [List.anyM_cons]
    refine wpAny_bind (wpAny_bind ((looks_findIn X' (beq_iff_eq.mp hall.1)).here ?_))
    refine wpAny_pure ?_
    exact ih hall.2
end
section
open PySem.Spec PyProof.Rows
variable {X : Cx} {CX : CXT} {k : Nat} {f r C : Addr} {fd : FuncData} {ps : List Str} {sp : Sp} {E : XK} {nm : String} {op : Operator}
/-- what the written part says of a class with __op__ (f) and __rop__ (r) -/
structure OwnOp (K : PySem.W.Frag) (C f r : Addr) (nm : String) : Prop where
  hc : PySem.W.selfFirst K C = true
  hs : PySem.W.findIn K (.ref C) (PySem.dunder nm) = some (some (.ref f))
  hf : PySem.W.isFn K (.ref f) = true
  hr : PySem.W.findIn K (.ref C) (dunderR nm) = some (some (.ref r))
  hg : PySem.W.isFn K (.ref r) = true
  h1 : ∃ fo, PySem.W.findIn K (.type "int") (PySem.dunder nm) = some fo
  h2 : ∃ ro, PySem.W.findIn K (.type "int") (dunderR nm) = some ro
  sub : PySem.W.subIn K (.type "int") (.ref C) = some false
  sub2 : PySem.W.subIn K (.ref C) (.type "int") = some false
theorem back_of {pins : List (Addr × Obj)} {σ : L2.St} {Q : VK} {u : Value} {s : Shared} (h : EP X pins σ Q u s) : PySem.W.CmpBack (EP X pins σ Q) u s := by
  obtain ⟨v, H', I, rv, q⟩ := h
  have h : EP X pins σ Q u s := ⟨v, H', I, rv, q⟩
  cases v with
  | non => cases rv; exact h
  | bl b => cases rv; exact h
  | int i => obtain ⟨t, rfl⟩ := rv; exact h
  | str i => obtain ⟨t, rfl⟩ := rv; exact h
  | byt i => obtain ⟨t, rfl⟩ := rv; exact h
  | flt i => obtain ⟨t, rfl⟩ := rv; exact h
  | ref a => cases rv; exact h
  | ty n => cases rv; exact h
/-- a op b: the operand's own method -/
def rOwn (C : Addr) (sp : Sp) (E : XK) : R2 := fun x y H Q => Wd (∃ a dx fs, x = .ref a ∧ H a = some (.ins C dx fs) ∧ ((∃ i, y = .int i) ∨ ∃ b dy gs, y = .ref b ∧ H b = some (.ins C dy gs)) ∧ sp [x, y] H Q E)
theorem own1 (O : OwnOp X.K C f r nm) (F : FnOk X.prog X.w X.K X.mg X.base CX k f fd ps sp) (hrm : Room k X.A) (hb : Binds X.K fd ps []) (hx : Passes CX X E) {pins : List (Addr × Obj)} {s : Shared} {σ : L2.St} {H : Hp} {x y : V} {v u : Value} {Q : VK}
    (I : Inv X pins σ H s) (rx : RelV x v) (ry : RelV y u) (h : rOwn C sp E x y H Q) : wpAny (model X.prog X.w) X.A (binaryOp1 nm v u) (fun o s' => ∃ z, o = some z ∧ EP X pins σ Q z s') X.xe s := by
  obtain ⟨a, dx, fs, rfl, ha, hy, h⟩ := h.ok
  obtain rfl : v = Value.ref a := rx
  obtain ⟨mA, O1, _⟩ := ins_get I.hok ha
  obtain ⟨od, J, _⟩ := O1.look
  have fin : wpAny (model X.prog X.w) X.A (call (.ref f) [.ref a, u]) (PySem.W.CmpBack (EP X pins σ Q)) X.xe s :=
    thn (run_fn (us := [.ref a, u]) (vs := [.ref a, y]) F hrm hb .nil hx I (.cons rfl (.cons ry .nil)) h) fun _ _ z => back_of z
  rcases hy with ⟨i, rfl⟩ | ⟨b, dy, gs, rfl, hb2⟩
  · obtain ⟨t, rfl⟩ := ry
    obtain ⟨fo, h1⟩ := O.h1
    obtain ⟨ro, h2⟩ := O.h2
    exact b1_int I.kIn J O.hc O.hs O.hf O.hr (.inr ⟨r, rfl⟩) h1 h2 O.sub fin
  · obtain rfl : u = Value.ref b := ry
    obtain ⟨mB, O2, _⟩ := ins_get I.hok hb2
    obtain ⟨od2, J2, _⟩ := O2.look
    exact b1_same I.kIn J J2.type O.hc O.hs O.hf fin
theorem op_own (hop : op.info.2 = nm) (O : OwnOp X.K C f r nm) (F : FnOk X.prog X.w X.K X.mg X.base CX k f fd ps sp) (hrm : Room k X.A) (hb : Binds X.K fd ps []) (hx : Passes CX X E) : OpR X (binaryOp op) (rOwn C sp E) := by
  intro pins s σ H x y v u Q I rx ry h
  have one := own1 O F hrm hb hx I rx ry h
  rcases hi : op.info with ⟨sym, nm'⟩
  rw [hi] at hop
  cases hop
  simp only [binaryOp, hi]
  refine wpAny_holding (wpAny_bind (wpAny_mono one (fun o s' ho => ?_) fun _ _ e => e))
  obtain ⟨z, rfl, q⟩ := ho
  exact wpAny_pure q
theorem iop_own (hop : op.info.2 = nm) (O : OwnOp X.K C f r nm) (hn : noI X.K C nm = true) (F : FnOk X.prog X.w X.K X.mg X.base CX k f fd ps sp) (hrm : Room k X.A) (hb : Binds X.K fd ps []) (hx : Passes CX X E) : PIp X op (rOwn C sp E) := by
  intro pins s σ H x y v u Q I rx ry h
  have one := own1 O F hrm hb hx I rx ry h
  obtain ⟨a, dx, fs, rfl, ha, hy, h⟩ := h.ok
  obtain rfl : v = Value.ref a := rx
  obtain ⟨mA, O1, _⟩ := ins_get I.hok ha
  obtain ⟨od, J, _⟩ := O1.look
  subst hop
  unfold inplaceOp
  refine wpAny_holding (wpAny_bind (J.type.here (wpAny_bind ((fillsI_no I.kIn hn).here ?_))))
  simp only [Bool.false_eq_true, if_false]
  refine wpAny_bind (wpAny_mono one (fun o s' ho => ?_) fun _ _ e => e)
  obtain ⟨z, rfl, q⟩ := ho
  exact wpAny_pure q
/-- n op a: the reflected method -/
def rROwn (C : Addr) (sp : Sp) (E : XK) : R2 := fun x y H Q => Wd (∃ (i : Int) (b dy : Addr) (gs : List (Str × V)), x = .int i ∧ y = .ref b ∧ H b = some (.ins C dy gs) ∧ sp [y, x] H Q E)
theorem op_rown {id : String} {bi : Builtin} {nm2 : String} {g : Int → Int → Sem PySem.Fin} (hop : op.info.2 = nm) (O : OwnOp X.K C f r nm) (hfi : fillsNumberSlot (.type "int") nm = pure true) (slot : Slot "int" (PySem.dunder nm) id) (entry : entryFor table id = some bi)
    (args : ∀ p q, argsOk id ⟨[p, q], []⟩) (hbi : bi = Builtin.Int.intBinary nm2 g false) (F : FnOk X.prog X.w X.K X.mg X.base CX k r fd ps sp) (hrm : Room k X.A) (hb : Binds X.K fd ps []) (hx : Passes CX X E) : OpR X (binaryOp op) (rROwn C sp E) := by
  intro pins s σ H x y v u Q I rx ry h
  obtain ⟨i, b, dy, gs, rfl, rfl, hb2, h⟩ := h.ok
  obtain ⟨t, rfl⟩ := rx
  obtain rfl : u = Value.ref b := ry
  obtain ⟨mB, O2, _⟩ := ins_get I.hok hb2
  obtain ⟨od2, J2, _⟩ := O2.look
  have fin : wpAny (model X.prog X.w) X.A (call (.ref r) [.ref b, .int i t]) (PySem.W.CmpBack (EP X pins σ Q)) X.xe s :=
    thn (run_fn (us := [.ref b, .int i t]) (vs := [.ref b, .int i]) F hrm hb .nil hx I (.cons rfl (.cons ⟨t, rfl⟩ .nil)) h) fun _ _ z => back_of z
  rcases hi : op.info with ⟨sym, nm'⟩
  rw [hi] at hop
  cases hop
  subst hbi
  have one := b1_rint (prog := X.prog) (w := X.w) (A := X.A) (E := X.xe) (Q := EP X pins σ Q) I.kIn J2 O.hc O.hs O.hr O.hg hfi O.sub2 slot entry (args _ _) (int_declines J2.at_) fin
  simp only [binaryOp, hi]
  refine wpAny_holding (wpAny_bind (wpAny_mono one (fun o s' ho => ?_) fun _ _ e => e))
  obtain ⟨z, rfl, q⟩ := ho
  exact wpAny_pure q
/-- -a -/
theorem un_own (hs : PySem.W.findIn X.K (.ref C) "__neg__" = some (some (.ref f))) (hf : PySem.W.isFn X.K (.ref f) = true) (F : FnOk X.prog X.w X.K X.mg X.base CX k f fd ps sp) (hrm : Room k X.A) (hb : Binds X.K fd ps []) (hx : Passes CX X E) :
    UnR X (unaryOp .USub) (fun x H Q => Wd (∃ a dx fs, x = .ref a ∧ H a = some (.ins C dx fs) ∧ sp [x] H Q E)) := by
  intro pins s σ H x v Q I rx h
  obtain ⟨a, dx, fs, rfl, ha, h⟩ := h.ok
  obtain rfl : v = Value.ref a := rx
  obtain ⟨mA, O1, _⟩ := ins_get I.hok ha
  obtain ⟨od, J, _⟩ := O1.look
  obtain ⟨m, fr⟩ := I.fr
  exact PySem.W.ksp_neg fr I.mod.kin J hs hf (run_fn (us := [.ref a]) (vs := [.ref a]) F hrm hb .nil hx I (.cons rfl .nil) h)
theorem run_fn1 {pins : List (Addr × Obj)} {σ : L2.St} {H : Hp} {s : Shared} {Q : VK} {us : List Value} {vs : List V} (F : FnOk X.prog X.w X.K X.mg X.base CX k f fd ps sp) (hr : Room (k + 1) X.A) (hb : Binds X.K fd ps []) (hx : Passes CX X E)
    (I : Inv X pins σ H s) (rv : Vals vs us) (h : sp vs H Q E) : wpAny (model X.prog X.w) X.A.in1 (call (.ref f) us) (EP X pins σ Q) X.xe s := by
  have hl : us.length = ps.length := by rw [← rv.length]; exact F.len _ _ _ _ h
  have b := hb s us I.kIn (by rw [List.append_nil]; exact hl)
  rw [List.append_nil] at b
  refine wpAny_call (codeAny_mono (F.run X.A.in1 X.stack s H ⟨us, []⟩ us vs Q E hr.in1 I.env0.in1 b rv h) fun o s' z => ?_)
  cases o with
  | error e => exact hx pins σ H s e s' I z
  | ok fl =>
    cases fl with
    | ret u => exact I.after z
    | next => exact z.elim
    | brk => exact z.elim
    | cont => exact z.elim
/-- abs(a) -/
theorem call_absO (hs : PySem.W.findIn X.K (.ref C) "__abs__" = some (some (.ref f))) (hf : PySem.W.isFn X.K (.ref f) = true) (F : FnOk X.prog X.w X.K X.mg X.base CX k f fd ps sp) (hrm : Room (k + 1) X.A) (hb : Binds X.K fd ps []) (hx : Passes CX X E) :
    CallR X (.builtin "abs") (fun xs H Q => Wd (∃ a dx fs, xs = [.ref a] ∧ H a = some (.ins C dx fs) ∧ sp [.ref a] H Q E)) := by
  intro pins s σ H xs us Q I rv h
  obtain ⟨a, dx, fs, rfl, ha, h⟩ := h.ok
  obtain ⟨u, rfl, ru⟩ := vals1 rv
  obtain rfl : u = Value.ref a := ru
  obtain ⟨mA, O1, _⟩ := ins_get I.hok ha
  obtain ⟨od, J, _⟩ := O1.look
  refine PySem.Calls.call_function_entry kind_abs plain_abs entry_abs (args_abs _) ?_
  unfold Builtin.abs
  refine wpAny_bind (m := oneArg "abs" _) (wpAny_pure ?_)
  refine wpAny_bind (m := callSpecial? (.ref a) (Str.ofString "__abs__")) (PySem.W.special_fn I.kIn J hs (beq_iff_eq.mp hf) ?_)
  exact thn (run_fn1 (us := [.ref a]) (vs := [.ref a]) F hrm hb hx I (.cons rfl .nil) h) fun v s' z => wpAny_pure ⟨v, rfl, z⟩
def tSMeth (C : Addr) (sp : Sp) (E : XK) (ta : TE) (t : TA) : TE := fun σ H Q => ta σ H fun x H1 => x = .ref C ∧ t σ H1 fun vs H2 => sp vs H2 Q E
theorem pe_smeth {pl : Sem Bool} {p : Addr} {o e : Expr} {es : List Expr} {m : Str} {apos pos : Pos} {ta : TE} {t : TA} (he : PE X o ta) (S : SMet X.K C m p f) (F : FnOk X.prog X.w X.K X.mg X.base CX k f fd ps sp) (hrm : Room k X.A) (hb : Binds X.K fd ps [])
    (hx : Passes CX X E) (ha : PA X (e :: es) t) (hst : starEach (e :: es) X.env = (false, eval e X.env) :: starEach es X.env := by rfl) (hpl : (backTo pos (starEach es X.env)).any (·.1) = false := by rfl)
    (ht : eval (.Call (.Attribute o m apos) (e :: es) [] pos) X.env = (eval o X.env >>= fun ov => standAt apos.atName >>= fun _ => holding [ov] (getMethod ov m pl) >>= fun (f, first) =>
      callWith pos f first (backTo pos (starEach (e :: es) X.env)) (backToKw pos (keywordEach [] X.env))) := by rfl) :
    PE X (.Call (.Attribute o m apos) (e :: es) [] pos) (tSMeth C sp E ta t) := by
  refine ⟨fun pins s σ H Q I h => ?_⟩
  refine PySem.W.methodCall_KW (pl := pl) (thn (he.run pins s σ H _ I h) fun u s1 ⟨x, H1, I1, rx, ex, q⟩ => ?_) ht
  subst ex
  obtain rfl : u = Value.ref C := rx
  obtain ⟨rest, hp⟩ := S.rc
  refine PySem.W.method_cls I1.kIn S.ga (PySem.W.cls_bind I1.kIn S.rd S.at_ (wpAny_call (PySem.W.sm_get (s := { s1 with toks := s1.toks + 1 }) I1.kIn hp (PySem.W.handed_on rfl ?_))))
  have I2 := I1.tok (s1.toks + 1)
  refine PySem.W.callWith_K (first := []) (h₀ := X.base) I.ok.mod.kin S.kp (thn (ha.run pos pins _ σ H1 _ I2 q) fun us s2 ⟨vs, H2, I3, rv, q2⟩ => ⟨I3.kIn, ?_⟩) hst hpl
  exact run_fn (us := us) (vs := vs) F hrm hb .nil hx I3 rv (by rw [List.append_nil]; exact q2)
end

/-! ### lists side by side -/
section
variable {α β : Type} {R S : α → β → Prop} {xs us : List α} {ys vs : List β} {x : α} {y : β} {i : Nat}
def All2 (R : α → β → Prop) (xs : List α) (ys : List β) : Prop := xs.length = ys.length ∧ ∀ (i : Nat) x y, xs[i]? = some x → ys[i]? = some y → R x y
theorem All2.nil : All2 R [] [] := ⟨rfl, fun i x y h => by simp at h⟩
theorem All2.mono (h : All2 R xs ys) (k : ∀ x y, R x y → S x y) : All2 S xs ys := ⟨h.1, fun i x y a b => k _ _ (h.2 i x y a b)⟩
theorem All2.cons (h : R x y) (k : All2 R xs ys) : All2 R (x :: xs) (y :: ys) := ⟨by rw [List.length_cons, List.length_cons, k.1], fun i a b ha hb => by
  cases i with
  | zero => simp at ha hb; subst ha; subst hb; exact h
  | succ i => simp at ha hb; exact k.2 i a b ha hb⟩
theorem All2.one (h : R x y) : All2 R [x] [y] := .cons h .nil
theorem All2.app (h : All2 R xs ys) (k : All2 R us vs) : All2 R (xs ++ us) (ys ++ vs) := ⟨by rw [List.length_append, List.length_append, h.1, k.1], fun i a b ha hb => by
  by_cases hi : i < xs.length
  · rw [List.getElem?_append_left hi] at ha
    rw [List.getElem?_append_left (by rw [← h.1]; exact hi)] at hb
    exact h.2 i a b ha hb
  · rw [List.getElem?_append_right (by omega)] at ha
    rw [List.getElem?_append_right (by rw [← h.1]; omega), ← h.1] at hb
    exact k.2 _ a b ha hb⟩
theorem All2.take (h : All2 R xs ys) (n : Nat) : All2 R (xs.take n) (ys.take n) := ⟨by rw [List.length_take, List.length_take, h.1], fun i a b ha hb => by
  rw [List.getElem?_take] at ha hb
  by_cases hi : i < n
  · rw [if_pos hi] at ha hb
    exact h.2 i a b ha hb
  · rw [if_neg hi] at ha
    cases ha⟩
theorem All2.drop (h : All2 R xs ys) (n : Nat) : All2 R (xs.drop n) (ys.drop n) := ⟨by rw [List.length_drop, List.length_drop, h.1], fun i a b ha hb => by
  rw [List.getElem?_drop] at ha hb
  exact h.2 _ a b ha hb⟩
theorem All2.get (h : All2 R xs ys) (hi : xs[i]? = some x) : ∃ y, ys[i]? = some y ∧ R x y := by
  have hl : i < ys.length := by
    rw [← h.1]
    exact (List.getElem?_eq_some_iff.mp hi).1
  have e : ys[i]? = some ys[i] := List.getElem?_eq_getElem hl
  exact ⟨_, e, h.2 i _ _ hi e⟩
theorem take_more {α : Type} {ys : List α} {y : α} {i : Nat} (h : ys[i]? = some y) : ys.take (i + 1) = ys.take i ++ [y] := by
  rw [List.take_add_one, h]
  rfl
end
section
open PySem.Spec PyProof.Rows
variable {X : Cx}
/-- one operator, two ways to read it -/
theorem op_mix {f : Value → Value → Sem Value} {r1 r2 : R2} (h1 : OpR X f r1) (h2 : OpR X f r2) : OpR X f (fun x y H Q => Wd (r1 x y H Q ∨ r2 x y H Q)) := by
  intro pins s σ H x y v u Q I rx ry h
  rcases h.ok with h | h
  · exact h1 pins s σ H x y v u Q I rx ry h
  · exact h2 pins s σ H x y v u Q I rx ry h
theorem vals_same {A : Around} {s : Shared} {xs : List V} (hx : ∀ x ∈ xs, flatB x = true ∨ ∃ a, x = .ref a) : ∀ {us ws : List Value}, Vals xs us → Vals xs ws → ∀ j (h1 : j < us.length) (h2 : j < ws.length), SeqAt.EqAt A s us[j] ws[j] true := by
  induction xs with
  | nil =>
    intro us ws r1 r2 j h1 h2
    cases r1
    exact absurd h1 (Nat.not_lt_zero j)
  | cons x xs ih =>
    intro us ws r1 r2 j h1 h2
    cases r1 with
    | cons a1 b1 =>
      cases r2 with
      | cons a2 b2 =>
        cases j with
        | zero =>
          rcases hx x List.mem_cons_self with f | ⟨a, rfl⟩
          · exact eqAt_same a1 a2 f
          · cases a1
            cases a2
            exact SeqAt.EqAt.same _
        | succ j => exact ih (fun y hy => hx y (List.mem_cons_of_mem _ hy)) b1 b2 j (Nat.lt_of_succ_lt_succ h1) (Nat.lt_of_succ_lt_succ h2)
/-- a != b, two lists of the same items -/
theorem op_neL (hu : X.A.units + 64 < cLine) : OpR X (compareOp .NotEq) (fun x y H Q => Wd (∃ (a b : Addr) (xs : List V), x = .ref a ∧ y = .ref b ∧ SqL X.K H a xs ∧ SqL X.K H b xs ∧ (∀ x ∈ xs, flatB x = true ∨ ∃ a, x = .ref a) ∧ Q (.bl false) H)) := by
  intro pins s σ H x y v u Q I rx ry h
  obtain ⟨a, b, xs, rfl, rfl, ha, hb, hx, q⟩ := h.ok
  cases rx
  cases ry
  obtain ⟨us, r1, p1, _⟩ := I.list ha
  obtain ⟨ws, r2, p2, _⟩ := I.list hb
  have hsz : us.toArray.size = ws.toArray.size := by
    rw [List.size_toArray, List.size_toArray, ← r1.length, ← r2.length]
  have k := SeqAt.RcNeAt.lists (A := X.A) (e := fun _ => true) p1.isList p2.isList hsz (by omega) (fun j h1 h2 => by
    have k := vals_same (A := X.A.in1) (s := s) hx r1 r2 j (by simpa using h1) (by simpa using h2)
    simpa using k)
  refine k X.prog X.w _ _ ?_
  rw [show ((List.range us.toArray.size).all fun _ => true) = true from List.all_eq_true.mpr fun _ _ => rfl]
  exact ⟨.bl false, H, I, rfl, q⟩
/-- a != b, two tuples of the same items -/
theorem op_neT (hu : X.A.units + 64 < cLine) : OpR X (compareOp .NotEq) (fun x y H Q => Wd (∃ (a b : Addr) (xs : List V), x = .ref a ∧ y = .ref b ∧ SqT X.K H a xs ∧ SqT X.K H b xs ∧ (∀ x ∈ xs, flatB x = true ∨ ∃ a, x = .ref a) ∧ Q (.bl false) H)) := by
  intro pins s σ H x y v u Q I rx ry h
  obtain ⟨a, b, xs, rfl, rfl, ha, hb, hx, q⟩ := h.ok
  cases rx
  cases ry
  obtain ⟨us, r1, p1, _⟩ := I.tuple ha
  obtain ⟨ws, r2, p2, _⟩ := I.tuple hb
  have hsz : us.toArray.size = ws.toArray.size := by
    rw [List.size_toArray, List.size_toArray, ← r1.length, ← r2.length]
  have k := SeqAt.RcNeAt.tuples (A := X.A) (e := fun _ => true) p1 p2 (by omega) (fun j h1 h2 => by
    have k := vals_same (A := X.A.in1) (s := s) hx r1 r2 j (by simpa using h1) (by simpa using h2)
    simpa using k)
  refine k X.prog X.w _ _ ?_
  refine ⟨.bl false, H, I, ?_, q⟩
  show Value.bool _ = Value.bool false
  simp [hsz]
end

/-! ### == and != of data of any depth, texts of any signs -/
section
open PySem.Spec PyProof.Rows
variable {X : Cx}
def rEqP (K : PySem.W.Frag) : R2 := fun x y H Q => Wd (∃ d e, Dp K H x d ∧ Dp K H y e ∧ d.plain = true ∧ e.plain = true ∧ d.depth ≤ 64 ∧ Q (.bl (PyData.eqv d e)) H)
def rNeP (K : PySem.W.Frag) : R2 := fun x y H Q => Wd (∃ d e, Dp K H x d ∧ Dp K H y e ∧ d.plain = true ∧ e.plain = true ∧ d.depth ≤ 64 ∧ Q (.bl (!PyData.eqv d e)) H)
theorem op_eqP (hu : X.A.units + 64 < cLine) : OpR X (compareOp .Eq) (rEqP X.K) := by
  intro pins s σ H x y v u Q I rx ry h
  obtain ⟨d, e, hd, he, sd, se, dp, q⟩ := h.ok
  obtain ⟨as, r1⟩ := Dp.reads I d x v hd rx
  obtain ⟨bs, r2⟩ := Dp.reads I e y u he ry
  have := Nat.min_le_left d.depth e.depth
  exact SeqAt.eq_plain r1 r2 sd se (by omega) ⟨.bl _, H, I, rfl, q⟩
theorem op_neP (hu : X.A.units + 64 < cLine) : OpR X (compareOp .NotEq) (rNeP X.K) := by
  intro pins s σ H x y v u Q I rx ry h
  obtain ⟨d, e, hd, he, sd, se, dp, q⟩ := h.ok
  obtain ⟨as, r1⟩ := Dp.reads I d x v hd rx
  obtain ⟨bs, r2⟩ := Dp.reads I e y u he ry
  have := Nat.min_le_left d.depth e.depth
  exact SeqAt.ne_plain r1 r2 sd se (by omega) ⟨.bl _, H, I, rfl, q⟩
theorem eqP_same {K : PySem.W.Frag} {x y : V} {H : Hp} {Q : VK} {d : PyData} (hx : Dp K H x d) (hy : Dp K H y d) (hp : d.plain = true) (hd : d.depth ≤ 64) (h : Q (.bl true) H) : rEqP K x y H Q :=
  ⟨d, d, hx, hy, hp, hp, hd, by rw [SeqAt.eqv_refl_plain d hp]; exact h⟩
theorem neP_same {K : PySem.W.Frag} {x y : V} {H : Hp} {Q : VK} {d : PyData} (hx : Dp K H x d) (hy : Dp K H y d) (hp : d.plain = true) (hd : d.depth ≤ 64) (h : Q (.bl false) H) : rNeP K x y H Q :=
  ⟨d, d, hx, hy, hp, hp, hd, by rw [SeqAt.eqv_refl_plain d hp]; exact h⟩
end

/-! ### xs == [], xs != [] -/
section
open PySem.Spec PyProof.Rows
variable {X : Cx}
def rNil (K : PySem.W.Frag) (neg : Bool) : R2 := fun x y H Q => Wd (∃ (a b : Addr) (xs : List V), x = .ref a ∧ y = .ref b ∧ SqL K H a xs ∧ SqL K H b [] ∧ Q (.bl (if neg then !xs.isEmpty else xs.isEmpty)) H)
theorem nil_sizes {xs : List V} {us ws : List Value} (r1 : Vals xs us) (r2 : Vals [] ws) : us.toArray.size = xs.length ∧ ws.toArray.size = 0 := by
  cases r2
  exact ⟨by rw [List.size_toArray, r1.length], rfl⟩
theorem op_eqNil (hu : X.A.units + 64 < cLine) : OpR X (compareOp .Eq) (rNil X.K false) := by
  intro pins s σ H x y v u Q I rx ry h
  obtain ⟨a, b, xs, rfl, rfl, ha, hb, q⟩ := h.ok
  cases rx
  cases ry
  obtain ⟨us, r1, p1, _⟩ := I.list ha
  obtain ⟨ws, r2, p2, _⟩ := I.list hb
  obtain ⟨e1, e2⟩ := nil_sizes r1 r2
  cases xs with
  | nil =>
    have k := SeqAt.RcAt.lists (A := X.A) (e := fun _ => true) p1.isList p2.isList (by rw [e1, e2]; rfl) (by omega) (fun j h1 h2 => by omega)
    refine k X.prog X.w _ _ ?_
    rw [show ((List.range us.toArray.size).all fun _ => true) = true from List.all_eq_true.mpr fun _ _ => rfl]
    exact ⟨.bl true, H, I, rfl, q⟩
  | cons z zs =>
    have k := SeqAt.RcAt.lists_lengths (A := X.A) p1.isList p2.isList (by rw [e1, e2]; rfl) (by omega)
    exact k X.prog X.w _ _ ⟨.bl false, H, I, rfl, q⟩
theorem op_neNil (hu : X.A.units + 64 < cLine) : OpR X (compareOp .NotEq) (rNil X.K true) := by
  intro pins s σ H x y v u Q I rx ry h
  obtain ⟨a, b, xs, rfl, rfl, ha, hb, q⟩ := h.ok
  cases rx
  cases ry
  obtain ⟨us, r1, p1, _⟩ := I.list ha
  obtain ⟨ws, r2, p2, _⟩ := I.list hb
  obtain ⟨e1, e2⟩ := nil_sizes r1 r2
  cases xs with
  | nil =>
    have k := SeqAt.RcNeAt.lists (A := X.A) (e := fun _ => true) p1.isList p2.isList (by rw [e1, e2]; rfl) (by omega) (fun j h1 h2 => by omega)
    refine k X.prog X.w _ _ ?_
    rw [show ((List.range us.toArray.size).all fun _ => true) = true from List.all_eq_true.mpr fun _ _ => rfl]
    exact ⟨.bl false, H, I, rfl, q⟩
  | cons z zs =>
    have k := SeqAt.RcNeAt.lists_lengths (A := X.A) p1.isList p2.isList (by rw [e1, e2]; rfl) (by omega)
    exact k X.prog X.w _ _ ⟨.bl true, H, I, rfl, q⟩
end

/-! ### ratios: plain mathematics -/
def iabs (n : Int) : Int := if n < 0 then -n else n
theorem iabs_eq (n : Int) : iabs n = (n.natAbs : Int) := by
  unfold iabs
  split <;> omega
theorem gcd_turn (a b : Nat) : Nat.gcd b (a % b) = Nat.gcd a b := by
  rw [Nat.gcd_comm b (a % b), ← Nat.gcd_rec, Nat.gcd_comm]
theorem low_num {t b s : Int} (hb : b ≠ 0) (hs : s = if b < 0 then -((Int.gcd t b : Nat) : Int) else ((Int.gcd t b : Nat) : Int)) :
    s ≠ 0 ∧ s.natAbs ≤ b.natAbs ∧ t.fdiv s = (Rat.divInt t b).num ∧ b.fdiv s = ((Rat.divInt t b).den : Int) := by
  have hg : 0 < Int.gcd t b := Int.gcd_pos_of_ne_zero_right _ hb
  obtain ⟨x, hx⟩ := Int.gcd_dvd_left (a := t) (b := b)
  obtain ⟨y, hy⟩ := Int.gcd_dvd_right (a := t) (b := b)
  have e1 : (Rat.divInt t b).num = b.sign * t / ((Int.gcd t b : Nat) : Int) := by rw [Rat.num_divInt, Int.gcd_comm]
  have e2 : ((Rat.divInt t b).den : Int) = (b.natAbs : Int) / ((Int.gcd t b : Nat) : Int) := by
    rw [Rat.den_divInt, if_neg hb, Int.gcd_comm b t]
    rfl
  have hle : (Int.gcd t b) ≤ b.natAbs := Nat.le_of_dvd (by omega) (Int.gcd_dvd_natAbs_right t b)
  generalize Int.gcd t b = g at *
  have hg' : ((g : Nat) : Int) ≠ 0 := by omega
  by_cases hneg : b < 0
  · rw [if_pos hneg] at hs
    subst hs
    refine ⟨by omega, by omega, ?_, ?_⟩
    · rw [e1, Int.sign_eq_neg_one_of_neg hneg]
      have h1 : t = -(g : Int) * (-x) := by rw [Int.neg_mul_neg]; exact hx
      have h2 : -1 * t = (g : Int) * (-x) := by rw [hx, Int.mul_neg]; omega
      rw [h2, Int.mul_ediv_cancel_left _ hg']
      conv => lhs; rw [h1]
      exact Int.mul_fdiv_cancel_left _ (by omega)
    · rw [e2]
      have h0 : (b.natAbs : Int) = (g : Int) * (-y) := by rw [Int.mul_neg, ← hy]; omega
      have h1 : b = -(g : Int) * (-y) := by rw [Int.neg_mul_neg]; exact hy
      rw [h0, Int.mul_ediv_cancel_left _ hg']
      conv => lhs; rw [h1]
      exact Int.mul_fdiv_cancel_left _ (by omega)
  · rw [if_neg hneg] at hs
    subst hs
    have hpos : 0 < b := by omega
    refine ⟨by omega, by omega, ?_, ?_⟩
    · rw [e1, Int.sign_eq_one_of_pos hpos, Int.one_mul]
      conv => rhs; rw [hx]
      rw [Int.mul_ediv_cancel_left _ hg']
      conv => lhs; rw [hx]
      exact Int.mul_fdiv_cancel_left _ (by omega)
    · rw [e2]
      have h0 : (b.natAbs : Int) = (g : Int) * y := by rw [← hy]; omega
      rw [h0, Int.mul_ediv_cancel_left _ hg']
      conv => lhs; rw [hy]
      exact Int.mul_fdiv_cancel_left _ (by omega)
theorem gcd_emod {x y : Int} (hx : 0 ≤ x) (hy : 0 ≤ y) : Int.gcd y (x % y) = Int.gcd x y := by
  obtain ⟨x', rfl⟩ := Int.eq_ofNat_of_zero_le hx
  obtain ⟨y', rfl⟩ := Int.eq_ofNat_of_zero_le hy
  exact gcd_turn _ _
theorem gcd_abs (t b : Int) : Int.gcd (if t < 0 then -t else t) (if b < 0 then -b else b) = Int.gcd t b := by
  unfold Int.gcd
  rw [show (if t < 0 then -t else t).natAbs = t.natAbs by split <;> omega, show (if b < 0 then -b else b).natAbs = b.natAbs by split <;> omega]

/-! ### rules that the layer lacks -/
section
variable {X : Cx} {pos p : Pos}
def CDivZ (_ j : Int) : Prop := j ≠ 0 ∧ j.natAbs.log2 < 9000
theorem op_fdivZ : OpR X (binaryOp .FloorDiv) (rI CDivZ fun i j => .int (i.fdiv j)) := opI fun _ _ _ _ _ _ _ hc q => PyProof.Rows.floordiv_int hc.1 q (.inl (PyProof.noPylong_of_log2 hc.2))
theorem cdivz {i j : Int} {b : Int} (h : j ≠ 0) (hj : j.natAbs ≤ b.natAbs) (hb : b.natAbs < 2 ^ 9000) : CDivZ i j := ⟨h, PySem.Flt.log2_lt_of (by decide) (Nat.lt_of_le_of_lt hj hb)⟩
/-- an own exception class without own __init__, made with nothing -/
theorem pmk_own0 {C : Addr} {bmB : List Value} {B newId initId : String} {x : Str} (F : ExcBaseFacts B newId initId bmB) (q : PySem.W.excIn X.K C bmB newId = true) (gC : X.mg x = some (.ref C))
    (kC : PySem.W.keepIn X.K (.ref C) = true) (r : Raises X (.ref C)) (hg : Gl X x) (hdb : (x == ("__debug__" : Str)) = false := by decide) : PMk X (.Call (.Name x p) [] [] pos) (fun _ H Q => Q (.ref C) none H) := by
  intro pins s σ H Q I h
  refine wpAny_Call_Name_kw (ld_glob I hg gC ?_ hdb)
  refine PySem.W.callWith_K0 I.kIn kC ?_
  obtain ⟨bm, N, nm, qn, bs, hdct, sn, sub, ab, col, dd, k0, k1, k2, k3, k5, mN, hC, hN, hni, T⟩ := exc_obj I.kIn q
  exact wpAny_call_exc_subT F T hC hN hni (fun h' e hm => mk_of I hm r h (I.hok.gone hm.new)) (Nat.zero_le _)
end
/-! ### ratios in the heap -/
def rf (a b : Int) : List (Str × V) := [("top", V.int a), ("bottom", V.int b)]
theorem rf_put (a b : Int) : putF "bottom" (V.int b) (putF "top" (V.int a) []) = rf a b := by
  show (if ("top" : Str) = "bottom" then [(("top" : Str), V.int b)] else (("top" : Str), V.int a) :: putF "bottom" (V.int b) []) = rf a b
  rw [if_neg (by decide +kernel)]
  all_goals rfl
theorem rf_top (a b : Int) : (rf a b).lookup ("top" : Str) = some (.int a) := by
  rw [← rf_put, lookup_putF, if_neg (by decide +kernel), lookup_putF, if_pos rfl]
theorem rf_bottom (a b : Int) : (rf a b).lookup ("bottom" : Str) = some (.int b) := by
  rw [← rf_put, lookup_putF, if_pos rfl]
theorem rf_no (a b : Int) {m : Str} (h1 : ¬ m = "top") (h2 : ¬ m = "bottom") : (rf a b).lookup m = none := by
  rw [← rf_put, lookup_putF, if_neg h2, lookup_putF, if_neg h1]
  all_goals rfl
/-- v is the ratio q -/
def IsR (C : Addr) (H : Hp) (v : V) (q : Rat) : Prop := ∃ p dx, v = .ref p ∧ H p = some (.ins C dx (rf q.num (q.den : Int)))
theorem IsR.mono {C : Addr} {H H' : Hp} {v : V} {q : Rat} (h : IsR C H v q) (s : ∀ p dx fs, H p = some (.ins C dx fs) → H' p = some (.ins C dx fs)) : IsR C H' v q := by
  obtain ⟨p, dx, e, h⟩ := h
  exact ⟨p, dx, e, s _ _ _ h⟩
theorem IsR.same {C : Addr} {H H' : Hp} {v : V} {q : Rat} (h : IsR C H v q) (s : Same H H') : IsR C H' v q := h.mono fun _ _ _ e => s _ _ e
theorem IsR.kp {C g : Addr} {H H' : Hp} {v : V} {q : Rat} {xs : List V} (h : IsR C H v q) (hg : H g = some (.lst xs)) (s : Kp g H H') : IsR C H' v q := h.mono fun _ _ _ e => s _ _ e (ne_of e hg (by intro z; cases z))
/-- v is the number q: a ratio or an int -/
def IsN (C : Addr) (H : Hp) (v : V) (q : Rat) : Prop := IsR C H v q ∨ ∃ n : Int, v = .int n ∧ q = (n : Rat)
/-! ### promises -/
def spGcd : Sp := fun vs H Q _ => ∃ a b : Int, vs = [.int a, .int b] ∧ 0 ≤ a ∧ 0 ≤ b ∧ Q (.int ((Int.gcd a b : Nat) : Int)) H
def spRatioInit (C CE : Addr) : Sp := fun vs H Q E => ∃ (p dx : Addr) (t b : Int), vs = [.ref p, .int t, .int b] ∧ H p = some (.ins C dx []) ∧ b.natAbs < 2 ^ 9000 ∧
  (b = 0 → E (.ref CE) none H) ∧ (b ≠ 0 → Q .non (upd H p (.ins C dx (rf (Rat.divInt t b).num ((Rat.divInt t b).den : Int)))))
section
variable {P : Program} {w : World} {K : PySem.W.Frag} {mg : Str → Option Value} {base : Heap} {A : Ad}
theorem ok_f_common_divisor (T : Txt K mg A) : FnOk P w K mg base CX0 1 A.f_common_divisor A.fd_f_common_divisor P_f_common_divisor spGcd := by
  refine T.F_f_common_divisor.ok sc_f_common_divisor (fun vs H Q E h => ?_) (fun cdv Ar outer s H vs Q E hr h => ?_)
  · obtain ⟨a, b, rfl, _⟩ := h
    rfl
  · obtain ⟨a, b, rfl, ha, hb, k⟩ := h
    refine ⟨_, (pss_cons (ps_g (ps_while PassesOwn.never (pt_cmpR op_ne (pv 1) pe_int (nomark _)) (pss_one (ps_par (i := 0) (j := 1) rfl sc_f_common_divisor.nd rfl rfl (by decide) rfl rfl (pa_cons (pv 1) (pa_cons (pe_op op_mod (pv 0) (pv 1)) pa_nil)) (by rfl)))))
      (pss_one (ps_ret (pv 0)))), ?_⟩
    refine ⟨⟨fun m σ' H' => Wd (∃ x y : Int, σ' = [some (.int x), some (.int y)] ∧ 0 ≤ x ∧ 0 ≤ y ∧ y.toNat = m ∧ Int.gcd x y = Int.gcd a b ∧ H' = H), ⟨_, ⟨a, b, rfl, ha, hb, rfl, rfl, rfl⟩⟩, ?_⟩⟩
    rintro m σ' H' ⟨x, y, rfl, hx, hy, hm, hg, rfl⟩
    walk_at "go"
    refine if_intN (fun e => ?_) (fun e => ?_)
    · refine ⟨fun σ2 H2 => Wd (σ2 = [some (.int y), some (.int (x % y))] ∧ H2 = H'), ?_, ?_⟩
      · rintro σ2 H2 ⟨rfl, rfl⟩
        have h1 : 0 ≤ x % y := Int.emod_nonneg _ e
        have h2 : x % y < y := Int.emod_lt_of_pos _ (by omega)
        refine ⟨(x % y).toNat, by omega, ⟨y, x % y, rfl, hy, h1, rfl, ?_, rfl⟩⟩
        rw [← hg]
        exact gcd_emod hx hy
      · walk_at "go"
        exact ⟨rfl, rfl⟩
    · subst e
      walk_at "go"
      have e : ((Int.gcd a b : Nat) : Int) = x := by
        rw [← hg, Int.gcd_zero_right]
        omega
      rw [e] at k
      exact k
theorem ok_m_Ratio_init (T : Txt K mg A) : FnOk P w K mg base (L2.CX P w) 4 A.m_Ratio_init A.fd_m_Ratio_init P_m_Ratio_init (spRatioInit A.Ratio A.NoRatio) := by
  refine T.F_m_Ratio_init.ok sc_m_Ratio_init (fun vs H Q E h => ?_) (fun cdv Ar outer s H vs Q E hr h => ?_)
  · obtain ⟨p, dx, t, b, rfl, _⟩ := h
    rfl
  · obtain ⟨p, dx, t, b, rfl, hp, hb, kE, kQ⟩ := h
    refine ⟨_, (pss_cons (ps_if (pt_cmpR op_eq (pv 2) pe_int (nomark _)) (pss_one (ps_raise rfl (takes_of rfl rfl rfl rfl) (pmk_own0 PySem.F.excBase_ValueError T.ex_NoRatio T.g_NoRatio T.ek_NoRatio (raises_own T.eb_NoRatio T.et_NoRatio) (by rfl)))) pss_nil)
      (pss_cons (ps_set (i := 3) sc_m_Ratio_init.nd rfl (Or.inl rfl) (pe_call (ok_f_common_divisor T) (hr.mono (by decide)) (by rfl) T.g_common_divisor T.F_f_common_divisor.kp T.b_f_common_divisor .nil pass0 (pa_cons (pe_callB call_abs (by rfl) T.z_abs (by decide +kernel) (pa_cons (pv 1) pa_nil)) (pa_cons (pe_callB call_abs (by rfl) T.z_abs (by decide +kernel) (pa_cons (pv 2) pa_nil)) pa_nil))))
      (pss_g (Evl.pss_cut (ps_if (pt_cmpR op_lt (pv 2) pe_int (nomark _)) (pss_one (ps_set (i := 3) sc_m_Ratio_init.nd rfl (Or.inl rfl) (pe_un un_neg (pv 3)))) pss_nil)
      (pss_cons (ps_fld (pv 0) (pe_op op_fdivZ (pv 1) (pv 3)) rfl)
      (pss_one (ps_fld (pv 0) (pe_op op_fdivZ (pv 2) (pv 3)) rfl))))))), ?_⟩
    walk_at "go"
    refine if_int (fun e => ?_) (fun e => ?_)
    · exact kE e
    · walk_at "go"
      refine ⟨⟨fun σ' H' => Wd (σ' = [some (.ref p), some (.int t), some (.int b), some (.int (if b < 0 then -((Int.gcd t b : Nat) : Int) else ((Int.gcd t b : Nat) : Int)))] ∧ H' = H), ?_, ?_⟩⟩
      · have eg := gcd_abs t b
        walk_at "go"
        refine if_dec (fun e1 => ?_) (fun e1 => ?_)
        · walk_at "go"
          refine ⟨?_, rfl⟩
          rw [eg, if_pos e1]
          rfl
        · refine ⟨?_, rfl⟩
          rw [eg, if_neg e1]
          rfl
      · rintro σ' H' ⟨rfl, rfl⟩
        obtain ⟨h0, h1, h2, h3⟩ := low_num (t := t) e rfl
        generalize (if b < 0 then -((Int.gcd t b : Nat) : Int) else ((Int.gcd t b : Nat) : Int)) = s at *
        have hz : ∀ i, CDivZ i s := fun i => cdivz h0 h1 hb
        have n1 := T.n_Ratio_top
        have n2 := T.n_Ratio_bottom
        have n3 := T.cl_Ratio
        refine ⟨_, rfl, _, rfl, _, _, rfl, rfl, hz _, _, rfl, p, A.Ratio, dx, [], rfl, hp, n3, n1, (by show 0 < 1000; decide), ?_⟩
        refine ⟨_, rfl, _, rfl, _, _, rfl, rfl, hz _, _, rfl, p, A.Ratio, dx, _, rfl, upd_same, n3, n2, (by show 1 < 1000; decide), ?_⟩
        dsimp only
        rw [upd_upd, h2, h3, rf_put]
        exact kQ e
end

/-! ### the law's own helpers: bag, integer, divisor, lowest -/
def spBag (K : PySem.W.Frag) : Sp := fun vs H Q _ => ∃ (a : Addr) (ns : List Int), vs = [.ref a] ∧ SqL K H a (ns.map V.int) ∧ ∀ (g l : Addr) (H' : Hp), Same H H' → H g = none → H l = none → Bag H' g l → Q (.ref g) H'
def spInteger : Sp := fun vs H Q _ => ∃ g l : Addr, vs = [.ref g] ∧ Bag H g l ∧ ∀ (n : Int) (H' : Hp), n.natAbs ≤ 10 ^ 49 → Bag H' g l → Kp g H H' → Q (.int n) H'
def spLowest : Sp := fun vs H Q _ => ∃ t b : Int, vs = [.int t, .int b] ∧ b ≠ 0 ∧ b.natAbs < 2 ^ 9000 ∧ ∀ p, H p = none → Q (.ref p) (upd H p (.tup [.int (Rat.divInt t b).num, .int ((Rat.divInt t b).den : Int)]))
theorem Bag.keep {H H' : Hp} {g l : Addr} (b : Bag H g l) (s : Same H H') : Bag H' g l := by
  obtain ⟨i, r, sd, c, ns, hg, hl, hi⟩ := b
  exact ⟨i, r, sd, c, ns, s _ _ hg, s _ _ hl, hi⟩
theorem Bag.lst {H : Hp} {g l : Addr} (b : Bag H g l) : ∃ xs, H g = some (.lst xs) := by
  obtain ⟨i, r, sd, c, ns, hg, hl, hi⟩ := b
  exact ⟨_, hg⟩
theorem Bag.ne {H : Hp} {g l p : Addr} (b : Bag H g l) (hp : H p = none) : p ≠ g ∧ p ≠ l := by
  obtain ⟨i, r, sd, c, ns, hg, hl, hi⟩ := b
  exact ⟨(ne_of_none hg hp).symm, (ne_of_none hl hp).symm⟩
/-- a bag stands where nothing of it is written -/
theorem Bag.put {H : Hp} {g l p : Addr} {o : HO} (b : Bag H g l) (n : p ≠ g ∧ p ≠ l) : Bag (upd H p o) g l := by
  obtain ⟨i, r, sd, c, ns, hg, hl, hi⟩ := b
  exact ⟨i, r, sd, c, ns, by rw [upd_ne n.1.symm]; exact hg, by rw [upd_ne n.2.symm]; exact hl, hi⟩
theorem Bag.new {H : Hp} {g l p : Addr} {o : HO} (b : Bag H g l) (hp : H p = none) : Bag (upd H p o) g l := b.keep fun c u e => by
  rw [upd_ne (ne_of_none e hp)]
  exact e
theorem Kp.new {g p : Addr} {H H' : Hp} {o : HO} (k : Kp g H H') (hp : H' p = none) : Kp g H (upd H' p o) := fun b u e n => by
  have e1 := k b u e n
  rw [upd_ne (ne_of_none e1 hp)]
  exact e1
theorem Kp.put {g p : Addr} {H H' : Hp} {o : HO} (k : Kp g H H') (hp : H p = none) : Kp g H (upd H' p o) := fun b u e n => by
  rw [upd_ne (ne_of_none e hp)]
  exact k b u e n
theorem Kp.same {g : Addr} {H H' : Hp} (s : Same H H') : Kp g H H' := fun b u e _ => s b u e
theorem Same.new {H : Hp} {p : Addr} {o : HO} (hp : H p = none) : Same H (upd H p o) := fun b u e => by
  rw [upd_ne (ne_of_none e hp)]
  exact e
theorem size_at {c : Int} (h0 : 0 ≤ c) (h6 : c < 6) (hc : c ≠ 0) : ∃ z : Int, atI [V.int 1, V.int 2, V.int 3, V.int 12, V.int 1000, V.int (10 ^ (49 : Int).toNat)] c = some (.int z) ∧ 0 < z ∧ z ≤ 10 ^ 49 := by
  have : c = 1 ∨ c = 2 ∨ c = 3 ∨ c = 4 ∨ c = 5 := by omega
  rcases this with rfl | rfl | rfl | rfl | rfl
  · exact ⟨2, rfl, by decide, by decide⟩
  · exact ⟨3, rfl, by decide, by decide⟩
  · exact ⟨12, rfl, by decide, by decide⟩
  · exact ⟨1000, rfl, by decide, by decide⟩
  · exact ⟨10 ^ 49, rfl, by decide, by decide⟩
theorem big49 : (10 : Nat) ^ 49 < 2 ^ 200 := by decide
theorem pow_mono {a b : Nat} (h : a ≤ b) : (2 : Nat) ^ a ≤ 2 ^ b := Nat.pow_le_pow_right (by decide) h
theorem lt_pow {n a b : Nat} (h : n < 2 ^ a) (hab : a ≤ b) : n < 2 ^ b := Nat.lt_of_lt_of_le h (pow_mono hab)
theorem lt200 {n : Nat} (h : n ≤ 10 ^ 49) : n < 2 ^ 200 := Nat.lt_of_le_of_lt h big49
theorem lt9000 {n : Nat} (h : n ≤ 10 ^ 49) : n < 2 ^ 9000 := lt_pow (lt200 h) (by decide)
def spLaw (K : PySem.W.Frag) : Sp := fun vs H Q _ => ∃ (a : Addr) (ns : List Int), vs = [.ref a] ∧ SqL K H a (ns.map V.int) ∧ ns.length ≤ 63 ∧ ∀ H', Q (.bl true) H'
theorem neD_same {K : PySem.W.Frag} {H : Hp} {p q : Addr} {a b : Int} {Q : VK} (hp : H p = some (.tup [.int a, .int b])) (hq : H q = some (.tup [.int a, .int b])) (h : Q (.bl false) H) : rNeD K (.ref p) (.ref q) H Q := by
  refine ⟨.tuple [.int a, .int b], .tuple [.int a, .int b], .tup (SqT.of hp) (.cons (.int a) (.cons (.int b) .nil)), .tup (SqT.of hq) (.cons (.int a) (.cons (.int b) .nil)), rfl, rfl, ?_⟩
  have e : PyData.eqv (.tuple [.int a, .int b]) (.tuple [.int a, .int b]) = true := by simp [PyData.eqv, PyData.eqvAll]
  rw [e]
  exact h
theorem or_go {K : PySem.W.Frag} {H : Hp} {σ : L2.St} {Q : VK} {n d : Int} (hd : d ≠ 0) (h : ∀ m : Int, m ≠ 0 → (m = n ∨ m = d) → Q (.int m) H) : ∃ k, TruV K (.int n) H k ∧ if k = true then Q (.int n) H else tC (.int d) σ H Q := by
  by_cases e : n = 0
  · exact ⟨false, by rw [e]; rfl, iteF (h d hd (.inr rfl))⟩
  · exact ⟨true, (show true = (n != 0) by simp [e]), iteT (h n e (.inl rfl))⟩
theorem kit_self {K : PySem.W.Frag} {C : Addr} : PySem.W.kitOne K (.ref C) (.ref C) = some true := by simp [PySem.W.kitOne]
def spNumber : Sp := fun vs H Q _ => ∃ n : Int, vs = [.int n] ∧ Q (.bl true) H
section
variable {P : Program} {w : World} {K : PySem.W.Frag} {mg : Str → Option Value} {base : Heap} {A : Ad}
theorem ok_l_bag (T : Txt K mg A) : FnOk P w K mg base CX0 1 A.l_bag A.fd_l_bag P_l_bag (spBag K) := by
  refine T.F_l_bag.ok sc_l_bag (fun vs H Q E h => ?_) (fun cdv Ar outer s H vs Q E hr h => ?_)
  · obtain ⟨a, ns, rfl, _⟩ := h
    rfl
  · obtain ⟨a, ns, rfl, hS, k⟩ := h
    refine ⟨_, (pss_one (ps_ret (pe_lst (pa_cons (pe_callTy call_list_of (by rfl) T.z_list (by decide +kernel) (pa_cons (pv 0) pa_nil)) (pa_cons pe_int (pa_cons pe_int (pa_cons pe_int (pa_cons pe_int pa_nil)))))))), ?_⟩
    refine ⟨_, rfl, a, _, rfl, .inl hS, fun l hl => ⟨by walk_at "fact", fun g hg => ?_⟩⟩
    have nlg : l ≠ g := fun z => by
      rw [z, upd_same] at hg
      cases hg
    have hg0 : H g = none := by
      rw [upd_ne nlg.symm] at hg
      exact hg
    exact k g l _ ((Same.new hl).trans (Same.new hg)) hg0 hl ⟨0, 0, 17, 0, ns, upd_same, by rw [upd_ne nlg]; exact upd_same, by decide⟩
end

theorem Same.at_new {H H' : Hp} {D : Addr} {o : HO} (hD : H D = none) (s : Same H H') : Same H (upd H' D o) := fun b u e => by
  rw [upd_ne (ne_of_none e hD)]
  exact s b u e
/-- [.. for .. in a list], its parts keep what stands -/
theorem lc_same {K : PySem.W.Frag} {a : Addr} {xs : List V} {g : TG} {tt : TT} {te : TE} {vs : List Nat} {σ : L2.St} {H1 : Hp} {D : Addr} {Qd : Hp → Prop} (f : Nat → V) (hl : H1 a = some (.lst xs)) (hz : xs.length ≤ 1000) (hD : H1 D = none)
    (hs : ∀ i x H' (N : VK) (M : Hp → Prop), xs[i]? = some x → Same H1 H' → (∀ H4, Same H' H4 → N (f i) H4) → g x (wipe σ vs) H' fun σ2 H2 => wipe σ2 vs = wipe σ vs ∧ tt σ2 H2 fun b H3 => if b = true then te σ2 H3 N else M H3)
    (hd : ∀ H', Same H1 H' → H' D = some (.lst ((List.range xs.length).map f)) → Qd H') :
    ∃ W : Nat → Nat → Hp → Prop, (∃ m, W 0 m (upd H1 D (.lst []))) ∧ ∀ i m H, W i m H →
      ((Itl K a).stop i H ∧ Qd H) ∨ ((Itl K a).go i H ∧ ∃ Nx : Hp → Prop, (∀ H', Nx H' → ∃ m', m' < m ∧ W (i + 1) m' H') ∧ ∀ x H', (Itl K a).yld i H x H' → g x (wipe σ vs) H' fun σ2 H2 => wipe σ2 vs = wipe σ vs ∧ tt σ2 H2 fun b H3 =>
        if b = true then te σ2 H3 fun y H4 => ∃ acc, H4 D = some (.lst acc) ∧ acc.length < sizeLine ∧ Nx (upd H4 D (.lst (acc ++ [y]))) else Nx H3) := by
  refine lc_list (K := K) (a := a) (xs := xs) (fun i H' => Wd (Same H1 H' ∧ H' D = some (.lst ((List.range i).map f)))) ⟨Same.new hD, upd_same⟩ (fun i H' _ h => SqL.of (h.ok.1 _ _ hl)) ?_ (fun H' h => hd H' h.ok.1 h.ok.2)
  rintro i x H' hi ⟨s, hd'⟩
  refine hs i x H' _ _ hi s fun H4 s4 => ⟨_, s4 _ _ hd', ?_, Same.at_new hD (s.trans s4), ?_⟩
  · rw [List.length_map, List.length_range]
    have := (List.getElem?_eq_some_iff.mp hi).1
    exact Nat.lt_of_lt_of_le (Nat.lt_of_lt_of_le this hz) (by decide)
  · rw [upd_same, List.range_succ, List.map_append]
    rfl
theorem Same.none {H H' : Hp} {p : Addr} (s : Same H H') (h : H' p = none) : H p = none := by
  cases e : H p with
  | none => rfl
  | some o =>
    rw [s _ _ e] at h
    cases h

/-- what stands anywhere but at the list D is kept -/
theorem kp_of_same {D : Addr} {H H' : Hp} (s : Same H H') : Kp D H H' := fun b o e _ => s b o e
/-- [.. for .. in a list], its parts keep what stands; R tells of each item that is made -/
theorem lc_sameP {K : PySem.W.Frag} {a : Addr} {xs : List V} {g : TG} {tt : TT} {te : TE} {vs : List Nat} {σ : L2.St} {H1 : Hp} {D : Addr} {Qd : Hp → Prop} (R : Nat → V → Hp → Prop) (hl : H1 a = some (.lst xs)) (hz : xs.length ≤ 1000) (hD : H1 D = none)
    (mono : ∀ i y H H' acc, H D = some (.lst acc) → Kp D H H' → R i y H → R i y H')
    (hs : ∀ i x H' (N : VK) (M : Hp → Prop), xs[i]? = some x → Same H1 H' → (∀ y H4, Same H' H4 → R i y H4 → N y H4) → g x (wipe σ vs) H' fun σ2 H2 => wipe σ2 vs = wipe σ vs ∧ tt σ2 H2 fun b H3 => if b = true then te σ2 H3 N else M H3)
    (hd : ∀ ys H', Same H1 H' → ys.length = xs.length → (∀ i y, ys[i]? = some y → R i y H') → H' D = some (.lst ys) → Qd H') :
    ∃ W : Nat → Nat → Hp → Prop, (∃ m, W 0 m (upd H1 D (.lst []))) ∧ ∀ i m H, W i m H →
      ((Itl K a).stop i H ∧ Qd H) ∨ ((Itl K a).go i H ∧ ∃ Nx : Hp → Prop, (∀ H', Nx H' → ∃ m', m' < m ∧ W (i + 1) m' H') ∧ ∀ x H', (Itl K a).yld i H x H' → g x (wipe σ vs) H' fun σ2 H2 => wipe σ2 vs = wipe σ vs ∧ tt σ2 H2 fun b H3 =>
        if b = true then te σ2 H3 fun y H4 => ∃ acc, H4 D = some (.lst acc) ∧ acc.length < sizeLine ∧ Nx (upd H4 D (.lst (acc ++ [y]))) else Nx H3) := by
  refine lc_list (K := K) (a := a) (xs := xs) (fun i H' => Wd (∃ ys : List V, Same H1 H' ∧ ys.length = i ∧ H' D = some (.lst ys) ∧ ∀ j y, ys[j]? = some y → R j y H')) ⟨[], Same.new hD, rfl, upd_same, fun j y h => by cases h⟩ (fun i H' _ h => ?_) ?_ (fun H' h => ?_)
  · obtain ⟨ys, s, _⟩ := h.ok
    exact SqL.of (s _ _ hl)
  · rintro i x H' hi ⟨ys, s, hyl, hd', hR⟩
    refine hs i x H' _ _ hi s fun y H4 s4 r4 => ⟨_, s4 _ _ hd', ?_, ys ++ [y], Same.at_new hD (s.trans s4), ?_, upd_same, fun j z hz => ?_⟩
    · rw [hyl]
      have := (List.getElem?_eq_some_iff.mp hi).1
      exact Nat.lt_of_lt_of_le (Nat.lt_of_lt_of_le this hz) (by decide)
    · rw [List.length_append, hyl]
      rfl
    · have kp : Kp D H4 (upd H4 D (.lst (ys ++ [y]))) := (Kp.refl D H4).up
      rw [List.getElem?_append] at hz
      split at hz
      · exact mono _ _ _ _ _ (s4 _ _ hd') kp (mono _ _ _ _ _ hd' (kp_of_same s4) (hR j z hz))
      · have e : j - ys.length = 0 := by
          cases e : j - ys.length with
          | zero => rfl
          | succ n => rw [e] at hz; cases hz
        rw [e] at hz
        cases hz
        have : j = i := by omega
        subst this
        exact mono _ _ _ _ _ (s4 _ _ hd') kp r4
  · obtain ⟨ys, s, hyl, hd', hR⟩ := h.ok
    exact hd ys H' s hyl hR hd'
/-- an if by a question whose answer is p; the heap may grow -/
theorem tIf_of {t : TT} {a b : TS} {D : Ends} {σ : L2.St} {H : Hp} {p : Prop} (ht : ∀ Q : Bool → Hp → Prop, (∀ H', Same H H' → p → Q true H') → (∀ H', Same H H' → ¬ p → Q false H') → t σ H Q) (ha : ∀ H', Same H H' → p → a D σ H') (hb : ∀ H', Same H H' → ¬ p → b D σ H') : tIfS t a b D σ H :=
  ht _ (fun H' s hp => iteT (ha H' s hp)) (fun H' s hn => iteF (hb H' s hn))
theorem q_dec {p : Prop} [Decidable p] {Q : Bool → Hp → Prop} {H : Hp} (h1 : p → Q true H) (h2 : ¬ p → Q false H) : Q (decide p) H := by
  by_cases e : p
  · rw [decide_eq_true e]
    exact h1 e
  · rw [decide_eq_false e]
    exact h2 e

/-! ### the __init__ of the errors -/
/-- C.__init__(self, v, ..): the error gets its dict; fs: the fields, the last one first -/
def spExcF (C : Addr) (n : Nat) (fs : List V → List (Str × V)) : Sp := fun vs H Q _ => ∃ (a : Addr) (ws : List V), vs = .ref a :: ws ∧ ws.length = n ∧ H a = some (exo a C none) ∧
  ∀ (d : Addr) (H' : Hp), H d = none → d ≠ a → (∀ b o, H b = some o → b ≠ a → H' b = some o) → H' a = some (exo a C (some d)) → H' d = some (exd d (fs ws)) → Q .non H'
section
variable {P : Program} {w : World} {K : PySem.W.Frag} {mg : Str → Option Value} {base : Heap} {A : Ad}
def fs_BadRule : List V → List (Str × V)
  | [v0] => [("word", v0)]
  | _ => []
theorem ok_m_BadRule_init (T : Txt K mg A) : FnOk P w K mg base CX0 3 A.m_BadRule_init A.fd_m_BadRule_init P_m_BadRule_init (spExcF A.BadRule 1 fs_BadRule) := by
  refine T.F_m_BadRule_init.ok sc_m_BadRule_init (fun vs H Q E h => ?_) (fun cdv Ar outer s H vs Q E hr h => ?_)
  · obtain ⟨a, ws, rfl, hl, _⟩ := h
    rw [List.length_cons, hl]
    rfl
  · obtain ⟨a, ws, rfl, hl, ha, k⟩ := h
    match ws, hl with
    | [v0], _ =>
      refine ⟨_, (pss_cons (ps_expr (pe_ceinit (by rfl) T.g_CostError T.rd_CostError T.cg_CostError T.vi_CostError (pa_cons (pv 0) (pa_cons pe_str pa_nil))))
      (pss_one (ps_ost (pv 0) (pv 1)))), ?_⟩
      refine ⟨_, rfl, a, A.BadRule, _, rfl, by show 1 ≤ 1000; decide, T.ox_BadRule, ha, ?_⟩
      refine ⟨_, rfl, _, rfl, a, A.BadRule, rfl, T.ox_BadRule, T.n_BadRule_word, .inl ⟨ha, fun d hd nd => ?_⟩⟩
      have ea : upd (upd H d (exd d [("word", v0)])) a (exo a A.BadRule (some d)) a = some (exo a A.BadRule (some d)) := upd_same
      have ed : upd (upd H d (exd d [("word", v0)])) a (exo a A.BadRule (some d)) d = some (exd d [("word", v0)]) := by rw [upd_ne nd, upd_same]
      exact k d _ hd nd (fun b o e n => by rw [upd_ne n, upd_ne (ne_of_none e hd)]; exact e) ea ed
def fs_Short : List V → List (Str × V)
  | [v0] => [("missing", v0)]
  | _ => []
theorem ok_m_Short_init (T : Txt K mg A) : FnOk P w K mg base CX0 3 A.m_Short_init A.fd_m_Short_init P_m_Short_init (spExcF A.Short 1 fs_Short) := by
  refine T.F_m_Short_init.ok sc_m_Short_init (fun vs H Q E h => ?_) (fun cdv Ar outer s H vs Q E hr h => ?_)
  · obtain ⟨a, ws, rfl, hl, _⟩ := h
    rw [List.length_cons, hl]
    rfl
  · obtain ⟨a, ws, rfl, hl, ha, k⟩ := h
    match ws, hl with
    | [v0], _ =>
      refine ⟨_, (pss_cons (ps_expr (pe_ceinit (by rfl) T.g_CostError T.rd_CostError T.cg_CostError T.vi_CostError (pa_cons (pv 0) (pa_cons pe_str pa_nil))))
      (pss_one (ps_ost (pv 0) (pv 1)))), ?_⟩
      refine ⟨_, rfl, a, A.Short, _, rfl, by show 1 ≤ 1000; decide, T.ox_Short, ha, ?_⟩
      refine ⟨_, rfl, _, rfl, a, A.Short, rfl, T.ox_Short, T.n_Short_missing, .inl ⟨ha, fun d hd nd => ?_⟩⟩
      have ea : upd (upd H d (exd d [("missing", v0)])) a (exo a A.Short (some d)) a = some (exo a A.Short (some d)) := upd_same
      have ed : upd (upd H d (exd d [("missing", v0)])) a (exo a A.Short (some d)) d = some (exd d [("missing", v0)]) := by rw [upd_ne nd, upd_same]
      exact k d _ hd nd (fun b o e n => by rw [upd_ne n, upd_ne (ne_of_none e hd)]; exact e) ea ed
end

/-! ### ratios: halves, over -/
def Sz (n : Nat) (q : Rat) : Prop := q.num.natAbs < 2 ^ n ∧ q.den < 2 ^ n
theorem Sz.mono {a b : Nat} {q : Rat} (h : Sz a q) (hab : a ≤ b) : Sz b q := ⟨lt_pow h.1 hab, lt_pow h.2 hab⟩
theorem Sz.int {n : Nat} {i : Int} (h : i.natAbs < 2 ^ n) (hn : 0 < n) : Sz n (i : Rat) := ⟨h, by
  show 1 < 2 ^ n
  exact Nat.lt_of_lt_of_le (by decide) (pow_mono (a := 1) hn)⟩
theorem num_le {t b : Int} : (Rat.divInt t b).num.natAbs ≤ t.natAbs := by
  rw [Rat.num_divInt]
  by_cases hb : b = 0
  · subst hb
    simp
  · have h1 : (b.sign * t / ((b.gcd t : Nat) : Int)).natAbs ≤ (b.sign * t).natAbs := Int.natAbs_ediv_le_natAbs _ _
    rw [Int.natAbs_mul, Int.natAbs_sign_of_ne_zero hb, Nat.one_mul] at h1
    exact h1
theorem den_le {t b : Int} (hb : b ≠ 0) : (Rat.divInt t b).den ≤ b.natAbs := by
  rw [Rat.den_divInt, if_neg hb]
  exact Nat.div_le_self _ _
theorem Sz.div {n : Nat} {t b : Int} (ht : t.natAbs < 2 ^ n) (hb : b.natAbs < 2 ^ n) (h0 : b ≠ 0) : Sz n (Rat.divInt t b) := ⟨Nat.lt_of_le_of_lt num_le ht, Nat.lt_of_le_of_lt (den_le h0) hb⟩
theorem mulw {i j : Int} {a b : Nat} (hi : i.natAbs < 2 ^ a) (hj : j.natAbs < 2 ^ b) (h : a + b ≤ 900000) : CMulW i j :=
  wide_mul (a := a + 1) (b := b + 1) (lt_pow hi (by omega)) (lt_pow hj (by omega)) (by omega) (by omega) (by omega)
theorem mul_lt {i j : Int} {a b : Nat} (hi : i.natAbs < 2 ^ a) (hj : j.natAbs < 2 ^ b) : (i * j).natAbs < 2 ^ (a + b) := wide_lt hi hj
theorem quot_eq {q r : Rat} : Rat.divInt (q.num * (r.den : Int)) ((q.den : Int) * r.num) = q / r := by
  rw [Rat.div_def, Rat.inv_def, ← Rat.divInt_mul_divInt, Rat.num_divInt_den]
theorem same_make {H : Hp} {x dx C : Addr} {fs fs' : List (Str × V)} (hx : H x = none) (hd : H dx = none) : Same H (upd (upd (upd H dx (.own x)) x (.ins C dx fs)) x (.ins C dx fs')) := fun b o e => by
  rw [upd_ne (ne_of_none e hx), upd_ne (ne_of_none e hx), upd_ne (ne_of_none e hd)]
  exact e
theorem same_make1 {H : Hp} {x dx C : Addr} {fs : List (Str × V)} (hx : H x = none) (hd : H dx = none) : Same H (upd (upd H dx (.own x)) x (.ins C dx fs)) := fun b o e => by
  rw [upd_ne (ne_of_none e hx), upd_ne (ne_of_none e hd)]
  exact e
theorem mk_ratio {C CE x dx : Addr} {H : Hp} {t b : Int} {R : VK} {E : XK} (hx : H x = none) (hd : H dx = none) (hb : b.natAbs < 2 ^ 9000) (h0 : b = 0 → ∀ H', Same H H' → E (.ref CE) none H')
    (h1 : b ≠ 0 → ∀ H', Same H H' → IsR C H' (.ref x) (Rat.divInt t b) → R .non H') : spRatioInit C CE [.ref x, .int t, .int b] (upd (upd H dx (.own x)) x (.ins C dx [])) R E :=
  ⟨x, dx, t, b, rfl, upd_same, hb, fun e => h0 e _ (same_make1 hx hd), fun e => h1 e _ (same_make hx hd) ⟨x, dx, rfl, upd_same⟩⟩
def spHalves (C : Addr) : Sp := fun vs H Q _ => ∃ (v : V) (q : Rat), vs = [v] ∧ IsN C H v q ∧ ∀ p, H p = none → Q (.ref p) (upd H p (.tup [.int q.num, .int (q.den : Int)]))
def spOver (C CE : Addr) : Sp := fun vs H Q E => ∃ (v u : V) (q r : Rat) (a b : Nat), vs = [v, u] ∧ IsR C H v q ∧ IsN C H u r ∧ Sz a q ∧ Sz b r ∧ a + b ≤ 9000 ∧
  (r = 0 → ∀ H', Same H H' → E (.ref CE) none H') ∧ (r ≠ 0 → ∀ v' H', Same H H' → IsR C H' v' (q / r) → Q v' H')
section
variable {P : Program} {w : World} {K : PySem.W.Frag} {mg : Str → Option Value} {base : Heap} {A : Ad}
theorem ty_ratio (T : Txt K mg A) {H : Hp} {p dx : Addr} {fs : List (Str × V)} (h : H p = some (.ins A.Ratio dx fs)) : TyX K H (.ref p) (.ref A.Ratio) := .base (.ins h T.cl_Ratio T.tc_Ratio T.tn_Ratio T.tk_Ratio T.tm_Ratio)
theorem ok_f_halves (T : Txt K mg A) : FnOk P w K mg base CX0 1 A.f_halves A.fd_f_halves P_f_halves (spHalves A.Ratio) := by
  refine T.F_f_halves.ok sc_f_halves (fun vs H Q E h => ?_) (fun cdv Ar outer s H vs Q E hr h => ?_)
  · obtain ⟨v, q, rfl, _⟩ := h
    rfl
  · obtain ⟨v, q, rfl, hN, k⟩ := h
    refine ⟨_, (pss_cons (ps_if (pt_val (pe_callB call_isi (by rfl) T.z_isinstance (by decide +kernel) (pa_cons (pv 0) (pa_cons (pe_bltn (v := .ty "int") (by rfl) T.z_int (by decide +kernel) rfl) pa_nil)))) (pss_one (ps_ret (pe_tup (pa_cons (pv 0) (pa_cons pe_int pa_nil))))) pss_nil)
      (pss_one (ps_ret (pe_tup (pa_cons (pe_fld (pv 0) rfl) (pa_cons (pe_fld (pv 0) rfl) pa_nil)))))), ?_⟩
    rcases hN with ⟨p, dx, rfl, hp⟩ | ⟨n, rfl, rfl⟩
    · have n1 := T.n_Ratio_top
      have n2 := T.n_Ratio_bottom
      have n3 := T.cl_Ratio
      refine ⟨_, rfl, _, _, _, _, _, rfl, .ty "int", ty_ratio T hp, T.ki_Ratio, _, rfl, iteF ?_⟩
      exact ⟨_, rfl, p, _, dx, _, _, rfl, hp, n3, n1, rf_top _ _, _, rfl, p, _, dx, _, _, rfl, hp, n3, n2, rf_bottom _ _, by walk_at "fact", k⟩
    · refine ⟨_, rfl, _, _, _, _, _, rfl, .ty "int", .base (.int n), kit_ty (by decide +kernel), _, rfl, iteT ?_⟩
      exact ⟨_, rfl, by walk_at "fact", k⟩
theorem ok_m_Ratio_over (T : Txt K mg A) : FnOk P w K mg base (L2.CX P w) 6 A.m_Ratio_over A.fd_m_Ratio_over P_m_Ratio_over (spOver A.Ratio A.NoRatio) := by
  refine T.F_m_Ratio_over.okX sc_m_Ratio_over (fun vs H Q E h => ?_) (fun cdv Ar outer s H vs Q E hr h => ?_)
  · obtain ⟨v, u, q, r, a, b, rfl, _⟩ := h
    rfl
  · obtain ⟨v, u, q, r, a, b, rfl, ⟨p, dx, rfl, hp⟩, hu, sq, sr, hab, kE, kQ⟩ := h
    have n1 := T.n_Ratio_top
    have n2 := T.n_Ratio_bottom
    have n3 := T.cl_Ratio
    refine ⟨_, (pss_cons (ps_asg (pe_call (ok_f_halves T) (hr.mono (by decide)) (by rfl) T.g_halves T.F_f_halves.kp T.b_f_halves .nil pass0 (pa_cons (pv 1) pa_nil)) (pg_tup (n := 2) rfl (pgs_cons (pg_name (i := 2) sc_m_Ratio_over.nd rfl (Or.inl rfl)) (pgs_cons (pg_name (i := 3) sc_m_Ratio_over.nd rfl (Or.inl rfl)) pgs_nil))))
      (pss_one (ps_ret (pe_make T.mk_Ratio (ok_m_Ratio_init T) (hr.mono (by decide)) (by rfl) T.g_Ratio T.b_m_Ratio_init .nil (E := E) (passes_call (takes_of rfl rfl rfl rfl) (fun _ _ _ _ h => h)) (pa_cons (pe_op op_mulW (pe_fld (pv 0) rfl) (pv 3)) (pa_cons (pe_op op_mulW (pe_fld (pv 0) rfl) (pv 2)) pa_nil)))))), ?_⟩
    refine ⟨_, rfl, u, r, rfl, hu, fun t ht => ?_⟩
    have npt : p ≠ t := ne_of_none hp ht
    have hp' : ∀ o, upd H t o p = some (.ins A.Ratio dx (rf q.num (q.den : Int))) := fun o => by
      rw [upd_ne npt]
      exact hp
    refine ⟨t, _, rfl, SqT.of upd_same, rfl, _, _, rfl, _, _, rfl, rfl, ?_⟩
    refine ⟨_, rfl, p, _, dx, _, _, rfl, hp' _, n3, n1, rf_top _ _, _, rfl, _, _, rfl, rfl, mulw sq.1 sr.2 (by omega), _, rfl, p, _, dx, _, _, rfl, hp' _, n3, n2, rf_bottom _ _, _, rfl, _, _, rfl, rfl, mulw sq.2 sr.1 (by omega), ?_⟩
    have hd : (q.den : Int) ≠ 0 := by
      have := q.den_nz
      omega
    intro x dx' hx hd' _
    refine mk_ratio hx hd' (lt_pow (mul_lt sq.2 sr.1) hab) (fun e H' s => ?_) (fun e H' s i => ⟨rfl, ?_⟩)
    · have e2 : r.num = 0 := (Int.mul_eq_zero.mp e).resolve_left hd
      exact kE (Rat.num_eq_zero.mp e2) H' ((Same.new ht).trans s)
    · have e2 : r ≠ 0 := fun z => by
        rw [z] at e
        exact e (Int.mul_zero _)
      rw [quot_eq] at i
      exact kQ e2 _ H' ((Same.new ht).trans s) i
end

/-! ### ratios: less, at_most, same, floor, nearest -/
def PairAt (H : Hp) (p : Addr) (q : Rat) : Prop := H p = some (.tup [.int q.num, .int (q.den : Int)])
theorem eqv_pair (q r : Rat) : PyData.eqv (.tuple [.int q.num, .int (q.den : Int)]) (.tuple [.int r.num, .int (r.den : Int)]) = decide (q = r) := by
  have e : (decide (q = r)) = ((q.num == r.num) && ((q.den : Int) == (r.den : Int))) := by
    by_cases h : q = r
    · subst h
      simp
    · rw [decide_eq_false h]
      symm
      rw [Bool.and_eq_false_iff]
      by_cases h1 : q.num = r.num
      · right
        rw [beq_eq_false_iff_ne]
        intro h2
        exact h (Rat.ext h1 (by omega))
      · left
        rw [beq_eq_false_iff_ne]
        exact h1
  simp [PyData.eqv, PyData.eqvAll, e]
theorem dp_pair {K : PySem.W.Frag} {H : Hp} {p : Addr} {q : Rat} (h : PairAt H p q) : Dp K H (.ref p) (.tuple [.int q.num, .int (q.den : Int)]) := .tup (SqT.of h) (.cons (.int _) (.cons (.int _) .nil))
theorem eqD_pair {K : PySem.W.Frag} {H : Hp} {p p' : Addr} {q r : Rat} {Q : VK} (hp : PairAt H p q) (hq : PairAt H p' r) (h : Q (.bl (decide (q = r))) H) : rEqD K (.ref p) (.ref p') H Q :=
  ⟨_, _, dp_pair hp, dp_pair hq, rfl, rfl, by rw [eqv_pair]; exact h⟩
theorem neD_pair {K : PySem.W.Frag} {H : Hp} {p p' : Addr} {q r : Rat} {Q : VK} (hp : PairAt H p q) (hq : PairAt H p' r) (h : Q (.bl (!decide (q = r))) H) : rNeD K (.ref p) (.ref p') H Q :=
  ⟨_, _, dp_pair hp, dp_pair hq, rfl, rfl, by rw [eqv_pair]; exact h⟩

def spCmp (C : Addr) (f : Rat → Rat → Bool) : Sp := fun vs H Q _ => ∃ (v u : V) (q r : Rat) (a b : Nat), vs = [v, u] ∧ IsR C H v q ∧ IsN C H u r ∧ Sz a q ∧ Sz b r ∧ a + b ≤ 9000 ∧ ∀ H', Same H H' → Q (.bl (f q r)) H'
def spFl (C : Addr) (f : Rat → Int) : Sp := fun vs H Q _ => ∃ (v : V) (q : Rat) (a : Nat), vs = [v] ∧ IsR C H v q ∧ Sz a q ∧ a ≤ 8000 ∧ Q (.int (f q)) H
def rfloor (q : Rat) : Int := q.num / (q.den : Int)
def rnear (q : Rat) : Int := (2 * q.num + (q.den : Int)) / (2 * (q.den : Int))
theorem and_to {A : Prop} {Q : VK} {H : Hp} {b b2 : Bool} (h : Q (.bl (b && b2)) H) (hA : Q (.bl b2) H → A) : ∃ c, V.bl b = .bl c ∧ if c = true then A else Q (.bl false) H := by
  cases b with
  | true => exact ⟨true, rfl, iteT (hA h)⟩
  | false => exact ⟨false, rfl, iteF h⟩
section
variable {P : Program} {w : World} {K : PySem.W.Frag} {mg : Str → Option Value} {base : Heap} {A : Ad}
theorem ok_m_Ratio_less (T : Txt K mg A) : FnOk P w K mg base CX0 2 A.m_Ratio_less A.fd_m_Ratio_less P_m_Ratio_less (spCmp A.Ratio fun q r => decide (q < r)) := by
  refine T.F_m_Ratio_less.ok sc_m_Ratio_less (fun vs H Q E h => ?_) (fun cdv Ar outer s H vs Q E hr h => ?_)
  · obtain ⟨v, u, q, r, a, b, rfl, _⟩ := h
    rfl
  · obtain ⟨v, u, q, r, a, b, rfl, ⟨p, dx, rfl, hp⟩, hu, sq, sr, hab, kQ⟩ := h
    refine ⟨_, (pss_cons (ps_asg (pe_call (ok_f_halves T) (hr.mono (by decide)) (by rfl) T.g_halves T.F_f_halves.kp T.b_f_halves .nil pass0 (pa_cons (pv 1) pa_nil)) (pg_tup (n := 2) rfl (pgs_cons (pg_name (i := 2) sc_m_Ratio_less.nd rfl (Or.inl rfl)) (pgs_cons (pg_name (i := 3) sc_m_Ratio_less.nd rfl (Or.inl rfl)) pgs_nil))))
      (pss_one (ps_ret (pe_cmpR op_lt (pe_op op_mulW (pe_fld (pv 0) rfl) (pv 3)) (pe_op op_mulW (pv 2) (pe_fld (pv 0) rfl)) (nomark _))))), ?_⟩
    refine ⟨_, rfl, u, r, rfl, hu, fun t ht => ?_⟩
    have hp' := Same.new (o := .tup [.int r.num, .int (r.den : Int)]) ht _ _ hp
    refine ⟨t, _, rfl, SqT.of upd_same, rfl, _, _, rfl, _, _, rfl, rfl, ?_⟩
    refine ⟨_, rfl, p, _, dx, _, _, rfl, hp', T.cl_Ratio, T.n_Ratio_top, rf_top _ _, _, rfl, _, _, rfl, rfl, mulw sq.1 sr.2 (by omega), _, rfl, _, rfl, p, _, dx, _, _, rfl, hp', T.cl_Ratio, T.n_Ratio_bottom, rf_bottom _ _, _, _, rfl, rfl, mulw sr.1 sq.2 (by omega), _, _, rfl, rfl, ?_⟩
    have e : decide (q < r) = decide (q.num * (r.den : Int) < r.num * (q.den : Int)) := by
      rw [decide_eq_decide]
      exact Rat.lt_iff q r
    dsimp only
    rw [← e]
    exact kQ _ (Same.new ht)
theorem ok_m_Ratio_at_most (T : Txt K mg A) : FnOk P w K mg base CX0 2 A.m_Ratio_at_most A.fd_m_Ratio_at_most P_m_Ratio_at_most (spCmp A.Ratio fun q r => decide (q ≤ r)) := by
  refine T.F_m_Ratio_at_most.ok sc_m_Ratio_at_most (fun vs H Q E h => ?_) (fun cdv Ar outer s H vs Q E hr h => ?_)
  · obtain ⟨v, u, q, r, a, b, rfl, _⟩ := h
    rfl
  · obtain ⟨v, u, q, r, a, b, rfl, ⟨p, dx, rfl, hp⟩, hu, sq, sr, hab, kQ⟩ := h
    refine ⟨_, (pss_cons (ps_asg (pe_call (ok_f_halves T) (hr.mono (by decide)) (by rfl) T.g_halves T.F_f_halves.kp T.b_f_halves .nil pass0 (pa_cons (pv 1) pa_nil)) (pg_tup (n := 2) rfl (pgs_cons (pg_name (i := 2) sc_m_Ratio_at_most.nd rfl (Or.inl rfl)) (pgs_cons (pg_name (i := 3) sc_m_Ratio_at_most.nd rfl (Or.inl rfl)) pgs_nil))))
      (pss_one (ps_ret (pe_cmpR op_le (pe_op op_mulW (pe_fld (pv 0) rfl) (pv 3)) (pe_op op_mulW (pv 2) (pe_fld (pv 0) rfl)) (nomark _))))), ?_⟩
    refine ⟨_, rfl, u, r, rfl, hu, fun t ht => ?_⟩
    have hp' := Same.new (o := .tup [.int r.num, .int (r.den : Int)]) ht _ _ hp
    refine ⟨t, _, rfl, SqT.of upd_same, rfl, _, _, rfl, _, _, rfl, rfl, ?_⟩
    refine ⟨_, rfl, p, _, dx, _, _, rfl, hp', T.cl_Ratio, T.n_Ratio_top, rf_top _ _, _, rfl, _, _, rfl, rfl, mulw sq.1 sr.2 (by omega), _, rfl, _, rfl, p, _, dx, _, _, rfl, hp', T.cl_Ratio, T.n_Ratio_bottom, rf_bottom _ _, _, _, rfl, rfl, mulw sr.1 sq.2 (by omega), _, _, rfl, rfl, ?_⟩
    have e : decide (q ≤ r) = decide (q.num * (r.den : Int) ≤ r.num * (q.den : Int)) := by
      rw [decide_eq_decide]
      exact Rat.le_iff q r
    dsimp only
    rw [← e]
    exact kQ _ (Same.new ht)
theorem ok_m_Ratio_same (T : Txt K mg A) : FnOk P w K mg base CX0 2 A.m_Ratio_same A.fd_m_Ratio_same P_m_Ratio_same (spCmp A.Ratio fun q r => decide (q = r)) := by
  refine T.F_m_Ratio_same.ok sc_m_Ratio_same (fun vs H Q E h => ?_) (fun cdv Ar outer s H vs Q E hr h => ?_)
  · obtain ⟨v, u, q, r, a, b, rfl, _⟩ := h
    rfl
  · obtain ⟨v, u, q, r, a, b, rfl, ⟨p, dx, rfl, hp⟩, hu, sq, sr, hab, kQ⟩ := h
    refine ⟨_, (pss_one (ps_ret (pe_cmpR (op_eqD hr.units) (pe_call (ok_f_halves T) (hr.mono (by decide)) (by rfl) T.g_halves T.F_f_halves.kp T.b_f_halves .nil pass0 (pa_cons (pv 1) pa_nil)) (pe_tup (pa_cons (pe_fld (pv 0) rfl) (pa_cons (pe_fld (pv 0) rfl) pa_nil))) (nomark _)))), ?_⟩
    refine ⟨_, rfl, u, r, rfl, hu, fun t ht => ?_⟩
    have hp' := Same.new (o := .tup [.int r.num, .int (r.den : Int)]) ht _ _ hp
    refine ⟨_, rfl, p, _, dx, _, _, rfl, hp', T.cl_Ratio, T.n_Ratio_top, rf_top _ _, _, rfl, p, _, dx, _, _, rfl, hp', T.cl_Ratio, T.n_Ratio_bottom, rf_bottom _ _, by walk_at "fact", fun t2 ht2 => ?_⟩
    refine eqD_pair (q := r) (r := q) (Same.new ht2 _ _ upd_same) upd_same ?_
    have e : decide (q = r) = decide (r = q) := by
      rw [decide_eq_decide]
      exact eq_comm
    rw [← e]
    exact kQ _ ((Same.new ht).trans (Same.new ht2))
theorem ok_m_Ratio_floor (T : Txt K mg A) : FnOk P w K mg base CX0 1 A.m_Ratio_floor A.fd_m_Ratio_floor P_m_Ratio_floor (spFl A.Ratio rfloor) := by
  refine T.F_m_Ratio_floor.ok sc_m_Ratio_floor (fun vs H Q E h => ?_) (fun cdv Ar outer s H vs Q E hr h => ?_)
  · obtain ⟨v, q, a, rfl, _⟩ := h
    rfl
  · obtain ⟨v, q, a, rfl, ⟨p, dx, rfl, hp⟩, sq, ha, kQ⟩ := h
    refine ⟨_, (pss_one (ps_ret (pe_op op_fdivW (pe_fld (pv 0) rfl) (pe_fld (pv 0) rfl)))), ?_⟩
    have hd := q.den_pos
    exact ⟨_, rfl, p, _, dx, _, _, rfl, hp, T.cl_Ratio, T.n_Ratio_top, rf_top _ _, _, rfl, p, _, dx, _, _, rfl, hp, T.cl_Ratio, T.n_Ratio_bottom, rf_bottom _ _, _, _, rfl, rfl, wide_div (by omega) (lt_pow sq.2 (by omega)) (by decide) (Nat.le_refl 9000), kQ⟩
end

/-! ### ratios: the operators -/
theorem add_eq {q r : Rat} : Rat.divInt (q.num * (r.den : Int) + r.num * (q.den : Int)) ((q.den : Int) * (r.den : Int)) = q + r := by
  have h1 : (q.den : Int) ≠ 0 := by have := q.den_nz; omega
  have h2 : (r.den : Int) ≠ 0 := by have := r.den_nz; omega
  rw [← Rat.divInt_add_divInt _ _ h1 h2, Rat.num_divInt_den, Rat.num_divInt_den]
theorem sub_eq {q r : Rat} : Rat.divInt (q.num * (r.den : Int) - r.num * (q.den : Int)) ((q.den : Int) * (r.den : Int)) = q - r := by
  have h1 : (q.den : Int) ≠ 0 := by have := q.den_nz; omega
  have h2 : (r.den : Int) ≠ 0 := by have := r.den_nz; omega
  rw [← Rat.divInt_sub_divInt _ _ h1 h2, Rat.num_divInt_den, Rat.num_divInt_den]
theorem mul_eq {q r : Rat} : Rat.divInt (q.num * r.num) ((q.den : Int) * (r.den : Int)) = q * r := by
  rw [← Rat.divInt_mul_divInt, Rat.num_divInt_den, Rat.num_divInt_den]
theorem neg_eq {q : Rat} : Rat.divInt (-q.num) (q.den : Int) = -q := by
  rw [← Rat.neg_divInt, Rat.num_divInt_den]
def rabs (q : Rat) : Rat := Rat.divInt (if q.num < 0 then -q.num else q.num) (q.den : Int)
theorem natAbs_add_lt {a b n : Nat} {i j : Int} (hi : i.natAbs < 2 ^ a) (hj : j.natAbs < 2 ^ b) (ha : a ≤ n) (hb : b ≤ n) : (i + j).natAbs < 2 ^ (n + 1) := by
  have h1 := lt_pow hi ha
  have h2 := lt_pow hj hb
  rw [Nat.pow_succ]
  omega
theorem Sz.add {a b : Nat} {q r : Rat} (hq : Sz a q) (hr : Sz b r) : Sz (a + b + 1) (q + r) := by
  rw [← add_eq]
  have h1 : (q.den : Int) ≠ 0 := by have := q.den_nz; omega
  have h2 : (r.den : Int) ≠ 0 := by have := r.den_nz; omega
  exact Sz.div (natAbs_add_lt (mul_lt hq.1 hr.2) (mul_lt hr.1 hq.2) (Nat.le_refl _) (by omega)) (lt_pow (mul_lt hq.2 hr.2) (by omega)) (Int.mul_ne_zero h1 h2)
theorem Sz.neg {a : Nat} {q : Rat} (hq : Sz a q) : Sz a (-q) := ⟨by show (-q.num).natAbs < _; rw [Int.natAbs_neg]; exact hq.1, hq.2⟩
theorem Sz.sub {a b : Nat} {q r : Rat} (hq : Sz a q) (hr : Sz b r) : Sz (a + b + 1) (q - r) := by
  rw [Rat.sub_eq_add_neg]
  exact hq.add hr.neg
theorem Sz.mul {a b : Nat} {q r : Rat} (hq : Sz a q) (hr : Sz b r) : Sz (a + b) (q * r) := by
  rw [← mul_eq]
  have h1 : (q.den : Int) ≠ 0 := by have := q.den_nz; omega
  have h2 : (r.den : Int) ≠ 0 := by have := r.den_nz; omega
  exact Sz.div (mul_lt hq.1 hr.1) (mul_lt hq.2 hr.2) (Int.mul_ne_zero h1 h2)
def spBin (C : Addr) (f : Rat → Rat → Rat) : Sp := fun vs H Q _ => ∃ (v u : V) (q r : Rat) (a b : Nat), vs = [v, u] ∧ IsR C H v q ∧ IsN C H u r ∧ Sz a q ∧ Sz b r ∧ a + b ≤ 8990 ∧ ∀ v' H', Same H H' → IsR C H' v' (f q r) → Q v' H'
def spUn (C : Addr) (f : Rat → Rat) : Sp := fun vs H Q _ => ∃ (v : V) (q : Rat) (a : Nat), vs = [v] ∧ IsR C H v q ∧ Sz a q ∧ a ≤ 8990 ∧ ∀ v' H', Same H H' → IsR C H' v' (f q) → Q v' H'
theorem IsN.same {C : Addr} {H H' : Hp} {v : V} {q : Rat} (h : IsN C H v q) (s : Same H H') : IsN C H' v q := h.elim (fun z => .inl (z.same s)) .inr
/-- the reading of an operator with a ratio on the left -/
theorem r_own {C : Addr} {f : Rat → Rat → Rat} {H : Hp} {v u : V} {q r : Rat} {a b : Nat} {Q : VK} {E : XK} (hv : IsR C H v q) (hu : IsN C H u r) (sq : Sz a q) (sr : Sz b r) (hab : a + b ≤ 8990)
    (h : ∀ v' H', Same H H' → IsR C H' v' (f q r) → Q v' H') : rOwn C (spBin C f) E v u H Q := by
  obtain ⟨p, dx, rfl, hp⟩ := id hv
  refine ⟨p, dx, _, rfl, hp, ?_, _, _, q, r, a, b, rfl, hv, hu, sq, sr, hab, h⟩
  rcases hu with ⟨p2, dx2, e, h2⟩ | ⟨n, e, _⟩
  · exact .inr ⟨p2, dx2, _, e, h2⟩
  · exact .inl ⟨n, e⟩
theorem r_rown {C : Addr} {f : Rat → Rat → Rat} {H : Hp} {u : V} {n : Int} {q : Rat} {a b : Nat} {Q : VK} {E : XK} (hu : IsR C H u q) (sq : Sz a q) (sr : Sz b (n : Rat)) (hab : a + b ≤ 8990)
    (h : ∀ v' H', Same H H' → IsR C H' v' (f q (n : Rat)) → Q v' H') : rROwn C (spBin C f) E (.int n) u H Q := by
  obtain ⟨p, dx, rfl, hp⟩ := id hu
  exact ⟨n, p, dx, _, rfl, rfl, hp, _, _, q, (n : Rat), a, b, rfl, hu, .inr ⟨n, rfl, rfl⟩, sq, sr, hab, h⟩
theorem r_un {C : Addr} {f : Rat → Rat} {H : Hp} {v : V} {q : Rat} {a : Nat} {Q : VK} {E : XK} (hv : IsR C H v q) (sq : Sz a q) (ha : a ≤ 8990) (h : ∀ v' H', Same H H' → IsR C H' v' (f q) → Q v' H') :
    Wd (∃ a dx fs, v = .ref a ∧ H a = some (.ins C dx fs) ∧ spUn C f [v] H Q E) := by
  obtain ⟨p, dx, rfl, hp⟩ := id hv
  exact ⟨p, dx, _, rfl, hp, _, q, a, rfl, hv, sq, ha, h⟩
theorem r_abs {C : Addr} {f : Rat → Rat} {H : Hp} {v : V} {q : Rat} {a : Nat} {Q : VK} {E : XK} (hv : IsR C H v q) (sq : Sz a q) (ha : a ≤ 8990) (h : ∀ v' H', Same H H' → IsR C H' v' (f q) → Q v' H') :
    Wd (∃ a dx fs, [v] = [.ref a] ∧ H a = some (.ins C dx fs) ∧ spUn C f [.ref a] H Q E) := by
  obtain ⟨p, dx, rfl, hp⟩ := id hv
  exact ⟨p, dx, _, rfl, hp, _, q, a, rfl, hv, sq, ha, h⟩
section
variable {P : Program} {w : World} {K : PySem.W.Frag} {mg : Str → Option Value} {base : Heap} {A : Ad}
theorem oo_add (T : Txt K mg A) : OwnOp K A.Ratio A.m_Ratio_add A.m_Ratio_radd "add" := ⟨T.sf_Ratio, T.m_Ratio___add__.at_, T.m_Ratio___add__.fn, T.m_Ratio___radd__.at_, T.m_Ratio___radd__.fn, ⟨_, T.o1a_Ratio⟩, ⟨_, T.o2a_Ratio⟩, T.si_Ratio, T.sj_Ratio⟩
theorem oo_sub (T : Txt K mg A) : OwnOp K A.Ratio A.m_Ratio_sub A.m_Ratio_rsub "sub" := ⟨T.sf_Ratio, T.m_Ratio___sub__.at_, T.m_Ratio___sub__.fn, T.m_Ratio___rsub__.at_, T.m_Ratio___rsub__.fn, ⟨_, T.o1s_Ratio⟩, ⟨_, T.o2s_Ratio⟩, T.si_Ratio, T.sj_Ratio⟩
theorem oo_mul (T : Txt K mg A) : OwnOp K A.Ratio A.m_Ratio_mul A.m_Ratio_rmul "mul" := ⟨T.sf_Ratio, T.m_Ratio___mul__.at_, T.m_Ratio___mul__.fn, T.m_Ratio___rmul__.at_, T.m_Ratio___rmul__.fn, ⟨_, T.o1m_Ratio⟩, ⟨_, T.o2m_Ratio⟩, T.si_Ratio, T.sj_Ratio⟩
theorem ok_m_Ratio_add (T : Txt K mg A) : FnOk P w K mg base CX0 6 A.m_Ratio_add A.fd_m_Ratio_add P_m_Ratio_add (spBin A.Ratio (· + ·)) := by
  refine T.F_m_Ratio_add.ok sc_m_Ratio_add (fun vs H Q E h => ?_) (fun cdv Ar outer s H vs Q E hr h => ?_)
  · obtain ⟨v, u, q, r, a, b, rfl, _⟩ := h
    rfl
  · obtain ⟨v, u, q, r, a, b, rfl, ⟨p, dx, rfl, hp⟩, hu, sq, sr, hab, kQ⟩ := h
    refine ⟨_, (pss_cons (ps_asg (pe_call (ok_f_halves T) (hr.mono (by decide)) (by rfl) T.g_halves T.F_f_halves.kp T.b_f_halves .nil pass0 (pa_cons (pv 1) pa_nil)) (pg_tup (n := 2) rfl (pgs_cons (pg_name (i := 2) sc_m_Ratio_add.nd rfl (Or.inl rfl)) (pgs_cons (pg_name (i := 3) sc_m_Ratio_add.nd rfl (Or.inl rfl)) pgs_nil))))
      (pss_one (ps_ret (pe_make T.mk_Ratio (ok_m_Ratio_init T) (hr.mono (by decide)) (by rfl) T.g_Ratio T.b_m_Ratio_init .nil passL (pa_cons (pe_op op_add (pe_op op_mulW (pe_fld (pv 0) rfl) (pv 3)) (pe_op op_mulW (pv 2) (pe_fld (pv 0) rfl))) (pa_cons (pe_op op_mulW (pe_fld (pv 0) rfl) (pv 3)) pa_nil)))))), ?_⟩
    refine ⟨_, rfl, u, r, rfl, hu, fun t ht => ?_⟩
    have hp' := Same.new (o := .tup [.int r.num, .int (r.den : Int)]) ht _ _ hp
    refine ⟨t, _, rfl, SqT.of upd_same, rfl, _, _, rfl, _, _, rfl, rfl, ?_⟩
    refine ⟨_, rfl, p, _, dx, _, _, rfl, hp', T.cl_Ratio, T.n_Ratio_top, rf_top _ _, _, rfl, _, _, rfl, rfl, mulw sq.1 sr.2 (by omega), _, rfl, _, rfl, p, _, dx, _, _, rfl, hp', T.cl_Ratio, T.n_Ratio_bottom, rf_bottom _ _, _, _, rfl, rfl, mulw sr.1 sq.2 (by omega), _, _, rfl, rfl, ?_⟩
    refine ⟨_, rfl, p, _, dx, _, _, rfl, hp', T.cl_Ratio, T.n_Ratio_bottom, rf_bottom _ _, _, rfl, _, _, rfl, rfl, mulw sq.2 sr.2 (by omega), fun x dx' hx hd' _ => ?_⟩
    have h1 : (q.den : Int) ≠ 0 := by have := q.den_nz; omega
    have h2 : (r.den : Int) ≠ 0 := by have := r.den_nz; omega
    refine mk_ratio hx hd' (lt_pow (mul_lt sq.2 sr.2) (by omega)) (fun e => absurd e (Int.mul_ne_zero h1 h2)) (fun _ H' s i => ⟨rfl, ?_⟩)
    rw [add_eq] at i
    exact kQ _ H' ((Same.new ht).trans s) i
theorem ok_m_Ratio_sub (T : Txt K mg A) : FnOk P w K mg base CX0 6 A.m_Ratio_sub A.fd_m_Ratio_sub P_m_Ratio_sub (spBin A.Ratio (· - ·)) := by
  refine T.F_m_Ratio_sub.ok sc_m_Ratio_sub (fun vs H Q E h => ?_) (fun cdv Ar outer s H vs Q E hr h => ?_)
  · obtain ⟨v, u, q, r, a, b, rfl, _⟩ := h
    rfl
  · obtain ⟨v, u, q, r, a, b, rfl, ⟨p, dx, rfl, hp⟩, hu, sq, sr, hab, kQ⟩ := h
    refine ⟨_, (pss_cons (ps_asg (pe_call (ok_f_halves T) (hr.mono (by decide)) (by rfl) T.g_halves T.F_f_halves.kp T.b_f_halves .nil pass0 (pa_cons (pv 1) pa_nil)) (pg_tup (n := 2) rfl (pgs_cons (pg_name (i := 2) sc_m_Ratio_sub.nd rfl (Or.inl rfl)) (pgs_cons (pg_name (i := 3) sc_m_Ratio_sub.nd rfl (Or.inl rfl)) pgs_nil))))
      (pss_one (ps_ret (pe_make T.mk_Ratio (ok_m_Ratio_init T) (hr.mono (by decide)) (by rfl) T.g_Ratio T.b_m_Ratio_init .nil passL (pa_cons (pe_op op_sub (pe_op op_mulW (pe_fld (pv 0) rfl) (pv 3)) (pe_op op_mulW (pv 2) (pe_fld (pv 0) rfl))) (pa_cons (pe_op op_mulW (pe_fld (pv 0) rfl) (pv 3)) pa_nil)))))), ?_⟩
    refine ⟨_, rfl, u, r, rfl, hu, fun t ht => ?_⟩
    have hp' := Same.new (o := .tup [.int r.num, .int (r.den : Int)]) ht _ _ hp
    refine ⟨t, _, rfl, SqT.of upd_same, rfl, _, _, rfl, _, _, rfl, rfl, ?_⟩
    refine ⟨_, rfl, p, _, dx, _, _, rfl, hp', T.cl_Ratio, T.n_Ratio_top, rf_top _ _, _, rfl, _, _, rfl, rfl, mulw sq.1 sr.2 (by omega), _, rfl, _, rfl, p, _, dx, _, _, rfl, hp', T.cl_Ratio, T.n_Ratio_bottom, rf_bottom _ _, _, _, rfl, rfl, mulw sr.1 sq.2 (by omega), _, _, rfl, rfl, ?_⟩
    refine ⟨_, rfl, p, _, dx, _, _, rfl, hp', T.cl_Ratio, T.n_Ratio_bottom, rf_bottom _ _, _, rfl, _, _, rfl, rfl, mulw sq.2 sr.2 (by omega), fun x dx' hx hd' _ => ?_⟩
    have h1 : (q.den : Int) ≠ 0 := by have := q.den_nz; omega
    have h2 : (r.den : Int) ≠ 0 := by have := r.den_nz; omega
    refine mk_ratio hx hd' (lt_pow (mul_lt sq.2 sr.2) (by omega)) (fun e => absurd e (Int.mul_ne_zero h1 h2)) (fun _ H' s i => ⟨rfl, ?_⟩)
    rw [sub_eq] at i
    exact kQ _ H' ((Same.new ht).trans s) i
theorem ok_m_Ratio_mul (T : Txt K mg A) : FnOk P w K mg base CX0 6 A.m_Ratio_mul A.fd_m_Ratio_mul P_m_Ratio_mul (spBin A.Ratio (· * ·)) := by
  refine T.F_m_Ratio_mul.ok sc_m_Ratio_mul (fun vs H Q E h => ?_) (fun cdv Ar outer s H vs Q E hr h => ?_)
  · obtain ⟨v, u, q, r, a, b, rfl, _⟩ := h
    rfl
  · obtain ⟨v, u, q, r, a, b, rfl, ⟨p, dx, rfl, hp⟩, hu, sq, sr, hab, kQ⟩ := h
    refine ⟨_, (pss_cons (ps_asg (pe_call (ok_f_halves T) (hr.mono (by decide)) (by rfl) T.g_halves T.F_f_halves.kp T.b_f_halves .nil pass0 (pa_cons (pv 1) pa_nil)) (pg_tup (n := 2) rfl (pgs_cons (pg_name (i := 2) sc_m_Ratio_mul.nd rfl (Or.inl rfl)) (pgs_cons (pg_name (i := 3) sc_m_Ratio_mul.nd rfl (Or.inl rfl)) pgs_nil))))
      (pss_one (ps_ret (pe_make T.mk_Ratio (ok_m_Ratio_init T) (hr.mono (by decide)) (by rfl) T.g_Ratio T.b_m_Ratio_init .nil passL (pa_cons (pe_op op_mulW (pe_fld (pv 0) rfl) (pv 2)) (pa_cons (pe_op op_mulW (pe_fld (pv 0) rfl) (pv 3)) pa_nil)))))), ?_⟩
    refine ⟨_, rfl, u, r, rfl, hu, fun t ht => ?_⟩
    have hp' := Same.new (o := .tup [.int r.num, .int (r.den : Int)]) ht _ _ hp
    refine ⟨t, _, rfl, SqT.of upd_same, rfl, _, _, rfl, _, _, rfl, rfl, ?_⟩
    refine ⟨_, rfl, p, _, dx, _, _, rfl, hp', T.cl_Ratio, T.n_Ratio_top, rf_top _ _, _, rfl, _, _, rfl, rfl, mulw sq.1 sr.1 (by omega), ?_⟩
    refine ⟨_, rfl, p, _, dx, _, _, rfl, hp', T.cl_Ratio, T.n_Ratio_bottom, rf_bottom _ _, _, rfl, _, _, rfl, rfl, mulw sq.2 sr.2 (by omega), fun x dx' hx hd' _ => ?_⟩
    have h1 : (q.den : Int) ≠ 0 := by have := q.den_nz; omega
    have h2 : (r.den : Int) ≠ 0 := by have := r.den_nz; omega
    refine mk_ratio hx hd' (lt_pow (mul_lt sq.2 sr.2) (by omega)) (fun e => absurd e (Int.mul_ne_zero h1 h2)) (fun _ H' s i => ⟨rfl, ?_⟩)
    rw [mul_eq] at i
    exact kQ _ H' ((Same.new ht).trans s) i
theorem ok_m_Ratio_neg (T : Txt K mg A) : FnOk P w K mg base CX0 6 A.m_Ratio_neg A.fd_m_Ratio_neg P_m_Ratio_neg (spUn A.Ratio (- ·)) := by
  refine T.F_m_Ratio_neg.ok sc_m_Ratio_neg (fun vs H Q E h => ?_) (fun cdv Ar outer s H vs Q E hr h => ?_)
  · obtain ⟨v, q, a, rfl, _⟩ := h
    rfl
  · obtain ⟨v, q, a, rfl, ⟨p, dx, rfl, hp⟩, sq, ha, kQ⟩ := h
    refine ⟨_, (pss_one (ps_ret (pe_make T.mk_Ratio (ok_m_Ratio_init T) (hr.mono (by decide)) (by rfl) T.g_Ratio T.b_m_Ratio_init .nil passL (pa_cons (pe_un un_neg (pe_fld (pv 0) rfl)) (pa_cons (pe_fld (pv 0) rfl) pa_nil))))), ?_⟩
    refine ⟨_, rfl, p, _, dx, _, _, rfl, hp, T.cl_Ratio, T.n_Ratio_top, rf_top _ _, _, rfl, _, rfl, p, _, dx, _, _, rfl, hp, T.cl_Ratio, T.n_Ratio_bottom, rf_bottom _ _, fun x dx' hx hd' _ => ?_⟩
    have h1 : (q.den : Int) ≠ 0 := by have := q.den_nz; omega
    refine mk_ratio hx hd' (lt_pow (a := a) sq.2 (by omega)) (fun e => absurd e h1) (fun _ H' s i => ⟨rfl, ?_⟩)
    rw [neg_eq] at i
    exact kQ _ H' s i
theorem ok_m_Ratio_abs (T : Txt K mg A) : FnOk P w K mg base CX0 6 A.m_Ratio_abs A.fd_m_Ratio_abs P_m_Ratio_abs (spUn A.Ratio rabs) := by
  refine T.F_m_Ratio_abs.ok sc_m_Ratio_abs (fun vs H Q E h => ?_) (fun cdv Ar outer s H vs Q E hr h => ?_)
  · obtain ⟨v, q, a, rfl, _⟩ := h
    rfl
  · obtain ⟨v, q, a, rfl, ⟨p, dx, rfl, hp⟩, sq, ha, kQ⟩ := h
    refine ⟨_, (pss_one (ps_ret (pe_make T.mk_Ratio (ok_m_Ratio_init T) (hr.mono (by decide)) (by rfl) T.g_Ratio T.b_m_Ratio_init .nil passL (pa_cons (pe_callB call_abs (by rfl) T.z_abs (by decide +kernel) (pa_cons (pe_fld (pv 0) rfl) pa_nil)) (pa_cons (pe_fld (pv 0) rfl) pa_nil))))), ?_⟩
    refine ⟨_, rfl, p, _, dx, _, _, rfl, hp, T.cl_Ratio, T.n_Ratio_top, rf_top _ _, _, rfl, _, rfl, p, _, dx, _, _, rfl, hp, T.cl_Ratio, T.n_Ratio_bottom, rf_bottom _ _, fun x dx' hx hd' _ => ?_⟩
    have h1 : (q.den : Int) ≠ 0 := by have := q.den_nz; omega
    exact mk_ratio hx hd' (lt_pow (a := a) sq.2 (by omega)) (fun e => absurd e h1) (fun _ H' s i => ⟨rfl, kQ _ H' s i⟩)
theorem ok_m_Ratio_radd (T : Txt K mg A) : FnOk P w K mg base CX0 8 A.m_Ratio_radd A.fd_m_Ratio_radd P_m_Ratio_radd (spBin A.Ratio fun q r => q + r) := by
  refine T.F_m_Ratio_radd.ok sc_m_Ratio_radd (fun vs H Q E h => ?_) (fun cdv Ar outer s H vs Q E hr h => ?_)
  · obtain ⟨v, u, q, r, a, b, rfl, _⟩ := h
    rfl
  · obtain ⟨v, u, q, r, a, b, rfl, hv, hu, sq, sr, hab, kQ⟩ := h
    refine ⟨_, (pss_one (ps_ret (pe_op (op_own (E := E0) rfl (oo_add T) (ok_m_Ratio_add T) (hr.mono (by decide)) T.b_m_Ratio_add pass0) (pv 0) (pv 1)))), ?_⟩
    exact ⟨_, rfl, _, rfl, r_own hv hu sq sr hab kQ⟩
theorem ok_m_Ratio_rmul (T : Txt K mg A) : FnOk P w K mg base CX0 8 A.m_Ratio_rmul A.fd_m_Ratio_rmul P_m_Ratio_rmul (spBin A.Ratio fun q r => q * r) := by
  refine T.F_m_Ratio_rmul.ok sc_m_Ratio_rmul (fun vs H Q E h => ?_) (fun cdv Ar outer s H vs Q E hr h => ?_)
  · obtain ⟨v, u, q, r, a, b, rfl, _⟩ := h
    rfl
  · obtain ⟨v, u, q, r, a, b, rfl, hv, hu, sq, sr, hab, kQ⟩ := h
    refine ⟨_, (pss_one (ps_ret (pe_op (op_own (E := E0) rfl (oo_mul T) (ok_m_Ratio_mul T) (hr.mono (by decide)) T.b_m_Ratio_mul pass0) (pv 0) (pv 1)))), ?_⟩
    exact ⟨_, rfl, _, rfl, r_own hv hu sq sr hab kQ⟩
theorem ok_m_Ratio_rsub (T : Txt K mg A) : FnOk P w K mg base CX0 10 A.m_Ratio_rsub A.fd_m_Ratio_rsub P_m_Ratio_rsub (spBin A.Ratio fun q r => -q + r) := by
  refine T.F_m_Ratio_rsub.ok sc_m_Ratio_rsub (fun vs H Q E h => ?_) (fun cdv Ar outer s H vs Q E hr h => ?_)
  · obtain ⟨v, u, q, r, a, b, rfl, _⟩ := h
    rfl
  · obtain ⟨v, u, q, r, a, b, rfl, hv, hu, sq, sr, hab, kQ⟩ := h
    refine ⟨_, (pss_one (ps_ret (pe_op (op_own (E := E0) rfl (oo_add T) (ok_m_Ratio_add T) (hr.mono (by decide)) T.b_m_Ratio_add pass0) (pe_un (un_own (E := E0) T.m_Ratio___neg__.at_ T.m_Ratio___neg__.fn (ok_m_Ratio_neg T) (hr.mono (by decide)) T.b_m_Ratio_neg pass0) (pv 0)) (pv 1)))), ?_⟩
    refine ⟨_, rfl, r_un hv sq (by omega) fun v1 H1 s1 i1 => ?_⟩
    exact ⟨_, rfl, r_own i1 (hu.same s1) sq.neg sr hab fun v' H' s' i' => kQ v' H' (s1.trans s') i'⟩
end

/-! ### a list added up -/
def rsum (qs : List Rat) : Rat := qs.foldl (· + ·) 0
theorem rsum_more {qs : List Rat} {i : Nat} {q : Rat} (h : qs[i]? = some q) : rsum (qs.take (i + 1)) = rsum (qs.take i) + q := by
  unfold rsum
  rw [List.take_add_one, h, List.foldl_append]
  rfl
def spSum (C : Addr) : Sp := fun vs H Q _ => ∃ (l : Addr) (xs : List V) (qs : List Rat) (b : Nat), vs = [.ref l] ∧ H l = some (.lst xs) ∧ xs.length = qs.length ∧
  (∀ (i : Nat) x q, xs[i]? = some x → qs[i]? = some q → IsN C H x q ∧ Sz b q) ∧ 1 + (xs.length + 1) * (b + 1) ≤ 8990 ∧ ∀ v' H', Same H H' → IsR C H' v' (rsum qs) → Q v' H'
section
variable {P : Program} {w : World} {K : PySem.W.Frag} {mg : Str → Option Value} {base : Heap} {A : Ad}
theorem ok_m_Ratio_sum_of (T : Txt K mg A) : FnOk P w K mg base CX0 10 A.m_Ratio_sum_of A.fd_m_Ratio_sum_of P_m_Ratio_sum_of (spSum A.Ratio) := by
  refine T.F_m_Ratio_sum_of.ok sc_m_Ratio_sum_of (fun vs H Q E h => ?_) (fun cdv Ar outer s H vs Q E hr h => ?_)
  · obtain ⟨l, xs, qs, b, rfl, _⟩ := h
    rfl
  · obtain ⟨l, xs, qs, b, rfl, hl, hlen, hq, hb, k⟩ := h
    refine ⟨_, (pss_cons (ps_set (i := 1) sc_m_Ratio_sum_of.nd rfl (Or.inl rfl) (pe_make T.mk_Ratio (ok_m_Ratio_init T) (hr.mono (by decide)) (by rfl) T.g_Ratio T.b_m_Ratio_init_d1 T.dv_m_Ratio_init passL (pa_cons pe_int pa_nil)))
      (pss_cons (ps_g (ps_for PassesOwn.never rfl (pi_list (pv 0)) (pg_name (i := 2) sc_m_Ratio_sum_of.nd rfl (Or.inl rfl)) (pss_one (ps_set (i := 1) sc_m_Ratio_sum_of.nd rfl (Or.inl rfl) (pe_op (op_own (E := E0) rfl (oo_add T) (ok_m_Ratio_add T) (hr.mono (by decide)) T.b_m_Ratio_add pass0) (pv 1) (pv 2))))))
      (pss_one (ps_ret (pv 1))))), ?_⟩
    intro x dx hx hd _
    refine mk_ratio hx hd (lt_pow (a := 1) (by decide) (by decide)) (fun e => by cases e) (fun _ H1 s1 i1 => ⟨rfl, ?_⟩)
    have e0 : Rat.divInt 0 1 = (0 : Rat) := by decide +kernel
    rw [e0] at i1
    have hl1 := s1 _ _ hl
    refine ⟨⟨_, rfl, l, rfl, ⟨_, SqL.of hl1⟩, for_list (K := K) (a := l) (xs := xs) (fun i σ' H' => Wd (∃ (v : V) (o : Option V), σ' = [some (.ref l), some v, o] ∧ Same H H' ∧ IsR A.Ratio H' v (rsum (qs.take i)) ∧ Sz (1 + i * (b + 1)) (rsum (qs.take i))))
      ⟨_, none, rfl, s1, i1, ?_⟩ (fun i σ' H' _ ⟨_, _, _, s, _⟩ => SqL.of (s _ _ hl)) ?_ ?_⟩⟩
    · show Sz _ (0 : Rat)
      rw [Nat.zero_mul]
      exact ⟨by decide, by decide⟩
    · rintro i y σ' H' hi ⟨v, o, rfl, s, iv, sz⟩
      have hi1 : i < xs.length := (List.getElem?_eq_some_iff.mp hi).1
      have hi2 : i < qs.length := by omega
      have hqi : qs[i]? = some qs[i] := List.getElem?_eq_getElem hi2
      obtain ⟨hN, hS⟩ := hq i _ _ hi hqi
      have hm : 1 + i * (b + 1) + b ≤ 8990 := by
        have : i * (b + 1) ≤ xs.length * (b + 1) := Nat.mul_le_mul_right _ (by omega)
        have h2 : (xs.length + 1) * (b + 1) = xs.length * (b + 1) + (b + 1) := by rw [Nat.add_mul, Nat.one_mul]
        omega
      refine ⟨_, rfl, _, rfl, r_own iv (hN.same s) sz hS hm fun v' H2 s2 i2 => ?_⟩
      refine ⟨v', _, rfl, s.trans s2, ?_, ?_⟩
      · rw [rsum_more hqi]
        exact i2
      · rw [rsum_more hqi]
        have e : 1 + (i + 1) * (b + 1) = 1 + i * (b + 1) + b + 1 := by rw [Nat.add_mul, Nat.one_mul]; omega
        rw [e]
        exact sz.add hS
    · rintro σ' H' ⟨v, o, rfl, s, iv, sz⟩
      rw [hlen, List.take_length] at iv
      exact ⟨_, rfl, k v H' s iv⟩
end

/-! ### names that the law draws -/
section
open PySem.Spec PyProof.Rows
variable {X : Cx}
/-- a text times 0 or 1 -/
theorem op_mul01 : OpR X (binaryOp .Mult) (fun x y H Q => ∃ (z : Str) (n : Int), x = .str z ∧ y = .int n ∧ (n = 0 ∨ n = 1) ∧ Q (.str (if n = 0 then Str.empty else z)) H) := by
  intro pins s σ H x y v u Q I rx ry h
  obtain ⟨z, n, rfl, rfl, hn, q⟩ := h
  obtain ⟨t, rfl⟩ := rx
  obtain ⟨t', rfl⟩ := ry
  rcases hn with rfl | rfl
  · exact PySem.P.mul_str_none (by decide) (by decide) ⟨.str Str.empty, H, I.tok _, ⟨_, rfl⟩, q⟩
  · refine PySem.P.mul_str (by decide) (fun _ h => absurd h (by simp)) (fun _ h => absurd h (by simp)) ?_
    show (Made.val (.str z t)).post _ s
    exact ⟨.str z, H, I, ⟨_, rfl⟩, q⟩
end
/-- a name: a few small letters -/
def NmOk (n : List Nat) : Prop := 1 ≤ n.length ∧ n.length ≤ 12 ∧ ∀ c ∈ n, 97 ≤ c ∧ c < 123
def vS (l : List Nat) : V := .str (SX.S l)
/-- the k-th name -/
def nmAt (st : List Nat) (wh : Nat) (sh lo : Int) (k : Nat) : List Nat := st.take wh ++ [97 + ((sh + 7 * (k : Int)) % 26).toNat] ++ st.drop wh ++ (if (k : Int) % 3 = lo then [97 + sh.toNat] else [])
theorem nm_len {st : List Nat} {wh : Nat} {sh lo : Int} {k : Nat} : (nmAt st wh sh lo k).length = st.length + 1 + (if (k : Int) % 3 = lo then 1 else 0) := by
  unfold nmAt
  rw [List.length_append, List.length_append, List.length_append, List.length_take, List.length_drop, List.length_singleton]
  split
  · rw [List.length_singleton]
    omega
  · rw [List.length_nil]
    omega
theorem nm_at {st : List Nat} {wh : Nat} {sh lo : Int} {k : Nat} (hw : wh ≤ st.length) : (nmAt st wh sh lo k)[wh]? = some (97 + ((sh + 7 * (k : Int)) % 26).toNat) := by
  have h1 : (st.take wh).length = wh := by
    rw [List.length_take]
    omega
  unfold nmAt
  rw [List.append_assoc, List.append_assoc, List.getElem?_append_right (by omega), h1, Nat.sub_self]
  rfl
theorem nm_inj {st : List Nat} {wh : Nat} {sh lo : Int} {k j : Nat} (hw : wh ≤ st.length) (hk : k < 26) (hj : j < 26) (e : nmAt st wh sh lo k = nmAt st wh sh lo j) : k = j := by
  have h := nm_at (sh := sh) (lo := lo) (k := k) hw
  rw [e, nm_at hw] at h
  have h := Option.some.inj h
  omega
theorem nm_ok {st : List Nat} {wh : Nat} {sh lo : Int} {k : Nat} (hs : st.length ≤ 10) (hc : ∀ c ∈ st, 97 ≤ c ∧ c < 123) (h0 : 0 ≤ sh) (h1 : sh < 26) : NmOk (nmAt st wh sh lo k) := by
  refine ⟨by rw [nm_len]; omega, by rw [nm_len]; split <;> omega, fun c hm => ?_⟩
  unfold nmAt at hm
  simp only [List.mem_append, List.mem_singleton] at hm
  rcases hm with ((hm | hm) | hm) | hm
  · exact hc c (List.mem_of_mem_take hm)
  · omega
  · exact hc c (List.mem_of_mem_drop hm)
  · split at hm
    · rw [List.mem_singleton] at hm
      omega
    · cases hm
def lettersZ : Str := "abcdefghijklmnopqrstuvwxyz"
theorem letter_at {c : Int} (h0 : 0 ≤ c) (h1 : c < 26) : atI lettersZ.cps.toList c = some (97 + c.toNat) := by
  have : ∀ n : Fin 26, atI lettersZ.cps.toList ((n.val : Nat) : Int) = some (97 + n.val) := by decide +kernel
  have h := this ⟨c.toNat, by omega⟩
  rw [show ((c.toNat : Nat) : Int) = c by omega] at h
  exact h
def spNames : Sp := fun vs H Q _ => ∃ (g l q : Addr) (cnt : Int) (ws : List (List Nat)), vs = [.ref g, .int cnt, .ref q] ∧ Bag H g l ∧ q ≠ g ∧ 1 ≤ cnt ∧ cnt ≤ 26 ∧ H q = some (.lst (ws.map vS)) ∧ 1 ≤ ws.length ∧ ws.length ≤ 1000 ∧ (∀ w ∈ ws, w.length ≤ 1000) ∧
  ∀ (p : Addr) (ns : List (List Nat)) (H' : Hp), H p = none → H' p = some (.lst (ns.map vS)) → ns.length = cnt.toNat → ns.Nodup → (∀ n ∈ ns, NmOk n ∨ n ∈ ws) → Bag H' g l → Kp g H H' → Q (.ref p) H'
theorem len_at {c : Int} (h0 : 0 ≤ c) (h5 : c < 5) : ∃ z : Int, atI [V.int 0, .int 1, .int 2, .int 3, .int 10] c = some (.int z) ∧ 0 ≤ z ∧ z ≤ 10 := by
  have : c = 0 ∨ c = 1 ∨ c = 2 ∨ c = 3 ∨ c = 4 := by omega
  rcases this with rfl | rfl | rfl | rfl | rfl
  · exact ⟨0, rfl, by decide, by decide⟩
  · exact ⟨1, rfl, by decide, by decide⟩
  · exact ⟨2, rfl, by decide, by decide⟩
  · exact ⟨3, rfl, by decide, by decide⟩
  · exact ⟨10, rfl, by decide, by decide⟩
theorem kp_none {g p : Addr} {H H' : Hp} (k : Kp g H H') (h : H' p = none) (n : p ≠ g) : H p = none := by
  cases e : H p with
  | none => rfl
  | some o =>
    rw [k _ _ e n] at h
    cases h
theorem joinL_chars : ∀ cs : List Nat, TL.joinL [] (cs.map fun c => [c]) = cs
  | [] => rfl
  | [c] => rfl
  | c :: d :: cs => by
    have ih := joinL_chars (d :: cs)
    show [c] ++ ([] ++ TL.joinL [] ((d :: cs).map fun c => [c])) = _
    rw [ih]
    rfl
theorem join_chars (cs : List Nat) : Txt.join (Str.ofString "") (cs.map fun c => SX.S [c]) = SX.S cs := by
  have h := SX.join_S [] (cs.map fun c => [c])
  rw [List.map_map, joinL_chars] at h
  exact h
theorem cut_to {st : List Nat} {wh : Int} (h0 : 0 ≤ wh) (h1 : wh.toNat ≤ st.length) : cutS (SX.S st) none (some wh) = SX.S (st.take wh.toNat) := by
  have e : HT.sIx (SX.S st).length (SX.S st).length (some wh) = wh.toNat := by
    show (if wh < 0 then _ else min wh.toNat _) = _
    rw [if_neg (by omega), SX.S_len]
    omega
  unfold cutS
  rw [HT.sIx_none, e, Nat.sub_zero, List.drop_zero]
theorem cut_from {st : List Nat} {wh : Int} (h0 : 0 ≤ wh) (h1 : wh.toNat ≤ st.length) : cutS (SX.S st) (some wh) none = SX.S (st.drop wh.toNat) := by
  have e : HT.sIx (SX.S st).length 0 (some wh) = wh.toNat := by
    show (if wh < 0 then _ else min wh.toNat _) = _
    rw [if_neg (by omega), SX.S_len]
    omega
  unfold cutS
  rw [HT.sIx_none, e, SX.S_len, List.take_of_length_le (by rw [List.length_drop]; exact Nat.le_refl _)]
theorem nodup_set {α : Type} {l : List α} {j : Nat} {x : α} (h : l.Nodup) (hx : x ∉ l) : (l.set j x).Nodup := by
  unfold List.Nodup at *
  rw [List.pairwise_iff_getElem] at *
  intro a b ha hb hab
  rw [List.length_set] at ha hb
  rw [List.getElem_set, List.getElem_set]
  split
  · rw [if_neg (by omega)]
    exact fun e => hx (e ▸ List.getElem_mem _)
  · split
    · exact fun e => hx (e ▸ List.getElem_mem _)
    · exact h a b ha hb hab
theorem ixN_in {n : Nat} {i : Int} (h0 : 0 ≤ i) (h1 : i < (n : Int)) : ixN n i = some i.toNat := by
  unfold ixN
  rw [if_pos h0, if_pos h1]
theorem mem_set_of {α : Type} {l : List α} {j : Nat} {x y : α} (h : y ∈ l.set j x) : y = x ∨ y ∈ l := by
  rcases List.mem_or_eq_of_mem_set h with h | h
  · exact .inr h
  · exact .inl h
theorem inV_names {ns : List (List Nat)} {x : List Nat} : inV (vS x) (ns.map vS) = decide (x ∈ ns) := by
  unfold inV
  rw [List.any_map, Bool.eq_iff_iff, List.any_eq_true, decide_eq_true_iff]
  constructor
  · rintro ⟨y, hy, e⟩
    have e2 : (SX.S y == SX.S x) = true := e
    rw [SX.S_beq, beq_iff_eq] at e2
    exact e2 ▸ hy
  · intro h
    refine ⟨x, h, ?_⟩
    show (SX.S x == SX.S x) = true
    rw [SX.S_beq, beq_iff_eq]
theorem flat_names (ns : List (List Nat)) : (ns.map vS).all flatV = true := by
  rw [List.all_map, List.all_eq_true]
  intro x _
  rfl
/-- what the names are, once they stand -/
def NmsOk (ns ws : List (List Nat)) (cnt : Int) : Prop := ns.length = cnt.toNat ∧ ns.Nodup ∧ ∀ n ∈ ns, NmOk n ∨ n ∈ ws
theorem nms_set {ns ws : List (List Nat)} {cnt : Int} {j : Nat} {x : List Nat} (h : NmsOk ns ws cnt) (hx : x ∉ ns) (ok : NmOk x ∨ x ∈ ws) : NmsOk (ns.set j x) ws cnt :=
  ⟨by rw [List.length_set]; exact h.1, nodup_set h.2.1 hx, fun n hn => by
    rcases mem_set_of hn with rfl | hn
    · exact ok
    · exact h.2.2 n hn⟩
theorem nms_range {st : List Nat} {wh : Nat} {sh lo cnt : Int} {ws : List (List Nat)} (hw : wh ≤ st.length) (hs : st.length ≤ 10) (hc : ∀ c ∈ st, 97 ≤ c ∧ c < 123) (h0 : 0 ≤ sh) (h1 : sh < 26) (hcn : cnt ≤ 26) :
    NmsOk ((List.range cnt.toNat).map fun k => nmAt st wh sh lo k) ws cnt := by
  refine ⟨by rw [List.length_map, List.length_range], ?_, fun n hn => ?_⟩
  · unfold List.Nodup
    rw [List.pairwise_map]
    refine List.Pairwise.imp_of_mem ?_ List.nodup_range
    intro a b ha hb hab e
    rw [List.mem_range] at ha hb
    exact hab (nm_inj hw (by omega) (by omega) e)
  · obtain ⟨k, _, rfl⟩ := List.mem_map.mp hn
    exact .inl (nm_ok hs hc h0 h1)
section
variable {P : Program} {w : World} {K : PySem.W.Frag} {mg : Str → Option Value} {base : Heap} {A : Ad}
theorem ok_l_names (T : Txt K mg A) : FnOk P w K mg base CX0 2 A.l_names A.fd_l_names P_l_names spNames := by
  refine T.F_l_names.ok sc_l_names (fun vs H Q E h => ?_) (fun cdv Ar outer s H vs Q E hr h => ?_)
  · obtain ⟨g, l, q, cnt, ws, rfl, _⟩ := h
    rfl
  · obtain ⟨g, l, q, cnt, ws, rfl, hB, nqg, hc1, hc26, hq, hw1, hw2, hw3, k⟩ := h
    refine ⟨_, (pss_cons (ps_set (i := 3) sc_l_names.nd rfl (Or.inr rfl) pe_str)
      (pss_cons (ps_set (i := 4) sc_l_names.nd rfl (Or.inl rfl) (pe_ix ix_list (pe_lst (pa_cons pe_int (pa_cons pe_int (pa_cons pe_int (pa_cons pe_int (pa_cons pe_int pa_nil)))))) (pe_call (ok_l_draw T) (hr.mono (by decide)) (by rfl) T.g__law_draw T.F_l_draw.kp T.b_l_draw .nil pass0 (pa_cons (pv 0) (pa_cons pe_int pa_nil))) (fun _ _ => rfl)))
      (pss_cons (ps_set (i := 5) sc_l_names.nd rfl (Or.inl rfl) (pe_join pe_str (pe_g (pe_lcV (own := [("_law_k", 10)]) rfl sc_l_names.nd (pi_range1 rfl T.z_range (pa_cons (pv 4) pa_nil)) (blkOk_by (own := [("_law_k", 10)]) (N := N_l_names) (sc := defScope s_l_names) (by decide +kernel)) (fun _ _ _ _ _ => (pg_name (i := 10) sc_l_names.nd rfl (Or.inl rfl))) (fun _ _ _ _ _ => pts_nil) (fun _ _ _ _ _ => (pe_ix ix_str (pv 3) (pe_call (ok_l_draw T) (hr.mono (by decide)) (by rfl) T.g__law_draw T.F_l_draw.kp T.b_l_draw .nil pass0 (pa_cons (pv 0) (pa_cons pe_int pa_nil))) (fun _ _ => rfl))) (fun _ _ _ _ _ => rfl) (fun _ _ _ _ _ => rfl) (fun _ _ _ _ _ => rfl)))))
      (pss_cons (ps_set (i := 6) sc_l_names.nd rfl (Or.inl rfl) (pe_call (ok_l_draw T) (hr.mono (by decide)) (by rfl) T.g__law_draw T.F_l_draw.kp T.b_l_draw .nil pass0 (pa_cons (pv 0) (pa_cons (pe_op op_add (pv 4) pe_int) pa_nil))))
      (pss_cons (ps_set (i := 7) sc_l_names.nd rfl (Or.inl rfl) (pe_call (ok_l_draw T) (hr.mono (by decide)) (by rfl) T.g__law_draw T.F_l_draw.kp T.b_l_draw .nil pass0 (pa_cons (pv 0) (pa_cons pe_int pa_nil))))
      (pss_cons (ps_set (i := 8) sc_l_names.nd rfl (Or.inl rfl) (pe_call (ok_l_draw T) (hr.mono (by decide)) (by rfl) T.g__law_draw T.F_l_draw.kp T.b_l_draw .nil pass0 (pa_cons (pv 0) (pa_cons pe_int pa_nil))))
      (pss_cons (ps_set (i := 9) sc_l_names.nd rfl (Or.inl rfl) (pe_lst pa_nil))
      (pss_cons (ps_g (ps_for PassesOwn.never rfl (pi_range1 rfl T.z_range (pa_cons (pv 1) pa_nil)) (pg_name (i := 10) sc_l_names.nd rfl (Or.inl rfl)) (pss_cons (ps_set (i := 11) sc_l_names.nd rfl (Or.inl rfl) (pe_op op_add_str (pe_op op_add_str (pe_slice sl_str (pv 5) po_none (po_some (pv 6))) (pe_ix ix_str (pv 3) (pe_op op_mod (pe_callTy call_int1 (by rfl) T.z_int (by decide +kernel) (pa_cons (pe_op op_add (pv 7) (pe_op op_mul pe_int (pv 10))) pa_nil)) pe_int) (fun _ _ => rfl))) (pe_slice sl_str (pv 5) (po_some (pv 6)) po_none)))
      (pss_one (ps_expr (pe_bm PySem.F.plainAttrs_list PySem.F.slot_list_append PySem.F.type_list_append mt_append (pv 9) (pa_cons (pe_op op_add_str (pv 11) (pe_op op_mul01 (pe_ix ix_str (pv 3) (pv 7) (fun _ _ => rfl)) (pe_callTy call_int1 (by rfl) T.z_int (by decide +kernel) (pa_cons (pe_cmpR op_eq (pe_op op_mod (pe_callTy call_int1 (by rfl) T.z_int (by decide +kernel) (pa_cons (pv 10) pa_nil)) pe_int) (pv 8) (nomark _)) pa_nil)))) pa_nil)))))))
      (pss_g (Evl.pss_cut (ps_if (PW.pt (pw_and (pt_cmpR op_gt (pv 1) pe_int (nomark _)) (pw_and (pt_cmpR op_lt (pv 4) pe_int (nomark _)) (pw_and1 (pt_cmpR op_eq (pv 8) pe_int (nomark _)))))) (pss_one (ps_asg (pe_op op_add_str (pe_ix ix_list (pv 9) pe_int (fun _ _ => rfl)) (pe_ix ix_str (pv 3) (pe_call (ok_l_draw T) (hr.mono (by decide)) (by rfl) T.g__law_draw T.F_l_draw.kp T.b_l_draw .nil pass0 (pa_cons (pv 0) (pa_cons pe_int pa_nil))) (fun _ _ => rfl))) (pg_sub (pv 9) pe_int set_list))) pss_nil)
      (pss_cons (ps_set (i := 12) sc_l_names.nd rfl (Or.inl rfl) (pe_call (ok_l_draw T) (hr.mono (by decide)) (by rfl) T.g__law_draw T.F_l_draw.kp T.b_l_draw .nil pass0 (pa_cons (pv 0) (pa_cons (pe_op op_mul pe_int (pv 1)) pa_nil))))
      (pss_cons (ps_set (i := 13) sc_l_names.nd rfl (Or.inl rfl) (pe_ix ix_list (pv 2) (pe_call (ok_l_draw T) (hr.mono (by decide)) (by rfl) T.g__law_draw T.F_l_draw.kp T.b_l_draw .nil pass0 (pa_cons (pv 0) (pa_cons (pe_callB call_len_seq (by rfl) T.z_len (by decide +kernel) (pa_cons (pv 2) pa_nil)) pa_nil))) (fun _ _ => rfl)))
      (pss_g (Evl.pss_cut (ps_if (PW.pt (pw_and (pt_cmpR op_lt (pv 12) (pv 1) (nomark _)) (pw_and1 (pt_cmpR op_notIn_seq (pv 13) (pv 9) (by rfl))))) (pss_one (ps_asg (pv 13) (pg_sub (pv 9) (pv 12) set_list))) pss_nil)
      (pss_one (ps_ret (pv 9))))))))))))))))), ?_⟩
    walk_at "go"
    intro p1 hp1
    have B1 := hB.new (o := .lst [V.int 0, .int 1, .int 2, .int 3, .int 10]) hp1
    have nq1 := ne_of_none hq hp1
    have hq1 := Same.new (o := .lst [V.int 0, .int 1, .int 2, .int 3, .int 10]) hp1 _ _ hq
    walk_at "go"
    intro c0 H2 c00 c01 B2 K2
    obtain ⟨sz, hsz, hsz0, hsz1⟩ := len_at c00 c01
    have hl2 := K2 _ _ upd_same (hB.ne hp1).1
    have hq2 := K2 _ _ hq1 nqg
    have K02 : Kp g H H2 := (Kp.same (Same.new hp1)).trans K2
    refine ⟨p1, _, _, _, rfl, rfl, SqL.of hl2, hsz, ?_⟩
    refine ⟨⟨_, rfl⟩, ?_⟩
    refine ⟨⟨_, rfl, _, rfl, by omega, by omega, fun D hD => ?_⟩⟩
    have nD := (B2.ne hD).1
    have hD0 : H D = none := kp_none K02 hD nD
    refine lc_range (fun i H' => Wd (∃ cs : List Nat, cs.length = i ∧ (∀ c ∈ cs, 97 ≤ c ∧ c < 123) ∧ H' D = some (.lst (cs.map fun c => vS [c])) ∧ Bag H' g l ∧ Kp g H H')) ⟨[], rfl, fun c h => (by cases h), upd_same, B2.new hD, K02.new hD⟩ ?_ ?_
    · rintro i H3 hi ⟨cs, hcl, hcs, hD3, B3, K3⟩
      refine ⟨rfl, ⟨_, rfl, _, rfl, g, l, _, rfl, B3, by decide, by decide, fun n H4 n0 n1 B4 K4 => ?_⟩⟩
      refine ⟨_, _, _, rfl, rfl, (by decide : lettersZ.length ≤ sizeLine), letter_at n0 n1, _, K4 _ _ hD3 nD, ?_, ?_⟩
      · rw [List.length_map, hcl]
        exact Nat.lt_of_lt_of_le (by omega : i < 100) (by decide)
      · refine ⟨cs ++ [97 + n.toNat], by rw [List.length_append, hcl]; rfl, fun c hm => ?_, ?_, B4.put (B2.ne hD), (K3.trans K4).put hD0⟩
        · rcases List.mem_append.mp hm with hm | hm
          · exact hcs c hm
          · rw [List.mem_singleton] at hm
            omega
        · rw [upd_same, List.map_append]
          rfl
    · rintro H3 ⟨st, hsl, hst, hD3, B3, K3⟩
      have hq3 := K3 _ _ hq nqg
      refine ⟨_, D, st.map fun c => SX.S [c], rfl, rfl, .inl (SqL.of (by rw [List.map_map]; exact hD3)), ?_, ?_⟩
      · have e : ∀ cs : List Nat, ((cs.map fun c => SX.S [c]).map (·.length)).sum = cs.length := fun cs => by
          induction cs with
          | nil => rfl
          | cons c cs ih =>
            rw [List.map_cons, List.map_cons, List.sum_cons, ih, List.length_cons, Nat.add_comm]
            rfl
        rw [e, List.length_map, hsl]
        show sz.toNat + sz.toNat * 0 ≤ _
        omega
      · rw [join_chars]
        have hz9 : (sz + 1).natAbs < 2 ^ 9000 := lt_pow (a := 10) (by omega) (by decide)
        walk_at "go"
        intro wh H4 wh0 wh1 B4 K4
        walk_at "go"
        intro sh H5 sh0 sh1 B5 K5
        walk_at "go"
        intro lo H6 lo0 lo1 B6 K6
        walk_at "go"
        intro f hf
        have K36 := K4.trans (K5.trans K6)
        have K6' := K3.trans K36
        have nf := B6.ne hf
        have hf0 : H f = none := kp_none K6' hf nf.1
        have hq6 := K6' _ _ hq nqg
        have hwl : wh.toNat ≤ st.length := by omega
        have c1 : cutS (SX.S st) none (some wh) = SX.S (st.take wh.toNat) := cut_to wh0 hwl
        have c2 : cutS (SX.S st) (some wh) none = SX.S (st.drop wh.toNat) := cut_from wh0 hwl
        have sl : ∀ l : List Nat, l.length ≤ 1000 → (SX.S l).length ≤ sizeLine := fun l h => by
          rw [SX.S_len]
          exact Nat.le_trans h (by decide)
        refine ⟨⟨_, rfl, _, rfl, by omega, by omega, for_range (lo := 0) (n := cnt.toNat) (fun i σ' H' => Wd (∃ o10 o11 : Option V, σ' = [some (.ref g), some (.int cnt), some (.ref q), some (.str lettersZ), some (.int sz), some (vS st), some (.int wh), some (.int sh), some (.int lo), some (.ref f), o10, o11, none, none] ∧
          H' = upd H6 f (.lst ((List.range i).map fun k => vS (nmAt st wh.toNat sh lo k))))) ⟨none, none, rfl, rfl⟩ ?_ ?_⟩⟩
        · rintro i σ' H7 hi ⟨o10, o11, rfl, rfl⟩
          refine ⟨_, rfl, _, rfl, wh, rfl, _, rfl, sl st (by omega), ?_⟩
          rw [c1]
          have hi26 : (i : Int) < 26 := by omega
          refine ⟨_, rfl, _, rfl, _, rfl, _, _, rfl, rfl, .inl ⟨by decide, by decide⟩, _, _, rfl, rfl, .inl ⟨_, rfl, _, _, rfl, rfl, (show (0 : Int) < 26 by decide), _, _, _, rfl, rfl, (by decide : lettersZ.length ≤ sizeLine), letter_at (Int.emod_nonneg _ (by decide)) (Int.emod_lt_of_pos _ (by decide)), ?_⟩⟩
          have e1 : SX.S (st.take wh.toNat) ++ (⟨#[97 + ((sh + 7 * (0 + (i : Int))) % 26).toNat]⟩ : Str) = SX.S (st.take wh.toNat ++ [97 + ((sh + 7 * (i : Int)) % 26).toNat]) := by
            rw [Int.zero_add]
            exact SX.S_cat _ _
          have l1 : (st.take wh.toNat).length ≤ 10 := by
            rw [List.length_take]
            omega
          have l2 : (st.drop wh.toNat).length ≤ 10 := by
            rw [List.length_drop]
            omega
          refine ⟨_, _, rfl, rfl, ?_, ?_⟩
          · rw [SX.S_len]
            exact Nat.le_trans (by show _ + 1 ≤ 1000; omega) (by decide : 1000 ≤ sizeLine)
          rw [e1]
          refine ⟨_, rfl, _, rfl, wh, rfl, _, rfl, sl st (by omega), ?_⟩
          rw [c2]
          refine ⟨_, _, rfl, rfl, ?_, ?_⟩
          · rw [SX.S_len, SX.S_len, List.length_append]
            exact Nat.le_trans (by rw [List.length_singleton]; omega) (by decide : 1000 ≤ sizeLine)
          rw [SX.S_cat]
          refine ⟨_, rfl, .inl ⟨rfl, _, SqL.of upd_same⟩, _, rfl, _, rfl, _, rfl, _, _, _, rfl, rfl, (by decide : lettersZ.length ≤ sizeLine), letter_at sh0 sh1, ?_⟩
          refine ⟨_, rfl, .inl ⟨_, rfl, _, _, rfl, rfl, (show (0 : Int) < 3 by decide), _, rfl, rfl, .inr ⟨_, rfl, ?_⟩⟩⟩
          refine ⟨_, _, rfl, rfl, ?_, ?_⟩
          · split
            · exact .inr rfl
            · exact .inl rfl
          have e2 : SX.S (st.take wh.toNat ++ [97 + ((sh + 7 * (i : Int)) % 26).toNat] ++ st.drop wh.toNat) ++ (if (if (decide (V.int ((0 + (i : Int)) % 3) = V.int lo)) = true then (1 : Int) else 0) = 0 then Str.empty else (⟨#[97 + sh.toNat]⟩ : Str)) = SX.S (nmAt st wh.toNat sh lo i) := by
            unfold nmAt
            rw [Int.zero_add]
            by_cases e : (i : Int) % 3 = lo
            · rw [if_pos (decide_eq_true (congrArg V.int e)), if_neg (by decide), if_pos e]
              exact SX.S_cat _ _
            · rw [if_neg (fun z => e (V.int.inj (of_decide_eq_true z))), if_pos rfl, if_neg e]
              exact SX.S_cat _ []
          refine ⟨_, _, rfl, rfl, ?_, ?_⟩
          · rw [SX.S_len, List.length_append, List.length_append, List.length_singleton]
            refine Nat.le_trans (Nat.add_le_add_left (m := 1) ?_ _) (Nat.le_trans (by omega : _ ≤ 1000) (by decide : 1000 ≤ sizeLine))
            split
            · rw [if_neg (by decide)]
              exact Nat.le_refl 1
            · rw [if_pos rfl]
              exact Nat.zero_le 1
          rw [e2]
          refine ⟨f, _, _, rfl, rfl, upd_same, ?_, _, _, rfl, ?_⟩
          · rw [List.length_map, List.length_range]
            exact Nat.lt_of_lt_of_le (by omega : i < 1000) (by decide)
          · rw [upd_upd, List.range_succ, List.map_append]
            rfl
        · rintro σ' H7 ⟨o10, o11, rfl, rfl⟩
          have hnm := nms_range (st := st) (wh := wh.toNat) (sh := sh) (lo := lo) (cnt := cnt) (ws := ws) hwl (by omega) hst sh0 sh1 hc26
          have nfq : f ≠ q := fun e => by rw [e, hq6] at hf; cases hf
          refine ⟨⟨fun σ' H' => Wd (∃ (ns : List (List Nat)), σ' = [some (.ref g), some (.int cnt), some (.ref q), some (.str lettersZ), some (.int sz), some (vS st), some (.int wh), some (.int sh), some (.int lo), some (.ref f), o10, o11, none, none] ∧
            H' f = some (.lst (ns.map vS)) ∧ NmsOk ns ws cnt ∧ Bag H' g l ∧ Kp g H H'), ?_, ?_⟩⟩
          · have B7 := B6.new (o := .lst ((List.range cnt.toNat).map fun k => vS (nmAt st wh.toNat sh lo k))) hf
            have K7 : Kp g H (upd H6 f (.lst ((List.range cnt.toNat).map fun k => vS (nmAt st wh.toNat sh lo k)))) := K6'.put hf0
            have stay : Wd (∃ (ns : List (List Nat)), [some (.ref g), some (.int cnt), some (.ref q), some (.str lettersZ), some (.int sz), some (vS st), some (.int wh), some (.int sh), some (.int lo), some (.ref f), o10, o11, none, none] = [some (.ref g), some (.int cnt), some (.ref q), some (.str lettersZ), some (.int sz), some (vS st), some (.int wh), some (.int sh), some (.int lo), some (.ref f), o10, o11, none, none] ∧
              (upd H6 f (.lst ((List.range cnt.toNat).map fun k => vS (nmAt st wh.toNat sh lo k)))) f = some (.lst (ns.map vS)) ∧ NmsOk ns ws cnt ∧ Bag (upd H6 f (.lst ((List.range cnt.toNat).map fun k => vS (nmAt st wh.toNat sh lo k)))) g l ∧ Kp g H (upd H6 f (.lst ((List.range cnt.toNat).map fun k => vS (nmAt st wh.toNat sh lo k))))) :=
              ⟨_, rfl, by rw [upd_same, List.map_map]; rfl, hnm, B7, K7⟩
            walk_at "go"
            refine if_dec (fun e1 => ?_) (fun _ => stay)
            walk_at "go"
            refine if_dec (fun e2 => ?_) (fun _ => stay)
            walk_at "go"
            refine if_int (fun e3 => ?_) (fun _ => stay)
            subst e3
            obtain ⟨m, hm⟩ : ∃ m, cnt.toNat = m + 2 := ⟨cnt.toNat - 2, by omega⟩
            refine ⟨_, rfl, f, _, _, vS (nmAt st wh.toNat sh 3 0), rfl, rfl, SqL.of upd_same, ?_, _, rfl, _, rfl, g, l, _, rfl, B7, by decide, by decide, fun n H8 n0 n1 B8 K8 => ?_⟩
            · refine atI_nat (j := 0) ?_
              rw [List.getElem?_map, List.getElem?_range (by omega)]
              rfl
            have hf8 := K8 _ _ upd_same nf.1
            refine ⟨_, _, _, rfl, rfl, (by decide : lettersZ.length ≤ sizeLine), letter_at n0 n1, _, _, rfl, rfl, ?_, ?_⟩
            · show (SX.S _).length + 1 ≤ _
              rw [SX.S_len, nm_len]
              refine Nat.le_trans ?_ (by decide : 1000 ≤ sizeLine)
              split <;> omega
            have e4 : SX.S (nmAt st wh.toNat sh 3 0) ++ (⟨#[97 + n.toNat]⟩ : Str) = SX.S (nmAt st wh.toNat sh 3 0 ++ [97 + n.toNat]) := SX.S_cat _ _
            have n3 : ∀ k : Nat, ((k : Int) % 3 = 3) = False := fun k => by
              rw [eq_iff_iff]
              exact ⟨fun h => by omega, fun h => h.elim⟩
            have le : ∀ k, (nmAt st wh.toNat sh 3 k).length = st.length + 1 := fun k => by
              rw [nm_len, if_neg (by rw [n3]; exact fun h => h)]
            refine ⟨_, rfl, f, _, _, 1, rfl, rfl, hf8, ?_, ?_⟩
            · rw [List.length_map, List.length_range, hm]
              exact ixN_in (by decide) (by show (1 : Int) < ((m + 2 : Nat) : Int); omega)
            · refine ⟨((List.range cnt.toNat).map fun k => nmAt st wh.toNat sh 3 k).set 1 (nmAt st wh.toNat sh 3 0 ++ [97 + n.toNat]), rfl, ?_, nms_set hnm ?_ (.inl ?_), B8.put nf, (K7.trans K8).put hf0⟩
              · rw [upd_same, List.map_set, List.map_map]
                show some (HO.lst (List.set _ 1 (V.str (SX.S (nmAt st wh.toNat sh 3 0) ++ (⟨#[97 + n.toNat]⟩ : Str))))) = _
                rw [e4]
                rfl
              · intro hm
                obtain ⟨k, _, e⟩ := List.mem_map.mp hm
                have e5 := congrArg List.length e
                rw [List.length_append, le, le, List.length_singleton] at e5
                omega
              · have ok := nm_ok (st := st) (wh := wh.toNat) (sh := sh) (lo := 3) (k := 0) (by omega) hst sh0 sh1
                refine ⟨by rw [List.length_append, le]; omega, by rw [List.length_append, le, List.length_singleton]; omega, fun c hc => ?_⟩
                rcases List.mem_append.mp hc with hc | hc
                · exact ok.2.2 c hc
                · rw [List.mem_singleton] at hc
                  omega
          · rintro σ' H8 ⟨ns, rfl, hf8, hnm8, B8, K8⟩
            have hc9 : (4 * cnt).natAbs < 2 ^ 9000 := lt_pow (a := 10) (by omega) (by decide)
            walk_at "go"
            intro sp H9 sp0 sp1 B9 K9
            have hq9 := (K8.trans K9) _ _ hq nqg
            have hf9 := K9 _ _ hf8 nf.1
            have hw9 : ((ws.map vS).length : Int).natAbs < 2 ^ 9000 := lt_pow (a := 10) (by rw [List.length_map]; omega) (by decide)
            refine ⟨_, rfl, _, rfl, _, rfl, q, _, rfl, .inl (SqL.of hq9), g, l, _, rfl, B9, ?_, hw9, fun wi H10 wi0 wi1 B10 K10 => ?_⟩
            · rw [List.length_map]
              omega
            rw [List.length_map] at wi1
            obtain ⟨j, rfl⟩ := Int.eq_ofNat_of_zero_le wi0
            have hj : j < ws.length := by omega
            have hwj : (ws.map vS)[j]? = some (vS ws[j]) := by rw [List.getElem?_map, List.getElem?_eq_getElem hj]; rfl
            have hq10 := K10 _ _ hq9 nqg
            have hf10 := K10 _ _ hf9 nf.1
            have K10' := (K8.trans K9).trans K10
            refine ⟨q, _, _, _, rfl, rfl, SqL.of hq10, atI_nat hwj, ?_⟩
            refine ⟨⟨fun σ' H' => Wd (∃ (ns : List (List Nat)) (o : List (Option V)), σ' = [some (.ref g), some (.int cnt), some (.ref q), some (.str lettersZ), some (.int sz), some (vS st), some (.int wh), some (.int sh), some (.int lo), some (.ref f)] ++ o ∧
              H' f = some (.lst (ns.map vS)) ∧ NmsOk ns ws cnt ∧ Bag H' g l ∧ Kp g H H'), ?_, ?_⟩⟩
            · walk_at "go"
              refine if_dec (fun e1 => ?_) (fun _ => ⟨ns, [_, _, _, _], rfl, hf10, hnm8, B10, K10'⟩)
              refine ⟨_, rfl, _, rfl, f, _, rfl, .inl (SqL.of hf10), rfl, flat_names ns, _, rfl, ?_⟩
              show if (!inV (vS ws[j]) (ns.map vS)) = true then _ else _
              rw [inV_names]
              by_cases hm : ws[j] ∈ ns
              · rw [decide_eq_true hm]
                exact iteF ⟨ns, [_, _, _, _], rfl, hf10, hnm8, B10, K10'⟩
              · rw [decide_eq_false hm]
                refine iteT ⟨_, rfl, _, rfl, _, rfl, f, _, _, sp.toNat, rfl, rfl, hf10, ?_, ?_⟩
                · rw [List.length_map, hnm8.1]
                  exact ixN_in sp0 (by omega)
                · refine ⟨ns.set sp.toNat ws[j], [_, _, _, _], rfl, ?_, nms_set hnm8 hm (.inr (List.getElem_mem _)), B10.put nf, K10'.put hf0⟩
                  rw [upd_same, List.map_set]
            · rintro σ' H11 ⟨ns, o, rfl, hf11, hnm11, B11, K11⟩
              exact ⟨_, rfl, k f ns H11 hf0 hf11 hnm11.1 hnm11.2.1 hnm11.2.2 B11 K11⟩
end

/-! ### what is picked -/
def spPick : Sp := fun vs H Q _ => ∃ (g l q : Addr) (xs : List V), vs = [.ref g, .ref q] ∧ Bag H g l ∧ q ≠ g ∧ H q = some (.lst xs) ∧ 1 ≤ xs.length ∧ xs.length ≤ 1000 ∧ ∀ (v : V) (H' : Hp), v ∈ xs → Bag H' g l → Kp g H H' → Q v H'
section
variable {P : Program} {w : World} {K : PySem.W.Frag} {mg : Str → Option Value} {base : Heap} {A : Ad}
theorem ok_l_pick (T : Txt K mg A) : FnOk P w K mg base CX0 2 A.l_pick A.fd_l_pick P_l_pick spPick := by
  refine T.F_l_pick.ok sc_l_pick (fun vs H Q E h => ?_) (fun cdv Ar outer s H vs Q E hr h => ?_)
  · obtain ⟨g, l, q, xs, rfl, _⟩ := h
    rfl
  · obtain ⟨g, l, q, xs, rfl, B, nq, hq, h1, h2, k⟩ := h
    refine ⟨_, (pss_one (ps_ret (pe_ix ix_list (pv 1) (pe_call (ok_l_draw T) (hr.mono (by decide)) (by rfl) T.g__law_draw T.F_l_draw.kp T.b_l_draw .nil pass0 (pa_cons (pv 0) (pa_cons (pe_callB call_len_seq (by rfl) T.z_len (by decide +kernel) (pa_cons (pv 1) pa_nil)) pa_nil))) (fun _ _ => rfl)))), ?_⟩
    refine ⟨_, rfl, _, rfl, _, rfl, q, _, rfl, .inl (SqL.of hq), g, l, _, rfl, B, by omega, lt_pow (a := 10) (by omega) (by decide), fun c H1 c0 c1 B1 K1 => ?_⟩
    have hq1 := K1 _ _ hq nq
    obtain ⟨j, rfl⟩ := Int.eq_ofNat_of_zero_le c0
    have hj : j < xs.length := by omega
    exact ⟨q, _, _, _, rfl, rfl, SqL.of hq1, atI_nat (List.getElem?_eq_getElem hj), k _ H1 (List.getElem_mem hj) B1 K1⟩
end

/-! ### layers: lists of (lot, amount) -/
abbrev Ly := Str × Rat
def Lay (C : Addr) (H : Hp) (v : V) (l : Ly) : Prop := ∃ t r, v = .ref t ∧ H t = some (.tup [.str l.1, r]) ∧ IsR C H r l.2
theorem Lay.keep {C D : Addr} {H H' : Hp} {v : V} {l : Ly} {acc : List V} (h : Lay C H v l) (hD : H D = some (.lst acc)) (k : Kp D H H') : Lay C H' v l := by
  obtain ⟨t, r, e, ht, hr⟩ := h
  exact ⟨t, r, e, k _ _ ht (ne_of ht hD (by intro z; cases z)), hr.kp hD k⟩
theorem Lay.same {C : Addr} {H H' : Hp} {v : V} {l : Ly} (h : Lay C H v l) (s : Same H H') : Lay C H' v l := by
  obtain ⟨t, r, e, ht, hr⟩ := h
  exact ⟨t, r, e, s _ _ ht, hr.same s⟩
/-- the list at q is the layers ls -/
def LayAt (C : Addr) (H : Hp) (q : Addr) (ls : List Ly) : Prop := ∃ xs, H q = some (.lst xs) ∧ All2 (Lay C H) xs ls
theorem LayAt.same {C : Addr} {H H' : Hp} {q : Addr} {ls : List Ly} (h : LayAt C H q ls) (s : Same H H') : LayAt C H' q ls := by
  obtain ⟨xs, h1, h2⟩ := h
  exact ⟨xs, s _ _ h1, h2.mono fun _ _ z => z.same s⟩
def SzL (n : Nat) (ls : List Ly) : Prop := ∀ l ∈ ls, Sz n l.2
theorem te_join {t : TE} {σ : L2.St} {H : Hp} {Q : VK} {R : VK} (hT : ∀ Q : VK, (∀ v H', R v H' → Q v H') → t σ H Q) (hQ : ∀ v H', R v H' → Q v H') : t σ H Q := hT Q hQ
/-- one part of cut: what is taken, what is left, the rest -/
def stepC (s : List Ly × List Ly × Rat) (l : Ly) : List Ly × List Ly × Rat :=
  let p := if l.2 ≤ s.2.2 then l.2 else s.2.2
  (if 0 < p then s.1 ++ [(l.1, p)] else s.1, if p < l.2 then s.2.1 ++ [(l.1, l.2 - p)] else s.2.1, s.2.2 - p)
def cutF (ls : List Ly) (r : Rat) : List Ly × List Ly × Rat := ls.foldl stepC ([], [], r)
theorem rat_pos {q : Rat} : decide ((0 : Int) < q.num) = decide (0 < q) := by
  rw [decide_eq_decide, Rat.lt_iff]
  show _ ↔ 0 * (q.den : Int) < q.num * 1
  rw [Int.zero_mul, Int.mul_one]
def spCut (C : Addr) : Sp := fun vs H Q _ => ∃ (q : Addr) (v : V) (ls : List Ly) (r : Rat) (b u : Nat), vs = [.ref q, v] ∧ LayAt C H q ls ∧ IsN C H v r ∧ SzL b ls ∧ Sz u r ∧ ls.length ≤ 100 ∧ u + (ls.length + 2) * (b + 1) ≤ 4000 ∧
  ∀ (p qt ql : Addr) (H' : Hp), Same H H' → H' p = some (.tup [.ref qt, .ref ql]) → LayAt C H' qt (cutF ls r).1 → LayAt C H' ql (cutF ls r).2.1 → qt ≠ ql → SzL (u + (ls.length + 2) * (b + 1)) (cutF ls r).1 → SzL (u + (ls.length + 2) * (b + 1)) (cutF ls r).2.1 → H qt = none → H ql = none → Q (.ref p) H'
section
variable {P : Program} {w : World} {K : PySem.W.Frag} {mg : Str → Option Value} {base : Heap} {A : Ad}
theorem ok_f_cut (T : Txt K mg A) : FnOk P w K mg base CX0 12 A.f_cut A.fd_f_cut P_f_cut (spCut A.Ratio) := by
  refine T.F_f_cut.ok sc_f_cut (fun vs H Q E h => ?_) (fun cdv Ar outer s H vs Q E hr h => ?_)
  · obtain ⟨q, v, ls, r, b, u, rfl, _⟩ := h
    rfl
  · obtain ⟨q, v, ls, r, b, u, rfl, hL, hv, sL, sr, hlen, hbits, k⟩ := h
    refine ⟨_, (pss_cons (ps_set (i := 2) sc_f_cut.nd rfl (Or.inl rfl) (pe_lst pa_nil))
      (pss_cons (ps_set (i := 3) sc_f_cut.nd rfl (Or.inl rfl) (pe_lst pa_nil))
      (pss_cons (ps_set (i := 4) sc_f_cut.nd rfl (Or.inl rfl) (pv 1))
      (pss_cons (ps_g (ps_for PassesOwn.never rfl (pi_list (pv 0)) (pg_tup (n := 2) rfl (pgs_cons (pg_name (i := 5) sc_f_cut.nd rfl (Or.inl rfl)) (pgs_cons (pg_name (i := 6) sc_f_cut.nd rfl (Or.inl rfl)) pgs_nil))) (pss_cons (ps_set (i := 7) sc_f_cut.nd rfl (Or.inl rfl) (pe_ifExp (pt_val (pe_meth (pv 6) T.cl_Ratio T.m_Ratio_at_most (ok_m_Ratio_at_most T) (hr.mono (by decide)) T.b_m_Ratio_at_most .nil pass0 (pa_cons (pv 4) pa_nil))) (pv 6) (pe_smeth (pe_glob (v := .ref A.Ratio) (by rfl) T.g_Ratio rfl) T.sm_Ratio_sum_of (ok_m_Ratio_sum_of T) (hr.mono (by decide)) T.b_m_Ratio_sum_of pass0 (pa_cons (pe_lst (pa_cons (pv 4) pa_nil)) pa_nil))))
      (pss_g (Evl.pss_cut (ps_if (pt_cmpR op_gt (pe_fld (pv 7) rfl) pe_int (nomark _)) (pss_one (ps_expr (pe_bm PySem.F.plainAttrs_list PySem.F.slot_list_append PySem.F.type_list_append mt_append (pv 2) (pa_cons (pe_tup (pa_cons (pv 5) (pa_cons (pv 7) pa_nil))) pa_nil)))) pss_nil)
      (pss_g (Evl.pss_cut (ps_if (pt_val (pe_meth (pv 7) T.cl_Ratio T.m_Ratio_less (ok_m_Ratio_less T) (hr.mono (by decide)) T.b_m_Ratio_less .nil pass0 (pa_cons (pv 6) pa_nil))) (pss_one (ps_expr (pe_bm PySem.F.plainAttrs_list PySem.F.slot_list_append PySem.F.type_list_append mt_append (pv 3) (pa_cons (pe_tup (pa_cons (pv 5) (pa_cons (pe_op (op_own (E := E0) rfl (oo_sub T) (ok_m_Ratio_sub T) (hr.mono (by decide)) T.b_m_Ratio_sub pass0) (pv 6) (pv 7)) pa_nil))) pa_nil)))) pss_nil)
      (pss_one (ps_set (i := 4) sc_f_cut.nd rfl (Or.inl rfl) (pe_op (op_mix (op_own (E := E0) rfl (oo_sub T) (ok_m_Ratio_sub T) (hr.mono (by decide)) T.b_m_Ratio_sub pass0) (op_rown (E := E0) rfl (oo_sub T) PySem.F.fills_int_sub PySem.F.slot_int_sub PySem.F.entry_int_sub PySem.F.args_int_sub_2 rfl (ok_m_Ratio_rsub T) (hr.mono (by decide)) T.b_m_Ratio_rsub pass0)) (pv 4) (pv 7)))))))))))
      (pss_one (ps_ret (pe_tup (pa_cons (pv 2) (pa_cons (pv 3) pa_nil))))))))), ?_⟩
    refine ⟨Nat.zero_le _, fun qt hqt => ⟨Nat.zero_le _, fun ql hql => ⟨_, rfl, ?_⟩⟩⟩
    obtain ⟨xs, hq, hx⟩ := hL
    have s1 := Same.new (o := .lst []) hqt
    have s2 := Same.new (o := .lst []) hql
    have fql : H ql = none := Same.none s1 hql
    have ntl : qt ≠ ql := ne_of_none upd_same hql
    have nqt : q ≠ qt := ne_of_none hq hqt
    have nql : q ≠ ql := ne_of_none hq fql
    refine ⟨⟨_, rfl, q, rfl, ⟨_, SqL.of ((s1.trans s2) _ _ hq)⟩, for_list (xs := xs) (fun i σ' H' => Wd (∃ (rv : V) (o5 o6 o7 : Option V), σ' = [some (.ref q), some v, some (.ref qt), some (.ref ql), some rv, o5, o6, o7] ∧ Same H H' ∧ LayAt A.Ratio H' qt (cutF (ls.take i) r).1 ∧ LayAt A.Ratio H' ql (cutF (ls.take i) r).2.1 ∧ IsN A.Ratio H' rv (cutF (ls.take i) r).2.2 ∧
      Sz (u + i * (b + 1)) (cutF (ls.take i) r).2.2 ∧ SzL (u + (i + 1) * (b + 1)) (cutF (ls.take i) r).1 ∧ SzL (u + (i + 1) * (b + 1)) (cutF (ls.take i) r).2.1 ∧ (cutF (ls.take i) r).1.length ≤ i ∧ (cutF (ls.take i) r).2.1.length ≤ i))
      ⟨v, none, none, none, rfl, s1.trans s2, ⟨[], s2 _ _ upd_same, .nil⟩, ⟨[], upd_same, .nil⟩, hv.same (s1.trans s2), by rw [Nat.zero_mul]; exact sr, fun l hl => (by cases hl), fun l hl => (by cases hl), Nat.le_refl _, Nat.le_refl _⟩ ?_ ?_ ?_⟩⟩
    · rintro i σ' H' _ ⟨rv, o5, o6, o7, rfl, sx, _⟩
      exact SqL.of (sx _ _ hq)
    · rintro i x σ' H' hxi ⟨rv, o5, o6, o7, rfl, sx, Lt, Ll, hrv, szr, szt, szl, lt, ll⟩
      obtain ⟨⟨lot, a⟩, hli, hlay⟩ := hx.get hxi
      have hlm := List.mem_of_getElem? hli
      have sza : Sz b a := sL _ hlm
      have hil : i < ls.length := (List.getElem?_eq_some_iff.mp hli).1
      obtain ⟨t, av, rfl, ht, hav⟩ := hlay
      have ht' := sx _ _ ht
      have hav' := hav.same sx
      have hst : cutF (ls.take (i + 1)) r = stepC (cutF (ls.take i) r) (lot, a) := by
        unfold cutF
        rw [take_more hli, List.foldl_append]
        rfl
      generalize hS : cutF (ls.take i) r = S at *
      obtain ⟨tk, lf, R⟩ := S
      have lt : tk.length ≤ i := lt
      have ll : lf.length ≤ i := ll
      have bm : (i + 1) * (b + 1) = i * (b + 1) + (b + 1) := by rw [Nat.add_mul, Nat.one_mul]
      have bm2 : (i + 1 + 1) * (b + 1) = i * (b + 1) + (b + 1) + (b + 1) := by rw [Nat.add_mul, Nat.one_mul, bm]
      have bl : (i + 2) * (b + 1) ≤ (ls.length + 2) * (b + 1) := Nat.mul_le_mul_right _ (by omega)
      have bm3 : (i + 2) * (b + 1) = i * (b + 1) + (b + 1) + (b + 1) := bm2
      have bits : u + i * (b + 1) + (b + 1) + (b + 1) ≤ 4000 := by omega
      refine ⟨t, _, rfl, SqT.of ht', rfl, _, _, rfl, _, _, rfl, rfl, ?_⟩
      refine te_join (t := tIf _ _ _) (R := fun pv H2 => Same H' H2 ∧ IsR A.Ratio H2 pv (if a ≤ R then a else R)) (fun Q hQ => ?_) (fun pv H2 hR => ?_)
      · obtain ⟨ap, adx, rfl, hap⟩ := id hav'
        refine ⟨_, rfl, ap, adx, _, rfl, hap, rf_no _ _ (by decide +kernel) (by decide +kernel), _, rfl, _, _, a, R, b, u + i * (b + 1), rfl, hav', hrv, sza, szr, by omega, fun H2 s2 => ⟨_, rfl, ?_⟩⟩
        refine if_dec (fun e => ⟨_, rfl, hQ _ _ ⟨s2, by rw [if_pos e]; exact hav'.same s2⟩⟩) (fun e => ?_)
        refine ⟨rfl, _, rfl, (by show 1 ≤ sizeLine; decide), fun z hz => ?_⟩
        have sz := Same.new (o := .lst [rv]) hz
        refine ⟨z, [rv], [R], u + i * (b + 1), rfl, upd_same, rfl, fun j y w hy hw => ?_, by show 1 + (1 + 1) * (u + i * (b + 1) + 1) ≤ 8990; omega, fun v' H3 s3 i3 => hQ _ _ ⟨s2.trans (sz.trans s3), ?_⟩⟩
        · cases j with
          | zero =>
            cases hy
            cases hw
            exact ⟨(hrv.same s2).same sz, szr⟩
          | succ j => cases hy
        · rw [if_neg e]
          have e0 : rsum [R] = R := by
            show 0 + R = R
            exact Rat.zero_add R
          rw [e0] at i3
          exact i3
      obtain ⟨s2, ipv⟩ := hR
      generalize hp : (if a ≤ R then a else R) = p at ipv
      have szp : Sz (u + i * (b + 1) + b) p := by
        rw [← hp]
        split
        · exact sza.mono (by omega)
        · exact szr.mono (by omega)
      have hst1 : (cutF (ls.take (i + 1)) r) = (if 0 < p then tk ++ [(lot, p)] else tk, if p < a then lf ++ [(lot, a - p)] else lf, R - p) := by
        rw [hst, ← hp]
        rfl
      have hav2 := hav'.same s2
      have hrv2 := hrv.same s2
      refine ⟨⟨fun σ' H3 => Wd (σ' = [some (.ref q), some v, some (.ref qt), some (.ref ql), some rv, some (.str lot), some av, some pv] ∧ Same H H3 ∧ LayAt A.Ratio H3 qt (if 0 < p then tk ++ [(lot, p)] else tk) ∧ LayAt A.Ratio H3 ql lf ∧ IsR A.Ratio H3 pv p ∧ IsR A.Ratio H3 av a ∧ IsN A.Ratio H3 rv R), ?_, ?_⟩⟩
      · obtain ⟨pp, pdx, rfl, hpp⟩ := id ipv
        refine ⟨_, rfl, pp, A.Ratio, pdx, _, _, rfl, hpp, T.cl_Ratio, T.n_Ratio_top, rf_top _ _, _, _, rfl, rfl, _, rfl, ?_⟩
        show if decide ((0 : Int) < p.num) = true then _ else _
        rw [rat_pos]
        refine if_dec (fun e => ?_) (fun e => ⟨rfl, sx.trans s2, by rw [if_neg e]; exact Lt.same s2, Ll.same s2, ipv, hav2, hrv2⟩)
        obtain ⟨ys, hys, hy2⟩ := Lt.same s2
        refine ⟨_, rfl, .inl ⟨rfl, _, SqL.of hys⟩, _, rfl, _, rfl, (by show 2 ≤ sizeLine; decide), fun z hz => ?_⟩
        have sz := Same.new (o := .tup [V.str lot, .ref pp]) hz
        have hys' := sz _ _ hys
        refine ⟨qt, ys, _, rfl, rfl, hys', ?_, rfl, ?_, ?_, ?_, ?_, ?_, ?_⟩
        · rw [hy2.1]
          exact Nat.lt_of_lt_of_le (by omega : tk.length < 1000) (by decide)
        · exact Same.at_new hqt (sx.trans (s2.trans sz))
        · rw [if_pos e]
          refine ⟨ys ++ [.ref z], upd_same, All2.app (hy2.mono fun _ _ h => (h.same sz).keep hys' (Kp.refl qt _).up) (.one (Lay.keep ?_ hys' (Kp.refl qt _).up))⟩
          exact ⟨z, _, rfl, upd_same, ipv.same sz⟩
        · obtain ⟨zs, hzs, hz2⟩ := Ll.same (s2.trans sz)
          exact ⟨zs, by rw [upd_ne ntl.symm]; exact hzs, hz2.mono fun _ _ h => h.keep hys' (Kp.refl qt _).up⟩
        · exact (ipv.same sz).kp hys' (Kp.refl qt _).up
        · exact (hav2.same sz).kp hys' (Kp.refl qt _).up
        · rcases hrv2 with h | h
          · exact .inl ((h.same sz).kp hys' (Kp.refl qt _).up)
          · exact .inr h
      · rintro σ' H3 ⟨rfl, s3, Lt3, Ll3, ip3, ia3, ir3⟩
        refine ⟨⟨fun σ' H4 => Wd (σ' = [some (.ref q), some v, some (.ref qt), some (.ref ql), some rv, some (.str lot), some av, some pv] ∧ Same H H4 ∧ LayAt A.Ratio H4 qt (if 0 < p then tk ++ [(lot, p)] else tk) ∧ LayAt A.Ratio H4 ql (if p < a then lf ++ [(lot, a - p)] else lf) ∧ IsR A.Ratio H4 pv p ∧ IsN A.Ratio H4 rv R), ?_, ?_⟩⟩
        · obtain ⟨pp, pdx, rfl, hpp⟩ := id ip3
          refine ⟨_, rfl, pp, pdx, _, rfl, hpp, rf_no _ _ (by decide +kernel) (by decide +kernel), _, rfl, _, _, p, a, u + i * (b + 1) + b, b, rfl, ip3, .inl ia3, szp, sza, by omega, fun H4 s4 => ⟨_, rfl, ?_⟩⟩
          refine if_dec (fun e => ?_) (fun e => ⟨rfl, s3.trans s4, Lt3.same s4, by rw [if_neg e]; exact Ll3.same s4, ip3.same s4, ir3.same s4⟩)
          obtain ⟨ys, hys, hy2⟩ := Ll3.same s4
          refine ⟨_, rfl, .inl ⟨rfl, _, SqL.of hys⟩, _, rfl, _, rfl, _, rfl, r_own (ia3.same s4) (.inl (ip3.same s4)) sza szp (by omega) fun dv H5 s5 idv => ⟨(by show 2 ≤ sizeLine; decide), fun z hz => ?_⟩⟩
          have sz := Same.new (o := .tup [V.str lot, dv]) hz
          have s45 := s4.trans (s5.trans sz)
          have hys' := (s5.trans sz) _ _ hys
          refine ⟨ql, ys, _, rfl, rfl, hys', ?_, rfl, ?_, ?_, ?_, ?_, ?_⟩
          · rw [hy2.1]
            exact Nat.lt_of_lt_of_le (by omega : lf.length < 1000) (by decide)
          · exact Same.at_new fql (s3.trans s45)
          · obtain ⟨zs, hzs, hz2⟩ := Lt3.same s45
            exact ⟨zs, by rw [upd_ne ntl]; exact hzs, hz2.mono fun _ _ h => h.keep hys' (Kp.refl ql _).up⟩
          · rw [if_pos e]
            refine ⟨ys ++ [.ref z], upd_same, All2.app (hy2.mono fun _ _ h => (h.same (s5.trans sz)).keep hys' (Kp.refl ql _).up) (.one (Lay.keep ?_ hys' (Kp.refl ql _).up))⟩
            exact ⟨z, _, rfl, upd_same, idv.same sz⟩
          · exact (ip3.same s45).kp hys' (Kp.refl ql _).up
          · rcases ir3.same s45 with h | h
            · exact .inl (h.kp hys' (Kp.refl ql _).up)
            · exact .inr h
        · rintro σ' H4 ⟨rfl, s4, Lt4, Ll4, ip4, ir4⟩
          refine ⟨_, rfl, _, rfl, ?_⟩
          have fin : ∀ (nv : V) (H5 : Hp), Same H4 H5 → IsR A.Ratio H5 nv (R - p) → Wd (∃ (rv : V) (o5 o6 o7 : Option V), [some (.ref q), some v, some (.ref qt), some (.ref ql), some nv, some (.str lot), some av, some pv] = [some (.ref q), some v, some (.ref qt), some (.ref ql), some rv, o5, o6, o7] ∧ Same H H5 ∧ LayAt A.Ratio H5 qt (cutF (ls.take (i + 1)) r).1 ∧ LayAt A.Ratio H5 ql (cutF (ls.take (i + 1)) r).2.1 ∧ IsN A.Ratio H5 rv (cutF (ls.take (i + 1)) r).2.2 ∧
              Sz (u + (i + 1) * (b + 1)) (cutF (ls.take (i + 1)) r).2.2 ∧ SzL (u + (i + 1 + 1) * (b + 1)) (cutF (ls.take (i + 1)) r).1 ∧ SzL (u + (i + 1 + 1) * (b + 1)) (cutF (ls.take (i + 1)) r).2.1 ∧ (cutF (ls.take (i + 1)) r).1.length ≤ i + 1 ∧ (cutF (ls.take (i + 1)) r).2.1.length ≤ i + 1) := fun nv H5 s5 inv => by
            rw [hst1, bm2, bm]
            refine ⟨nv, _, _, _, rfl, s4.trans s5, Lt4.same s5, Ll4.same s5, .inl inv, ?_, fun l hl => ?_, fun l hl => ?_, ?_, ?_⟩
            · rw [← hp]
              split
              · exact (szr.sub sza).mono (by omega)
              · rw [Rat.sub_self]
                exact ⟨Nat.lt_of_lt_of_le (by decide : (0 : Rat).num.natAbs < 2 ^ 1) (pow_mono (by omega)), Nat.lt_of_lt_of_le (by decide : (0 : Rat).den < 2 ^ 1) (pow_mono (by omega))⟩
            · have hl : l ∈ (if 0 < p then tk ++ [(lot, p)] else tk) := hl
              split at hl
              · rcases List.mem_append.mp hl with hl | hl
                · exact (szt l hl).mono (by omega)
                · rw [List.mem_singleton] at hl
                  subst hl
                  exact szp.mono (by omega)
              · exact (szt l hl).mono (by omega)
            · have hl : l ∈ (if p < a then lf ++ [(lot, a - p)] else lf) := hl
              split at hl
              · rcases List.mem_append.mp hl with hl | hl
                · exact (szl l hl).mono (by omega)
                · rw [List.mem_singleton] at hl
                  subst hl
                  exact (sza.sub szp).mono (by omega)
              · exact (szl l hl).mono (by omega)
            · show (if 0 < p then tk ++ [(lot, p)] else tk).length ≤ i + 1
              split
              · rw [List.length_append]
                exact Nat.succ_le_succ lt
              · exact Nat.le_succ_of_le lt
            · show (if p < a then lf ++ [(lot, a - p)] else lf).length ≤ i + 1
              split
              · rw [List.length_append]
                exact Nat.succ_le_succ ll
              · exact Nat.le_succ_of_le ll
          rcases ir4 with h | ⟨m, rfl, em⟩
          · exact ⟨.inl (r_own h (.inl ip4) szr szp (by omega) fun nv H5 s5 i5 => fin nv H5 s5 i5)⟩
          · refine ⟨.inr (r_rown ip4 szp (b := u + i * (b + 1)) (by rw [← em]; exact szr) (by omega) fun nv H5 s5 i5 => fin nv H5 s5 ?_)⟩
            rw [em, Rat.sub_eq_add_neg, Rat.add_comm]
            exact i5
    · rintro σ' H' ⟨rv, o5, o6, o7, rfl, sx, Lt, Ll, hrv, szr, szt, szl, lt, ll⟩
      rw [hx.1, List.take_of_length_le (Nat.le_refl _)] at Lt Ll szt szl
      have hm : u + (ls.length + 1) * (b + 1) ≤ u + (ls.length + 2) * (b + 1) := Nat.add_le_add_left (Nat.mul_le_mul_right _ (by omega)) _
      refine ⟨_, rfl, _, rfl, (by show 2 ≤ sizeLine; decide), fun p hp => ?_⟩
      have sp := Same.new (o := .tup [V.ref qt, .ref ql]) hp
      exact k p qt ql _ (sx.trans sp) upd_same (Lt.same sp) (Ll.same sp) ntl (fun l hl => (szt l hl).mono hm) (fun l hl => (szl l hl).mono hm) hqt fql
end

/-! ### stacked, units_in, shared, check_units -/
def stepS (f : List Ly) (l : Ly) : List Ly := match f.getLast? with
  | some x => if x.1 = l.1 then f.dropLast ++ [(l.1, x.2 + l.2)] else if 0 < l.2 then f ++ [l] else f
  | none => if 0 < l.2 then f ++ [l] else f
def stackF (ls : List Ly) : List Ly := ls.foldl stepS []
theorem All2.snoc {α β : Type} {R : α → β → Prop} {xs : List α} {f : List β} {x : β} (h : All2 R xs (f ++ [x])) : ∃ xs' xv, xs = xs' ++ [xv] ∧ All2 R xs' f ∧ R xv x := by
  have hl : xs.length = f.length + 1 := by
    rw [h.1, List.length_append]
    rfl
  obtain ⟨xv, hv⟩ : ∃ xv, xs.getLast? = some xv := by
    cases e : xs.getLast? with
    | some y => exact ⟨y, rfl⟩
    | none => rw [List.getLast?_eq_none_iff.mp e] at hl; simp at hl
  obtain ⟨xs', rfl⟩ := List.getLast?_eq_some_iff.mp hv
  have hl' : xs'.length = f.length := by
    rw [List.length_append] at hl
    simpa using hl
  refine ⟨xs', xv, rfl, ⟨hl', fun i a b ha hb => h.2 i a b ?_ ?_⟩, h.2 f.length _ _ ?_ ?_⟩
  · rw [List.getElem?_append_left (List.getElem?_eq_some_iff.mp ha).1]
    exact ha
  · rw [List.getElem?_append_left (List.getElem?_eq_some_iff.mp hb).1]
    exact hb
  · rw [List.getElem?_append_right (by omega), hl', Nat.sub_self]
    rfl
  · rw [List.getElem?_append_right (Nat.le_refl _), Nat.sub_self]
    rfl
theorem set_last {α : Type} {l : List α} {x y : α} : (l ++ [x]).set l.length y = l ++ [y] := by
  rw [List.set_append_right _ _ (Nat.le_refl _), Nat.sub_self]
  rfl
theorem ix_last {α : Type} {l : List α} {x : α} : ixN (l ++ [x]).length (-1) = some l.length := by
  unfold ixN
  rw [if_neg (by decide), List.length_append, List.length_singleton, if_pos (by omega)]
  congr 1
  omega
theorem last_atL {l : List V} {x : V} : atI (l ++ [x]) (-1) = some x := by
  unfold atI
  rw [ix_last]
  show (l ++ [x])[l.length]? = some x
  rw [List.getElem?_append_right (Nat.le_refl _), Nat.sub_self]
  rfl
def spStacked (C : Addr) : Sp := fun vs H Q _ => ∃ (q : Addr) (ls : List Ly) (b : Nat), vs = [.ref q] ∧ LayAt C H q ls ∧ SzL b ls ∧ ls.length ≤ 100 ∧ (ls.length + 2) * (b + 1) ≤ 8000 ∧
  ∀ (p : Addr) (H' : Hp), Same H H' → H p = none → LayAt C H' p (stackF ls) → SzL ((ls.length + 1) * (b + 1)) (stackF ls) → Q (.ref p) H'
section
variable {P : Program} {w : World} {K : PySem.W.Frag} {mg : Str → Option Value} {base : Heap} {A : Ad}
theorem ok_f_stacked (T : Txt K mg A) : FnOk P w K mg base CX0 10 A.f_stacked A.fd_f_stacked P_f_stacked (spStacked A.Ratio) := by
  refine T.F_f_stacked.ok sc_f_stacked (fun vs H Q E h => ?_) (fun cdv Ar outer s H vs Q E hr h => ?_)
  · obtain ⟨q, ls, b, rfl, _⟩ := h
    rfl
  · obtain ⟨q, ls, b, rfl, ⟨xs, hq, hx⟩, sL, hlen, hbits, k⟩ := h
    refine ⟨_, (pss_cons (ps_set (i := 1) sc_f_stacked.nd rfl (Or.inl rfl) (pe_lst pa_nil))
      (pss_cons (ps_g (ps_for PassesOwn.never rfl (pi_list (pv 0)) (pg_tup (n := 2) rfl (pgs_cons (pg_name (i := 2) sc_f_stacked.nd rfl (Or.inl rfl)) (pgs_cons (pg_name (i := 3) sc_f_stacked.nd rfl (Or.inl rfl)) pgs_nil))) (pss_one (ps_if (PW.pt (pw_and (pt_truth (pv 1) (by intro _; rfl)) (pw_and1 (pt_cmpR op_eq (pe_ix ix_tup (pe_ix ix_list (pv 1) (pe_un un_neg pe_int) (fun _ _ => rfl)) pe_int (fun _ _ => rfl)) (pv 2) (nomark _))))) (pss_one (ps_asg (pe_tup (pa_cons (pv 2) (pa_cons (pe_op (op_own (E := E0) rfl (oo_add T) (ok_m_Ratio_add T) (hr.mono (by decide)) T.b_m_Ratio_add pass0) (pe_ix ix_tup (pe_ix ix_list (pv 1) (pe_un un_neg pe_int) (fun _ _ => rfl)) pe_int (fun _ _ => rfl)) (pv 3)) pa_nil))) (pg_sub (pv 1) (pe_un un_neg pe_int) set_list))) (pss_one (ps_if (pt_cmpR op_gt (pe_fld (pv 3) rfl) pe_int (nomark _)) (pss_one (ps_expr (pe_bm PySem.F.plainAttrs_list PySem.F.slot_list_append PySem.F.type_list_append mt_append (pv 1) (pa_cons (pe_tup (pa_cons (pv 2) (pa_cons (pv 3) pa_nil))) pa_nil)))) pss_nil))))))
      (pss_one (ps_ret (pv 1))))), ?_⟩
    refine ⟨Nat.zero_le _, fun f hf => ?_⟩
    have s1 := Same.new (o := .lst []) hf
    refine ⟨⟨_, rfl, q, rfl, ⟨_, SqL.of (s1 _ _ hq)⟩, for_list (xs := xs) (fun i σ' H' => Wd (∃ (o2 o3 : Option V), σ' = [some (.ref q), some (.ref f), o2, o3] ∧ Same H H' ∧ LayAt A.Ratio H' f (stackF (ls.take i)) ∧ SzL ((i + 1) * (b + 1)) (stackF (ls.take i)) ∧ (stackF (ls.take i)).length ≤ i))
      ⟨none, none, rfl, s1, ⟨[], upd_same, .nil⟩, fun l hl => (by cases hl), Nat.le_refl _⟩ ?_ ?_ ?_⟩⟩
    · rintro i σ' H' _ ⟨o2, o3, rfl, sx, _⟩
      exact SqL.of (sx _ _ hq)
    · rintro i x σ' H' hxi ⟨o2, o3, rfl, sx, Lf, szf, lf⟩
      obtain ⟨⟨lot, a⟩, hli, hlay⟩ := hx.get hxi
      have sza : Sz b a := sL _ (List.mem_of_getElem? hli)
      have hil : i < ls.length := (List.getElem?_eq_some_iff.mp hli).1
      obtain ⟨t, av, rfl, ht, hav⟩ := hlay
      have hav' := hav.same sx
      have hst : stackF (ls.take (i + 1)) = stepS (stackF (ls.take i)) (lot, a) := by
        unfold stackF
        rw [take_more hli, List.foldl_append]
        rfl
      rw [hst]
      generalize stackF (ls.take i) = F at *
      have bm : (i + 1 + 1) * (b + 1) = (i + 1) * (b + 1) + (b + 1) := by rw [Nat.add_mul (i + 1), Nat.one_mul]
      have bl : (i + 1 + 1) * (b + 1) ≤ (ls.length + 2) * (b + 1) := Nat.mul_le_mul_right _ (by omega)
      rw [bm] at bl
      rw [bm]
      have bits : (i + 1) * (b + 1) + (b + 1) ≤ 8000 := by omega
      refine ⟨t, _, rfl, SqT.of (sx _ _ ht), rfl, _, _, rfl, _, _, rfl, rfl, ?_⟩
      obtain ⟨ys, hys, hy2⟩ := id Lf
      have nf : ∀ {c : Addr} {zs : List V}, H' c = some (.tup zs) → c ≠ f := fun h => ne_of h hys (by intro z; cases z)
      refine tIf_of (p := ∃ F' x, F = F' ++ [x] ∧ x.1 = lot) (H := H') (fun Q hT hF => ?_) (fun H2 s2 hp => ?_) (fun H2 s2 hp => ?_)
      · refine ⟨_, rfl, _, .inl ⟨ys, SqL.of hys, rfl⟩, ?_⟩
        cases hFl : F.getLast? with
        | none =>
          have hF0 := List.getLast?_eq_none_iff.mp hFl
          have hy0 : ys = [] := List.eq_nil_of_length_eq_zero (by rw [hy2.1, hF0]; rfl)
          rw [hy0]
          exact iteF (hF H' (fun _ _ h => h) fun ⟨F', x, e, _⟩ => by rw [hF0] at e; cases F' <;> cases e)
        | some x =>
          obtain ⟨F', rfl⟩ := List.getLast?_eq_some_iff.mp hFl
          obtain ⟨ys', yv, rfl, h3, t2, rv, rfl, ht2, hrv⟩ := hy2.snoc
          have hne : (!(ys' ++ [V.ref t2]).isEmpty) = true := by cases ys' <;> rfl
          rw [hne]
          refine iteT ⟨_, rfl, 1, rfl, f, _, _, _, rfl, rfl, SqL.of hys, last_atL, t2, _, _, _, rfl, rfl, SqT.of ht2, rfl, _, rfl, rfl, _, rfl, ?_⟩
          refine q_dec (Q := Q) (fun e => hT H' (fun _ _ h => h) ⟨F', x, rfl, V.str.inj e⟩) (fun e => hF H' (fun _ _ h => h) fun ⟨F2, x2, e2, e3⟩ => e ?_)
          have := List.append_inj' e2 rfl
          have hx2 : x = x2 := by simpa using this.2
          rw [hx2, e3]
      · obtain ⟨F', x, rfl, hx1⟩ := hp
        obtain ⟨ys', yv, rfl, h3, t2, rv, rfl, ht2, hrv⟩ := hy2.snoc
        have hys2 := s2 _ _ hys
        have ht22 := s2 _ _ ht2
        have szx : Sz ((i + 1) * (b + 1)) x.2 := szf x (by simp)
        refine ⟨_, rfl, _, rfl, 1, rfl, f, _, _, _, rfl, rfl, SqL.of hys2, last_atL, t2, _, _, _, rfl, rfl, SqT.of ht22, rfl, _, rfl, r_own (hrv.same s2) (.inl (hav'.same s2)) szx sza (by omega) fun nv H3 s3 inv => ⟨(by show 2 ≤ sizeLine; decide), fun z hz => ?_⟩⟩
        have sz := Same.new (o := .tup [V.str lot, nv]) hz
        have s23 := s2.trans (s3.trans sz)
        have hysz := s23 _ _ hys
        refine ⟨_, rfl, 1, rfl, f, _, _, ys'.length, rfl, rfl, hysz, ix_last, ?_⟩
        rw [set_last]
        have eS : stepS (F' ++ [x]) (lot, a) = F' ++ [(lot, x.2 + a)] := by
          unfold stepS
          rw [List.getLast?_append, List.getLast?_singleton]
          show (if x.1 = lot then (F' ++ [x]).dropLast ++ [(lot, x.2 + a)] else _) = _
          rw [if_pos hx1, List.dropLast_concat]
        rw [eS]
        refine ⟨_, _, rfl, Same.at_new hf (sx.trans s23), ⟨ys' ++ [.ref z], upd_same, All2.app (h3.mono fun _ _ h => (h.same s23).keep hysz (Kp.refl f _).up) (.one (Lay.keep ⟨z, nv, rfl, upd_same, inv.same sz⟩ hysz (Kp.refl f _).up))⟩, fun l hl => ?_, ?_⟩
        · rcases List.mem_append.mp hl with hl | hl
          · exact (szf l (List.mem_append.mpr (.inl hl))).mono (by omega)
          · rw [List.mem_singleton] at hl
            subst hl
            exact (szx.add sza).mono (by omega)
        · rw [List.length_append] at lf ⊢
          exact Nat.le_succ_of_le lf
      · have eS : stepS F (lot, a) = if 0 < a then F ++ [(lot, a)] else F := by
          unfold stepS
          cases hFl : F.getLast? with
          | none => rfl
          | some x =>
            obtain ⟨F', rfl⟩ := List.getLast?_eq_some_iff.mp hFl
            show (if x.1 = lot then _ else _) = _
            rw [if_neg fun e => hp ⟨F', x, rfl, e⟩]
        rw [eS]
        obtain ⟨ap, adx, rfl, hap⟩ := id (hav'.same s2)
        refine ⟨_, rfl, ap, A.Ratio, adx, _, _, rfl, hap, T.cl_Ratio, T.n_Ratio_top, rf_top _ _, _, _, rfl, rfl, _, rfl, ?_⟩
        show if decide ((0 : Int) < a.num) = true then _ else _
        rw [rat_pos]
        have hys2 := s2 _ _ hys
        refine if_dec (fun e => ?_) (fun e => ?_)
        · refine ⟨_, rfl, .inl ⟨rfl, _, SqL.of hys2⟩, _, rfl, _, rfl, (by show 2 ≤ sizeLine; decide), fun z hz => ?_⟩
          have sz := Same.new (o := .tup [V.str lot, .ref ap]) hz
          have hysz := sz _ _ hys2
          have s23 := s2.trans sz
          rw [if_pos e]
          refine ⟨f, ys, _, rfl, rfl, hysz, ?_, _, _, rfl, Same.at_new hf (sx.trans s23), ⟨ys ++ [.ref z], upd_same, All2.app (hy2.mono fun _ _ h => (h.same s23).keep hysz (Kp.refl f _).up) (.one (Lay.keep ⟨z, _, rfl, upd_same, (hav'.same s2).same sz⟩ hysz (Kp.refl f _).up))⟩, fun l hl => ?_, ?_⟩
          · rw [hy2.1]
            exact Nat.lt_of_lt_of_le (by omega : F.length < 1000) (by decide)
          · rcases List.mem_append.mp hl with hl | hl
            · exact (szf l hl).mono (by omega)
            · rw [List.mem_singleton] at hl
              subst hl
              exact sza.mono (by omega)
          · rw [List.length_append]
            exact Nat.succ_le_succ lf
        · rw [if_neg e]
          exact ⟨_, _, rfl, sx.trans s2, Lf.same s2, fun l hl => (szf l hl).mono (by omega), Nat.le_succ_of_le lf⟩
    · rintro σ' H' ⟨o2, o3, rfl, sx, Lf, szf, lf⟩
      rw [hx.1, List.take_of_length_le (Nat.le_refl _)] at Lf szf
      exact ⟨_, rfl, k f H' sx hf Lf szf⟩
end

theorem mk_excF {C : Addr} {n : Nat} {fs : List V → List (Str × V)} {H : Hp} {ws : List V} {Q : XK} (h : ∀ d H', Same H H' → H d = none → H' d = some (.xd (fs ws)) → Q (.ref C) (some d) H') {a : Addr} (ha : H a = none) (hl : ws.length = n := by rfl) :
    spExcF C n fs (.ref a :: ws) (upd H a (exo a C none)) (fun v H2 => v = .non ∧ ∃ (d : Addr) (fs : List (Str × V)), H2 a = some (exo a C (some d)) ∧ H2 d = some (exd d fs) ∧ H d = none ∧ Q (.ref C) (some d) (upd (del H2 a) d (.xd fs))) (fun _ _ _ => False) := by
  refine ⟨a, ws, rfl, hl, upd_same, fun d H' hd nd keep ea ed => ⟨rfl, d, _, ea, ed, ?_, ?_⟩⟩
  · rw [upd_ne nd] at hd
    exact hd
  · rw [upd_ne nd] at hd
    refine h d _ (fun b o e => ?_) hd upd_same
    have n1 := ne_of_none e ha
    have n2 := ne_of_none e hd
    rw [upd_ne n2, del_ne n1]
    exact keep b o (by rw [upd_ne n1]; exact e) n1

def tot (ls : List Ly) : Rat := rsum (ls.map (·.2))
theorem rsum_sz {b : Nat} {qs : List Rat} (h : ∀ q ∈ qs, Sz b q) : ∀ i, i ≤ qs.length → Sz (1 + i * (b + 1)) (rsum (qs.take i))
  | 0, _ => by
    rw [Nat.zero_mul]
    show Sz _ (0 : Rat)
    exact ⟨by decide, by decide⟩
  | i + 1, hi => by
    have ih := rsum_sz h i (Nat.le_of_succ_le hi)
    have hq : qs[i]? = some qs[i] := List.getElem?_eq_getElem hi
    rw [rsum_more hq, show 1 + (i + 1) * (b + 1) = 1 + i * (b + 1) + b + 1 by rw [Nat.add_mul, Nat.one_mul]; omega]
    exact ih.add (h _ (List.getElem_mem hi))
theorem tot_sz {b : Nat} {ls : List Ly} (h : SzL b ls) : Sz (1 + ls.length * (b + 1)) (tot ls) := by
  have := rsum_sz (b := b) (qs := ls.map (·.2)) (fun q hq => by obtain ⟨l, hl, rfl⟩ := List.mem_map.mp hq; exact h l hl) (ls.map (·.2)).length (Nat.le_refl _)
  rw [List.take_length, List.length_map] at this
  exact this
def spUnits (C : Addr) : Sp := fun vs H Q _ => ∃ (q : Addr) (ls : List Ly) (b : Nat), vs = [.ref q] ∧ LayAt C H q ls ∧ SzL b ls ∧ ls.length ≤ 100 ∧ 1 + (ls.length + 1) * (b + 1) ≤ 8990 ∧ ∀ v H', Same H H' → IsR C H' v (tot ls) → Q v H'
def sharedF (ls : List Ly) (s : Rat) : List Ly := if 0 < s then ls.map (fun l => (l.1, l.2 * s)) else []
def spShared (C : Addr) : Sp := fun vs H Q _ => ∃ (q : Addr) (sv : V) (ls : List Ly) (s : Rat) (b c : Nat), vs = [.ref q, sv] ∧ LayAt C H q ls ∧ IsR C H sv s ∧ SzL b ls ∧ Sz c s ∧ ls.length ≤ 100 ∧ b + c ≤ 8990 ∧
  ∀ p H', Same H H' → H p = none → LayAt C H' p (sharedF ls s) → SzL (b + c) (sharedF ls s) → Q (.ref p) H'
def spCheck (C CE : Addr) : Sp := fun vs H Q E => ∃ (q : Addr) (v : V) (ls : List Ly) (r : Rat) (b u : Nat), vs = [.ref q, v] ∧ LayAt C H q ls ∧ IsN C H v r ∧ SzL b ls ∧ Sz u r ∧ ls.length ≤ 100 ∧ u + (ls.length + 2) * (b + 1) ≤ 8900 ∧
  (¬ tot ls < r → ∀ H', Same H H' → Q .non H') ∧ (tot ls < r → ∀ x mv H', Same H H' → H' x = some (.xd [("missing", mv)]) → IsR C H' mv (r - tot ls) → E (.ref CE) (some x) H')
section
variable {P : Program} {w : World} {K : PySem.W.Frag} {mg : Str → Option Value} {base : Heap} {A : Ad}
theorem ok_f_units_in (T : Txt K mg A) : FnOk P w K mg base CX0 11 A.f_units_in A.fd_f_units_in P_f_units_in (spUnits A.Ratio) := by
  refine T.F_f_units_in.ok sc_f_units_in (fun vs H Q E h => ?_) (fun cdv Ar outer s H vs Q E hr h => ?_)
  · obtain ⟨q, ls, b, rfl, _⟩ := h
    rfl
  · obtain ⟨q, ls, b, rfl, ⟨xs, hq, hx⟩, sL, hlen, hbits, k⟩ := h
    refine ⟨_, (pss_one (ps_ret (pe_smeth (pe_glob (v := .ref A.Ratio) (by rfl) T.g_Ratio rfl) T.sm_Ratio_sum_of (ok_m_Ratio_sum_of T) (hr.mono (by decide)) T.b_m_Ratio_sum_of pass0 (pa_cons (pe_g (pe_lcV (own := [("lot", 1), ("amount", 2)]) rfl sc_f_units_in.nd (pi_list (pv 0)) (blkOk_by (own := [("lot", 1), ("amount", 2)]) (N := N_f_units_in) (sc := defScope s_f_units_in) (by decide +kernel)) (fun _ _ _ _ _ => (pg_tup (n := 2) rfl (pgs_cons (pg_name (i := 1) sc_f_units_in.nd rfl (Or.inl rfl)) (pgs_cons (pg_name (i := 2) sc_f_units_in.nd rfl (Or.inl rfl)) pgs_nil)))) (fun _ _ _ _ _ => pts_nil) (fun _ _ _ _ _ => (pv 2)) (fun _ _ _ _ _ => rfl) (fun _ _ _ _ _ => rfl) (fun _ _ _ _ _ => rfl))) pa_nil)))), ?_⟩
    refine ⟨rfl, ⟨_, rfl, q, rfl, ⟨_, SqL.of hq⟩, fun D hD => ?_⟩⟩
    refine lc_sameP (fun i y H' => ∃ l, ls[i]? = some l ∧ IsR A.Ratio H' y l.2) hq (by rw [hx.1]; omega) hD (fun i y G G' acc hDl kp ⟨l, e1, e2⟩ => ⟨l, e1, e2.kp hDl kp⟩) ?_ ?_
    · intro i x H' N M hxi s' hN
      obtain ⟨l, hli, t, av, rfl, ht, hav⟩ := hx.get hxi
      exact ⟨t, _, rfl, SqT.of (s' _ _ ht), rfl, _, _, rfl, _, _, rfl, rfl, rfl, _, rfl, hN _ _ (fun _ _ h => h) ⟨l, hli, hav.same s'⟩⟩
    · intro ys H' s' hyl hR hD'
      refine ⟨D, ys, ls.map (fun l : Ly => l.2), b, rfl, hD', by rw [hyl, hx.1, List.length_map], fun i y w hy hw => ?_, by rw [hyl, hx.1]; exact hbits, fun v' H2 s2 i2 => k v' H2 (s'.trans s2) i2⟩
      obtain ⟨l, hli, hl2⟩ := hR i y hy
      rw [List.getElem?_map, hli] at hw
      cases hw
      exact ⟨.inl hl2, sL l (List.mem_of_getElem? hli)⟩
theorem ok_f_shared (T : Txt K mg A) : FnOk P w K mg base CX0 10 A.f_shared A.fd_f_shared P_f_shared (spShared A.Ratio) := by
  refine T.F_f_shared.ok sc_f_shared (fun vs H Q E h => ?_) (fun cdv Ar outer s H vs Q E hr h => ?_)
  · obtain ⟨q, sv, ls, sh, b, c, rfl, _⟩ := h
    rfl
  · obtain ⟨q, sv, ls, sh, b, c, rfl, ⟨xs, hq, hx⟩, hsv, sL, sS, hlen, hbits, k⟩ := h
    refine ⟨_, (pss_one (ps_ret (pe_g (pe_lcV (own := [("lot", 2), ("amount", 3)]) rfl sc_f_shared.nd (pi_list (pv 0)) (blkOk_by (own := [("lot", 2), ("amount", 3)]) (N := N_f_shared) (sc := defScope s_f_shared) (by decide +kernel)) (fun _ _ _ _ _ => (pg_tup (n := 2) rfl (pgs_cons (pg_name (i := 2) sc_f_shared.nd rfl (Or.inl rfl)) (pgs_cons (pg_name (i := 3) sc_f_shared.nd rfl (Or.inl rfl)) pgs_nil)))) (fun _ _ _ _ _ => (pts_one (pt_cmpR op_gt (pe_fld (pv 1) rfl) pe_int (nomark _)))) (fun _ _ _ _ _ => (pe_tup (pa_cons (pv 2) (pa_cons (pe_op (op_own (E := E0) rfl (oo_mul T) (ok_m_Ratio_mul T) (hr.mono (by decide)) T.b_m_Ratio_mul pass0) (pv 3) (pv 1)) pa_nil)))) (fun _ _ _ _ _ => rfl) (fun _ _ _ _ _ => rfl) (fun _ _ _ _ _ => rfl))))), ?_⟩
    refine ⟨⟨_, rfl, q, rfl, ⟨_, SqL.of hq⟩, fun D hD => ?_⟩⟩
    obtain ⟨sp, sdx, rfl, hsp⟩ := id hsv
    by_cases hpos : 0 < sh
    · have eF : sharedF ls sh = ls.map (fun l => (l.1, l.2 * sh)) := if_pos hpos
      refine lc_sameP (fun i y H' => ∃ l, ls[i]? = some l ∧ Lay A.Ratio H' y (l.1, l.2 * sh)) hq (by rw [hx.1]; omega) hD (fun i y G G' acc hDl kp ⟨l, e1, e2⟩ => ⟨l, e1, e2.keep hDl kp⟩) ?_ ?_
      · intro i x H' N M hxi s' hN
        obtain ⟨l, hli, t, av, rfl, ht, hav⟩ := hx.get hxi
        refine ⟨t, _, rfl, SqT.of (s' _ _ ht), rfl, _, _, rfl, _, _, rfl, rfl, rfl, ?_⟩
        refine ⟨_, rfl, sp, A.Ratio, sdx, _, _, rfl, s' _ _ hsp, T.cl_Ratio, T.n_Ratio_top, rf_top _ _, _, _, rfl, rfl, _, rfl, ?_⟩
        show if decide ((0 : Int) < sh.num) = true then _ else _
        rw [rat_pos]
        refine ifT hpos ⟨_, rfl, _, rfl, _, rfl, r_own (hav.same s') (.inl (hsv.same s')) (sL l (List.mem_of_getElem? hli)) sS hbits fun nv H2 s2 inv => ⟨(by show 2 ≤ sizeLine; decide), fun z hz => ?_⟩⟩
        exact hN _ _ (s2.trans (Same.new hz)) ⟨l, hli, z, nv, rfl, upd_same, inv.same (Same.new hz)⟩
      · intro ys H' s' hyl hR hD'
        refine k D H' s' hD ⟨ys, hD', by rw [eF, hyl, hx.1, List.length_map], fun i y w hy hw => ?_⟩ (fun l hl => ?_)
        · obtain ⟨l, hli, hl2⟩ := hR i y hy
          rw [eF, List.getElem?_map, hli] at hw
          cases hw
          exact hl2
        · rw [eF] at hl
          obtain ⟨l', hl', rfl⟩ := List.mem_map.mp hl
          exact (sL l' hl').mul sS
    · have eF : sharedF ls sh = [] := if_neg hpos
      refine lc_list (K := K) (a := q) (xs := xs) (fun i H' => Wd (Same H H' ∧ H' D = some (.lst []))) ⟨Same.new hD, upd_same⟩ (fun i H' _ h => SqL.of (h.ok.1 _ _ hq)) ?_ ?_
      · rintro i x H' hxi ⟨s', hD'⟩
        obtain ⟨l, hli, t, av, rfl, ht, hav⟩ := hx.get hxi
        refine ⟨t, _, rfl, SqT.of (s' _ _ ht), rfl, _, _, rfl, _, _, rfl, rfl, rfl, ?_⟩
        refine ⟨_, rfl, sp, A.Ratio, sdx, _, _, rfl, s' _ _ hsp, T.cl_Ratio, T.n_Ratio_top, rf_top _ _, _, _, rfl, rfl, _, rfl, ?_⟩
        show if decide ((0 : Int) < sh.num) = true then _ else _
        rw [rat_pos]
        exact ifF hpos ⟨s', hD'⟩
      · rintro H' ⟨s', hD'⟩
        exact k D H' s' hD (by rw [eF]; exact ⟨[], hD', .nil⟩) (fun l hl => by rw [eF] at hl; cases hl)
theorem ok_f_check_units (T : Txt K mg A) : FnOk P w K mg base (L2.CX P w) 14 A.f_check_units A.fd_f_check_units P_f_check_units (spCheck A.Ratio A.Short) := by
  refine T.F_f_check_units.okX sc_f_check_units (fun vs H Q E h => ?_) (fun cdv Ar outer s H vs Q E hr h => ?_)
  · obtain ⟨q, v, ls, r, b, u, rfl, _⟩ := h
    rfl
  · obtain ⟨q, v, ls, r, b, u, rfl, hL, hv, sL, sr, hlen, hbits, k1, k2⟩ := h
    refine ⟨_, (pss_cons (ps_set (i := 2) sc_f_check_units.nd rfl (Or.inl rfl) (pe_call (ok_f_units_in T) (hr.mono (by decide)) (by rfl) T.g_units_in T.F_f_units_in.kp T.b_f_units_in .nil pass0 (pa_cons (pv 0) pa_nil)))
      (pss_one (ps_if (pt_val (pe_meth (pv 2) T.cl_Ratio T.m_Ratio_less (ok_m_Ratio_less T) (hr.mono (by decide)) T.b_m_Ratio_less .nil pass0 (pa_cons (pv 1) pa_nil))) (pss_one (ps_raise rfl (takes_of rfl rfl rfl rfl) (pmk_oex T.ox_Short T.oi_Short T.ot_Short (ok_m_Short_init T) (hr.mono (by decide)) T.b_m_Short_init .nil pass0 (by rfl) T.g_Short (pa_cons (pe_op (op_mix (op_own (E := E0) rfl (oo_sub T) (ok_m_Ratio_sub T) (hr.mono (by decide)) T.b_m_Ratio_sub pass0) (op_rown (E := E0) rfl (oo_sub T) PySem.F.fills_int_sub PySem.F.slot_int_sub PySem.F.entry_int_sub PySem.F.args_int_sub_2 rfl (ok_m_Ratio_rsub T) (hr.mono (by decide)) T.b_m_Ratio_rsub pass0)) (pv 1) (pv 2)) pa_nil)))) pss_nil))), ?_⟩
    have bm : (ls.length + 2) * (b + 1) = ls.length * (b + 1) + 2 * (b + 1) := Nat.add_mul _ _ _
    have bm1 : (ls.length + 1) * (b + 1) = ls.length * (b + 1) + (b + 1) := by rw [Nat.add_mul, Nat.one_mul]
    refine ⟨_, rfl, q, ls, b, rfl, hL, sL, hlen, by omega, fun tv H1 s1 it => ?_⟩
    obtain ⟨tp, tdx, rfl, htp⟩ := id it
    have szt := tot_sz sL
    refine ⟨_, rfl, tp, tdx, _, rfl, htp, rf_no _ _ (by decide +kernel) (by decide +kernel), _, rfl, _, _, tot ls, r, _, u, rfl, it, hv.same s1, szt, sr, by omega, fun H2 s2 => ⟨_, rfl, if_dec (fun e => ?_) (fun e => k1 e H2 (s1.trans s2))⟩⟩
    have fin : ∀ (nv : V) (H3 : Hp), Same H2 H3 → IsR A.Ratio H3 nv (r - tot ls) → [nv].length ≤ 1000 ∧ ∀ a, H3 a = none → _ := fun nv H3 s3 inv => ⟨(by show 1 ≤ 1000; decide), fun a ha => mk_excF (C := A.Short) (n := 1) (fs := fs_Short) (H := H3) (ws := [nv]) (Q := E) (fun x H' s' _ hx => k2 e x nv H' (s1.trans (s2.trans (s3.trans s'))) hx (inv.same s')) ha⟩
    refine ⟨_, rfl, _, rfl, ?_⟩
    rcases (hv.same s1).same s2 with h | ⟨m, rfl, em⟩
    · exact ⟨.inl (r_own h (.inl (it.same s2)) sr szt (by omega) fun nv H3 s3 i3 => fin nv H3 s3 i3)⟩
    · refine ⟨.inr (r_rown (it.same s2) szt (b := u) (by rw [← em]; exact sr) (by omega) fun nv H3 s3 i3 => fin nv H3 s3 ?_)⟩
      rw [em, Rat.sub_eq_add_neg, Rat.add_comm]
      exact i3
end

/-- the rule as data -/
structure Ru where
  t : Str
  p : Str
  n : Int
def Ru.Ok (r : Ru) : Prop := (r.t = "oldest" ∨ r.t = "newest" ∨ r.t = "even") ∧ (r.p = "own" ∨ r.p = "top" ∨ r.p = "bottom") ∧ 0 ≤ r.n ∧ r.n ≤ 1000000
def rlF (t p n : V) : List (Str × V) := putF "period" n (putF "place" p (putF "take" t []))
theorem rl_take (t p n : V) : (rlF t p n).lookup ("take" : Str) = some t := by
  unfold rlF
  rw [lookup_putF, if_neg (by decide +kernel), lookup_putF, if_neg (by decide +kernel), lookup_putF, if_pos rfl]
theorem rl_place (t p n : V) : (rlF t p n).lookup ("place" : Str) = some p := by
  unfold rlF
  rw [lookup_putF, if_neg (by decide +kernel), lookup_putF, if_pos rfl]
theorem rl_period (t p n : V) : (rlF t p n).lookup ("period" : Str) = some n := by
  unfold rlF
  rw [lookup_putF, if_pos rfl]
def Ru.fs (r : Ru) : List (Str × V) := rlF (.str r.t) (.str r.p) (.int r.n)
def IsRu (C : Addr) (H : Hp) (x : Addr) (r : Ru) : Prop := ∃ dx : Addr, H x = some (.ins C dx r.fs)
theorem IsRu.mono {C : Addr} {H H' : Hp} {x : Addr} {r : Ru} (s : Same H H') (h : IsRu C H x r) : IsRu C H' x r := by
  obtain ⟨d, e⟩ := h
  exact ⟨d, s _ _ e⟩
def spNumI : Sp := fun vs H Q _ => ∃ i : Int, vs = [.int i, .int 0] ∧ 0 ≤ i ∧ i ≤ 1000000 ∧ Q (.bl true) H
def spRuleG (C : Addr) : Sp := fun vs H Q _ => ∃ (x dx : Addr) (r : Ru), vs = [.ref x, .str r.t, .str r.p, .int r.n] ∧ H x = some (.ins C dx []) ∧ r.Ok ∧ Q .non (upd H x (.ins C dx r.fs))
theorem same_mk1 {H : Hp} {x dx C : Addr} {fs : List (Str × V)} (hx : H x = none) (hd : H dx = none) : Same H (upd (upd H dx (.own x)) x (.ins C dx fs)) := fun b o e => by
  rw [upd_ne (ne_of_none e hx), upd_ne (ne_of_none e hd)]
  exact e
theorem mk_ruleG {C x dx : Addr} {H : Hp} {r : Ru} {R : VK} {E : XK} (hx : H x = none) (hd : H dx = none) (hr : r.Ok)
    (hQ : ∀ H', Same H H' → H' x = some (.ins C dx r.fs) → R .non H') :
    spRuleG C [.ref x, .str r.t, .str r.p, .int r.n] (upd (upd H dx (.own x)) x (.ins C dx [])) R E := by
  refine ⟨x, dx, r, rfl, upd_same, hr, hQ _ ?_ upd_same⟩
  rw [upd_upd]
  exact same_mk1 hx hd
theorem inTok {t : Str} (h : t = "oldest" ∨ t = "newest" ∨ t = "even") : inV (.str t) [.str "oldest", .str "newest", .str "even"] = true := by
  obtain rfl | rfl | rfl := h <;> decide +kernel
theorem inSok {t : Str} (h : t = "own" ∨ t = "top" ∨ t = "bottom") : inV (.str t) [.str "own", .str "top", .str "bottom"] = true := by
  obtain rfl | rfl | rfl := h <;> decide +kernel
section
variable {P : Program} {w : World} {K : PySem.W.Frag} {mg : Str → Option Value} {base : Heap} {A : Ad}
theorem ok_f_is_number (T : Txt K mg A) : FnOk P w K mg base CX0 1 A.f_is_number A.fd_f_is_number P_f_is_number spNumI := by
  refine T.F_f_is_number.ok sc_f_is_number (fun vs H Q E h => ?_) (fun cdv Ar outer s H vs Q E hr h => ?_)
  · obtain ⟨v, rfl, _⟩ := h
    rfl
  · obtain ⟨i, rfl, h0, h1, k⟩ := h
    refine ⟨_, (pss_one (ps_ret (pe_and (pe_callB call_isi (by rfl) T.z_isinstance (by decide +kernel) (pa_cons (pv 0) (pa_cons (pe_bltn (v := .ty "int") (by rfl) T.z_int (by decide +kernel) rfl) pa_nil))) (pe_and (pe_not (pe_callB call_isi (by rfl) T.z_isinstance (by decide +kernel) (pa_cons (pv 0) (pa_cons (pe_bltn (v := .ty "bool") (by rfl) T.z_bool (by decide +kernel) rfl) pa_nil)))) (pe_one (pe_chain op_le op_le (pv 1) (pv 0) (pe_glob (v := .int 1000000) (by rfl) T.g_MOST.choose_spec ⟨_, rfl⟩))))))), ?_⟩
    refine ⟨_, rfl, _, _, _, _, _, rfl, .ty "int", .base (.int i), kit_ty (b := "int") (r := true) (by decide +kernel), true, rfl, iteT ?_⟩
    refine ⟨_, rfl, _, _, _, _, _, rfl, .ty "bool", .base (.int i), kit_ty (b := "bool") (r := false) (by decide +kernel), ?_⟩
    refine ⟨_, rfl, true, rfl, iteT ?_⟩
    refine ⟨_, rfl, _, rfl, _, _, rfl, rfl, true, congrArg V.bl (decide_eq_true h0), iteT ?_⟩
    rw [← decide_eq_true h1] at k
    exact ⟨_, _, rfl, rfl, k⟩
theorem ok_m_Rule_init (T : Txt K mg A) : FnOk P w K mg base (L2.CX P w) 5 A.m_Rule_init A.fd_m_Rule_init P_m_Rule_init (spRuleG A.Rule) := by
  refine T.F_m_Rule_init.ok sc_m_Rule_init (fun vs H Q E h => ?_) (fun cdv Ar outer s H vs Q E hr h => ?_)
  · obtain ⟨x, dx, r, rfl, _⟩ := h
    rfl
  · obtain ⟨x, dx, r, rfl, hx, ⟨ht, hp, h0, h1⟩, kq⟩ := h
    refine ⟨_, (pss_cons (ps_if (pt_cmpR op_notIn_seq (pv 1) (pe_glob (v := .ref A.TAKES) (by rfl) T.g_TAKES rfl) (by rfl)) (pss_one (ps_raise rfl (takes_of rfl rfl rfl rfl) (pmk_oex T.ox_BadRule T.oi_BadRule T.ot_BadRule (ok_m_BadRule_init T) (hr.mono (by decide)) T.b_m_BadRule_init .nil pass0 (by rfl) T.g_BadRule (pa_cons pe_str pa_nil)))) pss_nil)
      (pss_cons (ps_if (pt_cmpR op_notIn_seq (pv 2) (pe_glob (v := .ref A.SPOTS) (by rfl) T.g_SPOTS rfl) (by rfl)) (pss_one (ps_raise rfl (takes_of rfl rfl rfl rfl) (pmk_oex T.ox_BadRule T.oi_BadRule T.ot_BadRule (ok_m_BadRule_init T) (hr.mono (by decide)) T.b_m_BadRule_init .nil pass0 (by rfl) T.g_BadRule (pa_cons pe_str pa_nil)))) pss_nil)
      (pss_cons (ps_if (pt_not (pt_val (pe_call (ok_f_is_number T) (hr.mono (by decide)) (by rfl) T.g_is_number T.F_f_is_number.kp T.b_f_is_number .nil pass0 (pa_cons (pv 3) (pa_cons pe_int pa_nil))))) (pss_one (ps_raise rfl (takes_of rfl rfl rfl rfl) (pmk_oex T.ox_BadRule T.oi_BadRule T.ot_BadRule (ok_m_BadRule_init T) (hr.mono (by decide)) T.b_m_BadRule_init .nil pass0 (by rfl) T.g_BadRule (pa_cons pe_str pa_nil)))) pss_nil)
      (pss_cons (ps_fld (pv 0) (pv 1) rfl)
      (pss_cons (ps_fld (pv 0) (pv 2) rfl)
      (pss_one (ps_fld (pv 0) (pv 3) rfl))))))), ?_⟩
    refine ⟨_, rfl, A.TAKES, _, rfl, .inr (.inr T.tq_TAKES), rfl, rfl, _, rfl, ?_⟩
    show if (!inV (.str r.t) [.str "oldest", .str "newest", .str "even"]) = true then _ else _
    rw [inTok ht]
    refine iteF ⟨_, rfl, A.SPOTS, _, rfl, .inr (.inr T.tq_SPOTS), rfl, rfl, _, rfl, ?_⟩
    show if (!inV (.str r.p) [.str "own", .str "top", .str "bottom"]) = true then _ else _
    rw [inSok hp]
    refine iteF ⟨_, rfl, r.n, rfl, h0, h1, _, rfl, ?_⟩
    refine iteF ⟨_, rfl, _, rfl, x, A.Rule, dx, [], rfl, hx, T.cl_Rule, T.n_Rule_take, (by show 0 < 1000; decide), ?_⟩
    refine ⟨_, rfl, _, rfl, x, A.Rule, dx, _, rfl, upd_same, T.cl_Rule, T.n_Rule_place, (by show 1 < 1000; decide), ?_⟩
    refine ⟨_, rfl, _, rfl, x, A.Rule, dx, _, rfl, upd_same, T.cl_Rule, T.n_Rule_period, (by show 2 < 1000; decide), ?_⟩
    rw [upd_upd, upd_upd]
    exact kq
theorem kb_rule (T : Txt K mg A) : ∃ g, KBn K A.fd_m_Rule_init P_m_Rule_init 2 ["place", "period"] g (fun vs zs => vs ++ zs) := by
  obtain ⟨mv, h⟩ := T.F_m_Rule_init.kbinds0 (ps := P_m_Rule_init) 2 ["place", "period"] [] (fun us mz ws => us ++ ws) (by simp) (by simp) (fun r1 r2 r3 => r1.append r3) (fun D doc pm an cdv ct us mv ws h1 h2 h3 => by
    match us, h1, mv, h2, ws, h3 with
    | [_, _], _, [], _, [_, _], _ => exact rfl)
  exact ⟨_, h⟩
end

/-- taken, and left before it is stacked -/
def takeF (t : Str) (ls : List Ly) (r : Rat) : List Ly × List Ly :=
  if t = "even" then (sharedF ls (r / tot ls), sharedF ls (1 - r / tot ls))
  else if t = "newest" then ((cutF ls.reverse r).1, (cutF ls.reverse r).2.1.reverse)
  else ((cutF ls r).1, (cutF ls r).2.1)
def leftF (t : Str) (l : List Ly) : List Ly := if t = "even" then l else stackF l
def spCallR (C CR CE : Addr) : Sp := fun vs H Q E => ∃ (x q : Addr) (v : V) (ru : Ru) (ls : List Ly) (r : Rat), vs = [.ref x, .ref q, v] ∧ IsRu CR H x ru ∧ ru.Ok ∧ LayAt C H q ls ∧ IsN C H v r ∧ SzL 20 ls ∧ Sz 200 r ∧ ls.length ≤ 8 ∧ 0 < r ∧
  (¬ tot ls < r → ∀ (p qt ql : Addr) (H' : Hp), Same H H' → H' p = some (.tup [.ref qt, .ref ql]) → LayAt C H' qt (takeF ru.t ls r).1 → LayAt C H' ql (leftF ru.t (takeF ru.t ls r).2) → qt ≠ ql → H qt = none → H ql = none →
    SzL 500 (takeF ru.t ls r).1 → SzL 500 (takeF ru.t ls r).2 → Q (.ref p) H') ∧
  (tot ls < r → ∀ d mv H', Same H H' → H' d = some (.xd [("missing", mv)]) → IsR C H' mv (r - tot ls) → E (.ref CE) (some d) H')
theorem Sz.quot {a b : Nat} {q r : Rat} (hq : Sz a q) (hr : Sz b r) (h0 : r ≠ 0) : Sz (a + b) (q / r) := by
  rw [← quot_eq]
  have h1 : (q.den : Int) ≠ 0 := by have := q.den_nz; omega
  have h2 : r.num ≠ 0 := fun z => h0 (Rat.num_eq_zero.mp z)
  exact Sz.div (mul_lt hq.1 hr.2) (mul_lt hq.2 hr.1) (Int.mul_ne_zero h1 h2)
theorem SzL.mono {a b : Nat} {ls : List Ly} (h : SzL a ls) (hab : a ≤ b) : SzL b ls := fun l hl => (h l hl).mono hab
theorem SzL.rev {a : Nat} {ls : List Ly} (h : SzL a ls) : SzL a ls.reverse := fun l hl => h l (List.mem_reverse.mp hl)
theorem All2.rev {α β : Type} {R : α → β → Prop} {xs : List α} {ys : List β} (h : All2 R xs ys) : All2 R xs.reverse ys.reverse := by
  refine ⟨by rw [List.length_reverse, List.length_reverse, h.1], fun i x y hx hy => ?_⟩
  have li : i < xs.length := by
    have := (List.getElem?_eq_some_iff.mp hx).1
    rwa [List.length_reverse] at this
  rw [List.getElem?_reverse li] at hx
  rw [List.getElem?_reverse (by rw [← h.1]; exact li), ← h.1] at hy
  exact h.2 _ x y hx hy
theorem LayAt.rev {C : Addr} {H : Hp} {ls : List Ly} {xs : List V} (h : All2 (Lay C H) xs ls) {p : Addr} (hp : H p = none) : LayAt C (upd H p (.lst xs.reverse)) p ls.reverse := by
  refine ⟨_, upd_same, (h.rev).mono fun a b z => z.same (Same.new hp)⟩
theorem cutF_len (ls : List Ly) : ∀ s : List Ly × List Ly × Rat, (ls.foldl stepC s).2.1.length ≤ s.2.1.length + ls.length := by
  induction ls with
  | nil => exact fun s => Nat.le_refl _
  | cons l ls ih =>
    intro s
    refine Nat.le_trans (ih (stepC s l)) ?_
    have : (stepC s l).2.1.length ≤ s.2.1.length + 1 := by
      unfold stepC
      dsimp only
      (repeat' split) <;> simp
    rw [List.length_cons]
    omega
theorem cut_len {ls : List Ly} {r : Rat} : (cutF ls r).2.1.length ≤ ls.length := by
  have := cutF_len ls ([], [], r)
  rw [List.length_nil, Nat.zero_add] at this
  exact this
theorem mulB {a b : Nat} (h1 : a ≤ 10) (h2 : b ≤ 411) : a * b ≤ 8000 := Nat.le_trans (Nat.mul_le_mul h1 h2) (by decide)
theorem LayAt.ne {C : Addr} {H : Hp} {q p : Addr} {ls : List Ly} (h : LayAt C H q ls) (hp : H p = none) : q ≠ p := by
  obtain ⟨xs, e, _⟩ := h
  exact ne_of_none e hp
theorem rsum_one {r : Rat} : rsum [r] = r := Rat.zero_add r
section
variable {P : Program} {w : World} {K : PySem.W.Frag} {mg : Str → Option Value} {base : Heap} {A : Ad}
theorem ok_m_Rule_call (T : Txt K mg A) : FnOk P w K mg base (L2.CX P w) 16 A.m_Rule_call A.fd_m_Rule_call P_m_Rule_call (spCallR A.Ratio A.Rule A.Short) := by
  refine T.F_m_Rule_call.okX sc_m_Rule_call (fun vs H Q E h => ?_) (fun cdv Ar outer s H vs Q E hr h => ?_)
  · obtain ⟨x, q, v, ru, ls, r, rfl, _⟩ := h
    rfl
  · obtain ⟨x, q, v, ru, ls, r, rfl, hx, hru, hL, hv, sL, sr, hlen, hr0, k1, k2⟩ := h
    obtain ⟨dx, ex⟩ := hx
    refine ⟨_, (pss_cons (ps_expr (pe_call (ok_f_check_units T) (hr.mono (by decide)) (by rfl) T.g_check_units T.F_f_check_units.kp T.b_f_check_units .nil (E := E) (passes_call (takes_of rfl rfl rfl rfl) (fun _ _ _ _ h => h)) (pa_cons (pv 1) (pa_cons (pv 2) pa_nil))))
      (pss_cons (ps_if (pt_cmpR op_eq (pe_fld (pv 0) rfl) pe_str (nomark _)) (pss_cons (ps_set (i := 3) sc_m_Rule_call.nd rfl (Or.inl rfl) (pe_meth (pe_smeth (pe_glob (v := .ref A.Ratio) (by rfl) T.g_Ratio rfl) T.sm_Ratio_sum_of (ok_m_Ratio_sum_of T) (hr.mono (by decide)) T.b_m_Ratio_sum_of pass0 (pa_cons (pe_lst (pa_cons (pv 2) pa_nil)) pa_nil)) T.cl_Ratio T.m_Ratio_over (ok_m_Ratio_over T) (hr.mono (by decide)) T.b_m_Ratio_over .nil (E := E) (passes_call (takes_of rfl rfl rfl rfl) (fun _ _ _ _ h => h)) (pa_cons (pe_call (ok_f_units_in T) (hr.mono (by decide)) (by rfl) T.g_units_in T.F_f_units_in.kp T.b_f_units_in .nil pass0 (pa_cons (pv 1) pa_nil)) pa_nil)))
      (pss_one (ps_ret (pe_tup (pa_cons (pe_call (ok_f_shared T) (hr.mono (by decide)) (by rfl) T.g_shared T.F_f_shared.kp T.b_f_shared .nil pass0 (pa_cons (pv 1) (pa_cons (pv 3) pa_nil))) (pa_cons (pe_call (ok_f_shared T) (hr.mono (by decide)) (by rfl) T.g_shared T.F_f_shared.kp T.b_f_shared .nil pass0 (pa_cons (pv 1) (pa_cons (pe_op (op_rown (E := E0) rfl (oo_sub T) PySem.F.fills_int_sub PySem.F.slot_int_sub PySem.F.entry_int_sub PySem.F.args_int_sub_2 rfl (ok_m_Ratio_rsub T) (hr.mono (by decide)) T.b_m_Ratio_rsub pass0) pe_int (pv 3)) pa_nil))) pa_nil)))))) pss_nil)
      (pss_cons (ps_if (pt_cmpR op_eq (pe_fld (pv 0) rfl) pe_str (nomark _)) (pss_cons (ps_asg (pe_call (ok_f_cut T) (hr.mono (by decide)) (by rfl) T.g_cut T.F_f_cut.kp T.b_f_cut .nil pass0 (pa_cons (pe_revL (pv 1)) (pa_cons (pv 2) pa_nil))) (pg_tup (n := 2) rfl (pgs_cons (pg_name (i := 4) sc_m_Rule_call.nd rfl (Or.inl rfl)) (pgs_cons (pg_name (i := 5) sc_m_Rule_call.nd rfl (Or.inl rfl)) pgs_nil))))
      (pss_one (ps_ret (pe_tup (pa_cons (pv 4) (pa_cons (pe_call (ok_f_stacked T) (hr.mono (by decide)) (by rfl) T.g_stacked T.F_f_stacked.kp T.b_f_stacked .nil pass0 (pa_cons (pe_revL (pv 5)) pa_nil)) pa_nil)))))) pss_nil)
      (pss_cons (ps_asg (pe_call (ok_f_cut T) (hr.mono (by decide)) (by rfl) T.g_cut T.F_f_cut.kp T.b_f_cut .nil pass0 (pa_cons (pv 1) (pa_cons (pv 2) pa_nil))) (pg_tup (n := 2) rfl (pgs_cons (pg_name (i := 4) sc_m_Rule_call.nd rfl (Or.inl rfl)) (pgs_cons (pg_name (i := 5) sc_m_Rule_call.nd rfl (Or.inl rfl)) pgs_nil))))
      (pss_one (ps_ret (pe_tup (pa_cons (pv 4) (pa_cons (pe_call (ok_f_stacked T) (hr.mono (by decide)) (by rfl) T.g_stacked T.F_f_stacked.kp T.b_f_stacked .nil pass0 (pa_cons (pv 5) pa_nil)) pa_nil))))))))), ?_⟩
    have b1 : (ls.length + 2) * (20 + 1) ≤ 210 := by omega
    walk_at "go"
    refine ⟨fun e H1 s1 => ?_, k2⟩
    have h0 : 0 < tot ls := by grind
    have szt : Sz 169 (tot ls) := (tot_sz sL).mono (by omega)
    refine ⟨_, rfl, x, _, dx, _, _, rfl, s1 _ _ ex, T.cl_Rule, T.n_Rule_take, rl_take _ _ _, ?_⟩
    refine ⟨rfl, _, rfl, if_dec (fun e1 => ?_) (fun e1 => ?_)⟩
    · have et : ru.t = "even" := by injection e1
      have eT : takeF ru.t ls r = (sharedF ls (r / tot ls), sharedF ls (1 - r / tot ls)) := if_pos et
      have eL : ∀ l, leftF ru.t l = l := fun l => if_pos et
      rw [eT, eL] at k1
      have hz : tot ls ≠ 0 := by grind
      walk_at "go"
      intro l hl
      refine ⟨l, [v], [r], 200, rfl, upd_same, rfl, fun i x' q' hx' hq' => ?_, by show 1 + 2 * 201 ≤ 8990; decide, fun sv H2 s2 is => ?_⟩
      · match i, hx', hq' with
        | 0, e1, e2 =>
          cases e1
          cases e2
          exact ⟨(hv.same s1).same (Same.new hl), sr⟩
      · rw [rsum_one] at is
        have sA := s1.trans ((Same.new hl).trans s2)
        obtain ⟨tp, tdx, rfl, htp⟩ := id is
        refine ⟨tp, tdx, _, rfl, htp, rf_no _ _ (by decide +kernel) (by decide +kernel), _, rfl, q, ls, 20, rfl, hL.same sA, sL, by omega, by omega, fun tv H3 s3 it => ?_⟩
        refine ⟨_, _, r, tot ls, 200, 169, rfl, is.same s3, .inl it, sr, szt, by decide, fun z => absurd z hz, fun _ hv H4 s4 ih => ?_⟩
        have sq : Sz 369 (r / tot ls) := sr.quot szt hz
        have sB := sA.trans (s3.trans s4)
        walk_at "go"
        refine ⟨hL.same sB, ih, sL, sq, by omega, by decide, fun pa H5 s5 na hA za => ?_⟩
        walk_at "go"
        refine r_rown (ih.same s5) sq (b := 2) ⟨by decide, by decide⟩ (by omega) fun nv H6 s6 i6 => ?_
        rw [Rat.add_comm, ← Rat.sub_eq_add_neg] at i6
        have sO : Sz 372 (((1 : Int) : Rat) - r / tot ls) := Sz.sub (a := 2) ⟨by decide, by decide⟩ sq
        have e1 : ((1 : Int) : Rat) = 1 := rfl
        rw [e1] at i6 sO
        walk_at "go"
        refine ⟨(hL.same sB).same (s5.trans s6), i6, sL, sO, by omega, by decide, fun pb H7 s7 nb hB zb => ?_⟩
        walk_at "go"
        intro p3 h3
        have sM := Same.new (o := .tup [.ref pa, .ref pb]) h3
        have sC := s5.trans s6
        exact k1 e p3 pa pb _ (sB.trans (sC.trans (s7.trans sM))) upd_same (((hA.same s6).same s7).same sM) (hB.same sM) ((hA.same s6).ne nb) (Same.none sB na) (Same.none sB (Same.none sC nb)) (za.mono (by decide)) (zb.mono (by decide))
    · have et : ¬ ru.t = "even" := fun z => e1 (by rw [z])
      refine ⟨_, rfl, x, _, dx, _, _, rfl, s1 _ _ ex, T.cl_Rule, T.n_Rule_take, rl_take _ _ _, ?_⟩
      refine ⟨rfl, _, rfl, if_dec (fun e2 => ?_) (fun e2 => ?_)⟩
      · have et2 : ru.t = "newest" := by injection e2
        have eT : takeF ru.t ls r = ((cutF ls.reverse r).1, (cutF ls.reverse r).2.1.reverse) := by unfold takeF; rw [if_neg et, if_pos et2]
        have eL : ∀ l, leftF ru.t l = stackF l := fun l => if_neg et
        rw [eT, eL] at k1
        obtain ⟨xs, hq, hA⟩ := hL.same s1
        have lr : ls.reverse.length = ls.length := List.length_reverse
        refine ⟨_, rfl, q, xs, rfl, .inl (.inl hq), fun p0 hp0 => ?_⟩
        refine ⟨_, rfl, p0, v, ls.reverse, r, 20, 200, rfl, LayAt.rev hA hp0, (hv.same s1).same (Same.new hp0), sL.rev, sr, by omega, by omega, fun p qt ql H2 s2 hp ht hl nq z1 z2 n1 n2 => ?_⟩
        have cl := cut_len (ls := ls.reverse) (r := r)
        obtain ⟨ys, hql, hB⟩ := id hl
        have lr2 : (cutF ls.reverse r).2.1.reverse.length = (cutF ls.reverse r).2.1.length := List.length_reverse
        walk_at "go"
        intro p4 h4
        have sN := Same.new (o := .lst ys.reverse) h4
        refine ⟨p4, _, _, rfl, LayAt.rev hB h4, z2.rev, by omega, mulB (by omega) (by omega), fun p2 H3 s3 n3 hS z3 => ?_⟩
        walk_at "go"
        intro p3 h3
        have sM := Same.new (o := .tup [.ref qt, .ref p2]) h3
        have sP := (Same.new hp0).trans s2
        exact k1 e p3 qt p2 _ (s1.trans (sP.trans (sN.trans (s3.trans sM)))) upd_same (((ht.same sN).same s3).same sM) (hS.same sM) ((ht.same sN).ne n3) (Same.none s1 (Same.none (Same.new hp0) n1)) (Same.none s1 (Same.none sP (Same.none sN n3))) (z1.mono (by omega)) (z2.rev.mono (by omega))
      · have et2 : ¬ ru.t = "newest" := fun z => e2 (by rw [z])
        have eT : takeF ru.t ls r = ((cutF ls r).1, (cutF ls r).2.1) := by unfold takeF; rw [if_neg et, if_neg et2]
        have eL : ∀ l, leftF ru.t l = stackF l := fun l => if_neg et
        rw [eT, eL] at k1
        refine ⟨_, rfl, _, rfl, q, v, ls, r, 20, 200, rfl, hL.same s1, hv.same s1, sL, sr, by omega, by omega, fun p qt ql H2 s2 hp ht hl nq z1 z2 n1 n2 => ?_⟩
        have cl := cut_len (ls := ls) (r := r)
        walk_at "go"
        refine ⟨mulB (by omega) (by omega), fun p2 H3 s3 n3 hS z3 => ?_⟩
        walk_at "go"
        intro p3 h3
        exact k1 e p3 qt p2 _ (s1.trans (s2.trans (s3.trans (Same.new h3)))) upd_same ((ht.same s3).same (Same.new h3)) (hS.same (Same.new h3)) (ht.ne n3) (Same.none s1 n1) (Same.none s1 (Same.none s2 n3)) (z1.mono (by omega)) (z2.mono (by omega))
end

/-! ### a call of an instance, by its own __call__ -/
section
open PySem.Spec PyProof.Rows
variable {X : Cx} {CX : CXT} {k : Nat} {f C : Addr} {fd : FuncData} {ps : List Str} {sp : Sp} {E : L2.St → XK} {fe e : Expr} {es : List Expr} {tf : TE} {t : TA} {pos : Pos}
def tCallI (C : Addr) (sp : Sp) (E : L2.St → XK) (tf : TE) (t : TA) : TE := fun σ H Q => tf σ H fun y H1 => ∃ a, y = V.ref a ∧ t σ H1 fun vs H2 => (∃ dx fs, H2 a = some (.ins C dx fs)) ∧ sp (V.ref a :: vs) H2 Q (E σ)
theorem pe_callI (hf : PE X fe tf) (c : StX.CallO X.K C f) (F : FnOk X.prog X.w X.K X.mg X.base CX k f fd ps sp) (hr : Room k X.A) (hb : Binds X.K fd ps []) (hx : ∀ σ, PassesAt CX X σ (E σ)) (ha : PA X (e :: es) t)
    (ht : eval (.Call fe (e :: es) [] pos) X.env = (do callWith pos (← eval fe X.env) [] (backTo pos (starEach (e :: es) X.env)) (backToKw pos (keywordEach [] X.env))) := by rfl)
    (he : starEach (e :: es) X.env = (false, eval e X.env) :: starEach es X.env := by rfl) (hpl : (backTo pos (starEach es X.env)).any (·.1) = false := by rfl) : PE X (.Call fe (e :: es) [] pos) (tCallI C sp E tf t) := by
  refine ⟨fun pins s σ H Q I h => ?_⟩
  refine Call_ (thn (hf.run pins s σ H _ I h) fun u s1 ⟨y, H1, I1, ry, a, ey, q⟩ => ?_) ht
  subst ey
  obtain rfl : u = Value.ref a := ry
  refine StX.callO_with (thn (ha.run pos pins s1 σ H1 _ I1 q) fun us s2 ⟨vs, H2, I2, r, hi, q2⟩ => ?_) he hpl
  obtain ⟨ox, od, J, hd⟩ := StX.insC_at I2 (.inr hi)
  refine ⟨⟨C, ox, od, J, hd⟩, wpAny_call (PySem.W.kco_code I2.kIn J hd c.at_ c.fn c.fi ?_)⟩
  have rv : Vals (V.ref a :: vs) (Value.ref a :: us) := .cons rfl r
  have hl : (Value.ref a :: us).length = ps.length := by rw [← rv.length]; exact F.len _ _ _ _ q2
  have b := hb s2 (Value.ref a :: us) I2.kIn (by rw [List.append_nil]; exact hl)
  rw [List.append_nil] at b
  refine codeAny_mono (F.run X.A X.stack s2 H2 ⟨.ref a :: us, []⟩ (.ref a :: us) (.ref a :: vs) Q (E σ) hr I2.env0 b rv q2) fun o s' z => ?_
  cases o with
  | error e => exact hx σ pins H2 s2 e s' I2 z
  | ok fl =>
    cases fl with
    | ret u => exact I2.after z
    | next => exact z.elim
    | brk => exact z.elim
    | cont => exact z.elim
end

theorem at_mem {xs : List V} {c : Int} (h0 : 0 ≤ c) (h1 : c < (xs.length : Int)) : ∃ v, v ∈ xs ∧ atI xs c = some v := by
  obtain ⟨j, rfl⟩ := Int.eq_ofNat_of_zero_le h0
  have hj : j < xs.length := by omega
  exact ⟨_, List.getElem_mem hj, atI_nat (List.getElem?_eq_getElem hj)⟩
def spRuleT : Sp := fun vs H Q _ => ∃ (g l : Addr), vs = [.ref g] ∧ Bag H g l ∧ ∀ (q : Addr) (r : Ru) (H' : Hp), r.Ok → Kp g H H' → Bag H' g l → H q = none → q ≠ g → H' q = some (.tup [.str r.t, .str r.p, .int r.n]) → Q (.ref q) H'
section
variable {P : Program} {w : World} {K : PySem.W.Frag} {mg : Str → Option Value} {base : Heap} {A : Ad}
theorem ok_l_rule (T : Txt K mg A) : FnOk P w K mg base CX0 2 A.l_rule A.fd_l_rule P_l_rule spRuleT := by
  refine T.F_l_rule.ok sc_l_rule (fun vs H Q E h => ?_) (fun cdv Ar outer s H vs Q E hr h => ?_)
  · obtain ⟨g, l, rfl, _⟩ := h
    rfl
  · obtain ⟨g, l, rfl, hb, k⟩ := h
    refine ⟨_, (pss_cons (ps_set (i := 1) sc_l_rule.nd rfl (Or.inl rfl) (pe_ix ix_list (pe_lst (pa_cons pe_str (pa_cons pe_str (pa_cons pe_str pa_nil)))) (pe_call (ok_l_draw T) (hr.mono (by decide)) (by rfl) T.g__law_draw T.F_l_draw.kp T.b_l_draw .nil pass0 (pa_cons (pv 0) (pa_cons pe_int pa_nil))) (fun _ _ => rfl)))
      (pss_cons (ps_set (i := 2) sc_l_rule.nd rfl (Or.inl rfl) (pe_ix ix_list (pe_lst (pa_cons pe_str (pa_cons pe_str (pa_cons pe_str pa_nil)))) (pe_call (ok_l_draw T) (hr.mono (by decide)) (by rfl) T.g__law_draw T.F_l_draw.kp T.b_l_draw .nil pass0 (pa_cons (pv 0) (pa_cons pe_int pa_nil))) (fun _ _ => rfl)))
      (pss_cons (ps_set (i := 3) sc_l_rule.nd rfl (Or.inl rfl) (pe_ix ix_list (pe_lst (pa_cons pe_int (pa_cons pe_int (pa_cons pe_int (pa_cons pe_int (pa_cons pe_int (pa_cons (pe_op op_add pe_int (pe_call (ok_l_draw T) (hr.mono (by decide)) (by rfl) T.g__law_draw T.F_l_draw.kp T.b_l_draw .nil pass0 (pa_cons (pv 0) (pa_cons pe_int pa_nil)))) pa_nil))))))) (pe_call (ok_l_draw T) (hr.mono (by decide)) (by rfl) T.g__law_draw T.F_l_draw.kp T.b_l_draw .nil pass0 (pa_cons (pv 0) (pa_cons pe_int pa_nil))) (fun _ _ => rfl)))
      (pss_one (ps_ret (pe_tup (pa_cons (pv 1) (pa_cons (pv 2) (pa_cons (pv 3) pa_nil))))))))), ?_⟩
    walk_at "go"
    intro p1 h1
    refine ⟨_, rfl, g, l, _, rfl, hb.new h1, by decide, lt_pow (a := 10) (by decide) (by decide), fun c1 H1 c10 c11 B1 K1 => ?_⟩
    have e1 := K1 _ _ upd_same (hb.ne h1).1
    obtain ⟨t, ht, et⟩ := at_mem (xs := [.str "oldest", .str "newest", .str "even"]) c10 c11
    refine ⟨p1, _, c1, t, rfl, rfl, SqL.of e1, et, ?_⟩
    have kk1 : Kp g H H1 := (Kp.same (Same.new h1)).trans K1
    walk_at "go"
    intro p2 h2
    refine ⟨_, rfl, g, l, _, rfl, B1.new h2, by decide, lt_pow (a := 10) (by decide) (by decide), fun c2 H2 c20 c21 B2 K2 => ?_⟩
    have e2 := K2 _ _ upd_same (B1.ne h2).1
    obtain ⟨pv', hpv, ep⟩ := at_mem (xs := [.str "own", .str "top", .str "bottom"]) c20 c21
    refine ⟨p2, _, c2, pv', rfl, rfl, SqL.of e2, ep, ?_⟩
    have kk2 : Kp g H H2 := kk1.trans ((Kp.same (Same.new h2)).trans K2)
    walk_at "go"
    intro n H3 n0 n1 B3 K3
    walk_at "go"
    intro p3 h3
    refine ⟨_, rfl, g, l, _, rfl, B3.new h3, by decide, lt_pow (a := 10) (by decide) (by decide), fun c3 H4 c30 c31 B4 K4 => ?_⟩
    have e3 := K4 _ _ upd_same (B3.ne h3).1
    obtain ⟨nv, hnv, en⟩ := at_mem (xs := [.int 0, .int 0, .int 1, .int 2, .int 7, .int (1 + n)]) c30 c31
    refine ⟨p3, _, c3, nv, rfl, rfl, SqL.of e3, en, ?_⟩
    have kk4 : Kp g H H4 := kk2.trans (K3.trans ((Kp.same (Same.new h3)).trans K4))
    walk_at "go"
    intro p4 h4
    obtain ⟨ts, rfl, hts⟩ : ∃ ts : Str, t = .str ts ∧ (ts = "oldest" ∨ ts = "newest" ∨ ts = "even") := by
      simp only [List.mem_cons, List.not_mem_nil, or_false] at ht
      rcases ht with rfl | rfl | rfl
      · exact ⟨_, rfl, .inl rfl⟩
      · exact ⟨_, rfl, .inr (.inl rfl)⟩
      · exact ⟨_, rfl, .inr (.inr rfl)⟩
    obtain ⟨ps, rfl, hps⟩ : ∃ ts : Str, pv' = .str ts ∧ (ts = "own" ∨ ts = "top" ∨ ts = "bottom") := by
      simp only [List.mem_cons, List.not_mem_nil, or_false] at hpv
      rcases hpv with rfl | rfl | rfl
      · exact ⟨_, rfl, .inl rfl⟩
      · exact ⟨_, rfl, .inr (.inl rfl)⟩
      · exact ⟨_, rfl, .inr (.inr rfl)⟩
    obtain ⟨m, rfl, m0, m1⟩ : ∃ m : Int, nv = .int m ∧ 0 ≤ m ∧ m ≤ 1000000 := by
      simp only [List.mem_cons, List.not_mem_nil, or_false] at hnv
      rcases hnv with rfl | rfl | rfl | rfl | rfl | rfl
      all_goals exact ⟨_, rfl, by omega, by omega⟩
    have np : p4 ≠ g := (B4.ne h4).1
    refine k p4 ⟨ts, ps, m⟩ _ ⟨hts, hps, m0, m1⟩ (kk4.new h4) (B4.new h4) ?_ np upd_same
    cases ez : H p4 with
    | none => rfl
    | some o => exact absurd (kk4 _ _ ez np) (by rw [h4]; exact fun z => nomatch z)
end

def spMade (C : Addr) : Sp := fun vs H Q _ => ∃ (q : Addr) (r : Ru), vs = [.ref q] ∧ H q = some (.tup [.str r.t, .str r.p, .int r.n]) ∧ r.Ok ∧ ∀ (x : Addr) (H' : Hp), Same H H' → H x = none → IsRu C H' x r → Q (.ref x) H'
def spTotal (C : Addr) : Sp := fun vs H Q _ => ∃ (q : Addr) (ls : List Ly) (b : Nat), vs = [.ref q] ∧ LayAt C H q ls ∧ SzL b ls ∧ ls.length ≤ 100 ∧ 1 + (ls.length + 1) * (b + 1) ≤ 8990 ∧ ∀ v H', Same H H' → IsR C H' v (tot ls) → Q v H'
section
variable {P : Program} {w : World} {K : PySem.W.Frag} {mg : Str → Option Value} {base : Heap} {A : Ad}
theorem ok_l_made (T : Txt K mg A) : FnOk P w K mg base CX0 7 A.l_made A.fd_l_made P_l_made (spMade A.Rule) := by
  refine T.F_l_made.ok sc_l_made (fun vs H Q E h => ?_) (fun cdv Ar outer s H vs Q E hr h => ?_)
  · obtain ⟨q, r, rfl, _⟩ := h
    rfl
  · obtain ⟨q, r, rfl, hq, ok, k⟩ := h
    refine ⟨_, (pss_one (ps_ret (pe_makeKS (E := fun _ => E0) T.mk_Rule (ok_m_Rule_init T) (hr.mono (by decide)) (by rfl) T.g_Rule (kb_rule T).choose_spec (fun σ pins H s e s' I c => passL pins σ H s e s' I c) (pa_cons (pe_ix ix_tup (pv 0) pe_int (fun _ _ => rfl)) pa_nil) (pk_cons (pe_ix ix_tup (pv 0) pe_int (fun _ _ => rfl)) (pk_cons (pe_ix ix_tup (pv 0) pe_int (fun _ _ => rfl)) pk_nil))))), ?_⟩
    walk_at "go"
    exact fun x dx hx hd _ => mk_ruleG hx hd ok fun H' s h => ⟨rfl, k x H' s hx ⟨dx, h⟩⟩
theorem ok_l_total (T : Txt K mg A) : FnOk P w K mg base CX0 10 A.l_total A.fd_l_total P_l_total (spTotal A.Ratio) := by
  refine T.F_l_total.ok sc_l_total (fun vs H Q E h => ?_) (fun cdv Ar outer s H vs Q E hr h => ?_)
  · obtain ⟨q, ls, b, rfl, _⟩ := h
    rfl
  · obtain ⟨q, ls, b, rfl, hL, sL, hlen, hbits, k⟩ := h
    refine ⟨_, (pss_cons (ps_set (i := 1) sc_l_total.nd rfl (Or.inl rfl) (pe_make T.mk_Ratio (ok_m_Ratio_init T) (hr.mono (by decide)) (by rfl) T.g_Ratio T.b_m_Ratio_init_d1 T.dv_m_Ratio_init passL (pa_cons pe_int pa_nil)))
      (pss_cons (ps_g (ps_for PassesOwn.never rfl (pi_list (pv 0)) (pg_tup (n := 2) rfl (pgs_cons (pg_name (i := 2) sc_l_total.nd rfl (Or.inl rfl)) (pgs_cons (pg_name (i := 3) sc_l_total.nd rfl (Or.inl rfl)) pgs_nil))) (pss_one (ps_set (i := 1) sc_l_total.nd rfl (Or.inl rfl) (pe_op (op_own (E := E0) rfl (oo_add T) (ok_m_Ratio_add T) (hr.mono (by decide)) T.b_m_Ratio_add pass0) (pv 1) (pv 3))))))
      (pss_one (ps_ret (pv 1))))), ?_⟩
    obtain ⟨xs, hl, hA⟩ := hL
    intro x dx hx hd _
    refine mk_ratio hx hd (lt_pow (a := 1) (by decide) (by decide)) (fun e => by cases e) (fun _ H1 s1 i1 => ⟨rfl, ?_⟩)
    have e0 : Rat.divInt 0 1 = (0 : Rat) := by decide +kernel
    rw [e0] at i1
    have hl1 := s1 _ _ hl
    refine ⟨⟨_, rfl, q, rfl, ⟨_, SqL.of hl1⟩, for_list (K := K) (a := q) (xs := xs) (fun i σ' H' => Wd (∃ (v : V) (o2 o3 : Option V), σ' = [some (.ref q), some v, o2, o3] ∧ Same H H' ∧ IsR A.Ratio H' v (tot (ls.take i)) ∧ Sz (1 + i * (b + 1)) (tot (ls.take i))))
      ⟨_, none, none, rfl, s1, i1, ?_⟩ (fun i σ' H' _ ⟨_, _, _, _, s, _⟩ => SqL.of (s _ _ hl)) ?_ ?_⟩⟩
    · show Sz _ (0 : Rat)
      rw [Nat.zero_mul]
      exact ⟨by decide, by decide⟩
    · rintro i y σ' H' hi ⟨v, o2, o3, rfl, s, iv, sz⟩
      obtain ⟨⟨lot, a⟩, hli, hlay⟩ := hA.get hi
      have sza : Sz b a := sL _ (List.mem_of_getElem? hli)
      have hil : i < ls.length := (List.getElem?_eq_some_iff.mp hli).1
      obtain ⟨t, av, rfl, ht, hav⟩ := hlay
      have hav' := hav.same s
      have ht' := s _ _ ht
      have hm : 1 + i * (b + 1) + b ≤ 8990 := by
        have : i * (b + 1) ≤ ls.length * (b + 1) := Nat.mul_le_mul_right _ (by omega)
        have h2 : (ls.length + 1) * (b + 1) = ls.length * (b + 1) + (b + 1) := by rw [Nat.add_mul, Nat.one_mul]
        omega
      have hst : tot (ls.take (i + 1)) = tot (ls.take i) + a := by
        unfold tot rsum
        rw [take_more hli, List.map_append, List.foldl_append]
        rfl
      rw [hst]
      walk_at "go"
      refine r_own iv (.inl hav') sz sza hm fun v' H2 s2 i2 => ?_
      refine ⟨v', _, _, rfl, s.trans s2, i2, ?_⟩
      have e : 1 + (i + 1) * (b + 1) = 1 + i * (b + 1) + b + 1 := by rw [Nat.add_mul, Nat.one_mul]; omega
      rw [e]
      exact sz.add sza
    · rintro σ' H' ⟨v, o2, o3, rfl, s, iv, sz⟩
      rw [hA.1, List.take_length] at iv
      exact ⟨_, rfl, k v H' s iv⟩
end

def stepJ (f : List Ly) (l : Ly) : List Ly := match f.getLast? with
  | some x => if x.1 = l.1 then f.dropLast ++ [(l.1, x.2 + l.2)] else f ++ [l]
  | none => f ++ [l]
def joinF (ls : List Ly) : List Ly := ls.foldl stepJ []
def spJoined (C : Addr) : Sp := fun vs H Q _ => ∃ (q : Addr) (ls : List Ly) (b : Nat), vs = [.ref q] ∧ LayAt C H q ls ∧ SzL b ls ∧ ls.length ≤ 100 ∧ (ls.length + 2) * (b + 1) ≤ 8000 ∧
  ∀ (p : Addr) (H' : Hp), Same H H' → H p = none → LayAt C H' p (joinF ls) → SzL ((ls.length + 1) * (b + 1)) (joinF ls) → Q (.ref p) H'
theorem last_ix {α : Type} {l : List α} {x : α} : (l ++ [x])[(l ++ [x]).length - 1]? = some x := by simp
section
variable {P : Program} {w : World} {K : PySem.W.Frag} {mg : Str → Option Value} {base : Heap} {A : Ad}
theorem ok_l_joined (T : Txt K mg A) : FnOk P w K mg base CX0 10 A.l_joined A.fd_l_joined P_l_joined (spJoined A.Ratio) := by
  refine T.F_l_joined.ok sc_l_joined (fun vs H Q E h => ?_) (fun cdv Ar outer s H vs Q E hr h => ?_)
  · obtain ⟨q, ls, b, rfl, _⟩ := h
    rfl
  · obtain ⟨q, ls, b, rfl, ⟨xs, hq, hx⟩, sL, hlen, hbits, k⟩ := h
    refine ⟨_, (pss_cons (ps_set (i := 1) sc_l_joined.nd rfl (Or.inl rfl) (pe_lst pa_nil))
      (pss_cons (ps_g (ps_for PassesOwn.never rfl (pi_list (pv 0)) (pg_tup (n := 2) rfl (pgs_cons (pg_name (i := 2) sc_l_joined.nd rfl (Or.inl rfl)) (pgs_cons (pg_name (i := 3) sc_l_joined.nd rfl (Or.inl rfl)) pgs_nil))) (pss_one (ps_if (PW.pt (pw_and (pt_cmpR (op_neNil hr.units) (pv 1) (pe_lst pa_nil) (nomark _)) (pw_and1 (pt_cmpR op_eq (pe_ix ix_tup (pe_ix ix_list (pv 1) (pe_un un_neg pe_int) (fun _ _ => rfl)) pe_int (fun _ _ => rfl)) (pv 2) (nomark _))))) (pss_cons (ps_set (i := 4) sc_l_joined.nd rfl (Or.inl rfl) (pe_bm0 PySem.F.plainAttrs_list PySem.F.slot_list_pop PySem.F.type_list_pop mt_pop (pv 1)))
      (pss_one (ps_expr (pe_bm PySem.F.plainAttrs_list PySem.F.slot_list_append PySem.F.type_list_append mt_append (pv 1) (pa_cons (pe_tup (pa_cons (pv 2) (pa_cons (pe_op (op_own (E := E0) rfl (oo_add T) (ok_m_Ratio_add T) (hr.mono (by decide)) T.b_m_Ratio_add pass0) (pe_ix ix_tup (pv 4) pe_int (fun _ _ => rfl)) (pv 3)) pa_nil))) pa_nil))))) (pss_one (ps_expr (pe_bm PySem.F.plainAttrs_list PySem.F.slot_list_append PySem.F.type_list_append mt_append (pv 1) (pa_cons (pe_tup (pa_cons (pv 2) (pa_cons (pv 3) pa_nil))) pa_nil))))))))
      (pss_one (ps_ret (pv 1))))), ?_⟩
    refine ⟨Nat.zero_le _, fun f hf => ?_⟩
    have s1 := Same.new (o := .lst []) hf
    refine ⟨⟨_, rfl, q, rfl, ⟨_, SqL.of (s1 _ _ hq)⟩, for_list (xs := xs) (fun i σ' H' => Wd (∃ (o2 o3 o4 : Option V), σ' = [some (.ref q), some (.ref f), o2, o3, o4] ∧ Same H H' ∧ LayAt A.Ratio H' f (joinF (ls.take i)) ∧ SzL ((i + 1) * (b + 1)) (joinF (ls.take i)) ∧ (joinF (ls.take i)).length ≤ i))
      ⟨none, none, none, rfl, s1, ⟨[], upd_same, .nil⟩, fun l hl => (by cases hl), Nat.le_refl _⟩ ?_ ?_ ?_⟩⟩
    · rintro i σ' H' _ ⟨o2, o3, o4, rfl, sx, _⟩
      exact SqL.of (sx _ _ hq)
    · rintro i x σ' H' hxi ⟨o2, o3, o4, rfl, sx, Lf, szf, lf⟩
      obtain ⟨⟨lot, a⟩, hli, hlay⟩ := hx.get hxi
      have sza : Sz b a := sL _ (List.mem_of_getElem? hli)
      have hil : i < ls.length := (List.getElem?_eq_some_iff.mp hli).1
      obtain ⟨t, av, rfl, ht, hav⟩ := hlay
      have hav' := hav.same sx
      have hst : joinF (ls.take (i + 1)) = stepJ (joinF (ls.take i)) (lot, a) := by
        unfold joinF
        rw [take_more hli, List.foldl_append]
        rfl
      rw [hst]
      generalize joinF (ls.take i) = F at *
      have bm : (i + 1 + 1) * (b + 1) = (i + 1) * (b + 1) + (b + 1) := by rw [Nat.add_mul (i + 1), Nat.one_mul]
      have bl : (i + 1 + 1) * (b + 1) ≤ (ls.length + 2) * (b + 1) := Nat.mul_le_mul_right _ (by omega)
      rw [bm] at bl
      rw [bm]
      have bits : (i + 1) * (b + 1) + (b + 1) ≤ 8000 := by omega
      refine ⟨t, _, rfl, SqT.of (sx _ _ ht), rfl, _, _, rfl, _, _, rfl, rfl, ?_⟩
      obtain ⟨ys, hys, hy2⟩ := id Lf
      have nf : ∀ {c : Addr} {zs : List V}, H' c = some (.tup zs) → c ≠ f := fun h => ne_of h hys (by intro z; cases z)
      refine tIf_of (p := ∃ F' x, F = F' ++ [x] ∧ x.1 = lot) (H := H') (fun Q hT hF => ?_) (fun H2 s2 hp => ?_) (fun H2 s2 hp => ?_)
      · walk_at "go"
        intro p hp
        have sN := Same.new (o := .lst []) hp
        refine ⟨⟨f, p, ys, rfl, rfl, SqL.of (sN _ _ hys), SqL.of upd_same, _, rfl, ?_⟩⟩
        cases hFl : F.getLast? with
        | none =>
          have hF0 := List.getLast?_eq_none_iff.mp hFl
          have hy0 : ys = [] := List.eq_nil_of_length_eq_zero (by rw [hy2.1, hF0]; rfl)
          rw [hy0]
          exact iteF (hF _ sN fun ⟨F', x, e, _⟩ => by rw [hF0] at e; cases F' <;> cases e)
        | some x =>
          obtain ⟨F', rfl⟩ := List.getLast?_eq_some_iff.mp hFl
          obtain ⟨ys', yv, rfl, h3, t2, rv, rfl, ht2, hrv⟩ := hy2.snoc
          have hne : (ys' ++ [V.ref t2]).isEmpty = false := by cases ys' <;> rfl
          rw [hne]
          refine iteT ⟨_, rfl, 1, rfl, f, _, _, _, rfl, rfl, SqL.of (sN _ _ hys), last_atL, t2, _, _, _, rfl, rfl, SqT.of (sN _ _ ht2), rfl, _, rfl, rfl, _, rfl, ?_⟩
          refine q_dec (Q := Q) (fun e => hT _ sN ⟨F', x, rfl, V.str.inj e⟩) (fun e => hF _ sN fun ⟨F2, x2, e2, e3⟩ => e ?_)
          have := List.append_inj' e2 rfl
          have hx2 : x = x2 := by simpa using this.2
          rw [hx2, e3]
      · obtain ⟨F', x, rfl, hx1⟩ := hp
        obtain ⟨ys', yv, rfl, h3, t2, rv, rfl, ht2, hrv⟩ := hy2.snoc
        have hys2 := s2 _ _ hys
        have ht22 := s2 _ _ ht2
        have szx : Sz ((i + 1) * (b + 1)) x.2 := szf x (by simp)
        walk_at "go"
        refine ⟨last_ix, ?_⟩
        rw [List.dropLast_concat]
        have hD : upd H2 f (.lst ys') f = some (.lst ys') := upd_same
        have ht23 : upd H2 f (.lst ys') t2 = some (.tup [.str x.1, rv]) := by rw [upd_ne (nf ht2)]; exact ht22
        have kD : Kp f H2 (upd H2 f (.lst ys')) := (Kp.refl f _).up
        walk_at "go"
        refine r_own ((hrv.same s2).kp hys2 kD) (.inl ((hav'.same s2).kp hys2 kD)) szx sza (by omega) fun nv H3 s3 inv => ⟨(by show 2 ≤ sizeLine; decide), fun z hz => ?_⟩
        have sz := Same.new (o := .tup [V.str lot, nv]) hz
        have s3z := s3.trans sz
        have hysz := s3z _ _ hD
        have eS : stepJ (F' ++ [x]) (lot, a) = F' ++ [(lot, x.2 + a)] := by
          unfold stepJ
          rw [List.getLast?_append, List.getLast?_singleton]
          show (if x.1 = lot then (F' ++ [x]).dropLast ++ [(lot, x.2 + a)] else _) = _
          rw [if_pos hx1, List.dropLast_concat]
        rw [eS]
        refine ⟨f, ys', _, rfl, rfl, hysz, ?_, _, _, _, rfl, Same.at_new hf ((Same.at_new hf (sx.trans s2)).trans s3z), ⟨ys' ++ [.ref z], upd_same, All2.app (h3.mono fun _ _ h => (((h.same s2).keep hys2 kD).same s3z).keep hysz (Kp.refl f _).up) (.one (Lay.keep ⟨z, nv, rfl, upd_same, inv.same sz⟩ hysz (Kp.refl f _).up))⟩, fun l hl => ?_, ?_⟩
        · rw [h3.1]
          rw [List.length_append] at lf
          exact Nat.lt_of_lt_of_le (by omega : F'.length < 1000) (by decide)
        · rcases List.mem_append.mp hl with hl | hl
          · exact (szf l (List.mem_append.mpr (.inl hl))).mono (by omega)
          · rw [List.mem_singleton] at hl
            subst hl
            exact (szx.add sza).mono (by omega)
        · rw [List.length_append] at lf ⊢
          exact Nat.le_succ_of_le lf
      · have eS : stepJ F (lot, a) = F ++ [(lot, a)] := by
          unfold stepJ
          cases hFl : F.getLast? with
          | none => rfl
          | some x =>
            obtain ⟨F', rfl⟩ := List.getLast?_eq_some_iff.mp hFl
            show (if x.1 = lot then _ else _) = _
            rw [if_neg fun e => hp ⟨F', x, rfl, e⟩]
        rw [eS]
        have hys2 := s2 _ _ hys
        refine ⟨_, rfl, .inl ⟨rfl, _, SqL.of hys2⟩, _, rfl, _, rfl, (by show 2 ≤ sizeLine; decide), fun z hz => ?_⟩
        have sz := Same.new (o := .tup [V.str lot, av]) hz
        have hysz := sz _ _ hys2
        have s23 := s2.trans sz
        refine ⟨f, ys, _, rfl, rfl, hysz, ?_, _, _, _, rfl, Same.at_new hf (sx.trans s23), ⟨ys ++ [.ref z], upd_same, All2.app (hy2.mono fun _ _ h => (h.same s23).keep hysz (Kp.refl f _).up) (.one (Lay.keep ⟨z, _, rfl, upd_same, (hav'.same s2).same sz⟩ hysz (Kp.refl f _).up))⟩, fun l hl => ?_, ?_⟩
        · rw [hy2.1]
          exact Nat.lt_of_lt_of_le (by omega : F.length < 1000) (by decide)
        · rcases List.mem_append.mp hl with hl | hl
          · exact (szf l hl).mono (by omega)
          · rw [List.mem_singleton] at hl
            subst hl
            exact sza.mono (by omega)
        · rw [List.length_append]
          exact Nat.succ_le_succ lf
    · rintro σ' H' ⟨o2, o3, o4, rfl, sx, Lf, szf, lf⟩
      rw [hx.1, List.take_of_length_le (Nat.le_refl _)] at Lf szf
      exact ⟨_, rfl, k f H' sx hf Lf szf⟩
end

def stepF (s : List Ly × List Ly × Rat) (l : Ly) : List Ly × List Ly × Rat :=
  if l.2 ≤ s.2.2 then (s.1 ++ [l], s.2.1, s.2.2 - l.2) else (if 0 < s.2.2 then s.1 ++ [(l.1, s.2.2)] else s.1, s.2.1 ++ [(l.1, l.2 - s.2.2)], 0)
def firstF (ls : List Ly) (r : Rat) : List Ly × List Ly × Rat := ls.foldl stepF ([], [], r)
def spFirst (C : Addr) : Sp := fun vs H Q _ => ∃ (q : Addr) (v : V) (ls : List Ly) (r : Rat) (b u : Nat), vs = [.ref q, v] ∧ LayAt C H q ls ∧ IsN C H v r ∧ SzL b ls ∧ Sz u r ∧ ls.length ≤ 100 ∧ 2 + u + (ls.length + 2) * (b + 1) ≤ 4000 ∧
  ∀ (p qt ql : Addr) (H' : Hp), Same H H' → H' p = some (.tup [.ref qt, .ref ql]) → LayAt C H' qt (firstF ls r).1 → LayAt C H' ql (firstF ls r).2.1 → qt ≠ ql → SzL (2 + u + (ls.length + 2) * (b + 1)) (firstF ls r).1 → SzL (2 + u + (ls.length + 2) * (b + 1)) (firstF ls r).2.1 → H qt = none → H ql = none → Q (.ref p) H'
theorem LayAt.app {C : Addr} {H : Hp} {q z : Addr} {ls : List Ly} {l : Ly} {xs : List V} (hq : H q = some (.lst xs)) (h : All2 (Lay C H) xs ls) (hz : Lay C H (.ref z) l) : LayAt C (upd H q (.lst (xs ++ [.ref z]))) q (ls ++ [l]) :=
  ⟨_, upd_same, All2.app (h.mono fun _ _ h => h.keep hq (Kp.refl q _).up) (.one (hz.keep hq (Kp.refl q _).up))⟩
theorem LayAt.oth {C : Addr} {H : Hp} {q p : Addr} {ls : List Ly} {xs : List V} {o : HO} (h : LayAt C H p ls) (hq : H q = some (.lst xs)) (n : p ≠ q) : LayAt C (upd H q o) p ls := by
  obtain ⟨zs, hzs, hz2⟩ := h
  exact ⟨zs, by rw [upd_ne n]; exact hzs, hz2.mono fun _ _ h => h.keep hq (Kp.refl q _).up⟩
section
variable {P : Program} {w : World} {K : PySem.W.Frag} {mg : Str → Option Value} {base : Heap} {A : Ad}
theorem ok_l_first (T : Txt K mg A) : FnOk P w K mg base CX0 12 A.l_first A.fd_l_first P_l_first (spFirst A.Ratio) := by
  refine T.F_l_first.ok sc_l_first (fun vs H Q E h => ?_) (fun cdv Ar outer s H vs Q E hr h => ?_)
  · obtain ⟨q, v, ls, r, b, u, rfl, _⟩ := h
    rfl
  · obtain ⟨q, v, ls, r, b, u, rfl, hL, hv, sL, sr, hlen, hbits, k⟩ := h
    refine ⟨_, (pss_cons (ps_set (i := 2) sc_l_first.nd rfl (Or.inl rfl) (pe_lst pa_nil))
      (pss_cons (ps_set (i := 3) sc_l_first.nd rfl (Or.inl rfl) (pe_lst pa_nil))
      (pss_cons (ps_set (i := 4) sc_l_first.nd rfl (Or.inl rfl) (pe_op (op_own (E := E0) rfl (oo_add T) (ok_m_Ratio_add T) (hr.mono (by decide)) T.b_m_Ratio_add pass0) (pe_make T.mk_Ratio (ok_m_Ratio_init T) (hr.mono (by decide)) (by rfl) T.g_Ratio T.b_m_Ratio_init_d1 T.dv_m_Ratio_init passL (pa_cons pe_int pa_nil)) (pv 1)))
      (pss_cons (ps_g (ps_for PassesOwn.never rfl (pi_list (pv 0)) (pg_tup (n := 2) rfl (pgs_cons (pg_name (i := 5) sc_l_first.nd rfl (Or.inl rfl)) (pgs_cons (pg_name (i := 6) sc_l_first.nd rfl (Or.inl rfl)) pgs_nil))) (pss_one (ps_if (pt_val (pe_meth (pv 6) T.cl_Ratio T.m_Ratio_at_most (ok_m_Ratio_at_most T) (hr.mono (by decide)) T.b_m_Ratio_at_most .nil pass0 (pa_cons (pv 4) pa_nil))) (pss_cons (ps_expr (pe_bm PySem.F.plainAttrs_list PySem.F.slot_list_append PySem.F.type_list_append mt_append (pv 2) (pa_cons (pe_tup (pa_cons (pv 5) (pa_cons (pv 6) pa_nil))) pa_nil)))
      (pss_one (ps_set (i := 4) sc_l_first.nd rfl (Or.inl rfl) (pe_op (op_own (E := E0) rfl (oo_sub T) (ok_m_Ratio_sub T) (hr.mono (by decide)) T.b_m_Ratio_sub pass0) (pv 4) (pv 6))))) (pss_g (Evl.pss_cut (ps_if (pt_cmpR op_gt (pe_fld (pv 4) rfl) pe_int (nomark _)) (pss_one (ps_expr (pe_bm PySem.F.plainAttrs_list PySem.F.slot_list_append PySem.F.type_list_append mt_append (pv 2) (pa_cons (pe_tup (pa_cons (pv 5) (pa_cons (pv 4) pa_nil))) pa_nil)))) pss_nil)
      (pss_cons (ps_expr (pe_bm PySem.F.plainAttrs_list PySem.F.slot_list_append PySem.F.type_list_append mt_append (pv 3) (pa_cons (pe_tup (pa_cons (pv 5) (pa_cons (pe_op (op_own (E := E0) rfl (oo_sub T) (ok_m_Ratio_sub T) (hr.mono (by decide)) T.b_m_Ratio_sub pass0) (pv 6) (pv 4)) pa_nil))) pa_nil)))
      (pss_one (ps_set (i := 4) sc_l_first.nd rfl (Or.inl rfl) (pe_make T.mk_Ratio (ok_m_Ratio_init T) (hr.mono (by decide)) (by rfl) T.g_Ratio T.b_m_Ratio_init_d1 T.dv_m_Ratio_init passL (pa_cons pe_int pa_nil)))))))))))
      (pss_one (ps_ret (pe_tup (pa_cons (pv 2) (pa_cons (pv 3) pa_nil))))))))), ?_⟩
    refine ⟨Nat.zero_le _, fun qt hqt => ⟨Nat.zero_le _, fun ql hql => ?_⟩⟩
    obtain ⟨xs, hq, hx⟩ := hL
    have s1 := Same.new (o := .lst []) hqt
    have s2 := Same.new (o := .lst []) hql
    have fql : H ql = none := Same.none s1 hql
    have ntl : qt ≠ ql := ne_of_none upd_same hql
    have nqt : q ≠ qt := ne_of_none hq hqt
    have nql : q ≠ ql := ne_of_none hq fql
    intro x dx hx0 hd _
    refine mk_ratio hx0 hd (lt_pow (a := 1) (by decide) (by decide)) (fun e => by cases e) (fun _ H1 s3 i1 => ⟨rfl, ?_⟩)
    have e0 : Rat.divInt 0 1 = (0 : Rat) := by decide +kernel
    rw [e0] at i1
    have s13 := s1.trans (s2.trans s3)
    refine ⟨_, rfl, r_own i1 (hv.same s13) (a := 1) ⟨by decide, by decide⟩ sr (by omega) fun rv0 H2 s4 i2 => ?_⟩
    rw [Rat.zero_add] at i2
    have s14 := s13.trans s4
    have s24 := s3.trans s4
    refine ⟨⟨_, rfl, q, rfl, ⟨_, SqL.of (s14 _ _ hq)⟩, for_list (xs := xs) (fun i σ' H' => Wd (∃ (rv : V) (o5 o6 : Option V), σ' = [some (.ref q), some v, some (.ref qt), some (.ref ql), some rv, o5, o6] ∧ Same H H' ∧ LayAt A.Ratio H' qt (firstF (ls.take i) r).1 ∧ LayAt A.Ratio H' ql (firstF (ls.take i) r).2.1 ∧ IsR A.Ratio H' rv (firstF (ls.take i) r).2.2 ∧
      Sz (2 + u + i * (b + 1)) (firstF (ls.take i) r).2.2 ∧ SzL (2 + u + (i + 1) * (b + 1)) (firstF (ls.take i) r).1 ∧ SzL (2 + u + (i + 1) * (b + 1)) (firstF (ls.take i) r).2.1 ∧ (firstF (ls.take i) r).1.length ≤ i ∧ (firstF (ls.take i) r).2.1.length ≤ i))
      ⟨rv0, none, none, rfl, s14, ⟨[], s24 _ _ (s2 _ _ upd_same), .nil⟩, ⟨[], s24 _ _ upd_same, .nil⟩, i2, by rw [Nat.zero_mul]; exact sr.mono (by omega), fun l hl => (by cases hl), fun l hl => (by cases hl), Nat.le_refl _, Nat.le_refl _⟩ ?_ ?_ ?_⟩⟩
    · rintro i σ' H' _ ⟨rv, o5, o6, rfl, sx, _⟩
      exact SqL.of (sx _ _ hq)
    · rintro i x σ' H' hxi ⟨rv, o5, o6, rfl, sx, Lt, Ll, hrv, szr, szt, szl, lt, ll⟩
      obtain ⟨⟨lot, a⟩, hli, hlay⟩ := hx.get hxi
      have hlm := List.mem_of_getElem? hli
      have sza : Sz b a := sL _ hlm
      have hil : i < ls.length := (List.getElem?_eq_some_iff.mp hli).1
      obtain ⟨t, av, rfl, ht, hav⟩ := hlay
      have ht' := sx _ _ ht
      have hav' := hav.same sx
      have hst : firstF (ls.take (i + 1)) r = stepF (firstF (ls.take i) r) (lot, a) := by
        unfold firstF
        rw [take_more hli, List.foldl_append]
        rfl
      rw [hst]
      generalize hS : firstF (ls.take i) r = S at *
      obtain ⟨tk, lf, R⟩ := S
      have lt : tk.length ≤ i := lt
      have ll : lf.length ≤ i := ll
      have bm : (i + 1) * (b + 1) = i * (b + 1) + (b + 1) := by rw [Nat.add_mul, Nat.one_mul]
      have bm2 : (i + 1 + 1) * (b + 1) = i * (b + 1) + (b + 1) + (b + 1) := by rw [Nat.add_mul, Nat.one_mul, bm]
      have bl : (i + 2) * (b + 1) ≤ (ls.length + 2) * (b + 1) := Nat.mul_le_mul_right _ (by omega)
      have bm3 : (i + 2) * (b + 1) = i * (b + 1) + (b + 1) + (b + 1) := bm2
      have bits : 2 + u + i * (b + 1) + (b + 1) + (b + 1) ≤ 4000 := by omega
      refine ⟨t, _, rfl, SqT.of ht', rfl, _, _, rfl, _, _, rfl, rfl, ?_⟩
      obtain ⟨ap, adx, rfl, hap⟩ := id hav'
      refine ⟨_, rfl, ap, adx, _, rfl, hap, rf_no _ _ (by decide +kernel) (by decide +kernel), _, rfl, _, _, a, R, b, _, rfl, hav', .inl hrv, sza, szr, by omega, fun H3 s5 => ⟨_, rfl, ?_⟩⟩
      refine if_dec (fun e => ?_) (fun e => ?_)
      · have eS : stepF (tk, lf, R) (lot, a) = (tk ++ [(lot, a)], lf, R - a) := if_pos e
        rw [eS]
        obtain ⟨ys, hys, hy2⟩ := Lt.same s5
        refine ⟨_, rfl, .inl ⟨rfl, _, SqL.of hys⟩, _, rfl, _, rfl, (by show 2 ≤ sizeLine; decide), fun z hz => ?_⟩
        have sz := Same.new (o := .tup [V.str lot, .ref ap]) hz
        have hys' := sz _ _ hys
        have s5z := s5.trans sz
        have kq : Kp qt _ (upd _ qt (.lst (ys ++ [.ref z]))) := (Kp.refl qt (upd H3 z (.tup [V.str lot, .ref ap]))).up
        have hav3 := (hav'.same s5z).kp hys' kq
        have hrv3 := (hrv.same s5z).kp hys' kq
        have Lt3 := LayAt.app hys' (hy2.mono fun _ _ h => h.same sz) (l := (lot, a)) ⟨z, _, rfl, upd_same, hav'.same s5z⟩
        have Ll3 := LayAt.oth (o := .lst (ys ++ [.ref z])) (Ll.same s5z) hys' ntl.symm
        refine ⟨qt, ys, _, rfl, rfl, hys', ?_, ?_⟩
        · rw [hy2.1]
          exact Nat.lt_of_lt_of_le (by omega : tk.length < 1000) (by decide)
        refine ⟨_, rfl, _, rfl, r_own hrv3 (.inl hav3) szr sza (by omega) fun nv H5 s6 inv => ?_⟩
        rw [bm2, bm]
        refine ⟨nv, _, _, rfl, (Same.at_new hqt (sx.trans s5z)).trans s6, Lt3.same s6, Ll3.same s6, inv, (szr.sub sza).mono (by omega), fun l hl => ?_, fun l hl => (szl l hl).mono (by omega), ?_, Nat.le_succ_of_le ll⟩
        · rcases List.mem_append.mp hl with hl | hl
          · exact (szt l hl).mono (by omega)
          · rw [List.mem_singleton] at hl
            subst hl
            exact sza.mono (by omega)
        · rw [List.length_append]
          exact Nat.succ_le_succ lt
      · have eS : stepF (tk, lf, R) (lot, a) = (if 0 < R then tk ++ [(lot, R)] else tk, lf ++ [(lot, a - R)], 0) := if_neg e
        rw [eS]
        refine ⟨⟨fun σ' H4 => Wd (σ' = [some (.ref q), some v, some (.ref qt), some (.ref ql), some rv, some (.str lot), some (.ref ap)] ∧ Same H H4 ∧ LayAt A.Ratio H4 qt (if 0 < R then tk ++ [(lot, R)] else tk) ∧ LayAt A.Ratio H4 ql lf ∧ IsR A.Ratio H4 rv R ∧ IsR A.Ratio H4 (.ref ap) a), ?_, ?_⟩⟩
        · obtain ⟨pp, pdx, rfl, hpp⟩ := id (hrv.same s5)
          refine ⟨_, rfl, pp, A.Ratio, pdx, _, _, rfl, hpp, T.cl_Ratio, T.n_Ratio_top, rf_top _ _, _, _, rfl, rfl, _, rfl, ?_⟩
          show if decide ((0 : Int) < R.num) = true then _ else _
          rw [rat_pos]
          refine if_dec (fun e2 => ?_) (fun e2 => ⟨rfl, sx.trans s5, by rw [if_neg e2]; exact Lt.same s5, Ll.same s5, hrv.same s5, hav'.same s5⟩)
          obtain ⟨ys, hys, hy2⟩ := Lt.same s5
          refine ⟨_, rfl, .inl ⟨rfl, _, SqL.of hys⟩, _, rfl, _, rfl, (by show 2 ≤ sizeLine; decide), fun z hz => ?_⟩
          have sz := Same.new (o := .tup [V.str lot, .ref pp]) hz
          have hys' := sz _ _ hys
          have s5z := s5.trans sz
          refine ⟨qt, ys, _, rfl, rfl, hys', ?_, rfl, Same.at_new hqt (sx.trans s5z), ?_, LayAt.oth (Ll.same s5z) hys' ntl.symm, (hrv.same s5z).kp hys' (Kp.refl qt _).up, (hav'.same s5z).kp hys' (Kp.refl qt _).up⟩
          · rw [hy2.1]
            exact Nat.lt_of_lt_of_le (by omega : tk.length < 1000) (by decide)
          · rw [if_pos e2]
            exact LayAt.app hys' (hy2.mono fun _ _ h => h.same sz) (l := (lot, R)) ⟨z, _, rfl, upd_same, hrv.same s5z⟩
        · rintro σ' H4 ⟨rfl, s6, Lt4, Ll4, ir4, ia4⟩
          obtain ⟨ys, hys, hy2⟩ := Ll4
          refine ⟨_, rfl, .inl ⟨rfl, _, SqL.of hys⟩, _, rfl, _, rfl, _, rfl, r_own ia4 (.inl ir4) sza szr (by omega) fun dv H5 s7 idv => ⟨(by show 2 ≤ sizeLine; decide), fun z hz => ?_⟩⟩
          have sz := Same.new (o := .tup [V.str lot, dv]) hz
          have s7z := s7.trans sz
          have hys' := s7z _ _ hys
          have Ll5 := LayAt.app hys' (hy2.mono fun _ _ h => h.same s7z) (l := (lot, a - R)) ⟨z, _, rfl, upd_same, idv.same sz⟩
          have Lt5 := LayAt.oth (o := .lst (ys ++ [.ref z])) (Lt4.same s7z) hys' ntl
          refine ⟨ql, ys, _, rfl, rfl, hys', ?_, ?_⟩
          · rw [hy2.1]
            exact Nat.lt_of_lt_of_le (by omega : lf.length < 1000) (by decide)
          intro x2 dx2 hx2 hd2 _
          refine mk_ratio hx2 hd2 (lt_pow (a := 1) (by decide) (by decide)) (fun e => by cases e) (fun _ H6 s8 i6 => ⟨rfl, ?_⟩)
          rw [e0] at i6
          rw [bm2, bm]
          refine ⟨_, _, _, rfl, (Same.at_new fql (s6.trans s7z)).trans s8, Lt5.same s8, Ll5.same s8, i6, ?_, fun l hl => ?_, fun l hl => ?_, ?_, ?_⟩
          · exact Sz.mono (a := 1) (q := (0 : Rat)) ⟨by decide, by decide⟩ (by omega)
          · have hl : l ∈ (if 0 < R then tk ++ [(lot, R)] else tk) := hl
            split at hl
            · rcases List.mem_append.mp hl with hl | hl
              · exact (szt l hl).mono (by omega)
              · rw [List.mem_singleton] at hl
                subst hl
                exact szr.mono (by omega)
            · exact (szt l hl).mono (by omega)
          · rcases List.mem_append.mp hl with hl | hl
            · exact (szl l hl).mono (by omega)
            · rw [List.mem_singleton] at hl
              subst hl
              exact (sza.sub szr).mono (by omega)
          · show (if 0 < R then tk ++ [(lot, R)] else tk).length ≤ i + 1
            split
            · rw [List.length_append]
              exact Nat.succ_le_succ lt
            · exact Nat.le_succ_of_le lt
          · rw [List.length_append]
            exact Nat.succ_le_succ ll
    · rintro σ' H' ⟨rv, o5, o6, rfl, sx, Lt, Ll, hrv, szr, szt, szl, lt, ll⟩
      rw [hx.1, List.take_of_length_le (Nat.le_refl _)] at Lt Ll szt szl
      have hm : 2 + u + (ls.length + 1) * (b + 1) ≤ 2 + u + (ls.length + 2) * (b + 1) := Nat.add_le_add_left (Nat.mul_le_mul_right _ (by omega)) _
      refine ⟨_, rfl, _, rfl, (by show 2 ≤ sizeLine; decide), fun p hp => ?_⟩
      have sp := Same.new (o := .tup [V.ref qt, .ref ql]) hp
      exact k p qt ql _ (sx.trans sp) upd_same (Lt.same sp) (Ll.same sp) ntl (fun l hl => (szt l hl).mono hm) (fun l hl => (szl l hl).mono hm) hqt fql
end

def partF (ls : List Ly) (r : Rat) : List Ly × List Ly := (ls.map (fun l => (l.1, l.2 * (r / tot ls))), if r / tot ls = 1 then [] else ls.map (fun l => (l.1, l.2 - l.2 * (r / tot ls))))
def spPart (C : Addr) : Sp := fun vs H Q _ => ∃ (q : Addr) (v : V) (ls : List Ly) (r : Rat), vs = [.ref q, v] ∧ LayAt C H q ls ∧ IsN C H v r ∧ SzL 20 ls ∧ Sz 200 r ∧ ls.length ≤ 8 ∧ tot ls ≠ 0 ∧
  ∀ (p qt ql : Addr) (H' : Hp), Same H H' → H' p = some (.tup [.ref qt, .ref ql]) → LayAt C H' qt (partF ls r).1 → LayAt C H' ql (partF ls r).2 → qt ≠ ql → SzL 500 (partF ls r).1 → SzL 500 (partF ls r).2 → H qt = none → H ql = none → Q (.ref p) H'
section
variable {P : Program} {w : World} {K : PySem.W.Frag} {mg : Str → Option Value} {base : Heap} {A : Ad}
theorem ok_l_part (T : Txt K mg A) : FnOk P w K mg base CX0 12 A.l_part A.fd_l_part P_l_part (spPart A.Ratio) := by
  refine T.F_l_part.ok sc_l_part (fun vs H Q E h => ?_) (fun cdv Ar outer s H vs Q E hr h => ?_)
  · obtain ⟨q, v, ls, r, rfl, _⟩ := h
    rfl
  · obtain ⟨q, v, ls, r, rfl, hL, hv, sL, sr, hlen, hnz, k⟩ := h
    refine ⟨_, (pss_cons (ps_set (i := 2) sc_l_part.nd rfl (Or.inr rfl) (pe_op (op_own (E := E0) rfl (oo_add T) (ok_m_Ratio_add T) (hr.mono (by decide)) T.b_m_Ratio_add pass0) (pe_make T.mk_Ratio (ok_m_Ratio_init T) (hr.mono (by decide)) (by rfl) T.g_Ratio T.b_m_Ratio_init_d1 T.dv_m_Ratio_init passL (pa_cons pe_int pa_nil)) (pv 1)))
      (pss_cons (ps_set (i := 2) sc_l_part.nd rfl (Or.inr rfl) (pe_meth (pv 2) T.cl_Ratio T.m_Ratio_over (ok_m_Ratio_over T) (hr.mono (by decide)) T.b_m_Ratio_over .nil passL (pa_cons (pe_call (ok_l_total T) (hr.mono (by decide)) (by rfl) T.g__law_total T.F_l_total.kp T.b_l_total .nil pass0 (pa_cons (pv 0) pa_nil)) pa_nil)))
      (pss_cons (ps_g (ps_setLcV (i := 3) (own := [("_law_lot", 4), ("_law_amount_here", 5)]) rfl sc_l_part.nd rfl rfl (sw_true rfl rfl rfl (by decide +kernel)) (pi_list (pv 0)) (blkOk_by (own := [("_law_lot", 4), ("_law_amount_here", 5)]) (N := N_l_part) (sc := defScope s_l_part) (by decide +kernel)) (fun _ _ _ _ _ => (pg_tup (n := 2) rfl (pgs_cons (pg_name (i := 4) sc_l_part.nd rfl (Or.inl rfl)) (pgs_cons (pg_name (i := 5) sc_l_part.nd rfl (Or.inl rfl)) pgs_nil)))) (fun _ _ _ _ _ => pts_nil) (fun _ _ _ _ _ => (pe_tup (pa_cons (pv 4) (pa_cons (pe_op (op_own (E := E0) rfl (oo_mul T) (ok_m_Ratio_mul T) (hr.mono (by decide)) T.b_m_Ratio_mul pass0) (pv 5) (pv 2)) pa_nil)))) (fun _ _ _ _ _ => rfl) (fun _ _ _ _ _ => rfl) (fun _ _ _ _ _ => rfl)))
      (pss_cons (ps_if (pt_val (pe_meth (pv 2) T.cl_Ratio T.m_Ratio_same (ok_m_Ratio_same T) (hr.mono (by decide)) T.b_m_Ratio_same .nil pass0 (pa_cons pe_int pa_nil))) (pss_one (ps_ret (pe_tup (pa_cons (pv 3) (pa_cons (pe_lst pa_nil) pa_nil))))) pss_nil)
      (pss_one (ps_ret (pe_tup (pa_cons (pv 3) (pa_cons (pe_g (pe_lcV (own := [("_law_lot", 4), ("_law_amount_here", 5)]) rfl sc_l_part.nd (pi_list (pv 0)) (blkOk_by (own := [("_law_lot", 4), ("_law_amount_here", 5)]) (N := N_l_part) (sc := defScope s_l_part) (by decide +kernel)) (fun _ _ _ _ _ => (pg_tup (n := 2) rfl (pgs_cons (pg_name (i := 4) sc_l_part.nd rfl (Or.inl rfl)) (pgs_cons (pg_name (i := 5) sc_l_part.nd rfl (Or.inl rfl)) pgs_nil)))) (fun _ _ _ _ _ => pts_nil) (fun _ _ _ _ _ => (pe_tup (pa_cons (pv 4) (pa_cons (pe_op (op_own (E := E0) rfl (oo_sub T) (ok_m_Ratio_sub T) (hr.mono (by decide)) T.b_m_Ratio_sub pass0) (pv 5) (pe_op (op_own (E := E0) rfl (oo_mul T) (ok_m_Ratio_mul T) (hr.mono (by decide)) T.b_m_Ratio_mul pass0) (pv 5) (pv 2))) pa_nil)))) (fun _ _ _ _ _ => rfl) (fun _ _ _ _ _ => rfl) (fun _ _ _ _ _ => rfl))) pa_nil))))))))), ?_⟩
    intro x dx hx0 hd _
    refine mk_ratio hx0 hd (lt_pow (a := 1) (by decide) (by decide)) (fun e => by cases e) (fun _ H1 s1 i1 => ⟨rfl, ?_⟩)
    have e0 : Rat.divInt 0 1 = (0 : Rat) := by decide +kernel
    rw [e0] at i1
    refine ⟨_, rfl, r_own i1 (hv.same s1) (a := 1) ⟨by decide, by decide⟩ sr (by omega) fun rv H2 s2 i2 => ?_⟩
    rw [Rat.zero_add] at i2
    have s12 := s1.trans s2
    have szt : Sz 169 (tot ls) := (tot_sz sL).mono (by omega)
    have sq : Sz 369 (r / tot ls) := sr.quot szt hnz
    obtain ⟨tp, tdx, rfl, htp⟩ := id i2
    refine ⟨_, rfl, tp, tdx, _, rfl, htp, rf_no _ _ (by decide +kernel) (by decide +kernel), _, rfl, q, ls, 20, rfl, hL.same s12, sL, by omega, by omega, fun tv H3 s3 it => ?_⟩
    refine ⟨_, _, r, tot ls, 200, 169, rfl, i2.same s3, .inl it, sr, szt, by decide, fun z => absurd z hnz, fun _ sv H4 s4 ih => ?_⟩
    generalize hsh : r / tot ls = sh at *
    obtain ⟨xs, hq, hx⟩ := hL.same (s12.trans (s3.trans s4))
    have s14 := s12.trans (s3.trans s4)
    refine ⟨⟨_, rfl, q, rfl, ⟨_, SqL.of hq⟩, fun D hD => ?_⟩⟩
    refine lc_sameP (fun i y H' => ∃ l, ls[i]? = some l ∧ Lay A.Ratio H' y (l.1, l.2 * sh)) hq (by rw [hx.1]; omega) hD (fun i y G G' acc hDl kp ⟨l, e1, e2⟩ => ⟨l, e1, e2.keep hDl kp⟩) ?_ ?_
    · intro i x H' N M hxi s' hN
      obtain ⟨l, hli, t, av, rfl, ht, hav⟩ := hx.get hxi
      refine ⟨t, _, rfl, SqT.of (s' _ _ ht), rfl, _, _, rfl, _, _, rfl, rfl, rfl, ?_⟩
      refine ⟨_, rfl, _, rfl, _, rfl, r_own (hav.same s') (.inl (ih.same s')) (sL l (List.mem_of_getElem? hli)) sq (by omega) fun nv H2 s2 inv => ⟨(by show 2 ≤ sizeLine; decide), fun z hz => ?_⟩⟩
      exact hN _ _ (s2.trans (Same.new hz)) ⟨l, hli, z, nv, rfl, upd_same, inv.same (Same.new hz)⟩
    · intro ys H5 s5 hyl hR hD'
      have LT : LayAt A.Ratio H5 D (ls.map (fun l => (l.1, l.2 * sh))) := ⟨ys, hD', by rw [hyl, hx.1, List.length_map], fun i y w hy hw => by
        obtain ⟨l, hli, hl2⟩ := hR i y hy
        rw [List.getElem?_map, hli] at hw
        cases hw
        exact hl2⟩
      have ZT : SzL 500 (ls.map (fun l => (l.1, l.2 * sh))) := fun l hl => by
        obtain ⟨l', hl', rfl⟩ := List.mem_map.mp hl
        exact ((sL l' hl').mul sq).mono (by decide)
      have nD : H D = none := Same.none s14 hD
      have s15 := s14.trans s5
      have ih5 := ih.same s5
      obtain ⟨sp, sdx, rfl, hsp⟩ := id ih5
      refine ⟨_, rfl, sp, sdx, _, rfl, hsp, rf_no _ _ (by decide +kernel) (by decide +kernel), _, _, sh, 1, 369, 2, rfl, ih5, .inr ⟨1, rfl, rfl⟩, sq, ⟨by decide, by decide⟩, by decide, fun H6 s6 => ⟨_, rfl, if_dec (fun e => ?_) (fun e => ?_)⟩⟩
      · have eP : partF ls r = (ls.map (fun l => (l.1, l.2 * sh)), []) := by
          unfold partF
          rw [hsh, if_pos e]
        rw [eP] at k
        walk_at "go"
        intro ql hql
        have sN := Same.new (o := .lst []) hql
        walk_at "go"
        intro p hp
        have sM := Same.new (o := .tup [.ref D, .ref ql]) hp
        have s16 := s15.trans s6
        exact k p D ql _ (s16.trans (sN.trans sM)) upd_same ((LT.same s6).same (sN.trans sM)) ⟨[], sM _ _ upd_same, .nil⟩ ((LT.same s6).ne hql) ZT (fun l hl => nomatch hl) nD (Same.none s16 hql)
      · have eP : partF ls r = (ls.map (fun l => (l.1, l.2 * sh)), ls.map (fun l => (l.1, l.2 - l.2 * sh))) := by
          unfold partF
          rw [hsh, if_neg e]
        rw [eP] at k
        have s46 := s5.trans s6
        have hq6 := s46 _ _ hq
        have hx6 : All2 (Lay A.Ratio H6) xs ls := hx.mono fun _ _ h => h.same s46
        have ih6 := ih5.same s6
        walk_at "go"
        refine ⟨⟨_, rfl, q, rfl, ⟨_, SqL.of hq6⟩, fun D2 hD2 => ?_⟩⟩
        refine lc_sameP (fun i y H' => ∃ l, ls[i]? = some l ∧ Lay A.Ratio H' y (l.1, l.2 - l.2 * sh)) hq6 (by rw [hx.1]; omega) hD2 (fun i y G G' acc hDl kp ⟨l, e1, e2⟩ => ⟨l, e1, e2.keep hDl kp⟩) ?_ ?_
        · intro i x H' N M hxi s' hN
          obtain ⟨l, hli, t, av, rfl, ht, hav⟩ := hx6.get hxi
          have szl := sL l (List.mem_of_getElem? hli)
          refine ⟨t, _, rfl, SqT.of (s' _ _ ht), rfl, _, _, rfl, _, _, rfl, rfl, rfl, ?_⟩
          refine ⟨_, rfl, _, rfl, _, rfl, _, rfl, r_own (hav.same s') (.inl (ih6.same s')) szl sq (by omega) fun mv H7 s7 imv => ?_⟩
          refine r_own ((hav.same s').same s7) (.inl imv) szl (szl.mul sq) (by omega) fun nv H8 s8 inv => ⟨(by show 2 ≤ sizeLine; decide), fun z hz => ?_⟩
          exact hN _ _ (s7.trans (s8.trans (Same.new hz))) ⟨l, hli, z, nv, rfl, upd_same, inv.same (Same.new hz)⟩
        · intro zs H7 s7 hzl hR2 hD2'
          have LL : LayAt A.Ratio H7 D2 (ls.map (fun l => (l.1, l.2 - l.2 * sh))) := ⟨zs, hD2', by rw [hzl, hx.1, List.length_map], fun i y w hy hw => by
            obtain ⟨l, hli, hl2⟩ := hR2 i y hy
            rw [List.getElem?_map, hli] at hw
            cases hw
            exact hl2⟩
          have ZL : SzL 500 (ls.map (fun l => (l.1, l.2 - l.2 * sh))) := fun l hl => by
            obtain ⟨l', hl', rfl⟩ := List.mem_map.mp hl
            exact ((sL l' hl').sub ((sL l' hl').mul sq)).mono (by decide)
          walk_at "go"
          intro p hp
          have sM := Same.new (o := .tup [.ref D, .ref D2]) hp
          have s16 := s15.trans s6
          exact k p D D2 _ (s16.trans (s7.trans sM)) upd_same ((LT.same s6).same (s7.trans sM)) (LL.same sM) ((LT.same s6).ne hD2) ZT ZL nD (Same.none s16 hD2)
end

def In (D : Int) (q : Rat) : Prop := ∃ n : Int, q * (D : Rat) = (n : Rat)
theorem In.add {D : Int} {q r : Rat} (h : In D q) (k : In D r) : In D (q + r) := by
  obtain ⟨n, hn⟩ := h
  obtain ⟨m, hm⟩ := k
  exact ⟨n + m, by rw [Rat.intCast_add]; grind⟩
theorem In.sub {D : Int} {q r : Rat} (h : In D q) (k : In D r) : In D (q - r) := by
  obtain ⟨n, hn⟩ := h
  obtain ⟨m, hm⟩ := k
  exact ⟨n - m, by rw [Rat.intCast_sub]; grind⟩
theorem In.mul {D E : Int} {q r : Rat} (h : In D q) (k : In E r) : In (D * E) (q * r) := by
  obtain ⟨n, hn⟩ := h
  obtain ⟨m, hm⟩ := k
  exact ⟨n * m, by rw [Rat.intCast_mul, Rat.intCast_mul]; grind⟩
theorem In.up {D : Int} {q : Rat} (h : In D q) (E : Int) : In (D * E) q := by
  obtain ⟨n, hn⟩ := h
  exact ⟨n * E, by rw [Rat.intCast_mul, Rat.intCast_mul]; grind⟩
theorem In.zero {D : Int} : In D 0 := ⟨0, by rw [Rat.zero_mul]; rfl⟩
theorem In.int {D : Int} (n : Int) : In D (n : Rat) := ⟨n * D, by rw [Rat.intCast_mul]⟩
theorem am_in {a b : Int} (b0 : 0 < b) (b1 : b ≤ 9) : In 2520 (Rat.divInt a b) := by
  rw [Rat.divInt_eq_div]
  have : b = 1 ∨ b = 2 ∨ b = 3 ∨ b = 4 ∨ b = 5 ∨ b = 6 ∨ b = 7 ∨ b = 8 ∨ b = 9 := by omega
  have e : ∀ c d : Int, c * d = 2520 → c ≠ 0 → (a : Rat) / (c : Rat) * ((2520 : Int) : Rat) = ((a * d : Int) : Rat) := fun c d h h0 => by
    have hc : (c : Rat) ≠ 0 := fun z => h0 (by exact_mod_cast z)
    rw [← h, Rat.intCast_mul, Rat.intCast_mul]
    grind
  rcases this with rfl | rfl | rfl | rfl | rfl | rfl | rfl | rfl | rfl
  · exact ⟨_, e 1 2520 (by decide) (by decide)⟩
  · exact ⟨_, e 2 1260 (by decide) (by decide)⟩
  · exact ⟨_, e 3 840 (by decide) (by decide)⟩
  · exact ⟨_, e 4 630 (by decide) (by decide)⟩
  · exact ⟨_, e 5 504 (by decide) (by decide)⟩
  · exact ⟨_, e 6 420 (by decide) (by decide)⟩
  · exact ⟨_, e 7 360 (by decide) (by decide)⟩
  · exact ⟨_, e 8 315 (by decide) (by decide)⟩
  · exact ⟨_, e 9 280 (by decide) (by decide)⟩
theorem in_div {q : Rat} {n D : Int} (h0 : 0 < D) (h : q * (D : Rat) = (n : Rat)) : q = Rat.divInt n D := by
  rw [Rat.divInt_eq_div]
  have hc : (D : Rat) ≠ 0 := fun z => by have := Rat.intCast_pos.mpr h0; grind
  grind
theorem in_bd {D N : Int} {q : Rat} {n : Int} (h0 : 0 < D) (h : q * (D : Rat) = (n : Rat)) (h1 : 0 ≤ q) (h2 : q ≤ (N : Rat)) : 0 ≤ n ∧ n ≤ N * D := by
  have hD : (0 : Rat) ≤ (D : Rat) := Rat.intCast_nonneg.mpr (by omega)
  constructor
  · have := Rat.mul_nonneg h1 hD
    rw [h] at this
    exact Rat.intCast_nonneg.mp this
  · have := Rat.mul_le_mul_of_nonneg_right h2 hD
    rw [h, ← Rat.intCast_mul] at this
    exact Rat.intCast_le_intCast.mp this
theorem Sz.of_in {D N : Int} {q : Rat} {b : Nat} (h : In D q) (h0 : 0 < D) (h1 : 0 ≤ q) (h2 : q ≤ (N : Rat)) (hb : (N * D).natAbs < 2 ^ b) (hd : D.natAbs < 2 ^ b) : Sz b q := by
  obtain ⟨n, hn⟩ := h
  obtain ⟨a1, a2⟩ := in_bd h0 hn h1 h2
  rw [in_div h0 hn]
  exact Sz.div (by omega) hd (by omega)

structure AmOk (q : Rat) : Prop where
  pos : 0 < q
  sz : Sz 20 q
  den : In 2520 q
def spAmount (C : Addr) : Sp := fun vs H Q _ => ∃ (g l : Addr), vs = [.ref g] ∧ Bag H g l ∧ ∀ (v : V) (r : Rat) (H' : Hp), AmOk r → IsR C H' v r → Kp g H H' → Bag H' g l → Q v H'
theorem amok {a b : Int} (a0 : 0 < a) (a1 : a ≤ 1000000) (b0 : 0 < b) (b1 : b ≤ 9) : AmOk (Rat.divInt a b) := by
  refine ⟨?_, Sz.div (n := 20) (by have : (2 : Nat) ^ 20 = 1048576 := by decide
                                   omega) (by have : (2 : Nat) ^ 20 = 1048576 := by decide
                                              omega) (by omega), am_in b0 b1⟩
  have hb : (0 : Rat) < (b : Rat) := Rat.intCast_pos.mpr b0
  have ha : (0 : Rat) < (a : Rat) := Rat.intCast_pos.mpr a0
  rw [Rat.divInt_eq_div]
  rw [Rat.div_def]
  exact Rat.mul_pos ha (Rat.inv_pos.mpr hb)
section
variable {P : Program} {w : World} {K : PySem.W.Frag} {mg : Str → Option Value} {base : Heap} {A : Ad}
theorem ok_l_amount (T : Txt K mg A) : FnOk P w K mg base CX0 6 A.l_amount A.fd_l_amount P_l_amount (spAmount A.Ratio) := by
  refine T.F_l_amount.ok sc_l_amount (fun vs H Q E h => ?_) (fun cdv Ar outer s H vs Q E hr h => ?_)
  · obtain ⟨g, l, rfl, _⟩ := h
    rfl
  · obtain ⟨g, l, rfl, hb, k⟩ := h
    refine ⟨_, (pss_cons (ps_set (i := 1) sc_l_amount.nd rfl (Or.inl rfl) (pe_call (ok_l_draw T) (hr.mono (by decide)) (by rfl) T.g__law_draw T.F_l_draw.kp T.b_l_draw .nil pass0 (pa_cons (pv 0) (pa_cons pe_int pa_nil))))
      (pss_cons (ps_if (pt_cmpR op_eq (pv 1) pe_int (nomark _)) (pss_one (ps_ret (pe_make T.mk_Ratio (ok_m_Ratio_init T) (hr.mono (by decide)) (by rfl) T.g_Ratio T.b_m_Ratio_init .nil passL (pa_cons (pe_op op_add pe_int (pe_call (ok_l_draw T) (hr.mono (by decide)) (by rfl) T.g__law_draw T.F_l_draw.kp T.b_l_draw .nil pass0 (pa_cons (pv 0) (pa_cons pe_int pa_nil)))) (pa_cons (pe_op op_add pe_int (pe_call (ok_l_draw T) (hr.mono (by decide)) (by rfl) T.g__law_draw T.F_l_draw.kp T.b_l_draw .nil pass0 (pa_cons (pv 0) (pa_cons pe_int pa_nil)))) pa_nil))))) pss_nil)
      (pss_one (ps_ret (pe_make T.mk_Ratio (ok_m_Ratio_init T) (hr.mono (by decide)) (by rfl) T.g_Ratio T.b_m_Ratio_init_d1 T.dv_m_Ratio_init passL (pa_cons (pe_op op_add pe_int (pe_call (ok_l_draw T) (hr.mono (by decide)) (by rfl) T.g__law_draw T.F_l_draw.kp T.b_l_draw .nil pass0 (pa_cons (pv 0) (pa_cons (pe_ix ix_list (pe_lst (pa_cons pe_int (pa_cons pe_int (pa_cons pe_int pa_nil)))) (pe_op op_sub (pv 1) pe_int) (fun _ _ => rfl)) pa_nil)))) pa_nil)))))), ?_⟩
    walk_at "go"
    intro c H1 c0 c1 B1 K1
    walk_at "go"
    refine if_int (fun e => ?_) (fun e => ?_)
    · walk_at "go"
      intro n H2 n0 n1 B2 K2
      walk_at "go"
      intro m H3 m0 m1 B3 K3
      walk_at "go"
      intro x dx hx hd _
      refine mk_ratio hx hd (lt_pow (a := 10) (by omega) (by decide)) (fun e => by omega) (fun _ H4 s4 i4 => ⟨rfl, ?_⟩)
      exact k _ _ _ (amok (by omega) (by omega) (by omega) (by omega)) i4 (K1.trans (K2.trans (K3.trans (Kp.same s4)))) (B3.keep s4)
    · walk_at "go"
      intro p1 h1
      obtain ⟨nv, hnv, en⟩ := at_mem (xs := [.int 5, .int 3, .int 1000000]) (c := c - 1) (by omega) (by show c - 1 < 3; omega)
      obtain ⟨z, rfl, z0, z1⟩ : ∃ m : Int, nv = .int m ∧ 0 < m ∧ m ≤ 1000000 := by
        simp only [List.mem_cons, List.not_mem_nil, or_false] at hnv
        rcases hnv with rfl | rfl | rfl
        all_goals exact ⟨_, rfl, by omega, by omega⟩
      have B1' := B1.new (o := .lst [.int 5, .int 3, .int 1000000]) h1
      have e20 : (2 : Nat) ^ 20 = 1048576 := by decide
      have hz : z.natAbs < 2 ^ 9000 := lt_pow (a := 20) (by omega) (by decide)
      walk_at "go"
      intro n H2 n0 n1 B2 K2
      walk_at "go"
      intro x dx hx hd _
      refine mk_ratio hx hd (lt_pow (a := 1) (by decide) (by decide)) (fun e => by cases e) (fun _ H4 s4 i4 => ⟨rfl, ?_⟩)
      exact k _ _ _ (amok (by omega) (by omega) (by omega) (by omega)) i4 (K1.trans ((Kp.same (Same.new h1)).trans (K2.trans (Kp.same s4)))) (B2.keep s4)
end

/-- neighbours are of different lots -/
def Chn (ls : List Ly) : Prop := ∀ (i : Nat) (a b : Ly), ls[i]? = some a → ls[i + 1]? = some b → a.1 ≠ b.1
theorem Chn.snoc {F : List Ly} {l : Ly} (h : Chn F) (hl : ∀ F' x, F = F' ++ [x] → x.1 ≠ l.1) : Chn (F ++ [l]) := by
  intro i a b ha hb
  by_cases hi : i + 1 < F.length
  · rw [List.getElem?_append_left (by omega)] at ha hb
    exact h i a b ha hb
  · have hi2 : i + 1 < (F ++ [l]).length := (List.getElem?_eq_some_iff.mp hb).1
    rw [List.length_append, List.length_singleton] at hi2
    have e : i + 1 = F.length := by omega
    rw [e, List.getElem?_append_right (Nat.le_refl _), Nat.sub_self] at hb
    cases hb
    rw [List.getElem?_append_left (by omega)] at ha
    have hn : F ≠ [] := fun z => by rw [z] at e; cases e
    refine hl F.dropLast a ?_
    have := List.dropLast_concat_getLast hn
    rw [← this]
    congr 2
    · rw [this]
    · have e2 : i = F.length - 1 := by omega
      rw [e2, ← List.getLast?_eq_getElem?, List.getLast?_eq_getLast hn] at ha
      exact (Option.some.inj ha)
structure LyOk (ls : List Ly) (n : Int) : Prop where
  len : (ls.length : Int) ≤ n
  am : ∀ l ∈ ls, AmOk l.2
  ch : Chn ls
def spLayers (C : Addr) : Sp := fun vs H Q _ => ∃ (g l q : Addr) (xs : List V) (n : Int), vs = [.ref g, .ref q, .int n] ∧ Bag H g l ∧ q ≠ g ∧ H q = some (.lst xs) ∧ 1 ≤ xs.length ∧ xs.length ≤ 1000 ∧ (∀ v ∈ xs, ∃ z : Str, v = .str z) ∧ 0 ≤ n ∧ n ≤ 50 ∧
  ∀ (p : Addr) (ls : List Ly) (H' : Hp), H p = none → LyOk ls n → (∀ l ∈ ls, V.str l.1 ∈ xs) → LayAt C H' p ls → p ≠ g → Bag H' g l → Kp g H H' → Q (.ref p) H'
section
variable {P : Program} {w : World} {K : PySem.W.Frag} {mg : Str → Option Value} {base : Heap} {A : Ad}
theorem ok_l_layers (T : Txt K mg A) : FnOk P w K mg base CX0 7 A.l_layers A.fd_l_layers P_l_layers (spLayers A.Ratio) := by
  refine T.F_l_layers.ok sc_l_layers (fun vs H Q E h => ?_) (fun cdv Ar outer s H vs Q E hr h => ?_)
  · obtain ⟨g, l, q, xs, n, rfl, _⟩ := h
    rfl
  · obtain ⟨g, l, q, xs, n, rfl, B, nq, hq, x1, x2, hxs, n0, n1, k⟩ := h
    refine ⟨_, (pss_cons (ps_set (i := 3) sc_l_layers.nd rfl (Or.inl rfl) (pe_lst pa_nil))
      (pss_cons (ps_g (ps_for PassesOwn.never rfl (pi_range1 rfl T.z_range (pa_cons (pe_call (ok_l_draw T) (hr.mono (by decide)) (by rfl) T.g__law_draw T.F_l_draw.kp T.b_l_draw .nil pass0 (pa_cons (pv 0) (pa_cons (pe_op op_add (pv 2) pe_int) pa_nil))) pa_nil)) (pg_name (i := 4) sc_l_layers.nd rfl (Or.inl rfl)) (pss_cons (ps_set (i := 5) sc_l_layers.nd rfl (Or.inl rfl) (pe_call (ok_l_pick T) (hr.mono (by decide)) (by rfl) T.g__law_pick T.F_l_pick.kp T.b_l_pick .nil pass0 (pa_cons (pv 0) (pa_cons (pv 1) pa_nil))))
      (pss_one (ps_if (PW.pt (pw_or (pt_cmpR (op_eqNil hr.units) (pv 3) (pe_lst pa_nil) (nomark _)) (pw_or1 (pt_cmpR op_ne (pe_ix ix_tup (pe_ix ix_list (pv 3) (pe_un un_neg pe_int) (fun _ _ => rfl)) pe_int (fun _ _ => rfl)) (pv 5) (nomark _))))) (pss_one (ps_expr (pe_bm PySem.F.plainAttrs_list PySem.F.slot_list_append PySem.F.type_list_append mt_append (pv 3) (pa_cons (pe_tup (pa_cons (pv 5) (pa_cons (pe_call (ok_l_amount T) (hr.mono (by decide)) (by rfl) T.g__law_amount T.F_l_amount.kp T.b_l_amount .nil pass0 (pa_cons (pv 0) pa_nil)) pa_nil))) pa_nil)))) pss_nil)))))
      (pss_one (ps_ret (pv 3))))), ?_⟩
    refine ⟨Nat.zero_le _, fun f hf => ?_⟩
    have B0 := B.new (o := .lst []) hf
    have nfg := (B.ne hf).1
    refine ⟨⟨_, rfl, _, rfl, _, _, rfl, rfl, g, l, n + 1, rfl, B0, by omega, lt_pow (a := 10) (by omega) (by decide), fun c H1 c0 c1 B1 K1 => ?_⟩⟩
    have kk1 : Kp g H H1 := (Kp.same (Same.new hf)).trans K1
    refine ⟨_, rfl, by omega, by omega, for_range (lo := 0) (n := c.toNat) (fun i σ' H' => Wd (∃ (F : List Ly) (o4 o5 : Option V), σ' = [some (.ref g), some (.ref q), some (.int n), some (.ref f), o4, o5] ∧ LayAt A.Ratio H' f F ∧ F.length ≤ i ∧ (∀ l ∈ F, AmOk l.2) ∧ (∀ l ∈ F, V.str l.1 ∈ xs) ∧ Chn F ∧ Bag H' g l ∧ Kp g H H'))
      ⟨[], none, none, rfl, ⟨[], K1 _ _ upd_same nfg, .nil⟩, Nat.le_refl _, fun l hl => (by cases hl), fun l hl => (by cases hl), fun i a b h => (by cases h), B1, kk1⟩ ?_ ?_⟩
    · rintro i σ' H2 hi ⟨F, o4, o5, rfl, LF, lF, aF, xF, cF, B2, K2⟩
      refine ⟨_, rfl, _, rfl, g, l, q, xs, rfl, B2, nq, K2 _ _ hq nq, x1, x2, fun v H3 hv B3 K3 => ?_⟩
      obtain ⟨lot, rfl⟩ := hxs v hv
      obtain ⟨ys0, hys0, hy20⟩ := LF
      obtain ⟨gl, hgl⟩ := B2.lst
      have hys := K3 _ _ hys0 nfg
      have hy2 : All2 (Lay A.Ratio H3) ys0 F := hy20.mono fun _ _ h => h.keep hgl K3
      unfold gName
      dsimp only
      refine tIf_of (p := ∀ F' x, F = F' ++ [x] → x.1 ≠ lot) (H := H3) (fun Q hT hF => ?_) (fun H4 s4 hp => ?_) (fun H4 s4 hp => ?_)
      · walk_at "go"
        intro p hp
        have sN := Same.new (o := .lst []) hp
        refine ⟨⟨f, p, ys0, rfl, rfl, SqL.of (sN _ _ hys), SqL.of upd_same, _, rfl, ?_⟩⟩
        cases hFl : F.getLast? with
        | none =>
          have hF0 := List.getLast?_eq_none_iff.mp hFl
          have hy0 : ys0 = [] := List.eq_nil_of_length_eq_zero (by rw [hy2.1, hF0]; rfl)
          rw [hy0]
          exact iteT (hT _ sN fun F' x e => by rw [hF0] at e; cases F' <;> cases e)
        | some x =>
          obtain ⟨F', rfl⟩ := List.getLast?_eq_some_iff.mp hFl
          obtain ⟨ys', yv, rfl, h3, t2, rv, rfl, ht2, hrv⟩ := hy2.snoc
          have hne : (ys' ++ [V.ref t2]).isEmpty = false := by cases ys' <;> rfl
          rw [hne]
          refine iteF ⟨_, rfl, 1, rfl, f, _, _, _, rfl, rfl, SqL.of (sN _ _ hys), last_atL, t2, _, _, _, rfl, rfl, SqT.of (sN _ _ ht2), rfl, _, rfl, rfl, _, rfl, ?_⟩
          by_cases e : x.1 = lot
          · have : (!decide (V.str x.1 = V.str lot)) = false := by rw [e]; simp
            rw [this]
            exact hF _ sN fun z => z F' x rfl e
          · have : (!decide (V.str x.1 = V.str lot)) = true := by
              rw [decide_eq_false fun z => e (V.str.inj z)]
              rfl
            rw [this]
            refine hT _ sN fun F2 x2 e2 => ?_
            have h2 := List.append_inj' e2 rfl
            have hx2 : x = x2 := by simpa using h2.2
            rw [← hx2]
            exact e
      · have hys4 := s4 _ _ hys
        have B4 := B3.keep s4
        refine ⟨_, rfl, .inl ⟨rfl, _, SqL.of hys4⟩, _, rfl, _, rfl, g, l, rfl, B4, fun v r H5 okr iv K5 B5 => ⟨(by show 2 ≤ sizeLine; decide), fun z hz => ?_⟩⟩
        have hys5 := K5 _ _ hys4 nfg
        obtain ⟨gl4, hgl4⟩ := B4.lst
        have hy5 : All2 (Lay A.Ratio H5) ys0 F := hy2.mono fun _ _ h => (h.same s4).keep hgl4 K5
        have sz := Same.new (o := .tup [V.str lot, v]) hz
        have hys6 := sz _ _ hys5
        refine ⟨f, ys0, _, rfl, rfl, hys6, ?_, F ++ [(lot, r)], _, _, rfl, LayAt.app hys6 (hy5.mono fun _ _ h => h.same sz) ⟨z, v, rfl, upd_same, iv.same sz⟩, ?_, fun l hl => ?_, fun l hl => ?_, cF.snoc hp, (B5.keep sz).put ?_, ?_⟩
        · rw [hy2.1]
          exact Nat.lt_of_lt_of_le (by omega : F.length < 1000) (by decide)
        · rw [List.length_append]
          exact Nat.succ_le_succ lF
        · rcases List.mem_append.mp hl with hl | hl
          · exact aF l hl
          · rw [List.mem_singleton] at hl
            subst hl
            exact okr
        · rcases List.mem_append.mp hl with hl | hl
          · exact xF l hl
          · rw [List.mem_singleton] at hl
            subst hl
            exact hv
        · exact B.ne hf
        · exact (K2.trans (K3.trans ((Kp.same s4).trans (K5.trans (Kp.same sz))))).put hf
      · exact ⟨F, _, _, rfl, ⟨ys0, s4 _ _ hys, hy2.mono fun _ _ h => h.same s4⟩, Nat.le_succ_of_le lF, aF, xF, cF, B3.keep s4, K2.trans (K3.trans (Kp.same s4))⟩
    · rintro σ' H2 ⟨F, o4, o5, rfl, LF, lF, aF, xF, cF, B2, K2⟩
      exact ⟨_, rfl, k f F H2 hf ⟨by omega, aF, cF⟩ xF LF nfg B2 K2⟩
end

/-- what comes back, and what the sale keeps -/
def backF (t : Str) (ls : List Ly) (r : Rat) : List Ly × List Ly :=
  if t = "even" then (sharedF ls.reverse (r / tot ls), sharedF ls (1 - r / tot ls)) else ((cutF ls.reverse r).1, (cutF ls.reverse r).2.1.reverse)
def spReturned (C CR CE : Addr) : Sp := fun vs H Q E => ∃ (x q : Addr) (v : V) (ru : Ru) (ls : List Ly) (r : Rat), vs = [.ref x, .ref q, v] ∧ IsRu CR H x ru ∧ LayAt C H q ls ∧ IsN C H v r ∧ SzL 100 ls ∧ Sz 200 r ∧ ls.length ≤ 12 ∧ 0 < r ∧
  (¬ tot ls < r → ∀ (p qt ql : Addr) (H' : Hp), Same H H' → H' p = some (.tup [.ref qt, .ref ql]) → LayAt C H' qt (backF ru.t ls r).1 → LayAt C H' ql (backF ru.t ls r).2 → qt ≠ ql → H qt = none → H ql = none → Q (.ref p) H') ∧
  (tot ls < r → ∀ d mv H', Same H H' → H' d = some (.xd [("missing", mv)]) → IsR C H' mv (r - tot ls) → E (.ref CE) (some d) H')
section
variable {P : Program} {w : World} {K : PySem.W.Frag} {mg : Str → Option Value} {base : Heap} {A : Ad}
theorem ok_m_Rule_returned (T : Txt K mg A) : FnOk P w K mg base (L2.CX P w) 16 A.m_Rule_returned A.fd_m_Rule_returned P_m_Rule_returned (spReturned A.Ratio A.Rule A.Short) := by
  refine T.F_m_Rule_returned.okX sc_m_Rule_returned (fun vs H Q E h => ?_) (fun cdv Ar outer s H vs Q E hr h => ?_)
  · obtain ⟨x, q, v, ru, ls, r, rfl, _⟩ := h
    rfl
  · obtain ⟨x, q, v, ru, ls, r, rfl, hx, hL, hv, sL, sr, hlen, hr0, k1, k2⟩ := h
    obtain ⟨dx, ex⟩ := hx
    refine ⟨_, (pss_cons (ps_expr (pe_call (ok_f_check_units T) (hr.mono (by decide)) (by rfl) T.g_check_units T.F_f_check_units.kp T.b_f_check_units .nil (E := E) (passes_call (takes_of rfl rfl rfl rfl) (fun _ _ _ _ h => h)) (pa_cons (pv 1) (pa_cons (pv 2) pa_nil))))
      (pss_cons (ps_if (pt_cmpR op_eq (pe_fld (pv 0) rfl) pe_str (nomark _)) (pss_cons (ps_set (i := 3) sc_m_Rule_returned.nd rfl (Or.inl rfl) (pe_meth (pe_smeth (pe_glob (v := .ref A.Ratio) (by rfl) T.g_Ratio rfl) T.sm_Ratio_sum_of (ok_m_Ratio_sum_of T) (hr.mono (by decide)) T.b_m_Ratio_sum_of pass0 (pa_cons (pe_lst (pa_cons (pv 2) pa_nil)) pa_nil)) T.cl_Ratio T.m_Ratio_over (ok_m_Ratio_over T) (hr.mono (by decide)) T.b_m_Ratio_over .nil (E := E) (passes_call (takes_of rfl rfl rfl rfl) (fun _ _ _ _ h => h)) (pa_cons (pe_call (ok_f_units_in T) (hr.mono (by decide)) (by rfl) T.g_units_in T.F_f_units_in.kp T.b_f_units_in .nil pass0 (pa_cons (pv 1) pa_nil)) pa_nil)))
      (pss_one (ps_ret (pe_tup (pa_cons (pe_call (ok_f_shared T) (hr.mono (by decide)) (by rfl) T.g_shared T.F_f_shared.kp T.b_f_shared .nil pass0 (pa_cons (pe_revL (pv 1)) (pa_cons (pv 3) pa_nil))) (pa_cons (pe_call (ok_f_shared T) (hr.mono (by decide)) (by rfl) T.g_shared T.F_f_shared.kp T.b_f_shared .nil pass0 (pa_cons (pv 1) (pa_cons (pe_op (op_rown (E := E0) rfl (oo_sub T) PySem.F.fills_int_sub PySem.F.slot_int_sub PySem.F.entry_int_sub PySem.F.args_int_sub_2 rfl (ok_m_Ratio_rsub T) (hr.mono (by decide)) T.b_m_Ratio_rsub pass0) pe_int (pv 3)) pa_nil))) pa_nil)))))) pss_nil)
      (pss_cons (ps_asg (pe_call (ok_f_cut T) (hr.mono (by decide)) (by rfl) T.g_cut T.F_f_cut.kp T.b_f_cut .nil pass0 (pa_cons (pe_revL (pv 1)) (pa_cons (pv 2) pa_nil))) (pg_tup (n := 2) rfl (pgs_cons (pg_name (i := 4) sc_m_Rule_returned.nd rfl (Or.inl rfl)) (pgs_cons (pg_name (i := 5) sc_m_Rule_returned.nd rfl (Or.inl rfl)) pgs_nil))))
      (pss_one (ps_ret (pe_tup (pa_cons (pv 4) (pa_cons (pe_revL (pv 5)) pa_nil)))))))), ?_⟩
    have b1 : (ls.length + 2) * (100 + 1) ≤ 1414 := by omega
    walk_at "go"
    refine ⟨fun e H1 s1 => ?_, k2⟩
    have h0 : 0 < tot ls := by grind
    have szt : Sz 1213 (tot ls) := (tot_sz sL).mono (by omega)
    have lr : ls.reverse.length = ls.length := List.length_reverse
    refine ⟨_, rfl, x, _, dx, _, _, rfl, s1 _ _ ex, T.cl_Rule, T.n_Rule_take, rl_take _ _ _, ?_⟩
    refine ⟨rfl, _, rfl, if_dec (fun e1 => ?_) (fun e1 => ?_)⟩
    · have et : ru.t = "even" := by injection e1
      have eT : backF ru.t ls r = (sharedF ls.reverse (r / tot ls), sharedF ls (1 - r / tot ls)) := if_pos et
      rw [eT] at k1
      have hz : tot ls ≠ 0 := by grind
      walk_at "go"
      intro l hl
      refine ⟨l, [v], [r], 200, rfl, upd_same, rfl, fun i x' q' hx' hq' => ?_, by show 1 + 2 * 201 ≤ 8990; decide, fun sv H2 s2 is => ?_⟩
      · match i, hx', hq' with
        | 0, e1, e2 =>
          cases e1
          cases e2
          exact ⟨(hv.same s1).same (Same.new hl), sr⟩
      · rw [rsum_one] at is
        have sA := s1.trans ((Same.new hl).trans s2)
        obtain ⟨tp, tdx, rfl, htp⟩ := id is
        refine ⟨tp, tdx, _, rfl, htp, rf_no _ _ (by decide +kernel) (by decide +kernel), _, rfl, q, ls, 100, rfl, hL.same sA, sL, by omega, by omega, fun tv H3 s3 it => ?_⟩
        refine ⟨_, _, r, tot ls, 200, 1213, rfl, is.same s3, .inl it, sr, szt, by decide, fun z => absurd z hz, fun _ hv H4 s4 ih => ?_⟩
        have sq : Sz 1413 (r / tot ls) := sr.quot szt hz
        have sB := sA.trans (s3.trans s4)
        obtain ⟨xs, hq, hA⟩ := hL.same sB
        walk_at "go"
        intro p0 hp0
        have sR := Same.new (o := .lst xs.reverse) hp0
        refine ⟨_, rfl, p0, _, ls.reverse, _, 100, 1413, rfl, LayAt.rev hA hp0, ih.same sR, sL.rev, sq, by omega, by decide, fun pa H5 s5 na hPa za => ?_⟩
        have s5' := sR.trans s5
        walk_at "go"
        refine r_rown (ih.same s5') sq (b := 2) ⟨by decide, by decide⟩ (by omega) fun nv H6 s6 i6 => ?_
        rw [Rat.add_comm, ← Rat.sub_eq_add_neg] at i6
        have sO : Sz 1416 (((1 : Int) : Rat) - r / tot ls) := Sz.sub (a := 2) ⟨by decide, by decide⟩ sq
        have e1 : ((1 : Int) : Rat) = 1 := rfl
        rw [e1] at i6 sO
        refine ⟨q, _, ls, _, 100, 1416, rfl, (hL.same sB).same (s5'.trans s6), i6, sL, sO, by omega, by decide, fun pb H7 s7 nb hB zb => ?_⟩
        walk_at "go"
        intro p3 h3
        have sM := Same.new (o := .tup [.ref pa, .ref pb]) h3
        have sC := s5'.trans s6
        exact k1 e p3 pa pb _ (sB.trans (sC.trans (s7.trans sM))) upd_same (((hPa.same s6).same s7).same sM) (hB.same sM) ((hPa.same s6).ne nb) (Same.none sB (Same.none sR na)) (Same.none sB (Same.none sC nb))
    · have et : ¬ ru.t = "even" := fun z => e1 (by rw [z])
      have eT : backF ru.t ls r = ((cutF ls.reverse r).1, (cutF ls.reverse r).2.1.reverse) := if_neg et
      rw [eT] at k1
      obtain ⟨xs, hq, hA⟩ := hL.same s1
      refine ⟨_, rfl, q, xs, rfl, .inl (.inl hq), fun p0 hp0 => ?_⟩
      refine ⟨_, rfl, p0, v, ls.reverse, r, 100, 200, rfl, LayAt.rev hA hp0, (hv.same s1).same (Same.new hp0), sL.rev, sr, by omega, by omega, fun p qt ql H2 s2 hp ht hl nq z1 z2 n1 n2 => ?_⟩
      obtain ⟨ys, hql, hB⟩ := id hl
      walk_at "go"
      intro p4 h4
      have sN := Same.new (o := .lst ys.reverse) h4
      walk_at "go"
      intro p3 h3
      have sM := Same.new (o := .tup [.ref qt, .ref p4]) h3
      have sP := (Same.new hp0).trans s2
      exact k1 e p3 qt p4 _ (s1.trans (sP.trans (sN.trans sM))) upd_same ((ht.same sN).same sM) ((LayAt.rev hB h4).same sM) (ht.ne h4) (Same.none s1 (Same.none (Same.new hp0) n1)) (Same.none s1 (Same.none sP h4))
end

/-- [k for k in range(n) if ..], its parts keep what stands -/
theorem lc_rangeF {n : Nat} {g : TG} {tt : TT} {te : TE} {vs : List Nat} {σ : L2.St} {H1 : Hp} {D : Addr} {Qd : Hp → Prop} (f : Nat → Bool) (hn : n ≤ 1000) (hD : H1 D = none)
    (hs : ∀ i H' (N : VK) (M : Hp → Prop), i < n → Same H1 H' → (f i = true → ∀ H4, Same H' H4 → N (.int (0 + (i : Int))) H4) → (f i = false → ∀ H4, Same H' H4 → M H4) → g (V.int (0 + (i : Int))) (wipe σ vs) H' fun σ2 H2 => wipe σ2 vs = wipe σ vs ∧ tt σ2 H2 fun b H3 => if b = true then te σ2 H3 N else M H3)
    (hd : ∀ H', Same H1 H' → H' D = some (.lst (((List.range n).filter f).map fun i : Nat => V.int (i : Int))) → Qd H') :
    ∃ W : Nat → Nat → Hp → Prop, (∃ m, W 0 m (upd H1 D (.lst []))) ∧ ∀ i m H, W i m H →
      ((Itr 0 n).stop i H ∧ Qd H) ∨ ((Itr 0 n).go i H ∧ ∃ Nx : Hp → Prop, (∀ H', Nx H' → ∃ m', m' < m ∧ W (i + 1) m' H') ∧ ∀ x H', (Itr 0 n).yld i H x H' → g x (wipe σ vs) H' fun σ2 H2 => wipe σ2 vs = wipe σ vs ∧ tt σ2 H2 fun b H3 =>
        if b = true then te σ2 H3 fun y H4 => ∃ acc, H4 D = some (.lst acc) ∧ acc.length < sizeLine ∧ Nx (upd H4 D (.lst (acc ++ [y]))) else Nx H3) := by
  refine lc_range (lo := 0) (fun i H' => Wd (Same H1 H' ∧ H' D = some (.lst (((List.range i).filter f).map fun i : Nat => V.int (i : Int))))) ⟨Same.new hD, upd_same⟩ ?_ (fun H' h => hd H' h.ok.1 h.ok.2)
  rintro i H' hi ⟨s, hd'⟩
  refine hs i H' _ _ hi s (fun hf H4 s4 => ⟨_, s4 _ _ hd', ?_, Same.at_new hD (s.trans s4), ?_⟩) (fun hf H4 s4 => ⟨s.trans s4, ?_⟩)
  · rw [List.length_map]
    have := List.length_filter_le f (List.range i)
    rw [List.length_range] at this
    exact Nat.lt_of_le_of_lt this (Nat.lt_of_lt_of_le (by omega : i < 1000) (by decide))
  · rw [upd_same, List.range_succ, List.filter_append, List.map_append, List.filter_cons_of_pos (by exact hf), Int.zero_add]
    rfl
  · rw [s4 _ _ hd', List.range_succ, List.filter_append, List.map_append, List.filter_cons_of_neg (by rw [hf]; decide), List.filter_nil, List.map_nil, List.append_nil]
theorem inV_st {ns : List Str} {x : Str} : inV (.str x) (ns.map V.str) = decide (x ∈ ns) := by
  unfold inV
  rw [List.any_map, List.any_eq, decide_eq_decide]
  constructor
  · rintro ⟨y, hy, h⟩
    have h : eqV (.str y) (.str x) = true := h
    have e : V.str y = V.str x := by simpa [eqV] using h
    rw [← V.str.inj e]
    exact hy
  · intro h
    exact ⟨x, h, by simp [eqV]⟩
theorem cutV_take {xs : List V} {k : Nat} (h : k ≤ xs.length) : cutV xs none (some (k : Int)) = xs.take k := by
  unfold cutV
  rw [HT.sIx_nat, HT.sIx_none, List.drop_zero, Nat.min_eq_left h, Nat.sub_zero]
theorem cutV_drop {xs : List V} {k : Nat} (h : k ≤ xs.length) : cutV xs (some (k : Int)) none = xs.drop k := by
  unfold cutV
  rw [HT.sIx_nat, HT.sIx_none, Nat.min_eq_left h]
  exact List.take_of_length_le (by rw [List.length_drop]; exact Nat.le_refl _)
def lotAt (ls : List Ly) (i : Nat) : Str := (ls.getD i ("", 0)).1
def spots (f : Str → Bool) (ls : List Ly) : List Nat := (List.range ls.length).filter fun i => f (lotAt ls i)
def laterF (nms : List Str) (z : Str) : List Str := nms.drop (nms.idxOf z + 1)
def spotF (ls : List Ly) (z : Str) (nms : List Str) : Nat := match spots (fun y => decide (y ∈ laterF nms z)) ls with
  | i :: _ => i
  | [] => ls.length
/-- a part laid at its own place -/
def putOwn (ls : List Ly) (l : Ly) (nms : List Str) : List Ly := match spots (fun y => decide (y = l.1)) ls with
  | i :: _ => ls.take i ++ (l.1, (ls.getD i ("", 0)).2 + l.2) :: ls.drop (i + 1)
  | [] => ls.take (spotF ls l.1 nms) ++ l :: ls.drop (spotF ls l.1 nms)
def putLy (t p : Str) (ls : List Ly) (l : Ly) (nms : List Str) : List Ly :=
  if p = "top" ∧ t ≠ "even" then stackF (ls ++ [l]) else if p = "bottom" ∧ t ≠ "even" then stackF (l :: ls) else putOwn ls l nms
theorem spots_lt {f : Str → Bool} {ls : List Ly} {i : Nat} (h : i ∈ spots f ls) : i < ls.length := List.mem_range.mp (List.mem_filter.mp h).1
theorem spotF_le {ls : List Ly} {z : Str} {nms : List Str} : spotF ls z nms ≤ ls.length := by
  unfold spotF
  split
  · next i _ e => exact Nat.le_of_lt (spots_lt (e ▸ List.mem_cons_self))
  · exact Nat.le_refl _
def spPut (C CR : Addr) : Sp := fun vs H Q _ => ∃ (x q t lq : Addr) (ru : Ru) (ls : List Ly) (l : Ly) (nms : List Str), vs = [.ref x, .ref q, .ref t, .ref lq] ∧ IsRu CR H x ru ∧ LayAt C H q ls ∧ Lay C H (.ref t) l ∧ H lq = some (.lst (nms.map V.str)) ∧ nms.length ≤ 1000 ∧ l.1 ∈ nms ∧ SzL 400 ls ∧ Sz 400 l.2 ∧ ls.length ≤ 16 ∧
  ∀ (p : Addr) (H' : Hp), Same H H' → H p = none → LayAt C H' p (putLy ru.t ru.p ls l nms) → Q (.ref p) H'
section
variable {P : Program} {w : World} {K : PySem.W.Frag} {mg : Str → Option Value} {base : Heap} {A : Ad}
theorem ok_m_Rule_put (T : Txt K mg A) : FnOk P w K mg base CX0 11 A.m_Rule_put A.fd_m_Rule_put P_m_Rule_put (spPut A.Ratio A.Rule) := by
  refine T.F_m_Rule_put.ok sc_m_Rule_put (fun vs H Q E h => ?_) (fun cdv Ar outer s H vs Q E hr h => ?_)
  · obtain ⟨x, q, t, lq, ru, ls, l, nms, rfl, _⟩ := h
    rfl
  · obtain ⟨x, q, t, lq, ru, ls, l, nms, rfl, ⟨dx, ex⟩, hL, hl, hlq, nlen, hmem, sL, sl, hlen, k⟩ := h
    refine ⟨_, (pss_cons (ps_if (PW.pt (pw_and (pt_cmpR op_eq (pe_fld (pv 0) rfl) pe_str (nomark _)) (pw_and1 (pt_cmpR op_ne (pe_fld (pv 0) rfl) pe_str (nomark _))))) (pss_one (ps_ret (pe_call (ok_f_stacked T) (hr.mono (by decide)) (by rfl) T.g_stacked T.F_f_stacked.kp T.b_f_stacked .nil pass0 (pa_cons (pe_lst (StX.pa_star (pv 1) (pa_cons (pv 2) pa_nil))) pa_nil)))) pss_nil)
      (pss_cons (ps_if (PW.pt (pw_and (pt_cmpR op_eq (pe_fld (pv 0) rfl) pe_str (nomark _)) (pw_and1 (pt_cmpR op_ne (pe_fld (pv 0) rfl) pe_str (nomark _))))) (pss_one (ps_ret (pe_call (ok_f_stacked T) (hr.mono (by decide)) (by rfl) T.g_stacked T.F_f_stacked.kp T.b_f_stacked .nil pass0 (pa_cons (pe_lst (pa_cons (pv 2) (StX.pa_star (pv 1) pa_nil))) pa_nil)))) pss_nil)
      (pss_cons (ps_asg (pv 2) (pg_tup (n := 2) rfl (pgs_cons (pg_name (i := 4) sc_m_Rule_put.nd rfl (Or.inr rfl)) (pgs_cons (pg_name (i := 5) sc_m_Rule_put.nd rfl (Or.inl rfl)) pgs_nil))))
      (pss_cons (ps_g (ps_setLcV (i := 6) (own := [("spot", 10)]) rfl sc_m_Rule_put.nd rfl rfl (sw_true rfl rfl rfl (by decide +kernel)) (pi_range1 rfl T.z_range (pa_cons (pe_callB call_len_seq (by rfl) T.z_len (by decide +kernel) (pa_cons (pv 1) pa_nil)) pa_nil)) (blkOk_by (own := [("spot", 10)]) (N := N_m_Rule_put) (sc := defScope s_m_Rule_put) (by decide +kernel)) (fun _ _ _ _ _ => (pg_name (i := 10) sc_m_Rule_put.nd rfl (Or.inl rfl))) (fun _ _ _ _ _ => (pts_one (pt_cmpR op_eq (pe_ix ix_tup (pe_ix ix_list (pv 1) (pv 10) (fun _ _ => rfl)) pe_int (fun _ _ => rfl)) (pv 4) (nomark _)))) (fun _ _ _ _ _ => (pv 10)) (fun _ _ _ _ _ => rfl) (fun _ _ _ _ _ => rfl) (fun _ _ _ _ _ => rfl)))
      (pss_cons (ps_if (pt_truth (pv 6) (by intro _; rfl)) (pss_cons (ps_set (i := 7) sc_m_Rule_put.nd rfl (Or.inl rfl) (pe_tup (pa_cons (pv 4) (pa_cons (pe_op (op_own (E := E0) rfl (oo_add T) (ok_m_Ratio_add T) (hr.mono (by decide)) T.b_m_Ratio_add pass0) (pe_ix ix_tup (pe_ix ix_list (pv 1) (pe_ix ix_list (pv 6) pe_int (fun _ _ => rfl)) (fun _ _ => rfl)) pe_int (fun _ _ => rfl)) (pv 5)) pa_nil))))
      (pss_one (ps_ret (pe_lst (StX.pa_star (pe_slice sl_list (pv 1) po_none (po_some (pe_ix ix_list (pv 6) pe_int (fun _ _ => rfl)))) (pa_cons (pv 7) (StX.pa_star (pe_slice sl_list (pv 1) (po_some (pe_op op_add (pe_ix ix_list (pv 6) pe_int (fun _ _ => rfl)) pe_int)) po_none) pa_nil))))))) pss_nil)
      (pss_cons (ps_set (i := 8) sc_m_Rule_put.nd rfl (Or.inr rfl) (pe_slice sl_list (pv 3) (po_some (pe_op op_add (pe_bm PySem.F.plainAttrs_list PySem.F.slot_list_index PySem.F.type_list_index mt_index (pv 3) (pa_cons (pv 4) pa_nil)) pe_int)) po_none))
      (pss_cons (ps_g (ps_setLcV (i := 9) (own := [("spot", 10)]) rfl sc_m_Rule_put.nd rfl rfl (sw_true rfl rfl rfl (by decide +kernel)) (pi_range1 rfl T.z_range (pa_cons (pe_callB call_len_seq (by rfl) T.z_len (by decide +kernel) (pa_cons (pv 1) pa_nil)) pa_nil)) (blkOk_by (own := [("spot", 10)]) (N := N_m_Rule_put) (sc := defScope s_m_Rule_put) (by decide +kernel)) (fun _ _ _ _ _ => (pg_name (i := 10) sc_m_Rule_put.nd rfl (Or.inl rfl))) (fun _ _ _ _ _ => (pts_one (pt_cmpR op_in_seq (pe_ix ix_tup (pe_ix ix_list (pv 1) (pv 10) (fun _ _ => rfl)) pe_int (fun _ _ => rfl)) (pv 8) (by rfl)))) (fun _ _ _ _ _ => (pv 10)) (fun _ _ _ _ _ => rfl) (fun _ _ _ _ _ => rfl) (fun _ _ _ _ _ => rfl)))
      (pss_g (Evl.pss_cut (ps_set (i := 10) sc_m_Rule_put.nd rfl (Or.inl rfl) (pe_ifExp (pt_truth (pv 9) (by intro _; rfl)) (pe_ix ix_list (pv 9) pe_int (fun _ _ => rfl)) (pe_callB call_len_seq (by rfl) T.z_len (by decide +kernel) (pa_cons (pv 1) pa_nil))))
      (pss_one (ps_ret (pe_lst (StX.pa_star (pe_slice sl_list (pv 1) po_none (po_some (pv 10))) (pa_cons (pv 2) (StX.pa_star (pe_slice sl_list (pv 1) (po_some (pv 10)) po_none) pa_nil))))))))))))))), ?_⟩
    obtain ⟨xs, hq, hA⟩ := id hL
    have hxl : xs.length ≤ 16 := by rw [hA.1]; exact hlen
    have eP : putLy ru.t ru.p ls l nms = putLy ru.t ru.p ls l nms := rfl
    refine tIf_of (p := ru.p = "top" ∧ ru.t ≠ "even") (H := H) (fun Q hT hF => ?_) (fun H1 s1 hp => ?_) (fun H1 s1 hp => ?_)
    · refine ⟨_, rfl, x, _, dx, _, _, rfl, ex, T.cl_Rule, T.n_Rule_place, rl_place _ _ _, rfl, _, rfl, if_dec (fun e1 => ?_) (fun e1 => hF _ (fun _ _ h => h) fun z => e1 (by rw [z.1]))⟩
      refine ⟨_, rfl, x, _, dx, _, _, rfl, ex, T.cl_Rule, T.n_Rule_take, rl_take _ _ _, rfl, _, rfl, ?_⟩
      by_cases e2 : ru.t = "even"
      · rw [e2, decide_eq_true rfl]
        exact hF _ (fun _ _ h => h) fun z => z.2 e2
      · rw [decide_eq_false fun z => e2 (V.str.inj z)]
        exact hT _ (fun _ _ h => h) ⟨V.str.inj e1, e2⟩
    · rw [show putLy ru.t ru.p ls l nms = stackF (ls ++ [l]) from if_pos hp] at k
      have hq1 := s1 _ _ hq
      refine ⟨_, rfl, q, xs, rfl, .inr (SqL.of hq1), _, rfl, ?_, fun p hp' => ?_⟩
      · rw [List.length_append, List.length_singleton]
        exact Nat.le_trans (by omega : xs.length + 1 ≤ 17) (by decide)
      have sN := Same.new (o := .lst (xs ++ [V.ref t])) hp'
      refine ⟨p, ls ++ [l], 400, rfl, ⟨_, upd_same, All2.app (hA.mono fun _ _ z => (z.same s1).same sN) (.one ((hl.same s1).same sN))⟩, fun z hz => ?_, by rw [List.length_append, List.length_singleton]; omega, by rw [List.length_append, List.length_singleton]; omega, fun p2 H2 s2 n2 hS z2 => k p2 H2 (s1.trans (sN.trans s2)) (Same.none s1 (Same.none sN n2)) hS⟩
      rcases List.mem_append.mp hz with hz | hz
      · exact sL z hz
      · rw [List.mem_singleton] at hz
        exact hz ▸ sl
    have hp1 : ¬ (ru.p = "top" ∧ ru.t ≠ "even") := hp
    have ex1 := s1 _ _ ex
    have hq1 := s1 _ _ hq
    have hA1 : All2 (Lay A.Ratio H1) xs ls := hA.mono fun _ _ z => z.same s1
    have hl1 := hl.same s1
    have hlq1 := s1 _ _ hlq
    try unfold tNext
    dsimp only
    try unfold tSeq
    refine tIf_of (p := ru.p = "bottom" ∧ ru.t ≠ "even") (H := H1) (fun Q hT hF => ?_) (fun H2 s2 hp => ?_) (fun H2 s2 hp => ?_)
    · refine ⟨_, rfl, x, _, dx, _, _, rfl, ex1, T.cl_Rule, T.n_Rule_place, rl_place _ _ _, rfl, _, rfl, if_dec (fun e1 => ?_) (fun e1 => hF _ (fun _ _ h => h) fun z => e1 (by rw [z.1]))⟩
      refine ⟨_, rfl, x, _, dx, _, _, rfl, ex1, T.cl_Rule, T.n_Rule_take, rl_take _ _ _, rfl, _, rfl, ?_⟩
      by_cases e2 : ru.t = "even"
      · rw [e2, decide_eq_true rfl]
        exact hF _ (fun _ _ h => h) fun z => z.2 e2
      · rw [decide_eq_false fun z => e2 (V.str.inj z)]
        exact hT _ (fun _ _ h => h) ⟨V.str.inj e1, e2⟩
    · rw [show putLy ru.t ru.p ls l nms = stackF (l :: ls) by unfold putLy; rw [if_neg hp1, if_pos hp]] at k
      have hq2 := s2 _ _ hq1
      refine ⟨_, rfl, _, rfl, q, xs, rfl, .inr (SqL.of hq2), ?_, fun p hp' => ?_⟩
      · show (V.ref t :: (xs ++ [])).length ≤ _
        rw [List.append_nil, List.length_cons]
        exact Nat.le_trans (by omega : xs.length + 1 ≤ 17) (by decide)
      have sN := Same.new (o := .lst (V.ref t :: (xs ++ []))) hp'
      refine ⟨p, l :: ls, 400, rfl, ⟨_, upd_same, ?_⟩, fun z hz => ?_, by rw [List.length_cons]; omega, by rw [List.length_cons]; omega, fun p2 H3 s3 n3 hS z3 => k p2 H3 (s1.trans (s2.trans (sN.trans s3))) (Same.none s1 (Same.none s2 (Same.none sN n3))) hS⟩
      · rw [List.append_nil]
        have sN' := Same.new (o := .lst (V.ref t :: xs)) hp'
        exact .cons ((hl1.same s2).same sN') (hA1.mono fun _ _ z => (z.same s2).same sN')
      · rcases List.mem_cons.mp hz with hz | hz
        · exact hz ▸ sl
        · exact sL z hz
    rw [show putLy ru.t ru.p ls l nms = putOwn ls l nms by unfold putLy; rw [if_neg hp1, if_neg hp]] at k
    have s12 := s1.trans s2
    have hq2 := s2 _ _ hq1
    have hA2 : All2 (Lay A.Ratio H2) xs ls := hA1.mono fun _ _ z => z.same s2
    have hl2 := hl1.same s2
    have hlq2 := s2 _ _ hlq1
    clear hq hA hl hlq ex hq1 hA1 hl1 hlq1 ex1 hL
    obtain ⟨t', rv, et, ht, hrv⟩ := id hl2
    cases et
    try unfold tNext
    dsimp only
    try unfold tSeq
    refine ⟨_, rfl, t, _, rfl, SqT.of ht, rfl, _, _, rfl, _, _, rfl, rfl, ?_⟩
    have lotx : ∀ {H'}, Same H2 H' → ∀ i, i < xs.length → ∃ tz rz, atI xs (0 + (i : Int)) = some (.ref tz) ∧ H' tz = some (.tup [.str (lotAt ls i), rz]) ∧ IsR A.Ratio H' rz (ls.getD i ("", 0)).2 := fun s' i hi => by
      have hil : i < ls.length := by rw [← hA2.1]; exact hi
      obtain ⟨tz, rz, ez, hz, iz⟩ := hA2.2 i _ _ (List.getElem?_eq_getElem hi) (List.getElem?_eq_getElem hil)
      have e1 : ls.getD i ("", 0) = ls[i] := by rw [List.getD_eq_getElem?_getD, List.getElem?_eq_getElem hil]; rfl
      refine ⟨tz, rz, by rw [Int.zero_add]; exact atI_nat (by rw [List.getElem?_eq_getElem hi, ez]), ?_, ?_⟩
      · unfold lotAt
        rw [e1]
        exact s' _ _ hz
      · rw [e1]
        exact iz.same s'
    refine ⟨⟨_, rfl, q, xs, rfl, .inl (SqL.of hq2), _, rfl, by omega, by omega, fun D hD => lc_rangeF (fun i => decide (lotAt ls i = l.1)) (by omega : xs.length ≤ 1000) hD ?_ ?_⟩⟩
    · intro i H' N M hi s' hN hM
      obtain ⟨tz, rz, ea, hz, iz⟩ := lotx s' i hi
      have hq' := s' _ _ hq2
      refine ⟨rfl, ?_⟩
      walk_at "go"
      exact if_dec (fun e => ⟨_, rfl, hN (decide_eq_true (V.str.inj e)) H' (Same.refl _)⟩) (fun e => hM (decide_eq_false fun z => e (by rw [z])) H' (Same.refl _))
    intro H3 s3 hD3
    rw [hA2.1, Int.toNat_natCast] at hD3
    have hsp : ((List.range ls.length).filter fun i => decide (lotAt ls i = l.1)) = spots (fun y => decide (y = l.1)) ls := rfl
    rw [hsp] at hD3
    have hq3 := s3 _ _ hq2
    have hA3 : All2 (Lay A.Ratio H3) xs ls := hA2.mono fun _ _ z => z.same s3
    have s13 := s12.trans s3
    have hrv3 := hrv.same s3
    have hlq3 := s3 _ _ hlq2
    cases eo : spots (fun y => decide (y = l.1)) ls with
    | cons i is =>
      rw [show putOwn ls l nms = ls.take i ++ (l.1, (ls.getD i ("", 0)).2 + l.2) :: ls.drop (i + 1) by unfold putOwn; rw [eo]] at k
      rw [eo] at hD3
      have hil : i < ls.length := spots_lt (eo ▸ List.mem_cons_self)
      have hix : i < xs.length := by rw [hA2.1]; exact hil
      obtain ⟨tz, rz, ea, hz, iz⟩ := lotx s3 i hix
      rw [Int.zero_add] at ea
      have ei : atI (List.map (fun i : Nat => V.int (i : Int)) (i :: is)) 0 = some (V.int (i : Int)) := atI_nat (j := 0) rfl
      have szi : Sz 400 (ls.getD i ("", 0)).2 := by
        rw [List.getD_eq_getElem?_getD, List.getElem?_eq_getElem hil]
        exact sL _ (List.getElem_mem hil)
      refine ⟨_, rfl, true, .inl ⟨_, SqL.of hD3, rfl⟩, iteT ?_⟩
      walk_at "go"
      refine r_own iz (.inl hrv3) szi sl (by omega) fun nv H4 s4 i4 => ⟨(by show 2 ≤ sizeLine; decide), fun jt hjt => ?_⟩
      have sJ := Same.new (o := .tup [V.str l.1, nv]) hjt
      have s34 := s4.trans sJ
      have hq5 := s34 _ _ hq3
      have hD5 := s34 _ _ hD3
      refine ⟨_, rfl, _, rfl, D, _, _, _, rfl, rfl, SqL.of hD5, ei, _, rfl, q, xs, rfl, SqL.of hq5, fun p1 hp1 => ?_⟩
      have sP1 := Same.new (o := .lst (cutV xs none (some (i : Int)))) hp1
      refine ⟨p1, _, rfl, .inr (SqL.of upd_same), _, rfl, ?_⟩
      refine ⟨_, rfl, _, rfl, D, _, _, _, rfl, rfl, SqL.of (sP1 _ _ hD5), ei, _, _, rfl, rfl, _, rfl, q, xs, rfl, SqL.of (sP1 _ _ hq5), fun p2 hp2 => ?_⟩
      have sP2 := Same.new (o := .lst (cutV xs (some ((i : Int) + 1)) none)) hp2
      refine ⟨p2, _, rfl, .inr (SqL.of upd_same), ?_⟩
      rw [show ((i : Int) + 1) = ((i + 1 : Nat) : Int) by omega, cutV_drop (by omega), cutV_take (by omega)] at *
      have e9 : xs.take i ++ V.ref jt :: (xs.drop (i + 1) ++ []) = xs.take i ++ V.ref jt :: xs.drop (i + 1) := by rw [List.append_nil]
      have sAll := s34.trans (sP1.trans sP2)
      refine ⟨?_, fun p3 hp3 => ?_⟩
      · show (xs.take i ++ V.ref jt :: (xs.drop (i + 1) ++ [])).length ≤ _
        rw [e9, List.length_append, List.length_cons, List.length_take, List.length_drop]
        exact Nat.le_trans (by omega : _ ≤ 17) (by decide)
      show Q (.ref p3) (upd _ p3 (.lst (xs.take i ++ V.ref jt :: (xs.drop (i + 1) ++ []))))
      rw [e9]
      have sP3 := Same.new (o := .lst (xs.take i ++ V.ref jt :: xs.drop (i + 1))) hp3
      refine k p3 _ (s13.trans (sAll.trans sP3)) (Same.none s13 (Same.none sAll hp3)) ⟨_, upd_same, All2.app ((hA3.take i).mono fun _ _ z => (z.same sAll).same sP3) (.cons ⟨jt, nv, rfl, (sP1.trans (sP2.trans sP3)) _ _ upd_same, i4.same (sJ.trans (sP1.trans (sP2.trans sP3)))⟩ ((hA3.drop (i + 1)).mono fun _ _ z => (z.same sAll).same sP3))⟩
    | nil =>
      rw [show putOwn ls l nms = ls.take (spotF ls l.1 nms) ++ l :: ls.drop (spotF ls l.1 nms) by unfold putOwn; rw [eo]] at k
      rw [eo] at hD3
      have hj := List.idxOf_lt_length_iff.mpr hmem
      have hjx : (nms.map V.str)[nms.idxOf l.1]? = some (V.str l.1) := by
        rw [List.getElem?_map, List.getElem?_eq_getElem hj, List.getElem_idxOf]
        rfl
      refine ⟨_, rfl, false, .inl ⟨_, SqL.of hD3, rfl⟩, iteF ?_⟩
      refine ⟨_, rfl, _, rfl, .inl ⟨rfl, _, SqL.of hlq3⟩, _, rfl, lq, _, _, nms.idxOf l.1, _, rfl, rfl, SqL.of hlq3, rfl, ?_, hjx, ?_, ?_, ?_⟩
      · rw [List.all_map]
        exact List.all_eq_true.mpr fun _ _ => rfl
      · exact beq_self_eq_true _
      · intro m z' hm hz'
        rw [List.getElem?_map] at hz'
        have hm' : m < nms.length := Nat.lt_trans hm hj
        rw [List.getElem?_eq_getElem hm'] at hz'
        cases hz'
        have := List.not_of_lt_findIdx (p := (· == l.1)) (xs := nms) hm
        show (nms[m] == l.1) = false
        simpa using this
      refine ⟨_, _, rfl, rfl, _, rfl, lq, _, rfl, SqL.of hlq3, fun pl hpl => ?_⟩
      have el : cutV (nms.map V.str) (some (((nms.idxOf l.1 : Nat) : Int) + 1)) none = (laterF nms l.1).map V.str := by
        rw [show ((nms.idxOf l.1 : Nat) : Int) + 1 = ((nms.idxOf l.1 + 1 : Nat) : Int) by omega, cutV_drop (by rw [List.length_map]; exact hj), ← List.map_drop]
        rfl
      rw [el]
      have sl4 := Same.new (o := .lst ((laterF nms l.1).map V.str)) hpl
      have hq4 := sl4 _ _ hq3
      generalize hH4 : upd H3 pl (.lst ((laterF nms l.1).map V.str)) = H4 at *
      have hpl4 : H4 pl = some (.lst ((laterF nms l.1).map V.str)) := by rw [← hH4]; exact upd_same
      refine ⟨⟨_, rfl, q, xs, rfl, .inl (SqL.of hq4), _, rfl, by omega, by omega, fun D2 hD2 => lc_rangeF (fun i => decide (lotAt ls i ∈ laterF nms l.1)) (by omega : xs.length ≤ 1000) hD2 ?_ ?_⟩⟩
      · intro i H' N M hi s' hN hM
        obtain ⟨tz, rz, ea, hz, iz⟩ := lotx (s3.trans (sl4.trans s')) i hi
        have hq' := s' _ _ hq4
        have hpl' := s' _ _ hpl4
        refine ⟨rfl, ?_⟩
        walk_at "go"
        refine ⟨?_, _, rfl, ?_⟩
        · rw [List.all_map]
          exact List.all_eq_true.mpr fun _ _ => rfl
        show if inV (V.str (lotAt ls i)) (List.map V.str (laterF nms l.1)) = true then _ else _
        rw [inV_st]
        exact if_dec (fun e => ⟨_, rfl, hN (decide_eq_true e) H' (Same.refl _)⟩) (fun e => hM (decide_eq_false e) H' (Same.refl _))
      intro H5 s5 hD5
      rw [hA2.1, Int.toNat_natCast] at hD5
      have hsp : ((List.range ls.length).filter fun i => decide (lotAt ls i ∈ laterF nms l.1)) = spots (fun y => decide (y ∈ laterF nms l.1)) ls := rfl
      rw [hsp] at hD5
      have s35 := s3.trans (sl4.trans s5)
      have hq5 := s35 _ _ hq2
      have hA5 : All2 (Lay A.Ratio H5) xs ls := hA2.mono fun _ _ z => z.same s35
      have hl5 := hl2.same s35
      have s15 := s12.trans s35
      have hsl := spotF_le (ls := ls) (z := l.1) (nms := nms)
      refine ⟨⟨fun σ' H' => Wd (H' = H5 ∧ σ' = [some (V.ref x), some (.ref q), some (.ref t), some (.ref lq), some (.str l.1), some rv, some (.ref D), none, some (.ref pl), some (.ref D2), some (.int (spotF ls l.1 nms))]), ?_, ?_⟩⟩
      · cases eo2 : spots (fun y => decide (y ∈ laterF nms l.1)) ls with
        | cons i is =>
          have e2 : spotF ls l.1 nms = i := by unfold spotF; rw [eo2]
          rw [eo2] at hD5
          have ei : atI (List.map (fun i : Nat => V.int (i : Int)) (i :: is)) 0 = some (V.int (i : Int)) := atI_nat (j := 0) rfl
          refine ⟨_, rfl, true, .inl ⟨_, SqL.of hD5, rfl⟩, iteT ⟨_, rfl, D2, _, _, _, rfl, rfl, SqL.of hD5, ei, rfl, ?_⟩⟩
          rw [e2]
          rfl
        | nil =>
          have e2 : spotF ls l.1 nms = ls.length := by unfold spotF; rw [eo2]
          rw [eo2] at hD5
          refine ⟨_, rfl, false, .inl ⟨_, SqL.of hD5, rfl⟩, iteF ⟨_, rfl, q, xs, rfl, .inl (SqL.of hq5), rfl, ?_⟩⟩
          rw [e2, hA2.1]
          rfl
      rintro σ' H6 ⟨rfl, rfl⟩
      generalize spotF ls l.1 nms = i at *
      have hix : i ≤ xs.length := by rw [hA2.1]; exact hsl
      refine ⟨_, rfl, _, rfl, _, rfl, q, xs, rfl, SqL.of hq5, fun p1 hp1 => ?_⟩
      have sP1 := Same.new (o := .lst (cutV xs none (some (i : Int)))) hp1
      refine ⟨p1, _, rfl, .inr (SqL.of upd_same), _, rfl, ?_⟩
      refine ⟨_, rfl, _, rfl, _, rfl, q, xs, rfl, SqL.of (sP1 _ _ hq5), fun p2 hp2 => ?_⟩
      have sP2 := Same.new (o := .lst (cutV xs (some (i : Int)) none)) hp2
      refine ⟨p2, _, rfl, .inr (SqL.of upd_same), ?_⟩
      rw [cutV_drop (by omega), cutV_take (by omega)] at *
      have e9 : xs.take i ++ V.ref t :: (xs.drop i ++ []) = xs.take i ++ V.ref t :: xs.drop i := by rw [List.append_nil]
      have sAll := sP1.trans sP2
      refine ⟨?_, fun p3 hp3 => ?_⟩
      · show (xs.take i ++ V.ref t :: (xs.drop i ++ [])).length ≤ _
        rw [e9, List.length_append, List.length_cons, List.length_take, List.length_drop]
        exact Nat.le_trans (by omega : _ ≤ 17) (by decide)
      show Q (.ref p3) (upd _ p3 (.lst (xs.take i ++ V.ref t :: (xs.drop i ++ []))))
      rw [e9]
      have sP3 := Same.new (o := .lst (xs.take i ++ V.ref t :: xs.drop i)) hp3
      refine k p3 _ (s15.trans (sAll.trans sP3)) (Same.none s15 (Same.none sAll hp3)) ⟨_, upd_same, All2.app ((hA5.take i).mono fun _ _ z => (z.same sAll).same sP3) (.cons ((hl5.same sAll).same sP3) ((hA5.drop i).mono fun _ _ z => (z.same sAll).same sP3))⟩
end

theorem rl_no (t p n : V) {m : Str} (h1 : ¬ m = "period") (h2 : ¬ m = "place") (h3 : ¬ m = "take") : (rlF t p n).lookup m = none := by
  unfold rlF
  rw [lookup_putF, if_neg h1, lookup_putF, if_neg h2, lookup_putF, if_neg h3]
  rfl
def laidF (t p : Str) (ls ps : List Ly) (nms : List Str) : List Ly := ps.foldl (fun f l => putLy t p f l nms) ls
theorem stackF_len (ls : List Ly) : ∀ F : List Ly, (ls.foldl stepS F).length ≤ F.length + ls.length := by
  induction ls with
  | nil => exact fun F => Nat.le_refl _
  | cons l ls ih =>
    intro F
    refine Nat.le_trans (ih (stepS F l)) ?_
    have : (stepS F l).length ≤ F.length + 1 := by
      unfold stepS
      (repeat' split) <;> simp [List.length_dropLast] <;> omega
    rw [List.length_cons]
    omega
theorem putLy_len {t p : Str} {ls : List Ly} {l : Ly} {nms : List Str} : (putLy t p ls l nms).length ≤ ls.length + 1 := by
  unfold putLy
  split
  · have := stackF_len (ls ++ [l]) []
    rw [List.length_nil, List.length_append, List.length_singleton] at this
    unfold stackF
    omega
  · split
    · have := stackF_len (l :: ls) []
      rw [List.length_nil, List.length_cons] at this
      unfold stackF
      omega
    · unfold putOwn
      split
      · rw [List.length_append, List.length_cons, List.length_take, List.length_drop]
        omega
      · rw [List.length_append, List.length_cons, List.length_take, List.length_drop]
        omega
def spLaid (C CR : Addr) : Sp := fun vs H Q _ => ∃ (x q qp lq : Addr) (ru : Ru) (ls ps : List Ly) (nms : List Str), vs = [.ref x, .ref q, .ref qp, .ref lq] ∧ IsRu CR H x ru ∧ LayAt C H q ls ∧ LayAt C H qp ps ∧ H lq = some (.lst (nms.map V.str)) ∧ nms.length ≤ 1000 ∧ (∀ l ∈ ps, l.1 ∈ nms) ∧ (∀ i, i ≤ ps.length → SzL 400 (laidF ru.t ru.p ls (ps.take i) nms)) ∧ SzL 400 ps ∧ ls.length + ps.length ≤ 16 ∧
  ∀ (p : Addr) (H' : Hp), Same H H' → H p = none → LayAt C H' p (laidF ru.t ru.p ls ps nms) → Q (.ref p) H'
section
variable {P : Program} {w : World} {K : PySem.W.Frag} {mg : Str → Option Value} {base : Heap} {A : Ad}
theorem ok_m_Rule_laid (T : Txt K mg A) : FnOk P w K mg base CX0 12 A.m_Rule_laid A.fd_m_Rule_laid P_m_Rule_laid (spLaid A.Ratio A.Rule) := by
  refine T.F_m_Rule_laid.ok sc_m_Rule_laid (fun vs H Q E h => ?_) (fun cdv Ar outer s H vs Q E hr h => ?_)
  · obtain ⟨x, q, qp, lq, ru, ls, ps, nms, rfl, _⟩ := h
    rfl
  · obtain ⟨x, q, qp, lq, ru, ls, ps, nms, rfl, hx, hL, ⟨ys, hqp, hP⟩, hlq, nlen, hmem, hsz, sp, hlen, k⟩ := h
    refine ⟨_, (pss_cons (ps_set (i := 4) sc_m_Rule_laid.nd rfl (Or.inl rfl) (pe_callTy call_list_of (by rfl) T.z_list (by decide +kernel) (pa_cons (pv 1) pa_nil)))
      (pss_cons (ps_g (ps_for PassesOwn.never rfl (pi_list (pv 2)) (pg_name (i := 5) sc_m_Rule_laid.nd rfl (Or.inl rfl)) (pss_one (ps_set (i := 4) sc_m_Rule_laid.nd rfl (Or.inl rfl) (pe_meth (pv 0) T.cl_Rule T.m_Rule_put (ok_m_Rule_put T) (hr.mono (by decide)) T.b_m_Rule_put .nil pass0 (pa_cons (pv 4) (pa_cons (pv 5) (pa_cons (pv 3) pa_nil))))))))
      (pss_one (ps_ret (pv 4))))), ?_⟩
    obtain ⟨dx, ex⟩ := id hx
    obtain ⟨xs, hq, hA⟩ := id hL
    refine ⟨_, rfl, q, xs, rfl, .inl (SqL.of hq), fun f hf => ?_⟩
    have sN := Same.new (o := .lst xs) hf
    refine ⟨⟨_, rfl, qp, rfl, ⟨_, SqL.of (sN _ _ hqp)⟩, for_list (xs := ys) (fun i σ' H' => Wd (∃ (f : Addr) (o5 : Option V), σ' = [some (.ref x), some (.ref q), some (.ref qp), some (.ref lq), some (.ref f), o5] ∧ Same H H' ∧ H f = none ∧ LayAt A.Ratio H' f (laidF ru.t ru.p ls (ps.take i) nms) ∧ (laidF ru.t ru.p ls (ps.take i) nms).length ≤ ls.length + i))
      ⟨f, none, rfl, sN, hf, ⟨_, upd_same, hA.mono fun _ _ z => z.same sN⟩, Nat.le_refl _⟩ ?_ ?_ ?_⟩⟩
    · rintro i σ' H' _ ⟨f, o5, rfl, sx, _⟩
      exact SqL.of (sx _ _ hqp)
    · rintro i y σ' H' hi ⟨f, o5, rfl, sx, nf, Lf, lf⟩
      obtain ⟨l, hli, hlay⟩ := hP.get hi
      have hil : i < ps.length := (List.getElem?_eq_some_iff.mp hli).1
      have hst : laidF ru.t ru.p ls (ps.take (i + 1)) nms = putLy ru.t ru.p (laidF ru.t ru.p ls (ps.take i) nms) l nms := by
        unfold laidF
        rw [take_more hli, List.foldl_append]
        rfl
      obtain ⟨t, rv, rfl, ht, hrv⟩ := id hlay
      have ex' := sx _ _ ex
      have hlq' := sx _ _ hlq
      rw [hst]
      have hli16 : (laidF ru.t ru.p ls (ps.take i) nms).length ≤ 16 := by omega
      refine ⟨_, rfl, x, dx, _, rfl, ex', rl_no _ _ _ (by decide +kernel) (by decide +kernel) (by decide +kernel), _, rfl, _, rfl, _, rfl, x, f, t, lq, ru, _, l, nms, rfl, ⟨dx, ex'⟩, Lf, hlay.same sx, hlq', nlen, hmem _ (List.mem_of_getElem? hli), hsz i (by omega), sp _ (List.mem_of_getElem? hli), hli16, fun p2 H2 s2 n2 hP2 => ?_⟩
      refine ⟨p2, _, rfl, sx.trans s2, Same.none sx n2, hP2, Nat.le_trans putLy_len (by omega)⟩
    · rintro σ' H' ⟨f, o5, rfl, sx, nf, Lf, lf⟩
      rw [hP.1, List.take_length] at Lf
      exact ⟨_, rfl, k f H' sx nf Lf⟩
end

def backL (t : Str) (ls : List Ly) (r : Rat) : List Ly × List Ly :=
  if t = "even" then ((partF ls r).1.reverse, (partF ls r).2) else ((firstF ls.reverse r).1, (firstF ls.reverse r).2.1.reverse)
def spBackL (C : Addr) : Sp := fun vs H Q _ => ∃ (t : Str) (q : Addr) (v : V) (ls : List Ly) (r : Rat), vs = [.str t, .ref q, v] ∧ LayAt C H q ls ∧ IsN C H v r ∧ SzL 20 ls ∧ Sz 200 r ∧ ls.length ≤ 8 ∧ tot ls ≠ 0 ∧
  ∀ (p qt ql : Addr) (H' : Hp), Same H H' → H' p = some (.tup [.ref qt, .ref ql]) → LayAt C H' qt (backL t ls r).1 → LayAt C H' ql (backL t ls r).2 → H qt = none → H ql = none → Q (.ref p) H'
def sideF (t p : Str) : Str := if t = "even" then "own" else p
def spSide : Sp := fun vs H Q _ => ∃ (q : Addr) (ru : Ru), vs = [.ref q] ∧ H q = some (.tup [.str ru.t, .str ru.p, .int ru.n]) ∧ Q (.str (sideF ru.t ru.p)) H
section
variable {P : Program} {w : World} {K : PySem.W.Frag} {mg : Str → Option Value} {base : Heap} {A : Ad}
theorem ok_l_back (T : Txt K mg A) : FnOk P w K mg base CX0 13 A.l_back A.fd_l_back P_l_back (spBackL A.Ratio) := by
  refine T.F_l_back.ok sc_l_back (fun vs H Q E h => ?_) (fun cdv Ar outer s H vs Q E hr h => ?_)
  · obtain ⟨t, q, v, ls, r, rfl, _⟩ := h
    rfl
  · obtain ⟨t, q, v, ls, r, rfl, hL, hv, sL, sr, hlen, hnz, k⟩ := h
    refine ⟨_, (pss_cons (ps_if (pt_cmpR op_eq (pv 0) pe_str (nomark _)) (pss_cons (ps_asg (pe_call (ok_l_part T) (hr.mono (by decide)) (by rfl) T.g__law_part T.F_l_part.kp T.b_l_part .nil pass0 (pa_cons (pv 1) (pa_cons (pv 2) pa_nil))) (pg_tup (n := 2) rfl (pgs_cons (pg_name (i := 3) sc_l_back.nd rfl (Or.inl rfl)) (pgs_cons (pg_name (i := 4) sc_l_back.nd rfl (Or.inl rfl)) pgs_nil))))
      (pss_one (ps_ret (pe_tup (pa_cons (pe_revL (pv 3)) (pa_cons (pv 4) pa_nil)))))) pss_nil)
      (pss_cons (ps_asg (pe_call (ok_l_first T) (hr.mono (by decide)) (by rfl) T.g__law_first T.F_l_first.kp T.b_l_first .nil pass0 (pa_cons (pe_revL (pv 1)) (pa_cons (pv 2) pa_nil))) (pg_tup (n := 2) rfl (pgs_cons (pg_name (i := 3) sc_l_back.nd rfl (Or.inl rfl)) (pgs_cons (pg_name (i := 4) sc_l_back.nd rfl (Or.inl rfl)) pgs_nil))))
      (pss_one (ps_ret (pe_tup (pa_cons (pv 3) (pa_cons (pe_revL (pv 4)) pa_nil))))))), ?_⟩
    refine ⟨_, rfl, rfl, _, rfl, if_dec (fun e1 => ?_) (fun e1 => ?_)⟩
    · have et : t = "even" := by injection e1
      rw [show backL t ls r = ((partF ls r).1.reverse, (partF ls r).2) from if_pos et] at k
      refine ⟨_, rfl, _, rfl, q, v, ls, r, rfl, hL, hv, sL, sr, hlen, hnz, fun p qt ql H2 s2 hp ht hl nq z1 z2 n1 n2 => ?_⟩
      obtain ⟨ys, hqt, hB⟩ := id ht
      walk_at "go"
      intro p4 h4
      have sN := Same.new (o := .lst ys.reverse) h4
      walk_at "go"
      intro p3 h3
      have sM := Same.new (o := .tup [.ref p4, .ref ql]) h3
      exact k p3 p4 ql _ (s2.trans (sN.trans sM)) upd_same ((LayAt.rev hB h4).same sM) ((hl.same sN).same sM) (Same.none s2 h4) n2
    · have et : ¬ t = "even" := fun z => e1 (by rw [z])
      rw [show backL t ls r = ((firstF ls.reverse r).1, (firstF ls.reverse r).2.1.reverse) from if_neg et] at k
      obtain ⟨xs, hq, hA⟩ := id hL
      have lr : ls.reverse.length = ls.length := List.length_reverse
      refine ⟨_, rfl, q, xs, rfl, .inl (.inl hq), fun p0 hp0 => ?_⟩
      refine ⟨_, rfl, p0, v, ls.reverse, r, 20, 200, rfl, LayAt.rev hA hp0, hv.same (Same.new hp0), sL.rev, sr, by omega, by omega, fun p qt ql H2 s2 hp ht hl nq z1 z2 n1 n2 => ?_⟩
      obtain ⟨ys, hql, hB⟩ := id hl
      walk_at "go"
      intro p4 h4
      have sN := Same.new (o := .lst ys.reverse) h4
      walk_at "go"
      intro p3 h3
      have sM := Same.new (o := .tup [.ref qt, .ref p4]) h3
      have sP := (Same.new hp0).trans s2
      exact k p3 qt p4 _ (sP.trans (sN.trans sM)) upd_same ((ht.same sN).same sM) ((LayAt.rev hB h4).same sM) (Same.none (Same.new hp0) n1) (Same.none sP h4)
theorem ok_l_side (T : Txt K mg A) : FnOk P w K mg base CX0 1 A.l_side A.fd_l_side P_l_side spSide := by
  refine T.F_l_side.ok sc_l_side (fun vs H Q E h => ?_) (fun cdv Ar outer s H vs Q E hr h => ?_)
  · obtain ⟨q, ru, rfl, _⟩ := h
    rfl
  · obtain ⟨q, ru, rfl, hq, k⟩ := h
    refine ⟨_, (pss_cons (ps_if (pt_cmpR op_eq (pe_ix ix_tup (pv 0) pe_int (fun _ _ => rfl)) pe_str (nomark _)) (pss_one (ps_ret pe_str)) pss_nil)
      (pss_one (ps_ret (pe_ix ix_tup (pv 0) pe_int (fun _ _ => rfl))))), ?_⟩
    walk_at "go"
    refine if_dec (fun e => ?_) (fun e => ?_)
    · rw [show sideF ru.t ru.p = "own" from if_pos (V.str.inj e)] at k
      exact k
    · rw [show sideF ru.t ru.p = ru.p from if_neg fun z => e (by rw [z])] at k
      walk_at "go"
      exact k
end

def putL (s : Str) (ls : List Ly) (l : Ly) (nms : List Str) : List Ly := if s = "top" then joinF (ls ++ [l]) else if s = "bottom" then joinF (l :: ls) else putOwn ls l nms
def laidL (s : Str) (ls ps : List Ly) (nms : List Str) : List Ly := ps.foldl (fun f l => putL s f l nms) ls
def spPutL (C : Addr) : Sp := fun vs H Q _ => ∃ (s : Str) (q t lq : Addr) (ls : List Ly) (l : Ly) (nms : List Str), vs = [.str s, .ref q, .ref t, .ref lq] ∧ LayAt C H q ls ∧ Lay C H (.ref t) l ∧ H lq = some (.lst (nms.map V.str)) ∧ nms.length ≤ 1000 ∧ l.1 ∈ nms ∧ SzL 400 ls ∧ Sz 400 l.2 ∧ ls.length ≤ 16 ∧
  ∀ (p : Addr) (H' : Hp), Same H H' → H p = none → LayAt C H' p (putL s ls l nms) → Q (.ref p) H'
section
variable {P : Program} {w : World} {K : PySem.W.Frag} {mg : Str → Option Value} {base : Heap} {A : Ad}
theorem ok_l_put (T : Txt K mg A) : FnOk P w K mg base CX0 11 A.l_put A.fd_l_put P_l_put (spPutL A.Ratio) := by
  refine T.F_l_put.ok sc_l_put (fun vs H Q E h => ?_) (fun cdv Ar outer s H vs Q E hr h => ?_)
  · obtain ⟨sd, q, t, lq, ls, l, nms, rfl, _⟩ := h
    rfl
  · obtain ⟨sd, q, t, lq, ls, l, nms, rfl, hL, hl2, hlq2, nlen, hmem, sL, sl, hlen, k⟩ := h
    refine ⟨_, (pss_cons (ps_if (pt_cmpR op_eq (pv 0) pe_str (nomark _)) (pss_one (ps_ret (pe_call (ok_l_joined T) (hr.mono (by decide)) (by rfl) T.g__law_joined T.F_l_joined.kp T.b_l_joined .nil pass0 (pa_cons (pe_op op_cat (pv 1) (pe_lst (pa_cons (pv 2) pa_nil))) pa_nil)))) pss_nil)
      (pss_cons (ps_if (pt_cmpR op_eq (pv 0) pe_str (nomark _)) (pss_one (ps_ret (pe_call (ok_l_joined T) (hr.mono (by decide)) (by rfl) T.g__law_joined T.F_l_joined.kp T.b_l_joined .nil pass0 (pa_cons (pe_op op_cat (pe_lst (pa_cons (pv 2) pa_nil)) (pv 1)) pa_nil)))) pss_nil)
      (pss_cons (ps_g (ps_setLcV (i := 4) (own := [("_law_k", 7)]) rfl sc_l_put.nd rfl rfl (sw_true rfl rfl rfl (by decide +kernel)) (pi_range1 rfl T.z_range (pa_cons (pe_callB call_len_seq (by rfl) T.z_len (by decide +kernel) (pa_cons (pv 1) pa_nil)) pa_nil)) (blkOk_by (own := [("_law_k", 7)]) (N := N_l_put) (sc := defScope s_l_put) (by decide +kernel)) (fun _ _ _ _ _ => (pg_name (i := 7) sc_l_put.nd rfl (Or.inl rfl))) (fun _ _ _ _ _ => (pts_one (pt_cmpR op_eq (pe_ix ix_tup (pe_ix ix_list (pv 1) (pv 7) (fun _ _ => rfl)) pe_int (fun _ _ => rfl)) (pe_ix ix_tup (pv 2) pe_int (fun _ _ => rfl)) (nomark _)))) (fun _ _ _ _ _ => (pv 7)) (fun _ _ _ _ _ => rfl) (fun _ _ _ _ _ => rfl) (fun _ _ _ _ _ => rfl)))
      (pss_cons (ps_if (pt_cmpR (op_neNil hr.units) (pv 4) (pe_lst pa_nil) (nomark _)) (pss_cons (ps_set (i := 5) sc_l_put.nd rfl (Or.inl rfl) (pe_tup (pa_cons (pe_ix ix_tup (pv 2) pe_int (fun _ _ => rfl)) (pa_cons (pe_op (op_own (E := E0) rfl (oo_add T) (ok_m_Ratio_add T) (hr.mono (by decide)) T.b_m_Ratio_add pass0) (pe_ix ix_tup (pe_ix ix_list (pv 1) (pe_ix ix_list (pv 4) pe_int (fun _ _ => rfl)) (fun _ _ => rfl)) pe_int (fun _ _ => rfl)) (pe_ix ix_tup (pv 2) pe_int (fun _ _ => rfl))) pa_nil))))
      (pss_one (ps_ret (pe_op op_cat (pe_op op_cat (pe_slice sl_list (pv 1) po_none (po_some (pe_ix ix_list (pv 4) pe_int (fun _ _ => rfl)))) (pe_lst (pa_cons (pv 5) pa_nil))) (pe_slice sl_list (pv 1) (po_some (pe_op op_add (pe_ix ix_list (pv 4) pe_int (fun _ _ => rfl)) pe_int)) po_none))))) pss_nil)
      (pss_cons (ps_set (i := 6) sc_l_put.nd rfl (Or.inr rfl) (pe_slice sl_list (pv 3) (po_some (pe_op op_add (pe_bm PySem.F.plainAttrs_list PySem.F.slot_list_index PySem.F.type_list_index mt_index (pv 3) (pa_cons (pe_ix ix_tup (pv 2) pe_int (fun _ _ => rfl)) pa_nil)) pe_int)) po_none))
      (pss_cons (ps_set (i := 4) sc_l_put.nd rfl (Or.inl rfl) (pe_op op_cat (pe_g (pe_lcV (own := [("_law_k", 7)]) rfl sc_l_put.nd (pi_range1 rfl T.z_range (pa_cons (pe_callB call_len_seq (by rfl) T.z_len (by decide +kernel) (pa_cons (pv 1) pa_nil)) pa_nil)) (blkOk_by (own := [("_law_k", 7)]) (N := N_l_put) (sc := defScope s_l_put) (by decide +kernel)) (fun _ _ _ _ _ => (pg_name (i := 7) sc_l_put.nd rfl (Or.inl rfl))) (fun _ _ _ _ _ => (pts_one (pt_cmpR op_in_seq (pe_ix ix_tup (pe_ix ix_list (pv 1) (pv 7) (fun _ _ => rfl)) pe_int (fun _ _ => rfl)) (pv 6) (by rfl)))) (fun _ _ _ _ _ => (pv 7)) (fun _ _ _ _ _ => rfl) (fun _ _ _ _ _ => rfl) (fun _ _ _ _ _ => rfl))) (pe_lst (pa_cons (pe_callB call_len_seq (by rfl) T.z_len (by decide +kernel) (pa_cons (pv 1) pa_nil)) pa_nil))))
      (pss_one (ps_ret (pe_op op_cat (pe_op op_cat (pe_slice sl_list (pv 1) po_none (po_some (pe_ix ix_list (pv 4) pe_int (fun _ _ => rfl)))) (pe_lst (pa_cons (pv 2) pa_nil))) (pe_slice sl_list (pv 1) (po_some (pe_ix ix_list (pv 4) pe_int (fun _ _ => rfl))) po_none)))))))))), ?_⟩
    obtain ⟨xs, hq2, hA2⟩ := id hL
    have hxl : xs.length ≤ 16 := by rw [hA2.1]; exact hlen
    obtain ⟨t', rv, et, ht, hrv⟩ := id hl2
    cases et
    walk_at "go"
    refine if_dec (fun e1 => ?_) (fun e1 => ?_)
    · rw [show putL sd ls l nms = joinF (ls ++ [l]) from if_pos (V.str.inj e1)] at k
      walk_at "go"
      intro p1 hp1
      have s1 := Same.new (o := .lst [V.ref t]) hp1
      refine ⟨q, p1, xs, _, rfl, rfl, s1 _ _ hq2, upd_same, ?_, fun p hp => ?_⟩
      · rw [List.length_singleton]
        exact Nat.le_trans (by omega : xs.length + 1 ≤ 17) (by decide)
      have sN := Same.new (o := .lst (xs ++ [V.ref t])) hp
      have s1N := s1.trans sN
      refine ⟨p, ls ++ [l], 400, rfl, ⟨_, upd_same, All2.app (hA2.mono fun _ _ z => z.same s1N) (.one (hl2.same s1N))⟩, fun z hz => ?_, by rw [List.length_append, List.length_singleton]; omega, by rw [List.length_append, List.length_singleton]; omega, fun p2 H2 s2 n2 hS z2 => k p2 H2 (s1N.trans s2) (Same.none s1N n2) hS⟩
      rcases List.mem_append.mp hz with hz | hz
      · exact sL z hz
      · rw [List.mem_singleton] at hz
        exact hz ▸ sl
    have hn1 : ¬ sd = "top" := fun z => e1 (by rw [z])
    walk_at "go"
    refine if_dec (fun e2 => ?_) (fun e2 => ?_)
    · rw [show putL sd ls l nms = joinF (l :: ls) by unfold putL; rw [if_neg hn1, if_pos (V.str.inj e2)]] at k
      walk_at "go"
      intro p1 hp1
      have s1 := Same.new (o := .lst [V.ref t]) hp1
      refine ⟨_, rfl, p1, q, _, xs, rfl, rfl, upd_same, s1 _ _ hq2, ?_, fun p hp => ?_⟩
      · rw [List.length_singleton]
        exact Nat.le_trans (by omega : 1 + xs.length ≤ 17) (by decide)
      have sN := Same.new (o := .lst ([V.ref t] ++ xs)) hp
      have s1N := s1.trans sN
      refine ⟨p, l :: ls, 400, rfl, ⟨_, upd_same, All2.cons (hl2.same s1N) (hA2.mono fun _ _ z => z.same s1N)⟩, fun z hz => ?_, by rw [List.length_cons]; omega, by rw [List.length_cons]; omega, fun p2 H2 s2 n2 hS z2 => k p2 H2 (s1N.trans s2) (Same.none s1N n2) hS⟩
      rcases List.mem_cons.mp hz with hz | hz
      · exact hz ▸ sl
      · exact sL z hz
    have hn2 : ¬ sd = "bottom" := fun z => e2 (by rw [z])
    rw [show putL sd ls l nms = putOwn ls l nms by unfold putL; rw [if_neg hn1, if_neg hn2]] at k
    have lotx : ∀ {H'}, Same H H' → ∀ i, i < xs.length → ∃ tz rz, atI xs (0 + (i : Int)) = some (.ref tz) ∧ H' tz = some (.tup [.str (lotAt ls i), rz]) ∧ IsR A.Ratio H' rz (ls.getD i ("", 0)).2 := fun s' i hi => by
      have hil : i < ls.length := by rw [← hA2.1]; exact hi
      obtain ⟨tz, rz, ez, hz, iz⟩ := hA2.2 i _ _ (List.getElem?_eq_getElem hi) (List.getElem?_eq_getElem hil)
      have e1 : ls.getD i ("", 0) = ls[i] := by rw [List.getD_eq_getElem?_getD, List.getElem?_eq_getElem hil]; rfl
      refine ⟨tz, rz, by rw [Int.zero_add]; exact atI_nat (by rw [List.getElem?_eq_getElem hi, ez]), ?_, ?_⟩
      · unfold lotAt
        rw [e1]
        exact s' _ _ hz
      · rw [e1]
        exact iz.same s'
    refine ⟨⟨_, rfl, q, xs, rfl, .inl (SqL.of hq2), _, rfl, by omega, by omega, fun D hD => lc_rangeF (fun i => decide (lotAt ls i = l.1)) (by omega : xs.length ≤ 1000) hD ?_ ?_⟩⟩
    · intro i H' N M hi s' hN hM
      obtain ⟨tz, rz, ea, hz, iz⟩ := lotx s' i hi
      have hq' := s' _ _ hq2
      have ht' := s' _ _ ht
      refine ⟨rfl, ?_⟩
      walk_at "go"
      exact if_dec (fun e => ⟨_, rfl, hN (decide_eq_true (V.str.inj e)) H' (Same.refl _)⟩) (fun e => hM (decide_eq_false fun z => e (by rw [z])) H' (Same.refl _))
    intro H3 s3 hD3
    rw [hA2.1, Int.toNat_natCast] at hD3
    have hsp : ((List.range ls.length).filter fun i => decide (lotAt ls i = l.1)) = spots (fun y => decide (y = l.1)) ls := rfl
    rw [hsp] at hD3
    have hq3 := s3 _ _ hq2
    have hA3 : All2 (Lay A.Ratio H3) xs ls := hA2.mono fun _ _ z => z.same s3
    have hrv3 := hrv.same s3
    have ht3 := s3 _ _ ht
    have hlq3 := s3 _ _ hlq2
    walk_at "go"
    intro pn hpn
    have sE := Same.new (o := .lst []) hpn
    have hD4 := sE _ _ hD3
    have s4 := s3.trans sE
    have hq4 := sE _ _ hq3
    have ht4 := sE _ _ ht3
    have hrv4 := hrv3.same sE
    have hlq4 := sE _ _ hlq3
    refine ⟨⟨D, pn, _, rfl, rfl, SqL.of hD4, SqL.of upd_same, _, rfl, ?_⟩⟩
    generalize upd H3 pn (.lst []) = H4 at *
    cases eo : spots (fun y => decide (y = l.1)) ls with
    | cons i is =>
      rw [show putOwn ls l nms = ls.take i ++ (l.1, (ls.getD i ("", 0)).2 + l.2) :: ls.drop (i + 1) by unfold putOwn; rw [eo]] at k
      rw [eo] at hD4
      have hil : i < ls.length := spots_lt (eo ▸ List.mem_cons_self)
      have hix : i < xs.length := by rw [hA2.1]; exact hil
      obtain ⟨tz, rz, ea, hz, iz⟩ := lotx s4 i hix
      rw [Int.zero_add] at ea
      have ei : atI (List.map (fun i : Nat => V.int (i : Int)) (i :: is)) 0 = some (V.int (i : Int)) := atI_nat (j := 0) rfl
      have szi : Sz 400 (ls.getD i ("", 0)).2 := by
        rw [List.getD_eq_getElem?_getD, List.getElem?_eq_getElem hil]
        exact sL _ (List.getElem_mem hil)
      refine iteT ?_
      walk_at "go"
      refine r_own iz (.inl hrv4) szi sl (by omega) fun nv H5 s5 i5 => ⟨(by show 2 ≤ sizeLine; decide), fun jt hjt => ?_⟩
      have sJ := Same.new (o := .tup [V.str l.1, nv]) hjt
      have s45 := s5.trans sJ
      have hq6 := s45 _ _ hq4
      have hD6 := s45 _ _ hD4
      have ct : cutV xs none (some (i : Int)) = xs.take i := cutV_take (by omega)
      have cd : cutV xs (some ((i : Int) + 1)) none = xs.drop (i + 1) := by
        rw [show ((i : Int) + 1) = ((i + 1 : Nat) : Int) by omega]
        exact cutV_drop (by omega)
      refine ⟨_, rfl, _, rfl, D, _, _, _, rfl, rfl, SqL.of hD6, ei, _, rfl, q, xs, rfl, SqL.of hq6, fun p1 hp1 => ?_⟩
      rw [ct]
      have sP1 := Same.new (o := .lst (xs.take i)) hp1
      refine ⟨_, rfl, (by show 1 ≤ sizeLine; decide), fun p2 hp2 => ?_⟩
      have sP2 := Same.new (o := .lst [V.ref jt]) hp2
      refine ⟨p1, p2, _, _, rfl, rfl, sP2 _ _ upd_same, upd_same, ?_, fun p3 hp3 => ?_⟩
      · rw [List.length_take, List.length_singleton]
        exact Nat.le_trans (by omega : _ ≤ 17) (by decide)
      have sP3 := Same.new (o := .lst (xs.take i ++ [V.ref jt])) hp3
      have sA3 := sP1.trans (sP2.trans sP3)
      refine ⟨_, rfl, _, rfl, D, _, _, _, rfl, rfl, SqL.of (sA3 _ _ hD6), ei, _, _, rfl, rfl, _, rfl, q, xs, rfl, SqL.of (sA3 _ _ hq6), fun p4 hp4 => ?_⟩
      rw [cd]
      have sP4 := Same.new (o := .lst (xs.drop (i + 1))) hp4
      refine ⟨p3, p4, _, _, rfl, rfl, sP4 _ _ upd_same, upd_same, ?_, fun p5 hp5 => ?_⟩
      · rw [List.length_append, List.length_take, List.length_singleton, List.length_drop]
        exact Nat.le_trans (by omega : _ ≤ 17) (by decide)
      have e9 : xs.take i ++ [V.ref jt] ++ xs.drop (i + 1) = xs.take i ++ V.ref jt :: xs.drop (i + 1) := by simp
      rw [e9]
      have sP5 := Same.new (o := .lst (xs.take i ++ V.ref jt :: xs.drop (i + 1))) hp5
      have sJ5 := sA3.trans sP4
      have sAll := s4.trans (s45.trans sJ5)
      have sAP := sAll.trans sP5
      exact k p5 _ sAP (Same.none sAll hp5) ⟨_, upd_same, All2.app ((hA2.take i).mono fun _ _ z => z.same sAP) (.cons ⟨jt, nv, rfl, (sJ5.trans sP5) _ _ upd_same, i5.same (sJ.trans (sJ5.trans sP5))⟩ ((hA2.drop (i + 1)).mono fun _ _ z => z.same sAP))⟩
    | nil =>
      rw [show putOwn ls l nms = ls.take (spotF ls l.1 nms) ++ l :: ls.drop (spotF ls l.1 nms) by unfold putOwn; rw [eo]] at k
      rw [eo] at hD4
      have hj := List.idxOf_lt_length_iff.mpr hmem
      have hjx : (nms.map V.str)[nms.idxOf l.1]? = some (V.str l.1) := by
        rw [List.getElem?_map, List.getElem?_eq_getElem hj, List.getElem_idxOf]
        rfl
      refine iteF ?_
      walk_at "go"
      refine ⟨?_, hjx, ?_, ?_, ?_⟩
      · rw [List.all_map]
        exact List.all_eq_true.mpr fun _ _ => rfl
      · exact beq_self_eq_true _
      · intro m z' hm hz'
        rw [List.getElem?_map] at hz'
        have hm' : m < nms.length := Nat.lt_trans hm hj
        rw [List.getElem?_eq_getElem hm'] at hz'
        cases hz'
        have := List.not_of_lt_findIdx (p := (· == l.1)) (xs := nms) hm
        show (nms[m] == l.1) = false
        simpa using this
      refine ⟨_, _, rfl, rfl, _, rfl, lq, _, rfl, SqL.of hlq4, fun pl hpl => ?_⟩
      have el : cutV (nms.map V.str) (some (((nms.idxOf l.1 : Nat) : Int) + 1)) none = (laterF nms l.1).map V.str := by
        rw [show ((nms.idxOf l.1 : Nat) : Int) + 1 = ((nms.idxOf l.1 + 1 : Nat) : Int) by omega, cutV_drop (by rw [List.length_map]; exact hj), ← List.map_drop]
        rfl
      rw [el]
      have sl5 := Same.new (o := .lst ((laterF nms l.1).map V.str)) hpl
      have hq5 := sl5 _ _ hq4
      have hpl5 : upd H4 pl (.lst ((laterF nms l.1).map V.str)) pl = _ := upd_same
      generalize upd H4 pl (.lst ((laterF nms l.1).map V.str)) = H5 at *
      have s05 := s4.trans sl5
      refine ⟨⟨_, rfl, q, xs, rfl, .inl (SqL.of hq5), _, rfl, by omega, by omega, fun D2 hD2 => lc_rangeF (fun i => decide (lotAt ls i ∈ laterF nms l.1)) (by omega : xs.length ≤ 1000) hD2 ?_ ?_⟩⟩
      · intro i H' N M hi s' hN hM
        obtain ⟨tz, rz, ea, hz, iz⟩ := lotx (s05.trans s') i hi
        have hq' := s' _ _ hq5
        have hpl' := s' _ _ hpl5
        refine ⟨rfl, ?_⟩
        walk_at "go"
        refine ⟨?_, _, rfl, ?_⟩
        · rw [List.all_map]
          exact List.all_eq_true.mpr fun _ _ => rfl
        show if inV (V.str (lotAt ls i)) (List.map V.str (laterF nms l.1)) = true then _ else _
        rw [inV_st]
        exact if_dec (fun e => ⟨_, rfl, hN (decide_eq_true e) H' (Same.refl _)⟩) (fun e => hM (decide_eq_false e) H' (Same.refl _))
      intro H6 s6 hD6
      rw [hA2.1, Int.toNat_natCast] at hD6
      have hsp : ((List.range ls.length).filter fun i => decide (lotAt ls i ∈ laterF nms l.1)) = spots (fun y => decide (y ∈ laterF nms l.1)) ls := rfl
      rw [hsp] at hD6
      have s06 := s05.trans s6
      have hq6 := s06 _ _ hq2
      refine ⟨_, rfl, q, xs, rfl, .inl (SqL.of hq6), (by show 1 ≤ sizeLine; decide), fun pe hpe => ?_⟩
      have sE1 := Same.new (o := .lst [V.int (xs.length : Nat)]) hpe
      refine ⟨D2, pe, _, _, rfl, rfl, sE1 _ _ hD6, upd_same, ?_, fun D3 hD3' => ?_⟩
      · have : (spots (fun y => decide (y ∈ laterF nms l.1)) ls).length ≤ ls.length := Nat.le_trans (List.length_filter_le _ _) (by rw [List.length_range]; exact Nat.le_refl _)
        rw [List.length_map, List.length_singleton]
        exact Nat.le_trans (by omega : _ ≤ 17) (by decide)
      have ei : atI ((spots (fun y => decide (y ∈ laterF nms l.1)) ls).map (fun i : Nat => V.int (i : Int)) ++ [V.int (xs.length : Nat)]) 0 = some (V.int (spotF ls l.1 nms : Nat)) := by
        unfold spotF
        cases spots (fun y => decide (y ∈ laterF nms l.1)) ls with
        | cons i is => exact atI_nat (j := 0) rfl
        | nil => rw [hA2.1]; exact atI_nat (j := 0) rfl
      have hsl := spotF_le (ls := ls) (z := l.1) (nms := nms)
      have sD3 := Same.new (o := .lst ((spots (fun y => decide (y ∈ laterF nms l.1)) ls).map (fun i : Nat => V.int (i : Int)) ++ [V.int (xs.length : Nat)])) hD3'
      have hD7 : upd _ D3 (.lst ((spots (fun y => decide (y ∈ laterF nms l.1)) ls).map (fun i : Nat => V.int (i : Int)) ++ [V.int (xs.length : Nat)])) D3 = _ := upd_same (H := upd H6 pe (.lst [V.int (xs.length : Nat)]))
      have s07 := s06.trans (sE1.trans sD3)
      have hq7 := s07 _ _ hq2
      generalize upd _ D3 _ = H7 at *
      generalize spotF ls l.1 nms = i at *
      have hix : i ≤ xs.length := by rw [hA2.1]; exact hsl
      have ct : cutV xs none (some (i : Int)) = xs.take i := cutV_take (by omega)
      have cd : cutV xs (some (i : Int)) none = xs.drop i := cutV_drop (by omega)
      refine ⟨_, rfl, _, rfl, D3, _, _, _, rfl, rfl, SqL.of hD7, ei, _, rfl, q, xs, rfl, SqL.of hq7, fun p1 hp1 => ?_⟩
      rw [ct]
      have sP1 := Same.new (o := .lst (xs.take i)) hp1
      refine ⟨_, rfl, (by show 1 ≤ sizeLine; decide), fun p2 hp2 => ?_⟩
      have sP2 := Same.new (o := .lst [V.ref t]) hp2
      refine ⟨p1, p2, _, _, rfl, rfl, sP2 _ _ upd_same, upd_same, ?_, fun p3 hp3 => ?_⟩
      · rw [List.length_take, List.length_singleton]
        exact Nat.le_trans (by omega : _ ≤ 17) (by decide)
      have sP3 := Same.new (o := .lst (xs.take i ++ [V.ref t])) hp3
      have sA3 := sP1.trans (sP2.trans sP3)
      refine ⟨_, rfl, _, rfl, D3, _, _, _, rfl, rfl, SqL.of (sA3 _ _ hD7), ei, _, rfl, q, xs, rfl, SqL.of (sA3 _ _ hq7), fun p4 hp4 => ?_⟩
      rw [cd]
      have sP4 := Same.new (o := .lst (xs.drop i)) hp4
      refine ⟨p3, p4, _, _, rfl, rfl, sP4 _ _ upd_same, upd_same, ?_, fun p5 hp5 => ?_⟩
      · rw [List.length_append, List.length_take, List.length_singleton, List.length_drop]
        exact Nat.le_trans (by omega : _ ≤ 17) (by decide)
      have e9 : xs.take i ++ [V.ref t] ++ xs.drop i = xs.take i ++ V.ref t :: xs.drop i := by simp
      rw [e9]
      have sP5 := Same.new (o := .lst (xs.take i ++ V.ref t :: xs.drop i)) hp5
      have sAll := s07.trans (sA3.trans sP4)
      have sAP := sAll.trans sP5
      exact k p5 _ sAP (Same.none sAll hp5) ⟨_, upd_same, All2.app ((hA2.take i).mono fun _ _ z => z.same sAP) (.cons (hl2.same sAP) ((hA2.drop i).mono fun _ _ z => z.same sAP))⟩
end

theorem joinF_len2 (ls : List Ly) : ∀ F : List Ly, (ls.foldl stepJ F).length ≤ F.length + ls.length := by
  induction ls with
  | nil => exact fun F => Nat.le_refl _
  | cons l ls ih =>
    intro F
    refine Nat.le_trans (ih (stepJ F l)) ?_
    have : (stepJ F l).length ≤ F.length + 1 := by
      unfold stepJ
      (repeat' split) <;> simp [List.length_dropLast] <;> omega
    rw [List.length_cons]
    omega
theorem putL_len {s : Str} {ls : List Ly} {l : Ly} {nms : List Str} : (putL s ls l nms).length ≤ ls.length + 1 := by
  unfold putL
  split
  · have := joinF_len2 (ls ++ [l]) []
    rw [List.length_nil, List.length_append, List.length_singleton] at this
    unfold joinF
    omega
  · split
    · have := joinF_len2 (l :: ls) []
      rw [List.length_nil, List.length_cons] at this
      unfold joinF
      omega
    · unfold putOwn
      split
      · rw [List.length_append, List.length_cons, List.length_take, List.length_drop]
        omega
      · rw [List.length_append, List.length_cons, List.length_take, List.length_drop]
        omega
def spLaidL (C : Addr) : Sp := fun vs H Q _ => ∃ (s : Str) (q qp lq : Addr) (ls ps : List Ly) (nms : List Str), vs = [.str s, .ref q, .ref qp, .ref lq] ∧ LayAt C H q ls ∧ LayAt C H qp ps ∧ H lq = some (.lst (nms.map V.str)) ∧ nms.length ≤ 1000 ∧ (∀ l ∈ ps, l.1 ∈ nms) ∧ (∀ i, i ≤ ps.length → SzL 400 (laidL s ls (ps.take i) nms)) ∧ SzL 400 ps ∧ ls.length + ps.length ≤ 16 ∧
  ∀ (p : Addr) (H' : Hp), Same H H' → LayAt C H' p (laidL s ls ps nms) → Q (.ref p) H'
section
variable {P : Program} {w : World} {K : PySem.W.Frag} {mg : Str → Option Value} {base : Heap} {A : Ad}
theorem ok_l_laid (T : Txt K mg A) : FnOk P w K mg base CX0 12 A.l_laid A.fd_l_laid P_l_laid (spLaidL A.Ratio) := by
  refine T.F_l_laid.ok sc_l_laid (fun vs H Q E h => ?_) (fun cdv Ar outer s H vs Q E hr h => ?_)
  · obtain ⟨sd, q, qp, lq, ls, ps, nms, rfl, _⟩ := h
    rfl
  · obtain ⟨sd, q, qp, lq, ls, ps, nms, rfl, hL, ⟨ys, hqp, hP⟩, hlq, nlen, hmem, hsz, sp, hlen, k⟩ := h
    refine ⟨_, (pss_cons (ps_g (ps_for PassesOwn.never rfl (pi_list (pv 2)) (pg_name (i := 4) sc_l_laid.nd rfl (Or.inl rfl)) (pss_one (ps_set (i := 1) sc_l_laid.nd rfl (Or.inl rfl) (pe_call (ok_l_put T) (hr.mono (by decide)) (by rfl) T.g__law_put T.F_l_put.kp T.b_l_put .nil pass0 (pa_cons (pv 0) (pa_cons (pv 1) (pa_cons (pv 4) (pa_cons (pv 3) pa_nil)))))))))
      (pss_one (ps_ret (pv 1)))), ?_⟩
    refine ⟨⟨_, rfl, qp, rfl, ⟨_, SqL.of hqp⟩, for_list (xs := ys) (fun i σ' H' => Wd (∃ (f : Addr) (o4 : Option V), σ' = [some (.str sd), some (.ref f), some (.ref qp), some (.ref lq), o4] ∧ Same H H' ∧ LayAt A.Ratio H' f (laidL sd ls (ps.take i) nms) ∧ (laidL sd ls (ps.take i) nms).length ≤ ls.length + i))
      ⟨q, none, rfl, Same.refl _, hL, Nat.le_refl _⟩ ?_ ?_ ?_⟩⟩
    · rintro i σ' H' _ ⟨f, o5, rfl, sx, _⟩
      exact SqL.of (sx _ _ hqp)
    · rintro i y σ' H' hi ⟨f, o5, rfl, sx, Lf, lf⟩
      obtain ⟨l, hli, hlay⟩ := hP.get hi
      have hil : i < ps.length := (List.getElem?_eq_some_iff.mp hli).1
      have hst : laidL sd ls (ps.take (i + 1)) nms = putL sd (laidL sd ls (ps.take i) nms) l nms := by
        unfold laidL
        rw [take_more hli, List.foldl_append]
        rfl
      obtain ⟨t, rv, rfl, ht, hrv⟩ := id hlay
      have hlq' := sx _ _ hlq
      rw [hst]
      have hli16 : (laidL sd ls (ps.take i) nms).length ≤ 16 := by omega
      refine ⟨_, rfl, _, rfl, _, rfl, _, rfl, sd, f, t, lq, _, l, nms, rfl, Lf, hlay.same sx, hlq', nlen, hmem _ (List.mem_of_getElem? hli), hsz i (by omega), sp _ (List.mem_of_getElem? hli), hli16, fun p2 H2 s2 n2 hP2 => ?_⟩
      refine ⟨p2, _, rfl, sx.trans s2, hP2, Nat.le_trans putL_len (by omega)⟩
    · rintro σ' H' ⟨f, o5, rfl, sx, Lf, lf⟩
      rw [hP.1, List.take_length] at Lf
      exact ⟨_, rfl, k f H' sx Lf⟩
end

/-! ### defs called within an except suite: what ends an iterator is raised beside the handled error -/
section
open PySem.Spec PyProof.Rows
variable {prog : Program} {w : World} {A : Around} {E : Value → Shared → Prop} {s : Shared}
theorem hot_ne {x1 it : Addr} {h : Heap} {o o1 : Obj} {vs1 : Array Value} {a b : Value} (h1 : h.get? x1 = some o1) (d1 : o1.data = .fields vs1) (c1 : vs1[2]? = some .none) (ho : h.get? it = some o) (hd : o.data = .fields #[a, b]) : x1 ≠ it := fun e => by
  subst e
  rw [h1] at ho
  cases ho
  rw [d1] at hd
  cases hd
  cases c1
theorem next_list_endH {it l x1 : Addr} {i : Nat} {items : Array Value} {Q : Option Value → Shared → Prop} (hot : HotX.HotAt A x1 s.heap) (hit : s.heap.IsListIter it l i) (hl : s.heap.IsList l items) (hx : items[i]? = none)
    (hQ : ∀ h', Heap.ExtBut it s.heap h' → Q none { s with heap := h' }) : wpAny (model prog w) A (pyNext (.ref it)) Q E s := by
  obtain ⟨o, ho, hc, hd⟩ := id hit
  obtain ⟨ol, hol, _, nl, hdl⟩ := hl
  obtain ⟨hh, o1, vs1, h1, d1, c1⟩ := hot
  have hne := hot_ne h1 d1 c1 ho hd
  unfold pyNext
  refine wpAny_bind (wpAny_attempt (wpAny_callSpecial?_slot (name := Str.ofString "__next__") hit.typeIs slot_listiter_next (wpAny_call_entry slot_listiter_next hit.typeIs entry_listiter_next ?_ (args_listiter_next _))))
  show wpAny _ _ (field (.ref it) 0 >>= _) _ _ s
  refine wpAny_bind (wpAny_field ho hd (x := .ref l) rfl ?_)
  show wpAny _ _ (if (Value.ref l == Value.none) = true then _ else _) _ _ s
  rw [if_neg (show ¬ ((Value.ref l == Value.none) = true) from Bool.false_ne_true)]
  show wpAny _ _ (field (.ref it) 1 >>= _) _ _ s
  refine wpAny_bind (wpAny_field ho hd (x := .int i 0) rfl ?_)
  show wpAny _ _ (seqItems? (.ref l) >>= _) _ _ s
  refine wpAny_bind (wpAny_seqItems hol hdl ?_)
  simp only [Int.toNat_natCast, hx]
  refine wpAny_bind (wpAny_rule (wpAny_bind (wpAny_setField ho hd (by simp) ?_)))
  show wpAny _ _ (newExc (.type "StopIteration") [] >>= _) _ _ _
  refine wpAny_bind ?_
  simp only [newExc, newTuple]
  refine wpAny_bind (wpAny_newObj_type ?_ (by size_fits))
  refine wpAny_bind (m := firstArgMember _ _) (wpAny_of_eq (a := Value.none) (by first | rfl | (simp only [firstArgMember]; rfl)) ?_)
  refine wpAny_newObj_type ?_ (by size_fits)
  have h1' := (Heap.get?_update_other s.heap (Obj.mapFields (·.setIfInBounds 0 .none)) (Ne.symm hne)).trans h1
  refine HotX.raiseNew_hot ⟨hh, o1, vs1, Heap.get?_push_of_some _ (Heap.get?_push_of_some _ h1'), d1, c1⟩ (Nat.ne_of_lt (Heap.lt_size (Heap.get?_push_of_some _ h1'))) (Heap.get?_push_size _ rfl) rfl (by first | (simp; done) | (simp; omega) | (simp only [Array.size_append]; simp; omega)) ?_
  refine wpAny_bind (wpAny_isInstance (T := "StopIteration") (b := true) ⟨_, Heap.get?_update_self _ (Heap.get?_push_size _ rfl) rfl, rfl⟩ isSubtype_stop ?_)
  refine wpAny_pure (hQ _ fun b o hb e => ?_)
  have e1 := (Heap.get?_update_other s.heap (Obj.mapFields (·.setIfInBounds 0 .none)) (Ne.symm hb)).trans e
  rw [Heap.get?_update_other _ _ (Nat.ne_of_gt (Heap.lt_size (Heap.get?_push_of_some _ e1)))]
  exact Heap.get?_push_of_some _ (Heap.get?_push_of_some _ e1)
theorem next_tuple_endH {it t x1 : Addr} {i : Nat} {items : Array Value} {Q : Option Value → Shared → Prop} (hot : HotX.HotAt A x1 s.heap) (hit : IsTupIter s.heap it t i) (ht : IsTup s.heap t items) (hx : items[i]? = none)
    (hQ : ∀ h', Heap.ExtBut it s.heap h' → Q none { s with heap := h' }) : wpAny (model prog w) A (pyNext (.ref it)) Q E s := by
  obtain ⟨o, ho, hc, hd⟩ := id hit
  obtain ⟨ol, hol, _, nl, hdl⟩ := ht
  obtain ⟨hh, o1, vs1, h1, d1, c1⟩ := hot
  have hne := hot_ne h1 d1 c1 ho hd
  unfold pyNext
  refine wpAny_bind (wpAny_attempt (wpAny_callSpecial?_slot (name := Str.ofString "__next__") hit.typeIs slot_tupleiter_next (wpAny_call_entry slot_tupleiter_next hit.typeIs entry_tupleiter_next ?_ (args_tupleiter_next _))))
  show wpAny _ _ (field (.ref it) 0 >>= _) _ _ s
  refine wpAny_bind (wpAny_field ho hd (x := .ref t) rfl ?_)
  show wpAny _ _ (if (Value.ref t == Value.none) = true then _ else _) _ _ s
  rw [if_neg (show ¬ ((Value.ref t == Value.none) = true) from Bool.false_ne_true)]
  show wpAny _ _ (field (.ref it) 1 >>= _) _ _ s
  refine wpAny_bind (wpAny_field ho hd (x := .int i 0) rfl ?_)
  show wpAny _ _ (seqItems? (.ref t) >>= _) _ _ s
  refine wpAny_bind (wpAny_seqItems hol hdl ?_)
  simp only [Int.toNat_natCast, hx]
  refine wpAny_bind (wpAny_rule (wpAny_bind (wpAny_setField ho hd (by simp) ?_)))
  show wpAny _ _ (newExc (.type "StopIteration") [] >>= _) _ _ _
  refine wpAny_bind ?_
  simp only [newExc, newTuple]
  refine wpAny_bind (wpAny_newObj_type ?_ (by size_fits))
  refine wpAny_bind (m := firstArgMember _ _) (wpAny_of_eq (a := Value.none) (by first | rfl | (simp only [firstArgMember]; rfl)) ?_)
  refine wpAny_newObj_type ?_ (by size_fits)
  have h1' := (Heap.get?_update_other s.heap (Obj.mapFields (·.setIfInBounds 0 .none)) (Ne.symm hne)).trans h1
  refine HotX.raiseNew_hot ⟨hh, o1, vs1, Heap.get?_push_of_some _ (Heap.get?_push_of_some _ h1'), d1, c1⟩ (Nat.ne_of_lt (Heap.lt_size (Heap.get?_push_of_some _ h1'))) (Heap.get?_push_size _ rfl) rfl (by first | (simp; done) | (simp; omega) | (simp only [Array.size_append]; simp; omega)) ?_
  refine wpAny_bind (wpAny_isInstance (T := "StopIteration") (b := true) ⟨_, Heap.get?_update_self _ (Heap.get?_push_size _ rfl) rfl, rfl⟩ isSubtype_stop ?_)
  refine wpAny_pure (hQ _ fun b o hb e => ?_)
  have e1 := (Heap.get?_update_other s.heap (Obj.mapFields (·.setIfInBounds 0 .none)) (Ne.symm hb)).trans e
  rw [Heap.get?_update_other _ _ (Nat.ne_of_gt (Heap.lt_size (Heap.get?_push_of_some _ e1)))]
  exact Heap.get?_push_of_some _ (Heap.get?_push_of_some _ e1)
theorem HotAt.keep {x1 : Addr} {h h' : Heap} (hot : HotX.HotAt A x1 h) (k : ∀ o, h.get? x1 = some o → h'.get? x1 = some o) : HotX.HotAt A x1 h' := by
  obtain ⟨hh, o1, vs1, h1, d1, c1⟩ := hot
  exact ⟨hh, o1, vs1, k _ h1, d1, c1⟩
theorem unpackItemsH {t x1 : Addr} {items : Array Value} {Q : List Value → Shared → Prop} (hot : HotX.HotAt A x1 s.heap) (ht : IsTup s.heap t items)
    (hQ : ∀ h', Heap.ExtBut s.heap.objs.size s.heap h' → Q items.toList { s with heap := h' }) : wpAny (model prog w) A (unpackItems (.ref t) items.size none) Q E s := by
  have hlt : t ≠ s.heap.objs.size := by obtain ⟨o, ho, _⟩ := ht; exact Nat.ne_of_lt (Heap.lt_size ho)
  have hx1 : x1 ≠ s.heap.objs.size := by obtain ⟨_, o1, vs1, h1, _, _⟩ := hot; exact Nat.ne_of_lt (Heap.lt_size h1)
  unfold unpackItems
  refine wpAny_bind ?_
  unfold notIterableAtAll
  refine wpAny_bind (wpAny_specialOf ht.typeIs slot_tuple_iter.lookup ?_)
  refine wpAny_pure ?_
  simp only [Bool.false_eq_true, if_false]
  refine wpAny_bind (wpAny_holding (iter_tuple ht ?_))
  refine wpAny_bind (wpAny_holding (draw_tuple hlt items.size 0 _ _ ⟨_, Heap.get?_push_size _ rfl, rfl, rfl⟩ (ht.push _) (by omega) fun h₁ hit₁ hs₁ => ?_))
  have hall : List.take items.size (List.drop 0 items.toList) = items.toList := by
    rw [List.drop_zero]; exact List.take_of_length_le (by simp)
  rw [hall]
  rw [if_neg (by simp)]
  have ht₁ : IsTup h₁ t items := (ht.push _).extBut hs₁.extBut hlt
  have hot₁ : HotX.HotAt A x1 h₁ := HotAt.keep hot fun o e => hs₁.extBut x1 o hx1 (Heap.get?_push_of_some _ e)
  refine wpAny_bind (wpAny_holding (next_tuple_endH hot₁ hit₁ ht₁ (by simp) fun h₂ he₂ => ?_))
  simp only [Option.isSome_none, Bool.false_eq_true, if_false]
  refine wpAny_pure (hQ h₂ fun b o hb e => he₂ b o hb (hs₁.extBut b o hb (Heap.get?_push_of_some _ e)))
end
section
open PySem.Spec PyProof.Rows L2H
variable {X : Cx} {pos : Pos}
theorem _root_.L2H.RoomH.units {k : Nat} {A : Around} (r : L2H.RoomH k A) : A.units + 64 < cLine := by have := r.un; omega
theorem roomH_mark {j k : Nat} {A : Around} {v : Option Value} (r : Room k A) (h : j ≤ k) : L2H.RoomH j (A.mark v) := (L2H.RoomH.mk (A := A.mark v) r.dp r.un).mono h
/-- a statement that is never reached -/
theorem ps_never {st : Stmt} : PS X st (fun _ _ _ => False) := ⟨fun _ _ _ _ _ _ h => h.elim⟩
theorem h_tup {es : List Expr} {k : Nat} {t : TGs} {n : Nat} (hc : HotC X) (h : PGs X es t) (hn : (assignEach es X.env).length = n := by rfl) (hst : (assignEach es X.env).findIdx? (·.1) = none := by rfl) : PG X (.Tuple es k pos) (gTup X.K n t) := by
  refine ⟨fun pins s σ H v u Q I r hw => ?_⟩
  obtain ⟨a, xs, e1, hq, hl, hw⟩ := hw
  subst e1
  cases r
  obtain ⟨its, rv, ht, hz⟩ := I.tuple hq
  obtain ⟨x1, hot⟩ := hc.at I
  rw [assign_Tuple]
  refine wpAny_bind (wpAny_standAt ?_)
  unfold unpack
  rw [show (assignEach es X.env).length = its.toArray.size by simp [hn, ← hl, rv.length], hst]
  refine wpAny_bind (wpAny_holding (unpackItemsH hot ht fun h' hx => ?_))
  have I1 : Inv X pins σ H { s with heap := h' } := I.kept (t' := s.toks) fun b o e => hx b o (Nat.ne_of_lt (Heap.lt_size e)) e
  exact h.run pins _ σ H xs _ Q I1 (by simpa using rv) hw
theorem h_par {i j : Nat} {x y : Str} {a b : Expr} {ta : TA} {px py pt : Pos} {kt k2 pt2} (hc : HotC X) (hN : X.N.Nodup) (hi : X.N[i]? = some x) (hj : X.N[j]? = some y) (hij : i ≠ j)
    (hx : X.env.scope.names.lookup x = some .local) (hy : X.env.scope.names.lookup y = some .local) (ha : PA X [a, b] ta)
    (hw : swappedStores [.Tuple [.Name x px, .Name y py] kt pt] (.Tuple [a, b] k2 pt2) X.env = pure (some [x, y]))
    (hs : swapsWithSole [.Tuple [.Name x px, .Name y py] kt pt] (.Tuple [a, b] k2 pt2) pos.line X.env = pure false := by rfl) :
    PS X (.Assign [.Tuple [.Name x px, .Name y py] kt pt] (.Tuple [a, b] k2 pt2) pos) (tPar i j ta) := by
  refine ⟨fun pins s σ H D I h => ?_⟩
  rw [exec_Assign_arm]
  refine wpAny_bind (wpAny_standAt ?_)
  rw [hs]
  refine wpAny_bind (wpAny_pure ?_)
  rw [if_neg (by decide)]
  refine wpAny_bind (Tuple_ (thn (ha.run _ pins s σ H _ I h) fun us s1 ⟨vs, H1, I1, r1, q1⟩ => ?_))
  obtain ⟨v, w, e1, q1⟩ := q1
  subst e1
  obtain ⟨u1, u2, rfl, rv, rw'⟩ : ∃ u1 u2, us = [u1, u2] ∧ RelV v u1 ∧ RelV w u2 := by
    cases r1 with
    | cons p q =>
      cases q with
      | cons p' q' =>
        cases q'
        exact ⟨_, _, rfl, p, p'⟩
  refine wpAny_newObj_type ?_ (by show 2 ≤ sizeLine; decide)
  have I2 : Inv X pins σ H1 { s1 with heap := s1.heap.push { cls := .type "tuple", data := .seq [u1, u2].toArray } } := I1.kept (t' := s1.toks) fun b o e => Heap.get?_push_of_some _ e
  rw [hw]
  refine wpAny_bind (wpAny_pure ?_)
  show wpAny (model X.prog X.w) X.A (do rule "assign.swapped-stores"; let items ← unpackItems (.ref s1.heap.objs.size) 2 none; assignInOrder [fun v => bindName X.env y v, fun v => bindName X.env x v] items.reverse; pure Flow.next) _ _ _
  obtain ⟨x1, hot⟩ := hc.at I2
  refine wpAny_bind (wpAny_rule (wpAny_bind (unpackItemsH (items := #[u1, u2]) hot (IsTup.new s1.heap _) fun h' hx' => ?_)))
  have I3 := I2.kept (h' := h') (t' := s1.toks) fun b o e => hx' b o (Nat.ne_of_lt (Heap.lt_size e)) e
  show wpAny _ _ (assignInOrder [fun v => bindName X.env y v, fun v => bindName X.env x v] [u2, u1] >>= fun _ => pure Flow.next) _ _ _
  refine wpAny_bind (assignInOrder_cons (wpAny_bindName (store_ok I3 hN hj (.inl hy) rw' (fun s2 I4 => ?_) (.inr hy))))
  refine assignInOrder_cons (wpAny_bindName (store_ok I4 hN hi (.inl hx) rv (fun s3 I5 => assignInOrder_nil (wpAny_pure ?_)) (.inr hx)))
  rw [List.set_comm _ _ (Ne.symm hij)] at I5
  exact ⟨_, H1, I5, q1⟩
theorem h_turn {P : Program} {w : World} {K : PySem.W.Frag} {tg : Expr} (a it : Addr) : TurnH P w K tg (Itl K a) [it] it (fun i h => h.IsListIter it a i) where
  mem := by simp
  obj := (turn_list (P := P) (w := w) (K := K) (tg := tg) a it).obj
  keep := (turn_list (P := P) (w := w) (K := K) (tg := tg) a it).keep
  item := by
    intro X hP hw hK hc i pins s σ H E I hf st hg
    subst hP hw hK
    obtain ⟨xs, x, hq, hx⟩ := hg
    obtain ⟨its, rv, p, hz⟩ := I.list hq
    obtain ⟨u, hu, ru⟩ := rv.get hx
    obtain ⟨f0, f1, f2, f3, f4, f5⟩ := hf it (by simp)
    refine wpAny_pyNext_list_item st p.isList (x := u) (by simpa using hu) fun h' st' sb => ?_
    have I1 : Inv X pins σ H { s with heap := h' } := I.turned (t' := s.toks) (fun b o hb e => (sb.2 b hb).trans e) f0 f1 f3 f4 f5
    obtain ⟨o, e, c, d⟩ := id st'
    exact ⟨u, rfl, go_of (s := { s with heap := h' }) e c d (by decide) ⟨x, H, I1, ru, ⟨rfl, fun ys hy => by rw [I.list_inj hy hq]; exact hx⟩, st', fun b hb => (hf b hb).1⟩⟩
  done := by
    intro X hP hw hK hc i pins s σ H E I hf st hg
    subst hP hw hK
    obtain ⟨xs, hq, hx⟩ := hg
    obtain ⟨its, rv, p, hz⟩ := I.list hq
    obtain ⟨f0, f1, f2, f3, f4, f5⟩ := hf it (by simp)
    have hl := rv.length
    obtain ⟨x1, hot⟩ := hc.at I
    exact next_list_endH hot st p.isList (by simp; omega) fun h' eb => ⟨rfl, I.turned (t' := s.toks) (fun b o hb e => eb b o hb e) f0 f1 f3 f4 f5⟩
  self := fun _ _ _ _ _ st h => wpAny_pyIter_listiter st h
theorem h_list {tg l : Expr} {tl : TE} (hl : PE X l tl) : PIH X tg l (iList X.K tl) := by
  refine ⟨fun pins s σ H R I h => ?_⟩
  refine thn (hl.run pins s σ H _ I h) fun v s1 ⟨x, H1, I1, r1, q1⟩ => ?_
  obtain ⟨a, e, ⟨xs, hq⟩, q⟩ := q1
  subst e
  cases r1
  obtain ⟨its, rv, p, hz⟩ := I1.list hq
  refine wpAny_pyIter_list p.isList ?_
  refine ⟨s1.heap.objs.size, [s1.heap.objs.size], _, _, H1, rfl, I1.kept (t' := s1.toks) fun b o e => Heap.get?_push_of_some _ e, h_turn a _, ⟨_, Heap.get?_push_size _ rfl, rfl, rfl⟩, fun b hb => ?_, q⟩
  have e : b = s1.heap.objs.size := by simpa using hb
  subst e
  exact I1.fpOk (Nat.le_refl _) (I1.hok.fresh (Nat.le_refl _))
end
section
open PySem.Spec PyProof.Rows L2H
variable {X : Cx} {CX : CXT} {k : Nat} {f r C : Addr} {fd : FuncData} {ps : List Str} {sp : Sp} {E : XK} {dvs : List V} {ds : List Value} {nm : String} {op : Operator} {x m : Str} {p pos apos : Pos} {e o : Expr} {es : List Expr} {ta : TE} {t : TA}
theorem hpin_of {pins : List (Addr × Obj)} {σ : L2.St} {H : Hp} {s : Shared} {q : Addr × Obj} (I : Inv X pins σ H s) (hp : q ∈ X.pn) : PinOk X.stack H s q := by
  have P1 := I.pin q (List.mem_append_left _ hp)
  exact ⟨P1.1, P1.2.1, fun hm => (List.mem_cons.mp (I.stkSub q.1 hm)).elim P1.2.2.1 P1.2.2.2.1, P1.2.2.2.2⟩
theorem h_run {pins : List (Addr × Obj)} {σ : L2.St} {H : Hp} {s : Shared} {Q : VK} {us : List Value} {vs : List V} (F : FnH X.prog X.w X.K X.mg X.base CX k f fd ps sp) (hr : RoomH k X.A) (hc : HotC X) (hb : Binds X.K fd ps ds) (hd : Vals dvs ds) (hx : Passes CX X E)
    (I : Inv X pins σ H s) (r : Vals vs us) (h : sp (vs ++ dvs) H Q E) : wpAny (model X.prog X.w) X.A (call (.ref f) us) (EP X pins σ Q) X.xe s := by
  obtain ⟨q, hot, hp⟩ := hc
  have r2 : Vals (vs ++ dvs) (us ++ ds) := r.append hd
  have hl : (us ++ ds).length = ps.length := by rw [← r2.length]; exact F.len _ _ _ _ h
  refine wpAny_call (codeAny_mono (F.run X.A X.stack s H ⟨us, []⟩ (us ++ ds) (vs ++ dvs) Q E q hr hot (hpin_of I hp) I.env0 (hb s us I.kIn hl) r2 h) fun r s' hq => ?_)
  cases r with
  | error e => exact hx pins σ H s e s' I hq
  | ok fl =>
    cases fl with
    | ret u => exact I.after hq
    | next => exact False.elim hq
    | brk => exact False.elim hq
    | cont => exact False.elim hq
theorem h_call (F : FnH X.prog X.w X.K X.mg X.base CX k f fd ps sp) (hr : RoomH k X.A) (hc : HotC X) (hg : Gl X x) (hm : X.mg x = some (.ref f)) (hk : PySem.W.keepIn X.K (.ref f) = true) (hb : Binds X.K fd ps ds) (hd : Vals dvs ds) (hx : Passes CX X E)
    (ha : PA X (e :: es) t) (hdb : (x == ("__debug__" : Str)) = false := by decide) (he : starEach (e :: es) X.env = (false, eval e X.env) :: starEach es X.env := by rfl) (hpl : (backTo pos (starEach es X.env)).any (·.1) = false := by rfl) :
    PE X (.Call (.Name x p) (e :: es) [] pos) (tCall sp dvs E t) := by
  refine ⟨fun pins s σ H Q I h => ?_⟩
  refine wpAny_Call_Name_kw (ld_glob I hg hm ?_ hdb)
  refine PySem.W.callWith_K (h₀ := X.base) I.ok.mod.kin hk (thn (ha.run pos pins s σ H _ I h) fun us s1 ⟨vs, H1, I1, r, q⟩ => ⟨I1.kIn, ?_⟩) he hpl
  exact h_run F hr hc hb hd hx I1 r q
theorem h_meth {pl : Sem Bool} (he : PE X o ta) (c : Cls X.K C) (hm : Meth X.K C m f) (F : FnH X.prog X.w X.K X.mg X.base CX k f fd ps sp) (hr : RoomH k X.A) (hc : HotC X) (hb : Binds X.K fd ps ds) (hd : Vals dvs ds) (hx : Passes CX X E) (ha : PA X (e :: es) t)
    (hst : starEach (e :: es) X.env = (false, eval e X.env) :: starEach es X.env := by rfl) (hpl : (backTo pos (starEach es X.env)).any (·.1) = false := by rfl)
    (ht : eval (.Call (.Attribute o m apos) (e :: es) [] pos) X.env = (eval o X.env >>= fun ov => standAt apos.atName >>= fun _ => holding [ov] (getMethod ov m pl) >>= fun (f, first) =>
      callWith pos f first (backTo pos (starEach (e :: es) X.env)) (backToKw pos (keywordEach [] X.env))) := by rfl) :
    PE X (.Call (.Attribute o m apos) (e :: es) [] pos) (tMeth C m sp dvs E ta t) := by
  refine ⟨fun pins s σ H Q I h => ?_⟩
  refine PySem.W.methodCall_KW (pl := pl) (thn (he.run pins s σ H _ I h) fun u s1 ⟨x, H1, I1, rx, a, dx, fs, ex, ea, l, q⟩ => ?_) ht
  subst ex
  obtain rfl : u = Value.ref a := rx
  refine getmeth_ok I1 ea c hm l ?_
  refine PySem.W.callWith_K (first := [.ref a]) (h₀ := X.base) I.ok.mod.kin hm.kp (thn (ha.run pos pins s1 σ H1 _ I1 q) fun us s2 ⟨vs, H2, I2, r, q2⟩ => ⟨I2.kIn, ?_⟩) hst hpl
  exact h_run (us := .ref a :: us) (vs := .ref a :: vs) F hr hc hb hd hx I2 (.cons rfl r) q2
theorem roomH_make {k : Nat} {A : Around} (r : RoomH (k + 1) A) (C : Addr) (us : List Value) (kw : List (Str × Value)) : RoomH k (A.under (.builtin "type.__call__" ⟨.ref C :: us, kw⟩)) :=
  ⟨by have := r.dp; rw [make_depth]; omega, by have := r.un; rw [make_units]; omega⟩
theorem h_make (M : Mk X.K C f) (F : FnH X.prog X.w X.K X.mg X.base CX k f fd ps sp) (hr : RoomH (k + 1) X.A) (hc : HotC X) (hg : Gl X x) (hm : X.mg x = some (.ref C)) (hb : Binds X.K fd ps ds) (hd : Vals dvs ds) (hx : Passes CX X E)
    (ha : PA X (e :: es) t) (hdb : (x == ("__debug__" : Str)) = false := by decide) (he : starEach (e :: es) X.env = (false, eval e X.env) :: starEach es X.env := by rfl) (hpl : (backTo pos (starEach es X.env)).any (·.1) = false := by rfl) :
    PE X (.Call (.Name x p) (e :: es) [] pos) (tMake C sp dvs E t) := by
  refine ⟨fun pins s σ H Q I h => ?_⟩
  refine wpAny_Call_Name_kw (ld_glob I hg hm ?_ hdb)
  refine PySem.W.callWith_K (h₀ := X.base) I.ok.mod.kin M.kp (thn (ha.run pos pins s σ H _ I h) fun us s ⟨vs, H, I, r, h⟩ => ⟨I.kIn, ?_⟩) he hpl
  obtain ⟨q, hot, hp⟩ := hc
  have hq := h (s.heap.objs.size + 1) s.heap.objs.size (I.hok.fresh (Nat.le_succ _)) (I.hok.fresh (Nat.le_refl _)) (Nat.ne_of_lt (Nat.lt_succ_self _))
  have I2 := Inv.made (C := C) I
  have r2 : Vals (V.ref (s.heap.objs.size + 1) :: (vs ++ dvs)) (Value.ref (s.heap.objs.size + 1) :: (us ++ ds)) := .cons rfl (r.append hd)
  have hl : (Value.ref (s.heap.objs.size + 1) :: us ++ ds).length = ps.length := by
    have e := r2.length
    rw [F.len _ _ _ _ hq] at e
    exact e.symm
  refine wpAny_call (make_map (f := f) I.kIn M.makes M.init (beq_iff_eq.mp M.fn) (codeAny_mono (F.run _ X.stack _ _ ⟨Value.ref (s.heap.objs.size + 1) :: us, []⟩ (Value.ref (s.heap.objs.size + 1) :: (us ++ ds)) _ _ E q (roomH_make hr C us []) hot (hpin_of I2 hp)
    (I2.env0.make C us []) (hb _ (Value.ref (s.heap.objs.size + 1) :: us) I2.kIn hl) r2 hq) fun r s' hq' => ?_))
  cases r with
  | error e => exact hx pins σ _ _ e s' I2 hq'
  | ok fl =>
    cases fl with
    | ret u =>
      obtain ⟨v, H', I3, rv, ev, q3⟩ := I2.after hq'
      subst ev
      exact ⟨rv, ⟨V.ref (s.heap.objs.size + 1), H', I3, rfl, q3⟩⟩
    | next => exact False.elim hq'
    | brk => exact False.elim hq'
    | cont => exact False.elim hq'
theorem h_own (hop : op.info.2 = nm) (O : OwnOp X.K C f r nm) (F : FnH X.prog X.w X.K X.mg X.base CX k f fd ps sp) (hrm : RoomH k X.A) (hc : HotC X) (hb : Binds X.K fd ps []) (hx : Passes CX X E) : OpR X (binaryOp op) (rOwn C sp E) := by
  intro pins s σ H x y v u Q I rx ry h
  have one : wpAny (model X.prog X.w) X.A (binaryOp1 nm v u) (fun o s' => ∃ z, o = some z ∧ EP X pins σ Q z s') X.xe s := by
    obtain ⟨a, dx, fs, rfl, ha, hy, h⟩ := h.ok
    obtain rfl : v = Value.ref a := rx
    obtain ⟨mA, O1, _⟩ := ins_get I.hok ha
    obtain ⟨od, J, _⟩ := O1.look
    have fin : wpAny (model X.prog X.w) X.A (call (.ref f) [.ref a, u]) (PySem.W.CmpBack (EP X pins σ Q)) X.xe s :=
      thn (h_run (us := [.ref a, u]) (vs := [.ref a, y]) F hrm hc hb .nil hx I (.cons rfl (.cons ry .nil)) h) fun _ _ z => back_of z
    rcases hy with ⟨i, rfl⟩ | ⟨b, dy, gs, rfl, hb2⟩
    · obtain ⟨t, rfl⟩ := ry
      obtain ⟨fo, h1⟩ := O.h1
      obtain ⟨ro, h2⟩ := O.h2
      exact b1_int I.kIn J O.hc O.hs O.hf O.hr (.inr ⟨r, rfl⟩) h1 h2 O.sub fin
    · obtain rfl : u = Value.ref b := ry
      obtain ⟨mB, O2, _⟩ := ins_get I.hok hb2
      obtain ⟨od2, J2, _⟩ := O2.look
      exact b1_same I.kIn J J2.type O.hc O.hs O.hf fin
  rcases hi : op.info with ⟨sym, nm'⟩
  rw [hi] at hop
  cases hop
  simp only [binaryOp, hi]
  refine wpAny_holding (wpAny_bind (wpAny_mono one (fun o s' ho => ?_) fun _ _ e => e))
  obtain ⟨z, rfl, q⟩ := ho
  exact wpAny_pure q
theorem h_rown {id : String} {bi : Builtin} {nm2 : String} {g : Int → Int → Sem PySem.Fin} (hop : op.info.2 = nm) (O : OwnOp X.K C f r nm) (hfi : fillsNumberSlot (.type "int") nm = pure true) (slot : Slot "int" (PySem.dunder nm) id) (entry : entryFor table id = some bi)
    (args : ∀ p q, argsOk id ⟨[p, q], []⟩) (hbi : bi = Builtin.Int.intBinary nm2 g false) (F : FnH X.prog X.w X.K X.mg X.base CX k r fd ps sp) (hrm : RoomH k X.A) (hc : HotC X) (hb : Binds X.K fd ps []) (hx : Passes CX X E) : OpR X (binaryOp op) (rROwn C sp E) := by
  intro pins s σ H x y v u Q I rx ry h
  obtain ⟨i, b, dy, gs, rfl, rfl, hb2, h⟩ := h.ok
  obtain ⟨t, rfl⟩ := rx
  obtain rfl : u = Value.ref b := ry
  obtain ⟨mB, O2, _⟩ := ins_get I.hok hb2
  obtain ⟨od2, J2, _⟩ := O2.look
  have fin : wpAny (model X.prog X.w) X.A (call (.ref r) [.ref b, .int i t]) (PySem.W.CmpBack (EP X pins σ Q)) X.xe s :=
    thn (h_run (us := [.ref b, .int i t]) (vs := [.ref b, .int i]) F hrm hc hb .nil hx I (.cons rfl (.cons ⟨t, rfl⟩ .nil)) h) fun _ _ z => back_of z
  rcases hi : op.info with ⟨sym, nm'⟩
  rw [hi] at hop
  cases hop
  subst hbi
  have one := b1_rint (prog := X.prog) (w := X.w) (A := X.A) (E := X.xe) (Q := EP X pins σ Q) I.kIn J2 O.hc O.hs O.hr O.hg hfi O.sub2 slot entry (args _ _) (int_declines J2.at_) fin
  simp only [binaryOp, hi]
  refine wpAny_holding (wpAny_bind (wpAny_mono one (fun o s' ho => ?_) fun _ _ e => e))
  obtain ⟨z, rfl, q⟩ := ho
  exact wpAny_pure q
theorem h_un (hs : PySem.W.findIn X.K (.ref C) "__neg__" = some (some (.ref f))) (hf : PySem.W.isFn X.K (.ref f) = true) (F : FnH X.prog X.w X.K X.mg X.base CX k f fd ps sp) (hrm : RoomH k X.A) (hc : HotC X) (hb : Binds X.K fd ps []) (hx : Passes CX X E) :
    UnR X (unaryOp .USub) (fun x H Q => Wd (∃ a dx fs, x = .ref a ∧ H a = some (.ins C dx fs) ∧ sp [x] H Q E)) := by
  intro pins s σ H x v Q I rx h
  obtain ⟨a, dx, fs, rfl, ha, h⟩ := h.ok
  obtain rfl : v = Value.ref a := rx
  obtain ⟨mA, O1, _⟩ := ins_get I.hok ha
  obtain ⟨od, J, _⟩ := O1.look
  obtain ⟨m, fr⟩ := I.fr
  exact PySem.W.ksp_neg fr I.mod.kin J hs hf (h_run (us := [.ref a]) (vs := [.ref a]) F hrm hc hb .nil hx I (.cons rfl .nil) h)
end
section
open PySem.Spec PyProof.Rows L2H
variable {P : Program} {w : World} {K : PySem.W.Frag} {mg : Str → Option Value} {base : Heap}
theorem h_fun {x qual : Str} {st : Stmt} {f : Addr} {fd : FuncData} {N ps : List Str} {k : Nat} {sp : Sp} (F : Fun K x qual st f fd) (S : FnScope N ps (defScope st)) (len : ∀ vs H Q E, sp vs H Q E → vs.length = ps.length)
    (hbody : ∀ (cdv : Value) (A : Around) (outer : List Env) (s : Shared) (H : Hp) (vs : List V) (Q : VK) (E : XK) (p : Addr × Obj), HotC (cxH CX0 P w K mg base N qual (defScope st) f cdv A outer s H E p).nox → RoomH k (A.deeper (envOfC qual (defScope st) s.heap.objs.size f cdv)) → sp vs H Q E →
      ∃ t, PSs (cxH CX0 P w K mg base N qual (defScope st) f cdv A outer s H E p).nox (defBody st) t ∧ t { nx := fun _ H' => Q .non H', rt := Q } (start N vs) H) : FnH P w K mg base CX0 (k + 1) f fd ps sp := by
  obtain ⟨oc, od, kV, doc, pm, an, cdv, ct, osl, rfl, lk, hcd⟩ := F.ex
  refine fn_ofH lk hcd S len fun A outer s H vs Q E p hot hr hsp => ?_
  obtain ⟨t, h, q⟩ := hbody cdv A outer s H vs Q E p ⟨p, hot, List.mem_singleton.mpr rfl⟩ hr hsp
  exact ⟨t, h.nox, q⟩
theorem h_funD {x qual : Str} {params : Arguments} {body : List Stmt} {scope : Scope} {dvs : List V} {kws : List (Str × V)} {f : Addr} {fd : FuncData} {N ps : List Str} {k : Nat} {sp : Sp} (F : FunD K x qual params body scope dvs kws f fd) (S : FnScope N ps scope) (len : ∀ vs H Q E, sp vs H Q E → vs.length = ps.length)
    (hbody : ∀ (cdv : Value) (A : Around) (outer : List Env) (s : Shared) (H : Hp) (vs : List V) (Q : VK) (E : XK) (p : Addr × Obj), HotC (cxH CX0 P w K mg base N qual scope f cdv A outer s H E p).nox → RoomH k (A.deeper (envOfC qual scope s.heap.objs.size f cdv)) → sp vs H Q E →
      ∃ t, PSs (cxH CX0 P w K mg base N qual scope f cdv A outer s H E p).nox body t ∧ t { nx := fun _ H' => Q .non H', rt := Q } (start N vs) H) : FnH P w K mg base CX0 (k + 1) f fd ps sp := by
  obtain ⟨oc, od, dV, kV, doc, pm, an, cdv, ct, osl, rfl, lk, hcd, _, _⟩ := F.ex
  refine fn_ofH lk hcd S len fun A outer s H vs Q E p hot hr hsp => ?_
  obtain ⟨t, h, q⟩ := hbody cdv A outer s H vs Q E p ⟨p, hot, List.mem_singleton.mpr rfl⟩ hr hsp
  exact ⟨t, h.nox, q⟩
end

/-! ### errors whose context is known to be None: makes, defs, a try whose suite calls -/
section
open PySem.Spec PyProof.Rows
variable {X : Cx} {p pos : Pos} {e : Expr} {es : List Expr} {ta : TA}
theorem n_oex {CX : CXT} {x : Str} {C fI : Addr} {k : Nat} {fd : FuncData} {ps : List Str} {sp : Sp} {ds : List Value} {dvs : List V} (T : OexC X.K C) (iC : PySem.W.findIn X.K (.ref C) "__init__" = some (some (.ref fI))) (tI : PySem.W.typeIn X.K (.ref fI) = some (.type "function"))
    (F1 : FnOk X.prog X.w X.K X.mg X.base CX k fI fd ps sp) (hr : Room (k + 1) X.A) (hb : Binds X.K fd ps ds) (hd : Vals dvs ds) (hx : Passes CX X (fun _ _ _ => False)) (hg : Gl X x) (hm : X.mg x = some (.ref C)) (ha : PA X (e :: es) ta)
    (hdb : (x == ("__debug__" : Str)) = false := by decide) (he : starEach (e :: es) X.env = (false, eval e X.env) :: starEach es X.env := by rfl) (hpl : (backTo pos (starEach es X.env)).any (·.1) = false := by rfl) :
    L2N.PMk X (.Call (.Name x p) (e :: es) [] pos) (tMkO C sp dvs ta) := by
  intro pins s σ H Q I h
  obtain ⟨nm, q, N, bs, bm, sn, sub, ab, col, dd, k0, k1, k2, k3, k5, hC, hbm⟩ := T.cls
  refine wpAny_Call_Name_kw (ld_glob I hg hm ?_ hdb)
  refine PySem.W.callWith_K (h₀ := X.base) I.ok.mod.kin T.kC (thn (ha.run pos pins s σ H _ I h) fun us s1 ⟨vs, H1, I1, r1, hz, q1⟩ => ⟨I1.kIn, ?_⟩) he hpl
  show wpAny _ _ (call (.ref C) us) _ _ _
  obtain ⟨hp, g, dr, tk, os⟩ := s1
  have hsz : hp.objs.size ≤ hp.objs.size + 1 := Nat.le_succ _
  have hn : H1 (hp.objs.size + 1) = none := I1.hok.fresh hsz
  have hq := q1 (hp.objs.size + 1) hn
  have kk : ∀ b o, hp.get? b = some o → ((hp.push (PySem.W.kdv_tup us)).push (PySem.HandSPX.excO C hp.objs.size)).get? b = some o := fun b o e => Heap.get?_push_of_some _ (Heap.get?_push_of_some _ e)
  have hget : ((hp.push (PySem.W.kdv_tup us)).push (PySem.HandSPX.excO C hp.objs.size)).get? (hp.objs.size + 1) = some (PySem.HandSPX.excO C hp.objs.size) := by heap_get
  have I2 : Inv X pins σ (upd H1 (hp.objs.size + 1) (exo (hp.objs.size + 1) C none)) ⟨(hp.push (PySem.W.kdv_tup us)).push (PySem.HandSPX.excO C hp.objs.size), g, dr, tk, os⟩ :=
    I1.laid (t' := tk) (a := hp.objs.size + 1) (o := exo (hp.objs.size + 1) C none) (h' := (hp.push (PySem.W.kdv_tup us)).push (PySem.HandSPX.excO C hp.objs.size)) kk hsz (exo_ok hget)
  have r2 : Vals (V.ref (hp.objs.size + 1) :: (vs ++ dvs)) (Value.ref (hp.objs.size + 1) :: (us ++ ds)) := .cons rfl (r1.append hd)
  have hl : (Value.ref (hp.objs.size + 1) :: us ++ ds).length = ps.length := by
    have e := r2.length
    rw [F1.len _ _ _ _ hq] at e
    exact e.symm
  have hus : us.length ≤ sizeLine := by
    rw [← Paired.length r1, sizeLine_eq]
    omega
  refine wpAny_call (PySem.HandSPX.call_own PySem.F.excBase_ValueError (fun Y => PySem.HandSPX.refsVE_contains Y bm hbm) (I1.kIn _ _ hC) (PySem.W.looks_findIn I1.kIn iC) (fun self => PySem.W.bind_fn I1.kIn self tI) hus
    (codeAny_mono (F1.run _ X.stack _ _ ⟨Value.ref (hp.objs.size + 1) :: us, []⟩ (Value.ref (hp.objs.size + 1) :: (us ++ ds)) _ _ (fun _ _ _ => False) (hr.make C us []) (I2.env0.make C us []) (hb _ (Value.ref (hp.objs.size + 1) :: us) I2.kIn hl) r2 hq) fun r s' hq' => ?_))
  cases r with
  | error er => exact hx pins σ _ _ er s' I2 hq'
  | ok fl =>
    cases fl with
    | ret u =>
      obtain ⟨v, H2, os2, bare2, un2, hok2, rv, ev, d, fs, ea, ed, hd1, q2⟩ := hq'
      subst ev
      obtain ⟨h2, g2, d2, t2, os'⟩ := s'
      obtain ⟨t0, G, J, kG, ge, hoe, na⟩ := mk_end0 (d2 := d2) (t2 := t2) I1 hsz kk un2 hok2 os2 bare2 ea ed hd1
      refine ⟨rv, ⟨hp.objs.size + 1, _, _, ⟨G, g2, d2, t2, os'⟩, _, .ref C, some d, rfl, J, kG, ge, hoe, ⟨rfl, rfl, fun vs hv => ?_⟩, rfl, rfl, na, rfl, bare2, raises_own T.exC T.tyC, q2⟩⟩
      cases hv
      rfl
    | next => exact False.elim hq'
    | brk => exact False.elim hq'
    | cont => exact False.elim hq'
theorem n_takes0 {X : Cx} : L2N.Takes X (fun _ _ _ _ => False) := fun _ _ x => by
  obtain ⟨_, _, _, _, _, _, _, _, _, _, _, _, _, _, _, _, z⟩ := x
  exact z.elim
variable {x n : Str} {c : Value} {i : Nat} {body suite : List Stmt} {b0 : Stmt} {np pos' : Pos} {Wout : WX}
  {tb : WX → List (Addr × Obj) → (Value → Shared → Prop) → TS} {ts : Addr → Obj → Value → Option Addr → List (Addr × Obj) → TS}
theorem n_try (hs : X.stack = X.env :: X.outer) (hf : X.env.frame = some X.env.locals) (hN : X.N.Nodup) (hi : X.N[i]? = some n) (hln : X.env.kindOf n = some .local) (hc : Names X x c) (tk : L2N.Takes X Wout)
    (hb : ∀ (W : WX) (pn : List (Addr × Obj)) (xe : Value → Shared → Prop), L2N.Takes (X.tr pn xe) W → PassesOwn (model X.prog X.w) X.A X.env xe → PSs (X.tr pn xe) body (tb W pn xe))
    (hsu : ∀ (a : Addr) (oe : Obj) (cls : Value) (d : Option Addr) (pn : List (Addr × Obj)), Zc cls d oe → (∃ vs, oe.data = .fields vs) → L2H.HotC (X.suite a ((a, oe) :: pn)) → PSs (X.suite a ((a, oe) :: pn)) (b0 :: suite) (ts a oe cls d pn))
    (e1 : ∀ W pn xe, tb W pn xe = tb W [] (fun _ _ => False)) (e2 : ∀ a oe cls d pn, ts a oe cls d pn = ts a oe0 cls d []) :
    PS X (.Try body [.ExceptHandler (some (.Name x np)) (some n) (b0 :: suite) pos'] [] [] pos) (fun D σ H => tb (wAs X.K c i (fun a cls d => ts a oe0 cls d []) Wout D) [] (fun _ _ => False) D σ H) :=
  L2N.ps_try_as (tb := fun W => tb W [] (fun _ _ => False)) (ts := fun a cls d => ts a oe0 cls d []) hs hf hN hi hln hc tk (fun W pn xe k po => by rw [← e1 W pn xe]; exact hb W pn xe k po)
    (fun a oe cls d pn z f => by
      rw [← e2 a oe cls d pn]
      obtain ⟨vs, hvs⟩ := f
      exact hsu a oe cls d pn z.zc ⟨vs, hvs⟩ ⟨(a, oe), ⟨rfl, vs, hvs, z.2.2 vs hvs⟩, List.mem_cons_self⟩)
variable {P : Program} {w : World} {K : PySem.W.Frag} {mg : Str → Option Value} {base : Heap}
theorem n_fun {x qual : Str} {st : Stmt} {f : Addr} {fd : FuncData} {N ps : List Str} {k : Nat} {sp : Sp} (F : Fun K x qual st f fd) (S : FnScope N ps (defScope st)) (len : ∀ vs H Q E, sp vs H Q E → vs.length = ps.length)
    (hbody : ∀ (cdv : Value) (A : Around) (outer : List Env) (s : Shared) (H : Hp) (vs : List V) (Q : VK) (E : XK), Room k (A.deeper (envOfC qual (defScope st) s.heap.objs.size f cdv)) → sp vs H Q E →
      ∃ t, PSs (cxOf (L2N.CX P w) P w K mg base N qual (defScope st) f cdv A outer s H E) (defBody st) t ∧ t { nx := fun _ H' => Q .non H', rt := Q } (start N vs) H) : FnOk P w K mg base (L2N.CX P w) (k + 1) f fd ps sp := by
  obtain ⟨oc, od, kV, doc, pm, an, cdv, ct, osl, rfl, lk, hcd⟩ := F.ex
  exact fn_of lk hcd S len fun A outer s H vs Q E hr hsp => hbody cdv A outer s H vs Q E hr hsp
end

section
variable {P : Program} {w : World} {K : PySem.W.Frag} {mg : Str → Option Value} {base : Heap} {A : Ad}
theorem hot_f_common_divisor (T : Txt K mg A) : L2H.FnH P w K mg base CX0 1 A.f_common_divisor A.fd_f_common_divisor P_f_common_divisor spGcd := by
  refine h_fun T.F_f_common_divisor sc_f_common_divisor (fun vs H Q E h => ?_) (fun cdv Ar outer s H vs Q E pp hc hr h => ?_)
  · obtain ⟨a, b, rfl, _⟩ := h
    rfl
  · obtain ⟨a, b, rfl, ha, hb, k⟩ := h
    refine ⟨_, (pss_cons (ps_g (ps_while PassesOwn.never (pt_cmpR op_ne (pv 1) pe_int (nomark _)) (pss_one (h_par (i := 0) (j := 1) hc sc_f_common_divisor.nd rfl rfl (by decide) rfl rfl (pa_cons (pv 1) (pa_cons (pe_op op_mod (pv 0) (pv 1)) pa_nil)) (by rfl)))))
      (pss_one (ps_ret (pv 0)))), ?_⟩
    refine ⟨⟨fun m σ' H' => Wd (∃ x y : Int, σ' = [some (.int x), some (.int y)] ∧ 0 ≤ x ∧ 0 ≤ y ∧ y.toNat = m ∧ Int.gcd x y = Int.gcd a b ∧ H' = H), ⟨_, ⟨a, b, rfl, ha, hb, rfl, rfl, rfl⟩⟩, ?_⟩⟩
    rintro m σ' H' ⟨x, y, rfl, hx, hy, hm, hg, rfl⟩
    walk_at "go"
    refine if_intN (fun e => ?_) (fun e => ?_)
    · refine ⟨fun σ2 H2 => Wd (σ2 = [some (.int y), some (.int (x % y))] ∧ H2 = H'), ?_, ?_⟩
      · rintro σ2 H2 ⟨rfl, rfl⟩
        have h1 : 0 ≤ x % y := Int.emod_nonneg _ e
        have h2 : x % y < y := Int.emod_lt_of_pos _ (by omega)
        refine ⟨(x % y).toNat, by omega, ⟨y, x % y, rfl, hy, h1, rfl, ?_, rfl⟩⟩
        rw [← hg]
        exact gcd_emod hx hy
      · walk_at "go"
        exact ⟨rfl, rfl⟩
    · subst e
      walk_at "go"
      have e : ((Int.gcd a b : Nat) : Int) = x := by
        rw [← hg, Int.gcd_zero_right]
        omega
      rw [e] at k
      exact k
theorem hot_m_Ratio_init (T : Txt K mg A) : L2H.FnH P w K mg base CX0 4 A.m_Ratio_init A.fd_m_Ratio_init P_m_Ratio_init (fun vs H Q _ => spRatioInit A.Ratio A.NoRatio vs H Q E0) := by
  refine h_funD T.F_m_Ratio_init sc_m_Ratio_init (fun vs H Q E h => ?_) (fun cdv Ar outer s H vs Q E pp hc hr h => ?_)
  · obtain ⟨p, dx, t, b, rfl, _⟩ := h
    rfl
  · obtain ⟨p, dx, t, b, rfl, hp, hb, kE, kQ⟩ := h
    refine ⟨_, (pss_cons (ps_if (pt_cmpR op_eq (pv 2) pe_int (nomark _)) (pss_one ps_never) pss_nil)
      (pss_cons (ps_set (i := 3) sc_m_Ratio_init.nd rfl (Or.inl rfl) (h_call (hot_f_common_divisor T) (hr.mono (by decide)) hc (by rfl) T.g_common_divisor T.F_f_common_divisor.kp T.b_f_common_divisor .nil pass0 (pa_cons (pe_callB call_abs (by rfl) T.z_abs (by decide +kernel) (pa_cons (pv 1) pa_nil)) (pa_cons (pe_callB call_abs (by rfl) T.z_abs (by decide +kernel) (pa_cons (pv 2) pa_nil)) pa_nil))))
      (pss_g (Evl.pss_cut (ps_if (pt_cmpR op_lt (pv 2) pe_int (nomark _)) (pss_one (ps_set (i := 3) sc_m_Ratio_init.nd rfl (Or.inl rfl) (pe_un un_neg (pv 3)))) pss_nil)
      (pss_cons (ps_fld (pv 0) (pe_op op_fdivZ (pv 1) (pv 3)) rfl)
      (pss_one (ps_fld (pv 0) (pe_op op_fdivZ (pv 2) (pv 3)) rfl))))))), ?_⟩
    walk_at "go"
    refine if_int (fun e => ?_) (fun e => ?_)
    · exact kE e
    · walk_at "go"
      refine ⟨⟨fun σ' H' => Wd (σ' = [some (.ref p), some (.int t), some (.int b), some (.int (if b < 0 then -((Int.gcd t b : Nat) : Int) else ((Int.gcd t b : Nat) : Int)))] ∧ H' = H), ?_, ?_⟩⟩
      · have eg := gcd_abs t b
        walk_at "go"
        refine if_dec (fun e1 => ?_) (fun e1 => ?_)
        · walk_at "go"
          refine ⟨?_, rfl⟩
          rw [eg, if_pos e1]
          rfl
        · refine ⟨?_, rfl⟩
          rw [eg, if_neg e1]
          rfl
      · rintro σ' H' ⟨rfl, rfl⟩
        obtain ⟨h0, h1, h2, h3⟩ := low_num (t := t) e rfl
        generalize (if b < 0 then -((Int.gcd t b : Nat) : Int) else ((Int.gcd t b : Nat) : Int)) = s at *
        have hz : ∀ i, CDivZ i s := fun i => cdivz h0 h1 hb
        have n1 := T.n_Ratio_top
        have n2 := T.n_Ratio_bottom
        have n3 := T.cl_Ratio
        refine ⟨_, rfl, _, rfl, _, _, rfl, rfl, hz _, _, rfl, p, A.Ratio, dx, [], rfl, hp, n3, n1, (by show 0 < 1000; decide), ?_⟩
        refine ⟨_, rfl, _, rfl, _, _, rfl, rfl, hz _, _, rfl, p, A.Ratio, dx, _, rfl, upd_same, n3, n2, (by show 1 < 1000; decide), ?_⟩
        dsimp only
        rw [upd_upd, h2, h3, rf_put]
        exact kQ e
theorem hot_f_halves (T : Txt K mg A) : L2H.FnH P w K mg base CX0 1 A.f_halves A.fd_f_halves P_f_halves (spHalves A.Ratio) := by
  refine h_fun T.F_f_halves sc_f_halves (fun vs H Q E h => ?_) (fun cdv Ar outer s H vs Q E pp hc hr h => ?_)
  · obtain ⟨v, q, rfl, _⟩ := h
    rfl
  · obtain ⟨v, q, rfl, hN, k⟩ := h
    refine ⟨_, (pss_cons (ps_if (pt_val (pe_callB call_isi (by rfl) T.z_isinstance (by decide +kernel) (pa_cons (pv 0) (pa_cons (pe_bltn (v := .ty "int") (by rfl) T.z_int (by decide +kernel) rfl) pa_nil)))) (pss_one (ps_ret (pe_tup (pa_cons (pv 0) (pa_cons pe_int pa_nil))))) pss_nil)
      (pss_one (ps_ret (pe_tup (pa_cons (pe_fld (pv 0) rfl) (pa_cons (pe_fld (pv 0) rfl) pa_nil)))))), ?_⟩
    rcases hN with ⟨p, dx, rfl, hp⟩ | ⟨n, rfl, rfl⟩
    · have n1 := T.n_Ratio_top
      have n2 := T.n_Ratio_bottom
      have n3 := T.cl_Ratio
      refine ⟨_, rfl, _, _, _, _, _, rfl, .ty "int", ty_ratio T hp, T.ki_Ratio, _, rfl, iteF ?_⟩
      exact ⟨_, rfl, p, _, dx, _, _, rfl, hp, n3, n1, rf_top _ _, _, rfl, p, _, dx, _, _, rfl, hp, n3, n2, rf_bottom _ _, by walk_at "fact", k⟩
    · refine ⟨_, rfl, _, _, _, _, _, rfl, .ty "int", .base (.int n), kit_ty (by decide +kernel), _, rfl, iteT ?_⟩
      exact ⟨_, rfl, by walk_at "fact", k⟩
theorem hot_m_Ratio_add (T : Txt K mg A) : L2H.FnH P w K mg base CX0 6 A.m_Ratio_add A.fd_m_Ratio_add P_m_Ratio_add (spBin A.Ratio (· + ·)) := by
  refine h_fun T.F_m_Ratio_add sc_m_Ratio_add (fun vs H Q E h => ?_) (fun cdv Ar outer s H vs Q E pp hc hr h => ?_)
  · obtain ⟨v, u, q, r, a, b, rfl, _⟩ := h
    rfl
  · obtain ⟨v, u, q, r, a, b, rfl, ⟨p, dx, rfl, hp⟩, hu, sq, sr, hab, kQ⟩ := h
    refine ⟨_, (pss_cons (ps_asg (h_call (hot_f_halves T) (hr.mono (by decide)) hc (by rfl) T.g_halves T.F_f_halves.kp T.b_f_halves .nil pass0 (pa_cons (pv 1) pa_nil)) (h_tup (n := 2) hc (pgs_cons (pg_name (i := 2) sc_m_Ratio_add.nd rfl (Or.inl rfl)) (pgs_cons (pg_name (i := 3) sc_m_Ratio_add.nd rfl (Or.inl rfl)) pgs_nil))))
      (pss_one (ps_ret (h_make T.mk_Ratio (hot_m_Ratio_init T) (hr.mono (by decide)) hc (by rfl) T.g_Ratio T.b_m_Ratio_init .nil pass0 (pa_cons (pe_op op_add (pe_op op_mulW (pe_fld (pv 0) rfl) (pv 3)) (pe_op op_mulW (pv 2) (pe_fld (pv 0) rfl))) (pa_cons (pe_op op_mulW (pe_fld (pv 0) rfl) (pv 3)) pa_nil)))))), ?_⟩
    refine ⟨_, rfl, u, r, rfl, hu, fun t ht => ?_⟩
    have hp' := Same.new (o := .tup [.int r.num, .int (r.den : Int)]) ht _ _ hp
    refine ⟨t, _, rfl, SqT.of upd_same, rfl, _, _, rfl, _, _, rfl, rfl, ?_⟩
    refine ⟨_, rfl, p, _, dx, _, _, rfl, hp', T.cl_Ratio, T.n_Ratio_top, rf_top _ _, _, rfl, _, _, rfl, rfl, mulw sq.1 sr.2 (by omega), _, rfl, _, rfl, p, _, dx, _, _, rfl, hp', T.cl_Ratio, T.n_Ratio_bottom, rf_bottom _ _, _, _, rfl, rfl, mulw sr.1 sq.2 (by omega), _, _, rfl, rfl, ?_⟩
    refine ⟨_, rfl, p, _, dx, _, _, rfl, hp', T.cl_Ratio, T.n_Ratio_bottom, rf_bottom _ _, _, rfl, _, _, rfl, rfl, mulw sq.2 sr.2 (by omega), fun x dx' hx hd' _ => ?_⟩
    have h1 : (q.den : Int) ≠ 0 := by have := q.den_nz; omega
    have h2 : (r.den : Int) ≠ 0 := by have := r.den_nz; omega
    refine mk_ratio hx hd' (lt_pow (mul_lt sq.2 sr.2) (by omega)) (fun e => absurd e (Int.mul_ne_zero h1 h2)) (fun _ H' s i => ⟨rfl, ?_⟩)
    rw [add_eq] at i
    exact kQ _ H' ((Same.new ht).trans s) i
theorem hot_m_Ratio_sub (T : Txt K mg A) : L2H.FnH P w K mg base CX0 6 A.m_Ratio_sub A.fd_m_Ratio_sub P_m_Ratio_sub (spBin A.Ratio (· - ·)) := by
  refine h_fun T.F_m_Ratio_sub sc_m_Ratio_sub (fun vs H Q E h => ?_) (fun cdv Ar outer s H vs Q E pp hc hr h => ?_)
  · obtain ⟨v, u, q, r, a, b, rfl, _⟩ := h
    rfl
  · obtain ⟨v, u, q, r, a, b, rfl, ⟨p, dx, rfl, hp⟩, hu, sq, sr, hab, kQ⟩ := h
    refine ⟨_, (pss_cons (ps_asg (h_call (hot_f_halves T) (hr.mono (by decide)) hc (by rfl) T.g_halves T.F_f_halves.kp T.b_f_halves .nil pass0 (pa_cons (pv 1) pa_nil)) (h_tup (n := 2) hc (pgs_cons (pg_name (i := 2) sc_m_Ratio_sub.nd rfl (Or.inl rfl)) (pgs_cons (pg_name (i := 3) sc_m_Ratio_sub.nd rfl (Or.inl rfl)) pgs_nil))))
      (pss_one (ps_ret (h_make T.mk_Ratio (hot_m_Ratio_init T) (hr.mono (by decide)) hc (by rfl) T.g_Ratio T.b_m_Ratio_init .nil pass0 (pa_cons (pe_op op_sub (pe_op op_mulW (pe_fld (pv 0) rfl) (pv 3)) (pe_op op_mulW (pv 2) (pe_fld (pv 0) rfl))) (pa_cons (pe_op op_mulW (pe_fld (pv 0) rfl) (pv 3)) pa_nil)))))), ?_⟩
    refine ⟨_, rfl, u, r, rfl, hu, fun t ht => ?_⟩
    have hp' := Same.new (o := .tup [.int r.num, .int (r.den : Int)]) ht _ _ hp
    refine ⟨t, _, rfl, SqT.of upd_same, rfl, _, _, rfl, _, _, rfl, rfl, ?_⟩
    refine ⟨_, rfl, p, _, dx, _, _, rfl, hp', T.cl_Ratio, T.n_Ratio_top, rf_top _ _, _, rfl, _, _, rfl, rfl, mulw sq.1 sr.2 (by omega), _, rfl, _, rfl, p, _, dx, _, _, rfl, hp', T.cl_Ratio, T.n_Ratio_bottom, rf_bottom _ _, _, _, rfl, rfl, mulw sr.1 sq.2 (by omega), _, _, rfl, rfl, ?_⟩
    refine ⟨_, rfl, p, _, dx, _, _, rfl, hp', T.cl_Ratio, T.n_Ratio_bottom, rf_bottom _ _, _, rfl, _, _, rfl, rfl, mulw sq.2 sr.2 (by omega), fun x dx' hx hd' _ => ?_⟩
    have h1 : (q.den : Int) ≠ 0 := by have := q.den_nz; omega
    have h2 : (r.den : Int) ≠ 0 := by have := r.den_nz; omega
    refine mk_ratio hx hd' (lt_pow (mul_lt sq.2 sr.2) (by omega)) (fun e => absurd e (Int.mul_ne_zero h1 h2)) (fun _ H' s i => ⟨rfl, ?_⟩)
    rw [sub_eq] at i
    exact kQ _ H' ((Same.new ht).trans s) i
theorem hot_m_Ratio_neg (T : Txt K mg A) : L2H.FnH P w K mg base CX0 6 A.m_Ratio_neg A.fd_m_Ratio_neg P_m_Ratio_neg (spUn A.Ratio (- ·)) := by
  refine h_fun T.F_m_Ratio_neg sc_m_Ratio_neg (fun vs H Q E h => ?_) (fun cdv Ar outer s H vs Q E pp hc hr h => ?_)
  · obtain ⟨v, q, a, rfl, _⟩ := h
    rfl
  · obtain ⟨v, q, a, rfl, ⟨p, dx, rfl, hp⟩, sq, ha, kQ⟩ := h
    refine ⟨_, (pss_one (ps_ret (h_make T.mk_Ratio (hot_m_Ratio_init T) (hr.mono (by decide)) hc (by rfl) T.g_Ratio T.b_m_Ratio_init .nil pass0 (pa_cons (pe_un un_neg (pe_fld (pv 0) rfl)) (pa_cons (pe_fld (pv 0) rfl) pa_nil))))), ?_⟩
    refine ⟨_, rfl, p, _, dx, _, _, rfl, hp, T.cl_Ratio, T.n_Ratio_top, rf_top _ _, _, rfl, _, rfl, p, _, dx, _, _, rfl, hp, T.cl_Ratio, T.n_Ratio_bottom, rf_bottom _ _, fun x dx' hx hd' _ => ?_⟩
    have h1 : (q.den : Int) ≠ 0 := by have := q.den_nz; omega
    refine mk_ratio hx hd' (lt_pow (a := a) sq.2 (by omega)) (fun e => absurd e h1) (fun _ H' s i => ⟨rfl, ?_⟩)
    rw [neg_eq] at i
    exact kQ _ H' s i
theorem hot_m_Ratio_rsub (T : Txt K mg A) : L2H.FnH P w K mg base CX0 10 A.m_Ratio_rsub A.fd_m_Ratio_rsub P_m_Ratio_rsub (spBin A.Ratio fun q r => -q + r) := by
  refine h_fun T.F_m_Ratio_rsub sc_m_Ratio_rsub (fun vs H Q E h => ?_) (fun cdv Ar outer s H vs Q E pp hc hr h => ?_)
  · obtain ⟨v, u, q, r, a, b, rfl, _⟩ := h
    rfl
  · obtain ⟨v, u, q, r, a, b, rfl, hv, hu, sq, sr, hab, kQ⟩ := h
    refine ⟨_, (pss_one (ps_ret (pe_op (h_own (E := E0) rfl (oo_add T) (hot_m_Ratio_add T) (hr.mono (by decide)) hc T.b_m_Ratio_add pass0) (pe_un (h_un (E := E0) T.m_Ratio___neg__.at_ T.m_Ratio___neg__.fn (hot_m_Ratio_neg T) (hr.mono (by decide)) hc T.b_m_Ratio_neg pass0) (pv 0)) (pv 1)))), ?_⟩
    refine ⟨_, rfl, r_un hv sq (by omega) fun v1 H1 s1 i1 => ?_⟩
    exact ⟨_, rfl, r_own i1 (hu.same s1) sq.neg sr hab fun v' H' s' i' => kQ v' H' (s1.trans s') i'⟩
theorem hot_m_Ratio_same (T : Txt K mg A) : L2H.FnH P w K mg base CX0 2 A.m_Ratio_same A.fd_m_Ratio_same P_m_Ratio_same (spCmp A.Ratio fun q r => decide (q = r)) := by
  refine h_fun T.F_m_Ratio_same sc_m_Ratio_same (fun vs H Q E h => ?_) (fun cdv Ar outer s H vs Q E pp hc hr h => ?_)
  · obtain ⟨v, u, q, r, a, b, rfl, _⟩ := h
    rfl
  · obtain ⟨v, u, q, r, a, b, rfl, ⟨p, dx, rfl, hp⟩, hu, sq, sr, hab, kQ⟩ := h
    refine ⟨_, (pss_one (ps_ret (pe_cmpR (op_eqD hr.units) (h_call (hot_f_halves T) (hr.mono (by decide)) hc (by rfl) T.g_halves T.F_f_halves.kp T.b_f_halves .nil pass0 (pa_cons (pv 1) pa_nil)) (pe_tup (pa_cons (pe_fld (pv 0) rfl) (pa_cons (pe_fld (pv 0) rfl) pa_nil))) (nomark _)))), ?_⟩
    refine ⟨_, rfl, u, r, rfl, hu, fun t ht => ?_⟩
    have hp' := Same.new (o := .tup [.int r.num, .int (r.den : Int)]) ht _ _ hp
    refine ⟨_, rfl, p, _, dx, _, _, rfl, hp', T.cl_Ratio, T.n_Ratio_top, rf_top _ _, _, rfl, p, _, dx, _, _, rfl, hp', T.cl_Ratio, T.n_Ratio_bottom, rf_bottom _ _, by walk_at "fact", fun t2 ht2 => ?_⟩
    refine eqD_pair (q := r) (r := q) (Same.new ht2 _ _ upd_same) upd_same ?_
    have e : decide (q = r) = decide (r = q) := by
      rw [decide_eq_decide]
      exact eq_comm
    rw [← e]
    exact kQ _ ((Same.new ht).trans (Same.new ht2))
theorem hot_l_total (T : Txt K mg A) : L2H.FnH P w K mg base CX0 10 A.l_total A.fd_l_total P_l_total (spTotal A.Ratio) := by
  refine h_fun T.F_l_total sc_l_total (fun vs H Q E h => ?_) (fun cdv Ar outer s H vs Q E pp hc hr h => ?_)
  · obtain ⟨q, ls, b, rfl, _⟩ := h
    rfl
  · obtain ⟨q, ls, b, rfl, hL, sL, hlen, hbits, k⟩ := h
    refine ⟨_, (pss_cons (ps_set (i := 1) sc_l_total.nd rfl (Or.inl rfl) (h_make T.mk_Ratio (hot_m_Ratio_init T) (hr.mono (by decide)) hc (by rfl) T.g_Ratio T.b_m_Ratio_init_d1 T.dv_m_Ratio_init pass0 (pa_cons pe_int pa_nil)))
      (pss_cons (ps_g (L2H.ps_forH PassesOwn.never hc (h_list (pv 0)) (h_tup (n := 2) hc (pgs_cons (pg_name (i := 2) sc_l_total.nd rfl (Or.inl rfl)) (pgs_cons (pg_name (i := 3) sc_l_total.nd rfl (Or.inl rfl)) pgs_nil))) (pss_one (ps_set (i := 1) sc_l_total.nd rfl (Or.inl rfl) (pe_op (h_own (E := E0) rfl (oo_add T) (hot_m_Ratio_add T) (hr.mono (by decide)) hc T.b_m_Ratio_add pass0) (pv 1) (pv 3))))))
      (pss_one (ps_ret (pv 1))))), ?_⟩
    obtain ⟨xs, hl, hA⟩ := hL
    intro x dx hx hd _
    refine mk_ratio hx hd (lt_pow (a := 1) (by decide) (by decide)) (fun e => by cases e) (fun _ H1 s1 i1 => ⟨rfl, ?_⟩)
    have e0 : Rat.divInt 0 1 = (0 : Rat) := by decide +kernel
    rw [e0] at i1
    have hl1 := s1 _ _ hl
    refine ⟨⟨_, rfl, q, rfl, ⟨_, SqL.of hl1⟩, for_list (K := K) (a := q) (xs := xs) (fun i σ' H' => Wd (∃ (v : V) (o2 o3 : Option V), σ' = [some (.ref q), some v, o2, o3] ∧ Same H H' ∧ IsR A.Ratio H' v (tot (ls.take i)) ∧ Sz (1 + i * (b + 1)) (tot (ls.take i))))
      ⟨_, none, none, rfl, s1, i1, ?_⟩ (fun i σ' H' _ ⟨_, _, _, _, s, _⟩ => SqL.of (s _ _ hl)) ?_ ?_⟩⟩
    · show Sz _ (0 : Rat)
      rw [Nat.zero_mul]
      exact ⟨by decide, by decide⟩
    · rintro i y σ' H' hi ⟨v, o2, o3, rfl, s, iv, sz⟩
      obtain ⟨⟨lot, a⟩, hli, hlay⟩ := hA.get hi
      have sza : Sz b a := sL _ (List.mem_of_getElem? hli)
      have hil : i < ls.length := (List.getElem?_eq_some_iff.mp hli).1
      obtain ⟨t, av, rfl, ht, hav⟩ := hlay
      have hav' := hav.same s
      have ht' := s _ _ ht
      have hm : 1 + i * (b + 1) + b ≤ 8990 := by
        have : i * (b + 1) ≤ ls.length * (b + 1) := Nat.mul_le_mul_right _ (by omega)
        have h2 : (ls.length + 1) * (b + 1) = ls.length * (b + 1) + (b + 1) := by rw [Nat.add_mul, Nat.one_mul]
        omega
      have hst : tot (ls.take (i + 1)) = tot (ls.take i) + a := by
        unfold tot rsum
        rw [take_more hli, List.map_append, List.foldl_append]
        rfl
      rw [hst]
      walk_at "go"
      refine r_own iv (.inl hav') sz sza hm fun v' H2 s2 i2 => ?_
      refine ⟨v', _, _, rfl, s.trans s2, i2, ?_⟩
      have e : 1 + (i + 1) * (b + 1) = 1 + i * (b + 1) + b + 1 := by rw [Nat.add_mul, Nat.one_mul]; omega
      rw [e]
      exact sz.add sza
    · rintro σ' H' ⟨v, o2, o3, rfl, s, iv, sz⟩
      rw [hA.1, List.take_length] at iv
      exact ⟨_, rfl, k v H' s iv⟩
theorem okn_f_check_units (T : Txt K mg A) : FnOk P w K mg base (L2N.CX P w) 14 A.f_check_units A.fd_f_check_units P_f_check_units (spCheck A.Ratio A.Short) := by
  refine n_fun T.F_f_check_units sc_f_check_units (fun vs H Q E h => ?_) (fun cdv Ar outer s H vs Q E hr h => ?_)
  · obtain ⟨q, v, ls, r, b, u, rfl, _⟩ := h
    rfl
  · obtain ⟨q, v, ls, r, b, u, rfl, hL, hv, sL, sr, hlen, hbits, k1, k2⟩ := h
    refine ⟨_, (pss_cons (ps_set (i := 2) sc_f_check_units.nd rfl (Or.inl rfl) (pe_call (ok_f_units_in T) (hr.mono (by decide)) (by rfl) T.g_units_in T.F_f_units_in.kp T.b_f_units_in .nil pass0 (pa_cons (pv 0) pa_nil)))
      (pss_one (ps_if (pt_val (pe_meth (pv 2) T.cl_Ratio T.m_Ratio_less (ok_m_Ratio_less T) (hr.mono (by decide)) T.b_m_Ratio_less .nil pass0 (pa_cons (pv 1) pa_nil))) (pss_one (L2N.ps_raise rfl (L2N.takes_of rfl rfl rfl rfl) (n_oex T.ox_Short T.oi_Short T.ot_Short (ok_m_Short_init T) (hr.mono (by decide)) T.b_m_Short_init .nil pass0 (by rfl) T.g_Short (pa_cons (pe_op (op_mix (op_own (E := E0) rfl (oo_sub T) (ok_m_Ratio_sub T) (hr.mono (by decide)) T.b_m_Ratio_sub pass0) (op_rown (E := E0) rfl (oo_sub T) PySem.F.fills_int_sub PySem.F.slot_int_sub PySem.F.entry_int_sub PySem.F.args_int_sub_2 rfl (ok_m_Ratio_rsub T) (hr.mono (by decide)) T.b_m_Ratio_rsub pass0)) (pv 1) (pv 2)) pa_nil)))) pss_nil))), ?_⟩
    have bm : (ls.length + 2) * (b + 1) = ls.length * (b + 1) + 2 * (b + 1) := Nat.add_mul _ _ _
    have bm1 : (ls.length + 1) * (b + 1) = ls.length * (b + 1) + (b + 1) := by rw [Nat.add_mul, Nat.one_mul]
    refine ⟨_, rfl, q, ls, b, rfl, hL, sL, hlen, by omega, fun tv H1 s1 it => ?_⟩
    obtain ⟨tp, tdx, rfl, htp⟩ := id it
    have szt := tot_sz sL
    refine ⟨_, rfl, tp, tdx, _, rfl, htp, rf_no _ _ (by decide +kernel) (by decide +kernel), _, rfl, _, _, tot ls, r, _, u, rfl, it, hv.same s1, szt, sr, by omega, fun H2 s2 => ⟨_, rfl, if_dec (fun e => ?_) (fun e => k1 e H2 (s1.trans s2))⟩⟩
    have fin : ∀ (nv : V) (H3 : Hp), Same H2 H3 → IsR A.Ratio H3 nv (r - tot ls) → [nv].length ≤ 1000 ∧ ∀ a, H3 a = none → _ := fun nv H3 s3 inv => ⟨(by show 1 ≤ 1000; decide), fun a ha => mk_excF (C := A.Short) (n := 1) (fs := fs_Short) (H := H3) (ws := [nv]) (Q := E) (fun x H' s' _ hx => k2 e x nv H' (s1.trans (s2.trans (s3.trans s'))) hx (inv.same s')) ha⟩
    refine ⟨_, rfl, _, rfl, ?_⟩
    rcases (hv.same s1).same s2 with h | ⟨m, rfl, em⟩
    · exact ⟨.inl (r_own h (.inl (it.same s2)) sr szt (by omega) fun nv H3 s3 i3 => fin nv H3 s3 i3)⟩
    · refine ⟨.inr (r_rown (it.same s2) szt (b := u) (by rw [← em]; exact sr) (by omega) fun nv H3 s3 i3 => fin nv H3 s3 ?_)⟩
      rw [em, Rat.sub_eq_add_neg, Rat.add_comm]
      exact i3
theorem okn_m_Rule_returned (T : Txt K mg A) : FnOk P w K mg base (L2N.CX P w) 16 A.m_Rule_returned A.fd_m_Rule_returned P_m_Rule_returned (spReturned A.Ratio A.Rule A.Short) := by
  refine n_fun T.F_m_Rule_returned sc_m_Rule_returned (fun vs H Q E h => ?_) (fun cdv Ar outer s H vs Q E hr h => ?_)
  · obtain ⟨x, q, v, ru, ls, r, rfl, _⟩ := h
    rfl
  · obtain ⟨x, q, v, ru, ls, r, rfl, hx, hL, hv, sL, sr, hlen, hr0, k1, k2⟩ := h
    obtain ⟨dx, ex⟩ := hx
    refine ⟨_, (pss_cons (ps_expr (pe_call (okn_f_check_units T) (hr.mono (by decide)) (by rfl) T.g_check_units T.F_f_check_units.kp T.b_f_check_units .nil (E := E) (L2N.passes_call (L2N.takes_of rfl rfl rfl rfl) (fun _ _ _ _ h => h)) (pa_cons (pv 1) (pa_cons (pv 2) pa_nil))))
      (pss_cons (ps_if (pt_cmpR op_eq (pe_fld (pv 0) rfl) pe_str (nomark _)) (pss_cons (ps_set (i := 3) sc_m_Rule_returned.nd rfl (Or.inl rfl) (pe_meth (pe_smeth (pe_glob (v := .ref A.Ratio) (by rfl) T.g_Ratio rfl) T.sm_Ratio_sum_of (ok_m_Ratio_sum_of T) (hr.mono (by decide)) T.b_m_Ratio_sum_of pass0 (pa_cons (pe_lst (pa_cons (pv 2) pa_nil)) pa_nil)) T.cl_Ratio T.m_Ratio_over (ok_m_Ratio_over T) (hr.mono (by decide)) T.b_m_Ratio_over .nil passL (pa_cons (pe_call (ok_f_units_in T) (hr.mono (by decide)) (by rfl) T.g_units_in T.F_f_units_in.kp T.b_f_units_in .nil pass0 (pa_cons (pv 1) pa_nil)) pa_nil)))
      (pss_one (ps_ret (pe_tup (pa_cons (pe_call (ok_f_shared T) (hr.mono (by decide)) (by rfl) T.g_shared T.F_f_shared.kp T.b_f_shared .nil pass0 (pa_cons (pe_revL (pv 1)) (pa_cons (pv 3) pa_nil))) (pa_cons (pe_call (ok_f_shared T) (hr.mono (by decide)) (by rfl) T.g_shared T.F_f_shared.kp T.b_f_shared .nil pass0 (pa_cons (pv 1) (pa_cons (pe_op (op_rown (E := E0) rfl (oo_sub T) PySem.F.fills_int_sub PySem.F.slot_int_sub PySem.F.entry_int_sub PySem.F.args_int_sub_2 rfl (ok_m_Ratio_rsub T) (hr.mono (by decide)) T.b_m_Ratio_rsub pass0) pe_int (pv 3)) pa_nil))) pa_nil)))))) pss_nil)
      (pss_cons (ps_asg (pe_call (ok_f_cut T) (hr.mono (by decide)) (by rfl) T.g_cut T.F_f_cut.kp T.b_f_cut .nil pass0 (pa_cons (pe_revL (pv 1)) (pa_cons (pv 2) pa_nil))) (pg_tup (n := 2) rfl (pgs_cons (pg_name (i := 4) sc_m_Rule_returned.nd rfl (Or.inl rfl)) (pgs_cons (pg_name (i := 5) sc_m_Rule_returned.nd rfl (Or.inl rfl)) pgs_nil))))
      (pss_one (ps_ret (pe_tup (pa_cons (pv 4) (pa_cons (pe_revL (pv 5)) pa_nil)))))))), ?_⟩
    have b1 : (ls.length + 2) * (100 + 1) ≤ 1414 := by omega
    walk_at "go"
    refine ⟨fun e H1 s1 => ?_, k2⟩
    have h0 : 0 < tot ls := by grind
    have szt : Sz 1213 (tot ls) := (tot_sz sL).mono (by omega)
    have lr : ls.reverse.length = ls.length := List.length_reverse
    refine ⟨_, rfl, x, _, dx, _, _, rfl, s1 _ _ ex, T.cl_Rule, T.n_Rule_take, rl_take _ _ _, ?_⟩
    refine ⟨rfl, _, rfl, if_dec (fun e1 => ?_) (fun e1 => ?_)⟩
    · have et : ru.t = "even" := by injection e1
      have eT : backF ru.t ls r = (sharedF ls.reverse (r / tot ls), sharedF ls (1 - r / tot ls)) := if_pos et
      rw [eT] at k1
      have hz : tot ls ≠ 0 := by grind
      walk_at "go"
      intro l hl
      refine ⟨l, [v], [r], 200, rfl, upd_same, rfl, fun i x' q' hx' hq' => ?_, by show 1 + 2 * 201 ≤ 8990; decide, fun sv H2 s2 is => ?_⟩
      · match i, hx', hq' with
        | 0, e1, e2 =>
          cases e1
          cases e2
          exact ⟨(hv.same s1).same (Same.new hl), sr⟩
      · rw [rsum_one] at is
        have sA := s1.trans ((Same.new hl).trans s2)
        obtain ⟨tp, tdx, rfl, htp⟩ := id is
        refine ⟨tp, tdx, _, rfl, htp, rf_no _ _ (by decide +kernel) (by decide +kernel), _, rfl, q, ls, 100, rfl, hL.same sA, sL, by omega, by omega, fun tv H3 s3 it => ?_⟩
        refine ⟨_, _, r, tot ls, 200, 1213, rfl, is.same s3, .inl it, sr, szt, by decide, fun z => absurd z hz, fun _ hv H4 s4 ih => ?_⟩
        have sq : Sz 1413 (r / tot ls) := sr.quot szt hz
        have sB := sA.trans (s3.trans s4)
        obtain ⟨xs, hq, hA⟩ := hL.same sB
        walk_at "go"
        intro p0 hp0
        have sR := Same.new (o := .lst xs.reverse) hp0
        refine ⟨_, rfl, p0, _, ls.reverse, _, 100, 1413, rfl, LayAt.rev hA hp0, ih.same sR, sL.rev, sq, by omega, by decide, fun pa H5 s5 na hPa za => ?_⟩
        have s5' := sR.trans s5
        walk_at "go"
        refine r_rown (ih.same s5') sq (b := 2) ⟨by decide, by decide⟩ (by omega) fun nv H6 s6 i6 => ?_
        rw [Rat.add_comm, ← Rat.sub_eq_add_neg] at i6
        have sO : Sz 1416 (((1 : Int) : Rat) - r / tot ls) := Sz.sub (a := 2) ⟨by decide, by decide⟩ sq
        have e1 : ((1 : Int) : Rat) = 1 := rfl
        rw [e1] at i6 sO
        refine ⟨q, _, ls, _, 100, 1416, rfl, (hL.same sB).same (s5'.trans s6), i6, sL, sO, by omega, by decide, fun pb H7 s7 nb hB zb => ?_⟩
        walk_at "go"
        intro p3 h3
        have sM := Same.new (o := .tup [.ref pa, .ref pb]) h3
        have sC := s5'.trans s6
        exact k1 e p3 pa pb _ (sB.trans (sC.trans (s7.trans sM))) upd_same (((hPa.same s6).same s7).same sM) (hB.same sM) ((hPa.same s6).ne nb) (Same.none sB (Same.none sR na)) (Same.none sB (Same.none sC nb))
    · have et : ¬ ru.t = "even" := fun z => e1 (by rw [z])
      have eT : backF ru.t ls r = ((cutF ls.reverse r).1, (cutF ls.reverse r).2.1.reverse) := if_neg et
      rw [eT] at k1
      obtain ⟨xs, hq, hA⟩ := hL.same s1
      refine ⟨_, rfl, q, xs, rfl, .inl (.inl hq), fun p0 hp0 => ?_⟩
      refine ⟨_, rfl, p0, v, ls.reverse, r, 100, 200, rfl, LayAt.rev hA hp0, (hv.same s1).same (Same.new hp0), sL.rev, sr, by omega, by omega, fun p qt ql H2 s2 hp ht hl nq z1 z2 n1 n2 => ?_⟩
      obtain ⟨ys, hql, hB⟩ := id hl
      walk_at "go"
      intro p4 h4
      have sN := Same.new (o := .lst ys.reverse) h4
      walk_at "go"
      intro p3 h3
      have sM := Same.new (o := .tup [.ref qt, .ref p4]) h3
      have sP := (Same.new hp0).trans s2
      exact k1 e p3 qt p4 _ (s1.trans (sP.trans (sN.trans sM))) upd_same ((ht.same sN).same sM) ((LayAt.rev hB h4).same sM) (ht.ne h4) (Same.none s1 (Same.none (Same.new hp0) n1)) (Same.none s1 (Same.none sP h4))
end

def spShort (C CR : Addr) : Sp := fun vs H Q _ => ∃ (x q : Addr) (v : V) (ru : Ru) (ls : List Ly) (r : Rat), vs = [.ref x, .ref q, v] ∧ IsRu CR H x ru ∧ LayAt C H q ls ∧ IsN C H v r ∧ SzL 20 ls ∧ Sz 200 r ∧ ls.length ≤ 8 ∧ 0 < r ∧ tot ls < r ∧
  ∀ H', Same H H' → Q (.bl true) H'
section
variable {P : Program} {w : World} {K : PySem.W.Frag} {mg : Str → Option Value} {base : Heap} {A : Ad}
theorem xf_Short (T : Txt K mg A) : XfC K A.Short := ⟨T.xg_Short, T.xk_Short, T.eb_Short, T.eh_Short⟩
theorem excC_Short (T : Txt K mg A) : ExcC K A.Short := ⟨T.xg_Short, T.xk_Short, T.eb_Short, T.eh_Short, T.xa_Short, T.xn_Short, T.xt_Short, T.xm_Short⟩
theorem exm_Short (T : Txt K mg A) : PySem.W.exmOne K (.ref A.Short) (.ref A.Short) = some true := PySem.W.exm_ref T.eb_Short T.eh_Short T.et_Short T.es_Short
theorem ok_l_short (T : Txt K mg A) : FnOk P w K mg base CX0 18 A.l_short A.fd_l_short P_l_short (spShort A.Ratio A.Rule) := by
  refine T.F_l_short.ok sc_l_short (fun vs H Q E h => ?_) (fun cdv Ar outer s H vs Q E hr h => ?_)
  · obtain ⟨x, q, v, ru, ls, r, rfl, _⟩ := h
    rfl
  · obtain ⟨x, q, v, ru, ls, r, rfl, hx, hL, hv, sL, sr, hlen, hr0, hlt, k⟩ := h
    refine ⟨_, (pss_cons (n_try (i := 3) rfl rfl sc_l_short.nd rfl rfl ⟨by rfl, by decide, .inl T.g_Short⟩ n_takes0 (fun W pn xe tk _ => (pss_one (ps_expr (pe_methA (pv 0) T.cl_Rule T.m_Rule_returned (okn_m_Rule_returned T) (hr.mono (by decide)) T.b_m_Rule_returned (fun σ => L2N.passAt tk σ) (pa_cons (pv 1) (pa_cons (pv 2) pa_nil)))))) (fun a oe cls d pn hz hf hc => (pss_one (ps_ret (pe_and (pe_callB (call_isEW hz hf) (by rfl) T.z_isinstance (by decide +kernel) (pa_cons (pv 3) (pa_cons (pe_glob (v := .ref A.CostError) (by rfl) T.g_CostError rfl) pa_nil))) (pe_one (h_meth (pe_xf (xf_Short T) T.n_Short_missing hz hf (pv 3)) T.cl_Ratio T.m_Ratio_same (hot_m_Ratio_same T) (roomH_mark hr (by decide)) hc T.b_m_Ratio_same .nil pass0 (pa_cons (pe_op (op_mix (h_own (E := E0) rfl (oo_sub T) (hot_m_Ratio_sub T) (roomH_mark hr (by decide)) hc T.b_m_Ratio_sub pass0) (h_rown (E := E0) rfl (oo_sub T) PySem.F.fills_int_sub PySem.F.slot_int_sub PySem.F.entry_int_sub PySem.F.args_int_sub_2 rfl (hot_m_Ratio_rsub T) (roomH_mark hr (by decide)) hc T.b_m_Ratio_rsub pass0)) (pv 2) (h_call (hot_l_total T) (roomH_mark hr (by decide)) hc (by rfl) T.g__law_total T.F_l_total.kp T.b_l_total .nil pass0 (pa_cons (pv 1) pa_nil))) pa_nil))))))) (fun _ _ _ => rfl) (fun _ _ _ _ _ => rfl))
      (pss_one (ps_ret pe_bl))), ?_⟩
    obtain ⟨dx, ex⟩ := id hx
    refine ⟨_, rfl, x, dx, _, rfl, ex, rl_no _ _ _ (by decide +kernel) (by decide +kernel) (by decide +kernel), _, rfl, _, rfl, x, q, v, ru, ls, r, rfl, hx, hL, hv, sL.mono (by decide), sr, by omega, hr0, fun z => absurd hlt z, fun _ d mv H1 s1 hd iv => ?_⟩
    refine ⟨true, exm_Short T, fun _ a _ => ?_, fun z => nomatch z⟩
    have e3 : ∀ {i : Nat} {y : Option V}, i ≠ 3 → [some (V.ref x), some (.ref q), some v, none][i]? = some y → (List.set (L2.start N_l_short [V.ref x, V.ref q, v]) 3 (some (V.ref a)))[i]? = some y := fun h1 h2 => by
      rw [List.getElem?_set_ne (Ne.symm h1)]
      exact h2
    have e := List.getElem?_set_self (l := L2.start N_l_short [V.ref x, V.ref q, v]) (a := some (V.ref a)) (i := 3) (Nat.le_of_ble_eq_true rfl)
    have szt : Sz 169 (tot ls) := (tot_sz sL).mono (by omega)
    obtain ⟨mp, mdx, rfl, hmp⟩ := id iv
    refine ⟨_, e, A.Short, d, _, _, _, _, rfl, rfl, hd, excC_Short T, rfl, fun _ r => r, T.xc_Short, true, rfl, iteT ?_⟩
    refine ⟨_, e, rfl, rfl, d, _, _, rfl, hd, (by rw [L2.lookup_put, if_pos rfl]), mp, mdx, _, rfl, hmp, rf_no _ _ (by decide +kernel) (by decide +kernel), ?_⟩
    refine ⟨_, e3 (by decide) rfl, _, e3 (by decide) rfl, q, ls, 20, rfl, hL.same s1, sL, by omega, by omega, fun tv H2 s2 it => ?_⟩
    have fin : ∀ (nv : V) (H3 : Hp), Same H2 H3 → IsR A.Ratio H3 nv (r - tot ls) → spCmp A.Ratio (fun q r => decide (q = r)) [.ref mp, nv] H3 Q E0 := fun nv H3 s3 inv => by
      refine ⟨_, _, _, _, 370, 370, rfl, (iv.same s2).same s3, .inl inv, (Sz.sub sr szt).mono (by decide), (Sz.sub sr szt).mono (by decide), by decide, fun H4 s4 => ?_⟩
      show Q (.bl (decide (r - tot ls = r - tot ls))) H4
      rw [decide_eq_true rfl]
      exact k H4 (s1.trans (s2.trans (s3.trans s4)))
    rcases (hv.same s1).same s2 with h | ⟨m, rfl, em⟩
    · exact ⟨.inl (r_own h (.inl it) sr szt (by omega) fun nv H3 s3 i3 => fin nv H3 s3 i3)⟩
    · refine ⟨.inr (r_rown it szt (b := 200) (by rw [← em]; exact sr) (by omega) fun nv H3 s3 i3 => fin nv H3 s3 ?_)⟩
      rw [em, Rat.sub_eq_add_neg, Rat.add_comm]
      exact i3
end

def spPSame (C : Addr) : Sp := fun vs H Q _ => ∃ (p q : Addr) (ls : List Ly) (b : Nat), vs = [.ref p, .ref q] ∧ LayAt C H p ls ∧ LayAt C H q ls ∧ SzL b ls ∧ ls.length ≤ 100 ∧ b ≤ 4400 ∧ ∀ H', Same H H' → Q (.bl true) H'
section
variable {P : Program} {w : World} {K : PySem.W.Frag} {mg : Str → Option Value} {base : Heap} {A : Ad}
theorem ok_l_parts_same (T : Txt K mg A) : FnOk P w K mg base CX0 3 A.l_parts_same A.fd_l_parts_same P_l_parts_same (spPSame A.Ratio) := by
  refine T.F_l_parts_same.ok sc_l_parts_same (fun vs H Q E h => ?_) (fun cdv Ar outer s H vs Q E hr h => ?_)
  · obtain ⟨p, q, ls, b, rfl, _⟩ := h
    rfl
  · obtain ⟨p, q, ls, b, rfl, hp, hq, sL, hlen, hb, k⟩ := h
    refine ⟨_, (pss_cons (ps_if (pt_not (pt_val (pe_callB (cr_all rfl) (by rfl) T.z_all (by decide +kernel) (pa_cons (pe_g (pe_lcV (own := [("_law_part_here", 2)]) rfl sc_l_parts_same.nd (pi_list (pv 0)) (blkOk_by (own := [("_law_part_here", 2)]) (N := N_l_parts_same) (sc := defScope s_l_parts_same) (by decide +kernel)) (fun _ _ _ _ _ => (pg_name (i := 2) sc_l_parts_same.nd rfl (Or.inl rfl))) (fun _ _ _ _ _ => pts_nil) (fun _ _ _ _ _ => (pe_and (pe_callB call_isi (by rfl) T.z_isinstance (by decide +kernel) (pa_cons (pv 2) (pa_cons (pe_bltn (v := .ty "tuple") (by rfl) T.z_tuple (by decide +kernel) rfl) pa_nil))) (pe_one (pe_cmpR op_eq (pe_callB call_len_seq (by rfl) T.z_len (by decide +kernel) (pa_cons (pv 2) pa_nil)) pe_int (nomark _))))) (fun _ _ _ _ _ => rfl) (fun _ _ _ _ _ => rfl) (fun _ _ _ _ _ => rfl))) pa_nil)))) (pss_one (ps_ret pe_bl)) pss_nil)
      (pss_cons (ps_if (pt_cmpR (op_neL hr.units) (pe_g (pe_lcV (own := [("_law_part_here", 2)]) rfl sc_l_parts_same.nd (pi_list (pv 0)) (blkOk_by (own := [("_law_part_here", 2)]) (N := N_l_parts_same) (sc := defScope s_l_parts_same) (by decide +kernel)) (fun _ _ _ _ _ => (pg_name (i := 2) sc_l_parts_same.nd rfl (Or.inl rfl))) (fun _ _ _ _ _ => pts_nil) (fun _ _ _ _ _ => (pe_ix ix_tup (pv 2) pe_int (fun _ _ => rfl))) (fun _ _ _ _ _ => rfl) (fun _ _ _ _ _ => rfl) (fun _ _ _ _ _ => rfl))) (pe_g (pe_lcV (own := [("_law_part_here", 2)]) rfl sc_l_parts_same.nd (pi_list (pv 1)) (blkOk_by (own := [("_law_part_here", 2)]) (N := N_l_parts_same) (sc := defScope s_l_parts_same) (by decide +kernel)) (fun _ _ _ _ _ => (pg_name (i := 2) sc_l_parts_same.nd rfl (Or.inl rfl))) (fun _ _ _ _ _ => pts_nil) (fun _ _ _ _ _ => (pe_ix ix_tup (pv 2) pe_int (fun _ _ => rfl))) (fun _ _ _ _ _ => rfl) (fun _ _ _ _ _ => rfl) (fun _ _ _ _ _ => rfl))) (nomark _)) (pss_one (ps_ret pe_bl)) pss_nil)
      (pss_one (ps_ret (pe_callB (cr_all rfl) (by rfl) T.z_all (by decide +kernel) (pa_cons (pe_g (pe_lcV (own := [("_law_k", 3)]) rfl sc_l_parts_same.nd (pi_range1 rfl T.z_range (pa_cons (pe_callB call_len_seq (by rfl) T.z_len (by decide +kernel) (pa_cons (pv 1) pa_nil)) pa_nil)) (blkOk_by (own := [("_law_k", 3)]) (N := N_l_parts_same) (sc := defScope s_l_parts_same) (by decide +kernel)) (fun _ _ _ _ _ => (pg_name (i := 3) sc_l_parts_same.nd rfl (Or.inl rfl))) (fun _ _ _ _ _ => pts_nil) (fun _ _ _ _ _ => (pe_meth (pe_ix ix_tup (pe_ix ix_list (pv 0) (pv 3) (fun _ _ => rfl)) pe_int (fun _ _ => rfl)) T.cl_Ratio T.m_Ratio_same (ok_m_Ratio_same T) (hr.mono (by decide)) T.b_m_Ratio_same .nil pass0 (pa_cons (pe_ix ix_tup (pe_ix ix_list (pv 1) (pv 3) (fun _ _ => rfl)) pe_int (fun _ _ => rfl)) pa_nil))) (fun _ _ _ _ _ => rfl) (fun _ _ _ _ _ => rfl) (fun _ _ _ _ _ => rfl))) pa_nil)))))), ?_⟩
    obtain ⟨xs, hpx, hx⟩ := id hp
    obtain ⟨ys, hqy, hy⟩ := id hq
    have hxl : xs.length ≤ 1000 := by rw [hx.1]; omega
    have hyl : ys.length ≤ 1000 := by rw [hy.1]; omega
    have eall : ∀ n : Nat, (((List.range n).map fun _ => true).all id) = true := fun n => by
      rw [List.all_eq_true]
      intro b hb
      obtain ⟨_, _, rfl⟩ := List.mem_map.mp hb
      rfl
    refine ⟨⟨_, rfl, p, rfl, ⟨_, SqL.of hpx⟩, fun D hD => lc_same (K := K) (fun _ => V.bl true) hpx hxl hD ?_ ?_⟩⟩
    · intro i x H' N M hi s' hN
      obtain ⟨l, hli, t, av, rfl, ht, hav⟩ := hx.get hi
      have ht' := s' _ _ ht
      refine ⟨rfl, _, rfl, _, _, _, _, _, rfl, .ty "tuple", .base (.tup ht'), kit_ty (b := "tuple") (r := true) (by decide +kernel), true, rfl, iteT ?_⟩
      refine ⟨_, rfl, t, _, rfl, .inr (SqT.of ht'), ?_⟩
      walk_at "go"
      exact hN H' (Same.refl _)
    · intro H2 s2 hD2
      refine ⟨D, (List.range xs.length).map fun _ => true, rfl, by rw [List.map_map]; exact SqL.of hD2, _, rfl, ?_⟩
      rw [eall]
      refine iteF ?_
      have hp2 := s2 _ _ hpx
      have hq2 := s2 _ _ hqy
      have hx2 : All2 (Lay A.Ratio H2) xs ls := hx.mono fun _ _ h => h.same s2
      have hy2 : All2 (Lay A.Ratio H2) ys ls := hy.mono fun _ _ h => h.same s2
      refine ⟨⟨_, rfl, p, rfl, ⟨_, SqL.of hp2⟩, fun D1 hD1 => lc_same (K := K) (fun i => V.str (ls.getD i ("", 0)).1) hp2 hxl hD1 ?_ ?_⟩⟩
      · intro i x H' N M hi s' hN
        obtain ⟨l, hli, t, av, rfl, ht, hav⟩ := hx2.get hi
        have ht' := s' _ _ ht
        have eg : (ls.getD i ("", 0)).1 = l.1 := by rw [List.getD_eq_getElem?_getD, hli]; rfl
        rw [eg] at hN
        refine ⟨rfl, ?_⟩
        walk_at "go"
        exact hN H' (Same.refl _)
      intro H3 s3 hD3
      have hq3 := s3 _ _ hq2
      have hy3 : All2 (Lay A.Ratio H3) ys ls := hy2.mono fun _ _ h => h.same s3
      refine ⟨⟨_, rfl, q, rfl, ⟨_, SqL.of hq3⟩, fun D2 hD2 => lc_same (K := K) (fun i => V.str (ls.getD i ("", 0)).1) hq3 hyl hD2 ?_ ?_⟩⟩
      · intro i x H' N M hi s' hN
        obtain ⟨l, hli, t, av, rfl, ht, hav⟩ := hy3.get hi
        have ht' := s' _ _ ht
        have eg : (ls.getD i ("", 0)).1 = l.1 := by rw [List.getD_eq_getElem?_getD, hli]; rfl
        rw [eg] at hN
        refine ⟨rfl, ?_⟩
        walk_at "go"
        exact hN H' (Same.refl _)
      intro H4 s4 hD4
      have hD34 := s4 _ _ hD3
      rw [hx.1] at hD34
      rw [hy.1] at hD4
      refine ⟨⟨D1, D2, _, rfl, rfl, SqL.of hD34, SqL.of hD4, fun z hz => ?_, false, rfl, iteF ?_⟩⟩
      · obtain ⟨_, _, rfl⟩ := List.mem_map.mp hz
        exact .inl rfl
      have hq4 := s4 _ _ hq3
      have hp4 := (s3.trans s4) _ _ hp2
      have hx4 : All2 (Lay A.Ratio H4) xs ls := hx2.mono fun _ _ h => h.same (s3.trans s4)
      have hy4 : All2 (Lay A.Ratio H4) ys ls := hy3.mono fun _ _ h => h.same s4
      refine ⟨⟨_, rfl, q, ys, rfl, .inl (SqL.of hq4), _, rfl, by omega, by omega, fun D3 hD3' => lc_range (fun i H' => Wd (Same H4 H' ∧ H' D3 = some (.lst ((List.range i).map fun _ => V.bl true)))) ⟨Same.new hD3', upd_same⟩ ?_ ?_⟩⟩
      · rintro i H' hi ⟨s', hd'⟩
        have hi' : i < ys.length := by omega
        have hil : i < ls.length := by rw [← hy.1]; exact hi'
        have hli : ls[i]? = some ls[i] := List.getElem?_eq_getElem hil
        have hxi : xs[i]? = some (xs[i]'(by rw [hx.1]; exact hil)) := List.getElem?_eq_getElem _
        have hyi : ys[i]? = some ys[i] := List.getElem?_eq_getElem hi'
        obtain ⟨t, av, et, ht, hav⟩ := hx4.2 i _ _ hxi hli
        obtain ⟨u, bv, eu, hu, hbv⟩ := hy4.2 i _ _ hyi hli
        rw [et] at hxi
        rw [eu] at hyi
        have ht' := s' _ _ ht
        have hu' := s' _ _ hu
        have hp' := s' _ _ hp4
        have hq' := s' _ _ hq4
        have ia : atI xs (0 + (i : Int)) = some (.ref t) := by rw [Int.zero_add]; exact atI_nat hxi
        have ib : atI ys (0 + (i : Int)) = some (.ref u) := by rw [Int.zero_add]; exact atI_nat hyi
        have hav' := hav.same s'
        have hbv' := hbv.same s'
        obtain ⟨ap, adx, rfl, hap⟩ := id hav'
        have szl := sL _ (List.getElem_mem hil)
        refine ⟨rfl, ?_⟩
        walk_at "go"
        refine ⟨.inl hbv', szl, szl, by omega, fun H6 s6 => ?_⟩
        show ∃ acc, _ ∧ _ ∧ _
        refine ⟨_, s6 _ _ hd', ?_, Same.at_new hD3' (s'.trans s6), ?_⟩
        · rw [List.length_map, List.length_range]
          exact Nat.lt_of_lt_of_le (by omega : i < 1000) (by decide)
        · rw [upd_same, List.range_succ, List.map_append]
          show some (HO.lst (_ ++ [V.bl (decide (ls[i].2 = ls[i].2))])) = _
          rw [decide_eq_true rfl]
          rfl
      · rintro H5 ⟨s5, hd5⟩
        refine ⟨D3, (List.range (ys.length : Int).toNat).map fun _ => true, rfl, by rw [List.map_map]; exact SqL.of hd5, ?_⟩
        rw [eall]
        exact k H5 (s2.trans (s3.trans (s4.trans s5)))
end

def tookF (t : Str) (ls : List Ly) (r : Rat) : List Ly × List Ly :=
  if t = "even" then partF ls r else if t = "oldest" then ((firstF ls r).1, (firstF ls r).2.1) else ((firstF ls.reverse r).1, (firstF ls.reverse r).2.1.reverse)
def leftJ (t : Str) (l : List Ly) : List Ly := if t = "even" then l else joinF l
def spTook (C : Addr) : Sp := fun vs H Q _ => ∃ (t : Str) (q : Addr) (v : V) (ls : List Ly) (r : Rat), vs = [.str t, .ref q, v] ∧ LayAt C H q ls ∧ IsN C H v r ∧ SzL 20 ls ∧ Sz 200 r ∧ ls.length ≤ 8 ∧ tot ls ≠ 0 ∧
  ∀ (p qt ql : Addr) (H' : Hp), Same H H' → H' p = some (.tup [.ref qt, .ref ql]) → LayAt C H' qt (tookF t ls r).1 → LayAt C H' ql (leftJ t (tookF t ls r).2) → qt ≠ ql → SzL 500 (tookF t ls r).1 → SzL 500 (tookF t ls r).2 → H qt = none → H ql = none → Q (.ref p) H'
theorem firstF_len (ls : List Ly) : ∀ s : List Ly × List Ly × Rat, (ls.foldl stepF s).2.1.length ≤ s.2.1.length + ls.length := by
  induction ls with
  | nil => exact fun s => Nat.le_refl _
  | cons l ls ih =>
    intro s
    refine Nat.le_trans (ih (stepF s l)) ?_
    have : (stepF s l).2.1.length ≤ s.2.1.length + 1 := by
      unfold stepF
      split <;> simp
    rw [List.length_cons]
    omega
theorem first_len {ls : List Ly} {r : Rat} : (firstF ls r).2.1.length ≤ ls.length := by
  have := firstF_len ls ([], [], r)
  rw [List.length_nil, Nat.zero_add] at this
  exact this
theorem mulB2 {a b : Nat} (h1 : a ≤ 10) (h2 : b ≤ 413) : a * b ≤ 8000 := Nat.le_trans (Nat.mul_le_mul h1 h2) (by decide)

/-! ### the plain law -/
theorem step_eq {s : List Ly × List Ly × Rat} {l : Ly} (h : 0 < l.2) (hR : 0 ≤ s.2.2) : stepC s l = stepF s l ∧ 0 ≤ (stepF s l).2.2 := by
  obtain ⟨tk, lf, R⟩ := s
  obtain ⟨n, a⟩ := l
  have h : 0 < a := h
  have hR : 0 ≤ R := hR
  by_cases e : a ≤ R
  · have e1 : stepF (tk, lf, R) (n, a) = (tk ++ [(n, a)], lf, R - a) := if_pos e
    refine ⟨?_, by rw [e1]; show 0 ≤ R - a; grind⟩
    rw [e1]
    show (if 0 < (if a ≤ R then a else R) then tk ++ [(n, if a ≤ R then a else R)] else tk, if (if a ≤ R then a else R) < a then lf ++ [(n, a - (if a ≤ R then a else R))] else lf, R - (if a ≤ R then a else R)) = _
    rw [if_pos e, if_pos h, if_neg (Rat.lt_irrefl)]
  · have e1 : stepF (tk, lf, R) (n, a) = (if 0 < R then tk ++ [(n, R)] else tk, lf ++ [(n, a - R)], 0) := if_neg e
    refine ⟨?_, by rw [e1]; exact Rat.le_refl⟩
    rw [e1]
    show (if 0 < (if a ≤ R then a else R) then tk ++ [(n, if a ≤ R then a else R)] else tk, if (if a ≤ R then a else R) < a then lf ++ [(n, a - (if a ≤ R then a else R))] else lf, R - (if a ≤ R then a else R)) = _
    rw [if_neg e, if_pos (show R < a by grind), Rat.sub_self]
theorem cut_first {ls : List Ly} (h : ∀ l ∈ ls, 0 < l.2) : ∀ s : List Ly × List Ly × Rat, 0 ≤ s.2.2 → ls.foldl stepC s = ls.foldl stepF s := by
  induction ls with
  | nil => exact fun s _ => rfl
  | cons l ls ih =>
    intro s hs
    obtain ⟨e, hn⟩ := step_eq (h l (List.mem_cons_self)) hs
    rw [List.foldl_cons, List.foldl_cons, e]
    exact ih (fun l hl => h l (List.mem_cons_of_mem _ hl)) _ hn
theorem part_shared {ls : List Ly} {r : Rat} (h0 : 0 < r) (h1 : r ≤ tot ls) : (sharedF ls (r / tot ls), sharedF ls (1 - r / tot ls)) = partF ls r := by
  have ht : 0 < tot ls := by grind
  have hs : 0 < r / tot ls := by
    rw [Rat.div_def]
    exact Rat.mul_pos h0 (Rat.inv_pos.mpr ht)
  have hle : r / tot ls ≤ 1 := by
    have : r / tot ls * tot ls = r := Rat.div_mul_cancel (by grind)
    by_cases e : r / tot ls ≤ 1
    · exact e
    · have e1 : 1 < r / tot ls := by grind
      have := Rat.mul_lt_mul_of_pos_right e1 ht
      grind
  unfold sharedF partF
  rw [if_pos hs]
  by_cases e : r / tot ls = 1
  · rw [if_pos e, e, if_neg (by grind)]
  · rw [if_neg e, if_pos (by grind)]
    congr 1
    refine List.map_congr_left fun l _ => ?_
    congr 1
    grind

theorem tot_app {a b : List Ly} : tot (a ++ b) = tot a + tot b := by
  unfold tot rsum
  rw [List.map_append, List.foldl_append]
  generalize List.foldl (· + ·) (0 : Rat) (a.map (·.2)) = x
  induction b generalizing x with
  | nil => exact (Rat.add_zero x).symm
  | cons l b ih =>
    rw [List.map_cons, List.foldl_cons, List.foldl_cons, ih (x + l.2), ih (0 + l.2)]
    grind
theorem tot_one {l : Ly} : tot [l] = l.2 := Rat.zero_add l.2
theorem tot_nil : tot [] = 0 := rfl
structure InvF (s0 : Rat) (done : Rat) (s : List Ly × List Ly × Rat) : Prop where
  nn : 0 ≤ s.2.2
  tk : tot s.1 + s.2.2 = s0
  al : tot s.1 + tot s.2.1 = done
  lf : 0 < s.2.2 → s.2.1 = []
theorem InvF.step {s0 done : Rat} {s : List Ly × List Ly × Rat} {l : Ly} (h : InvF s0 done s) (hl : 0 < l.2) : InvF s0 (done + l.2) (stepF s l) := by
  obtain ⟨tk, lf, R⟩ := s
  obtain ⟨n, a⟩ := l
  obtain ⟨h1, h2, h3, h4⟩ := h
  have h1 : 0 ≤ R := h1
  have h2 : tot tk + R = s0 := h2
  have h3 : tot tk + tot lf = done := h3
  have h4 : 0 < R → lf = [] := h4
  have hl : 0 < a := hl
  by_cases e : a ≤ R
  · have e1 : stepF (tk, lf, R) (n, a) = (tk ++ [(n, a)], lf, R - a) := if_pos e
    rw [e1]
    refine ⟨?_, ?_, ?_, fun _ => h4 (by grind)⟩
    · show 0 ≤ R - a
      grind
    · show tot (tk ++ [(n, a)]) + (R - a) = s0
      rw [tot_app, tot_one]
      grind
    · show tot (tk ++ [(n, a)]) + tot lf = done + a
      rw [tot_app, tot_one]
      grind
  · have e1 : stepF (tk, lf, R) (n, a) = (if 0 < R then tk ++ [(n, R)] else tk, lf ++ [(n, a - R)], 0) := if_neg e
    rw [e1]
    have ht : tot (if 0 < R then tk ++ [(n, R)] else tk) = tot tk + R := by
      split
      · rw [tot_app, tot_one]
      · grind
    refine ⟨Rat.le_refl, ?_, ?_, fun z => absurd z Rat.lt_irrefl⟩
    · show tot (if 0 < R then tk ++ [(n, R)] else tk) + 0 = s0
      rw [ht]
      grind
    · show tot (if 0 < R then tk ++ [(n, R)] else tk) + tot (lf ++ [(n, a - R)]) = done + a
      rw [ht, tot_app, tot_one]
      grind
theorem InvF.all {s0 : Rat} {ls : List Ly} (hp : ∀ l ∈ ls, 0 < l.2) : ∀ {done : Rat} {s : List Ly × List Ly × Rat}, InvF s0 done s → InvF s0 (done + tot ls) (ls.foldl stepF s) := by
  induction ls with
  | nil =>
    intro done s h
    rw [tot_nil, Rat.add_zero]
    exact h
  | cons l ls ih =>
    intro done s h
    have := ih (fun l hl => hp l (List.mem_cons_of_mem _ hl)) (h.step (hp l List.mem_cons_self))
    have e : tot (l :: ls) = l.2 + tot ls := by
      rw [show l :: ls = [l] ++ ls from rfl, tot_app, tot_one]
    rw [e, ← Rat.add_assoc]
    exact this
/-- what is taken and left of layers -/
theorem first_sums {ls : List Ly} {r : Rat} (hp : ∀ l ∈ ls, 0 < l.2) (h0 : 0 ≤ r) (h1 : r ≤ tot ls) : tot (firstF ls r).1 = r ∧ tot (firstF ls r).1 + tot (firstF ls r).2.1 = tot ls := by
  have h : InvF r (0 + tot ls) (firstF ls r) := InvF.all hp ⟨h0, by show tot [] + r = r; rw [tot_nil]; grind, by show tot [] + tot [] = 0; rw [tot_nil]; grind, fun _ => rfl⟩
  obtain ⟨a1, a2, a3, a4⟩ := h
  generalize firstF ls r = s at *
  obtain ⟨tk, lf, R⟩ := s
  have a1 : 0 ≤ R := a1
  have a2 : tot tk + R = r := a2
  have a3 : tot tk + tot lf = 0 + tot ls := a3
  have a4 : 0 < R → lf = [] := a4
  show tot tk = r ∧ tot tk + tot lf = tot ls
  by_cases e : 0 < R
  · rw [a4 e, tot_nil] at a3 ⊢
    grind
  · grind

theorem fold_id {f : List Ly → Ly → List Ly} {ls : List Ly} (hf : ∀ F l, l ∈ ls → (∀ F' x, F = F' ++ [x] → x.1 ≠ l.1) → f F l = F ++ [l]) (hc : Chn ls) : ls.foldl f [] = ls := by
  have : ∀ i, i ≤ ls.length → (ls.take i).foldl f [] = ls.take i := by
    intro i
    induction i with
    | zero => exact fun _ => rfl
    | succ i ih =>
      intro hi
      have e : ls[i]? = some ls[i] := List.getElem?_eq_getElem (by omega)
      rw [take_more e, List.foldl_append, ih (by omega)]
      refine hf _ _ (List.getElem_mem _) fun F' x hF => ?_
      have hl : (ls.take i).length = F'.length + 1 := by rw [hF, List.length_append]; rfl
      rw [List.length_take] at hl
      have ei : i = F'.length + 1 := by omega
      have hx : (ls.take i)[F'.length]? = some x := by
        rw [hF, List.getElem?_append_right (Nat.le_refl _), Nat.sub_self]
        rfl
      rw [List.getElem?_take_of_lt (by omega)] at hx
      refine hc F'.length x _ hx ?_
      rw [← ei]
      exact e
  have h := this ls.length (Nat.le_refl _)
  rw [List.take_length] at h
  exact h
theorem stack_id {ls : List Ly} (hp : ∀ l ∈ ls, 0 < l.2) (hc : Chn ls) : stackF ls = ls := by
  refine fold_id (fun F l hl h => ?_) hc
  unfold stepS
  cases hFl : F.getLast? with
  | none => exact if_pos (hp l hl)
  | some x =>
    obtain ⟨F', hF⟩ := List.getLast?_eq_some_iff.mp hFl
    show (if x.1 = l.1 then _ else if 0 < l.2 then F ++ [l] else F) = _
    rw [if_neg (h F' x hF), if_pos (hp l hl)]
theorem join_id {ls : List Ly} (hc : Chn ls) : joinF ls = ls := by
  refine fold_id (fun F l hl h => ?_) hc
  unfold stepJ
  cases hFl : F.getLast? with
  | none => rfl
  | some x =>
    obtain ⟨F', hF⟩ := List.getLast?_eq_some_iff.mp hFl
    show (if x.1 = l.1 then _ else F ++ [l]) = _
    rw [if_neg (h F' x hF)]
theorem Chn.piece {ls lf : List Ly} {k : Nat} (h : lf.map (·.1) = (ls.map (·.1)).drop k) (hc : Chn ls) : Chn lf := by
  have key : ∀ (i : Nat) (a : Ly), lf[i]? = some a → ∃ a', ls[k + i]? = some a' ∧ a'.1 = a.1 := fun i a ha => by
    have e : (lf.map (·.1))[i]? = some a.1 := by rw [List.getElem?_map, ha]; rfl
    rw [h, List.getElem?_drop, List.getElem?_map] at e
    cases hz : ls[k + i]? with
    | none => rw [hz] at e; cases e
    | some a' =>
      rw [hz] at e
      exact ⟨a', rfl, Option.some.inj e⟩
  intro i a b ha hb
  obtain ⟨a', ea, na⟩ := key i a ha
  obtain ⟨b', eb, nb⟩ := key (i + 1) b hb
  rw [← na, ← nb]
  exact hc (k + i) a' b' ea eb
theorem Chn.rev {ls : List Ly} (hc : Chn ls) : Chn ls.reverse := by
  intro i a b ha hb
  have l1 : i + 1 < ls.length := by
    have := (List.getElem?_eq_some_iff.mp hb).1
    rwa [List.length_reverse] at this
  rw [List.getElem?_reverse (by omega)] at ha hb
  have e : ls.length - 1 - i = ls.length - 1 - (i + 1) + 1 := by omega
  rw [e] at ha
  exact (hc _ b a hb ha).symm
theorem first_zero {ls : List Ly} (hp : ∀ l ∈ ls, 0 < l.2) : ∀ {tk lf : List Ly}, (ls.foldl stepF (tk, lf, 0)).2.1 = lf ++ ls := by
  induction ls with
  | nil => exact fun {tk lf} => (List.append_nil lf).symm
  | cons l ls ih =>
    intro tk lf
    have hl := hp l List.mem_cons_self
    have e1 : stepF (tk, lf, 0) l = (tk, lf ++ [l], 0) := by
      unfold stepF
      have hn : ¬ l.2 ≤ (tk, lf, (0 : Rat)).2.2 := by show ¬ l.2 ≤ 0; grind
      rw [if_neg hn]
      show (if (0 : Rat) < 0 then _ else tk, lf ++ [(l.1, l.2 - 0)], (0 : Rat)) = _
      rw [if_neg Rat.lt_irrefl, show l.2 - 0 = l.2 by grind]
    rw [List.foldl_cons, e1, ih (fun l hl => hp l (List.mem_cons_of_mem _ hl)), List.append_assoc]
    rfl
theorem first_piece {ls : List Ly} (hp : ∀ l ∈ ls, 0 < l.2) : ∀ {tk : List Ly} {R : Rat}, 0 ≤ R → (∃ k, (ls.foldl stepF (tk, [], R)).2.1.map (·.1) = (ls.map (·.1)).drop k) ∧ ∀ l ∈ (ls.foldl stepF (tk, [], R)).2.1, 0 < l.2 := by
  induction ls with
  | nil => exact fun {tk R} _ => ⟨⟨0, rfl⟩, fun l hl => nomatch hl⟩
  | cons l ls ih =>
    intro tk R hR
    have hp' := fun x hx => hp x (List.mem_cons_of_mem l hx)
    rw [List.foldl_cons]
    by_cases e : l.2 ≤ R
    · have e1 : stepF (tk, [], R) l = (tk ++ [l], [], R - l.2) := if_pos e
      rw [e1]
      obtain ⟨⟨k, h1⟩, h2⟩ := ih hp' (tk := tk ++ [l]) (R := R - l.2) (by grind)
      exact ⟨⟨k + 1, h1⟩, h2⟩
    · have e1 : stepF (tk, [], R) l = (if 0 < R then tk ++ [(l.1, R)] else tk, [(l.1, l.2 - R)], 0) := if_neg e
      rw [e1, first_zero hp']
      refine ⟨⟨0, rfl⟩, fun x hx => ?_⟩
      rcases List.mem_append.mp hx with hx | hx
      · rw [List.mem_singleton] at hx
        subst hx
        show 0 < l.2 - R
        grind
      · exact hp' x hx

theorem tot_rev {ls : List Ly} : tot ls.reverse = tot ls := by
  induction ls with
  | nil => rfl
  | cons l ls ih =>
    rw [List.reverse_cons, tot_app, ih, show l :: ls = [l] ++ ls from rfl, tot_app]
    exact Rat.add_comm _ _
theorem part_sums {ls : List Ly} {r : Rat} (ht : tot ls ≠ 0) : tot (partF ls r).1 = r ∧ tot (partF ls r).1 + tot (partF ls r).2 = tot ls := by
  have hm : ∀ (c : Rat) (xs : List Ly), tot (xs.map (fun l => (l.1, l.2 * c))) = tot xs * c := by
    intro c xs
    induction xs with
    | nil => exact (Rat.zero_mul c).symm
    | cons l xs ih =>
      rw [List.map_cons, show ((l.1, l.2 * c) :: xs.map (fun l => (l.1, l.2 * c)) : List Ly) = [(l.1, l.2 * c)] ++ xs.map (fun l => (l.1, l.2 * c)) from rfl, tot_app, tot_one, ih, show l :: xs = [l] ++ xs from rfl, tot_app, tot_one]
      grind
  have hd : ∀ (c : Rat) (xs : List Ly), tot (xs.map (fun l => (l.1, l.2 - l.2 * c))) = tot xs - tot xs * c := by
    intro c xs
    induction xs with
    | nil => show (0 : Rat) = 0 - 0 * c; grind
    | cons l xs ih =>
      rw [List.map_cons, show ((l.1, l.2 - l.2 * c) :: xs.map (fun l => (l.1, l.2 - l.2 * c)) : List Ly) = [(l.1, l.2 - l.2 * c)] ++ xs.map (fun l => (l.1, l.2 - l.2 * c)) from rfl, tot_app, tot_one, ih, show l :: xs = [l] ++ xs from rfl, tot_app, tot_one]
      grind
  have hc : tot ls * (r / tot ls) = r := by
    rw [Rat.mul_comm]
    exact Rat.div_mul_cancel ht
  unfold partF
  refine ⟨by rw [hm]; exact hc, ?_⟩
  rw [hm, hc]
  by_cases e : r / tot ls = 1
  · rw [if_pos e, tot_nil]
    rw [e] at hc
    grind
  · rw [if_neg e, hd, hc]
    grind
/-- what the rule gives, what is due, and the sums -/
theorem take_took {t : Str} (ht : t = "oldest" ∨ t = "newest" ∨ t = "even") {ls : List Ly} {r : Rat} (hp : ∀ l ∈ ls, 0 < l.2) (hc : Chn ls) (h0 : 0 < r) (h1 : r ≤ tot ls) :
    takeF t ls r = tookF t ls r ∧ leftF t (takeF t ls r).2 = (takeF t ls r).2 ∧ leftJ t (tookF t ls r).2 = (tookF t ls r).2 ∧ tot (tookF t ls r).1 = r ∧ tot (tookF t ls r).1 + tot (tookF t ls r).2 = tot ls := by
  have hr : 0 ≤ r := by grind
  have go : ∀ xs : List Ly, (∀ l ∈ xs, 0 < l.2) → Chn xs → cutF xs r = firstF xs r ∧ Chn (firstF xs r).2.1 ∧ ∀ l ∈ (firstF xs r).2.1, 0 < l.2 := fun xs hp hc => by
    obtain ⟨⟨k, h2⟩, h3⟩ := first_piece hp (tk := []) (R := r) hr
    exact ⟨cut_first hp _ hr, Chn.piece h2 hc, h3⟩
  rcases ht with rfl | rfl | rfl
  · obtain ⟨g1, g2, g3⟩ := go ls hp hc
    have e1 : takeF "oldest" ls r = ((cutF ls r).1, (cutF ls r).2.1) := by unfold takeF; rw [if_neg (by decide +kernel), if_neg (by decide +kernel)]
    have e2 : tookF "oldest" ls r = ((firstF ls r).1, (firstF ls r).2.1) := by unfold tookF; rw [if_neg (by decide +kernel), if_pos rfl]
    have e3 : ∀ l, leftF "oldest" l = stackF l := fun l => if_neg (by decide +kernel)
    have e4 : ∀ l, leftJ "oldest" l = joinF l := fun l => if_neg (by decide +kernel)
    rw [e3, e4, e1, e2, g1]
    exact ⟨rfl, stack_id g3 g2, join_id g2, first_sums hp hr h1⟩
  · have hp' : ∀ l ∈ ls.reverse, 0 < l.2 := fun l hl => hp l (List.mem_reverse.mp hl)
    obtain ⟨g1, g2, g3⟩ := go ls.reverse hp' hc.rev
    have e1 : takeF "newest" ls r = ((cutF ls.reverse r).1, (cutF ls.reverse r).2.1.reverse) := by unfold takeF; rw [if_neg (by decide +kernel), if_pos rfl]
    have e2 : tookF "newest" ls r = ((firstF ls.reverse r).1, (firstF ls.reverse r).2.1.reverse) := by unfold tookF; rw [if_neg (by decide +kernel), if_neg (by decide +kernel)]
    have e3 : ∀ l, leftF "newest" l = stackF l := fun l => if_neg (by decide +kernel)
    have e4 : ∀ l, leftJ "newest" l = joinF l := fun l => if_neg (by decide +kernel)
    obtain ⟨f1, f2⟩ := first_sums hp' hr (by rw [tot_rev]; exact h1)
    rw [e3, e4, e1, e2, g1]
    refine ⟨rfl, stack_id (fun l hl => g3 l (List.mem_reverse.mp hl)) g2.rev, join_id g2.rev, f1, ?_⟩
    show tot (firstF ls.reverse r).1 + tot (firstF ls.reverse r).2.1.reverse = _
    rw [tot_rev, f2, tot_rev]
  · have e1 : takeF "even" ls r = (sharedF ls (r / tot ls), sharedF ls (1 - r / tot ls)) := if_pos rfl
    have e2 : tookF "even" ls r = partF ls r := if_pos rfl
    have e3 : ∀ l, leftF "even" l = l := fun l => if_pos rfl
    have e4 : ∀ l, leftJ "even" l = l := fun l => if_pos rfl
    rw [e3, e4, e1, e2, part_shared h0 h1]
    exact ⟨rfl, rfl, rfl, part_sums (by grind)⟩

/-! ### the plain law of k42 -/
/-- amounts above 0, multiples of 1 / D, N together -/
structure Good (D N : Int) (ls : List Ly) : Prop where
  pos : ∀ l ∈ ls, 0 < l.2
  inD : ∀ l ∈ ls, In D l.2
  le : tot ls ≤ (N : Rat)
theorem tot_cons {l : Ly} {ls : List Ly} : tot (l :: ls) = l.2 + tot ls := by
  rw [show l :: ls = [l] ++ ls from rfl, tot_app, tot_one]
theorem tot_nn2 {ls : List Ly} (hp : ∀ l ∈ ls, 0 < l.2) : 0 ≤ tot ls := by
  induction ls with
  | nil => exact Rat.le_refl
  | cons l ls ih =>
    rw [tot_cons]
    have h1 := hp l List.mem_cons_self
    have h2 := ih fun l hl => hp l (List.mem_cons_of_mem _ hl)
    grind
theorem mem_le_tot {ls : List Ly} (hp : ∀ l ∈ ls, 0 < l.2) : ∀ l ∈ ls, l.2 ≤ tot ls := by
  induction ls with
  | nil => exact fun l hl => nomatch hl
  | cons x ls ih =>
    intro l hl
    rw [tot_cons]
    have hp' := fun l hl => hp l (List.mem_cons_of_mem x hl)
    rcases List.mem_cons.mp hl with rfl | hl
    · have := tot_nn2 hp'
      grind
    · have h1 := ih hp' l hl
      have h2 := hp x List.mem_cons_self
      grind
theorem Good.sz {D N : Int} {ls : List Ly} {b : Nat} (h : Good D N ls) (h0 : 0 < D) (hb : (N * D).natAbs < 2 ^ b) (hd : D.natAbs < 2 ^ b) : SzL b ls := fun l hl => by
  have := h.pos l hl
  exact Sz.of_in (h.inD l hl) h0 (by grind) (Rat.le_trans (mem_le_tot h.pos l hl) h.le) hb hd
theorem step_join {D : Int} {F : List Ly} {l : Ly} (hp : ∀ x ∈ F, 0 < x.2 ∧ In D x.2) (hl : 0 < l.2 ∧ In D l.2) : (∀ x ∈ stepJ F l, 0 < x.2 ∧ In D x.2) ∧ tot (stepJ F l) = tot F + l.2 := by
  have happ : (∀ x ∈ F ++ [l], 0 < x.2 ∧ In D x.2) ∧ tot (F ++ [l]) = tot F + l.2 := by
    refine ⟨fun x hx => ?_, by rw [tot_app, tot_one]⟩
    rcases List.mem_append.mp hx with hx | hx
    · exact hp x hx
    · rw [List.mem_singleton] at hx
      exact hx ▸ hl
  unfold stepJ
  cases hF : F.getLast? with
  | none => exact happ
  | some y =>
    show (∀ x ∈ (if y.1 = l.1 then _ else _), _) ∧ tot (if y.1 = l.1 then _ else _) = _
    split
    · obtain ⟨F', rfl⟩ := List.getLast?_eq_some_iff.mp hF
      rw [List.dropLast_concat]
      have hy := hp y (by simp)
      refine ⟨fun x hx => ?_, by rw [tot_app, tot_one, tot_app, tot_one]; grind⟩
      rcases List.mem_append.mp hx with hx | hx
      · exact hp x (List.mem_append.mpr (.inl hx))
      · rw [List.mem_singleton] at hx
        subst hx
        exact ⟨by have := hy.1; have := hl.1; grind, hy.2.add hl.2⟩
    · exact happ
theorem fold_join {D : Int} {ls : List Ly} : ∀ {F : List Ly}, (∀ x ∈ F, 0 < x.2 ∧ In D x.2) → (∀ x ∈ ls, 0 < x.2 ∧ In D x.2) → (∀ x ∈ ls.foldl stepJ F, 0 < x.2 ∧ In D x.2) ∧ tot (ls.foldl stepJ F) = tot F + tot ls := by
  induction ls with
  | nil => exact fun {F} h _ => ⟨h, by rw [tot_nil, Rat.add_zero]; rfl⟩
  | cons l ls ih =>
    intro F h1 h2
    obtain ⟨a, b⟩ := step_join h1 (h2 l List.mem_cons_self)
    obtain ⟨c, d⟩ := ih a fun x hx => h2 x (List.mem_cons_of_mem _ hx)
    refine ⟨c, ?_⟩
    show tot (ls.foldl stepJ (stepJ F l)) = _
    rw [d, b, tot_cons]
    grind
theorem putOwn_good {D : Int} {ls : List Ly} {l : Ly} {nms : List Str} (h : ∀ x ∈ ls, 0 < x.2 ∧ In D x.2) (hl : 0 < l.2 ∧ In D l.2) : (∀ x ∈ putOwn ls l nms, 0 < x.2 ∧ In D x.2) ∧ tot (putOwn ls l nms) = tot ls + l.2 := by
  unfold putOwn
  split
  · next i is e =>
    have hi : i < ls.length := spots_lt (e ▸ List.mem_cons_self)
    have e1 : ls.getD i ("", 0) = ls[i] := by rw [List.getD_eq_getElem?_getD, List.getElem?_eq_getElem hi]; rfl
    have e2 : ls = ls.take i ++ ls[i] :: ls.drop (i + 1) := by rw [← List.drop_eq_getElem_cons hi, List.take_append_drop]
    have hx := h _ (List.getElem_mem hi)
    rw [e1]
    refine ⟨fun x hx' => ?_, ?_⟩
    · rcases List.mem_append.mp hx' with hx' | hx'
      · exact h x (List.mem_of_mem_take hx')
      · rcases List.mem_cons.mp hx' with rfl | hx'
        · exact ⟨by have := hx.1; have := hl.1; grind, hx.2.add hl.2⟩
        · exact h x (List.mem_of_mem_drop hx')
    · conv => rhs; rw [e2]
      rw [tot_app, tot_app, tot_cons, tot_cons]
      grind
  · refine ⟨fun x hx' => ?_, ?_⟩
    · rcases List.mem_append.mp hx' with hx' | hx'
      · exact h x (List.mem_of_mem_take hx')
      · rcases List.mem_cons.mp hx' with rfl | hx'
        · exact hl
        · exact h x (List.mem_of_mem_drop hx')
    · have e2 := List.take_append_drop (spotF ls l.1 nms) ls
      conv => rhs; rw [← e2]
      rw [tot_app, tot_app, tot_cons]
      grind
theorem putL_good {D : Int} {s : Str} {ls : List Ly} {l : Ly} {nms : List Str} (h : ∀ x ∈ ls, 0 < x.2 ∧ In D x.2) (hl : 0 < l.2 ∧ In D l.2) : (∀ x ∈ putL s ls l nms, 0 < x.2 ∧ In D x.2) ∧ tot (putL s ls l nms) = tot ls + l.2 := by
  unfold putL
  split
  · obtain ⟨a, b⟩ := fold_join (D := D) (ls := ls ++ [l]) (F := []) (fun x hx => nomatch hx) fun x hx => by
      rcases List.mem_append.mp hx with hx | hx
      · exact h x hx
      · rw [List.mem_singleton] at hx
        exact hx ▸ hl
    exact ⟨a, by unfold joinF; rw [b, tot_nil, tot_app, tot_one, Rat.zero_add]⟩
  · split
    · obtain ⟨a, b⟩ := fold_join (D := D) (ls := l :: ls) (F := []) (fun x hx => nomatch hx) fun x hx => by
        rcases List.mem_cons.mp hx with hx | hx
        · exact hx ▸ hl
        · exact h x hx
      exact ⟨a, by unfold joinF; rw [b, tot_nil, tot_cons, Rat.zero_add, Rat.add_comm]⟩
    · exact putOwn_good h hl
theorem laidL_good {D : Int} {s : Str} {nms : List Str} {ps : List Ly} : ∀ {ls : List Ly}, (∀ x ∈ ls, 0 < x.2 ∧ In D x.2) → (∀ x ∈ ps, 0 < x.2 ∧ In D x.2) → (∀ x ∈ laidL s ls ps nms, 0 < x.2 ∧ In D x.2) ∧ tot (laidL s ls ps nms) = tot ls + tot ps := by
  induction ps with
  | nil => exact fun {ls} h _ => ⟨h, by rw [tot_nil, Rat.add_zero]; rfl⟩
  | cons l ps ih =>
    intro ls h1 h2
    obtain ⟨a, b⟩ := putL_good (s := s) (nms := nms) h1 (h2 l List.mem_cons_self)
    obtain ⟨c, d⟩ := ih a fun x hx => h2 x (List.mem_cons_of_mem _ hx)
    refine ⟨c, ?_⟩
    show tot (laidL s (putL s ls l nms) ps nms) = _
    rw [d, b, tot_cons]
    grind
theorem stack_join3 {ls : List Ly} : (∀ l ∈ ls, 0 < l.2) → ∀ F : List Ly, ls.foldl stepS F = ls.foldl stepJ F := by
  induction ls with
  | nil => exact fun _ _ => rfl
  | cons l ls ih =>
    intro hp F
    have e : stepS F l = stepJ F l := by
      unfold stepS stepJ
      have h0 := hp l List.mem_cons_self
      cases F.getLast? with
      | none => exact if_pos h0
      | some x =>
        show (if x.1 = l.1 then _ else if 0 < l.2 then _ else _) = if x.1 = l.1 then _ else _
        rw [if_pos h0]
    show ls.foldl stepS (stepS F l) = ls.foldl stepJ (stepJ F l)
    rw [e]
    exact ih (fun x hx => hp x (List.mem_cons_of_mem _ hx)) _
theorem put_eq {t p : Str} {ls : List Ly} {l : Ly} {nms : List Str} (h : ∀ x ∈ ls, 0 < x.2) (hl : 0 < l.2) : putLy t p ls l nms = putL (sideF t p) ls l nms := by
  have j1 : stackF (ls ++ [l]) = joinF (ls ++ [l]) := stack_join3 (fun x hx => by
    rcases List.mem_append.mp hx with hx | hx
    · exact h x hx
    · rw [List.mem_singleton] at hx
      exact hx ▸ hl) []
  have j2 : stackF (l :: ls) = joinF (l :: ls) := stack_join3 (fun x hx => by
    rcases List.mem_cons.mp hx with hx | hx
    · exact hx ▸ hl
    · exact h x hx) []
  unfold putLy putL sideF
  rw [j1, j2]
  by_cases ht : t = "even"
  · rw [if_neg fun z => z.2 ht, if_neg fun z => z.2 ht, if_pos ht, if_neg (by decide +kernel), if_neg (by decide +kernel)]
  · rw [if_neg ht]
    by_cases h1 : p = "top"
    · rw [if_pos ⟨h1, ht⟩, if_pos h1]
    · rw [if_neg fun z => h1 z.1, if_neg h1]
      by_cases h2 : p = "bottom"
      · rw [if_pos ⟨h2, ht⟩, if_pos h2]
      · rw [if_neg fun z => h2 z.1, if_neg h2]
theorem laid_eq {D : Int} {t p : Str} {nms : List Str} {ps : List Ly} : ∀ {ls : List Ly}, (∀ x ∈ ls, 0 < x.2 ∧ In D x.2) → (∀ x ∈ ps, 0 < x.2 ∧ In D x.2) → laidF t p ls ps nms = laidL (sideF t p) ls ps nms := by
  induction ps with
  | nil => exact fun _ _ => rfl
  | cons l ps ih =>
    intro ls h1 h2
    have hl := h2 l List.mem_cons_self
    show laidF t p (putLy t p ls l nms) ps nms = laidL (sideF t p) (putL (sideF t p) ls l nms) ps nms
    rw [put_eq (fun x hx => (h1 x hx).1) hl.1]
    exact ih (putL_good h1 hl).1 fun x hx => h2 x (List.mem_cons_of_mem _ hx)
def FromN (ls : List Ly) (D : Int) (x : Ly) : Prop := 0 < x.2 ∧ In D x.2 ∧ ∃ y ∈ ls, y.1 = x.1
theorem first_good {D : Int} {L ls : List Ly} : ∀ {tk lf : List Ly} {R : Rat}, (∀ x ∈ ls, 0 < x.2 ∧ In D x.2) → (∀ x ∈ ls, x ∈ L) → (∀ x ∈ tk, FromN L D x) → (∀ x ∈ lf, FromN L D x) → In D R →
    (∀ x ∈ (ls.foldl stepF (tk, lf, R)).1, FromN L D x) ∧ ∀ x ∈ (ls.foldl stepF (tk, lf, R)).2.1, FromN L D x := by
  induction ls with
  | nil => exact fun _ _ h1 h2 _ => ⟨h1, h2⟩
  | cons l ls ih =>
    intro tk lf R hp hL h1 h2 hR
    have hl := hp l List.mem_cons_self
    have hlL := hL l List.mem_cons_self
    have hp' := fun x hx => hp x (List.mem_cons_of_mem l hx)
    have hL' := fun x hx => hL x (List.mem_cons_of_mem l hx)
    have app : ∀ {zs : List Ly} {z : Ly}, (∀ x ∈ zs, FromN L D x) → FromN L D z → ∀ x ∈ zs ++ [z], FromN L D x := fun h hz x hx => by
      rcases List.mem_append.mp hx with hx | hx
      · exact h x hx
      · rw [List.mem_singleton] at hx
        exact hx ▸ hz
    show (∀ x ∈ (ls.foldl stepF (stepF (tk, lf, R) l)).1, _) ∧ ∀ x ∈ (ls.foldl stepF (stepF (tk, lf, R) l)).2.1, _
    by_cases h : l.2 ≤ R
    · rw [show stepF (tk, lf, R) l = (tk ++ [l], lf, R - l.2) from if_pos h]
      exact ih hp' hL' (app h1 ⟨hl.1, hl.2, l, hlL, rfl⟩) h2 (hR.sub hl.2)
    · have hlt := Rat.not_le.mp h
      rw [show stepF (tk, lf, R) l = (if 0 < R then tk ++ [(l.1, R)] else tk, lf ++ [(l.1, l.2 - R)], 0) from if_neg h]
      refine ih hp' hL' ?_ (app h2 ⟨by show 0 < l.2 - R; grind, hl.2.sub hR, l, hlL, rfl⟩) In.zero
      split
      · next h0 => exact app h1 ⟨h0, hR, l, hlL, rfl⟩
      · exact h1
theorem first_good0 {D : Int} {ls : List Ly} {r : Rat} (hp : ∀ x ∈ ls, 0 < x.2 ∧ In D x.2) (hr : In D r) : (∀ x ∈ (firstF ls r).1, FromN ls D x) ∧ ∀ x ∈ (firstF ls r).2.1, FromN ls D x :=
  first_good hp (fun _ h => h) (fun x hx => nomatch hx) (fun x hx => nomatch hx) hr
theorem share_in {D E : Int} {r T : Rat} {n : Int} (hr : In D r) (hT : T * (E : Rat) = (n : Rat)) (h0 : 0 < T) : In (D * n) (r / T * (E : Rat)) := by
  obtain ⟨m, hm⟩ := hr
  refine ⟨m * E * E, ?_⟩
  rw [Rat.intCast_mul, Rat.intCast_mul, Rat.intCast_mul, ← hT, ← hm]
  have : T ≠ 0 := by grind
  grind
theorem share_in2 {r T : Rat} {n : Int} (hr : In 5040 r) (hT : T * ((2520 : Int) : Rat) = (n : Rat)) (h0 : 0 < T) : In (2 * n) (r / T) := by
  obtain ⟨m, hm⟩ := hr
  refine ⟨m, ?_⟩
  rw [Rat.intCast_mul, ← hT, ← hm]
  have : T ≠ 0 := by grind
  have e1 : ((2 : Int) : Rat) = 2 := rfl
  have e2 : ((2520 : Int) : Rat) = 2520 := rfl
  have e3 : ((5040 : Int) : Rat) = 5040 := rfl
  rw [e1, e2, e3]
  grind
theorem shared_rev {ls : List Ly} {s : Rat} : sharedF ls.reverse s = (sharedF ls s).reverse := by
  unfold sharedF
  split
  · rw [List.map_reverse]
  · rfl
theorem back_eq {t : Str} {ls : List Ly} {r : Rat} (hp : ∀ l ∈ ls, 0 < l.2) (h0 : 0 < r) (h1 : r ≤ tot ls) : backF t ls r = backL t ls r := by
  unfold backF backL
  split
  · have := part_shared h0 h1
    rw [← this, shared_rev]
  · have : cutF ls.reverse r = firstF ls.reverse r := cut_first (fun l hl => hp l (List.mem_reverse.mp hl)) _ (by show 0 ≤ r; grind)
    rw [this]
theorem back_good {t : Str} {ls : List Ly} {r : Rat} {E : Int} (hp : ∀ l ∈ ls, 0 < l.2 ∧ In 5040 l.2) (h0 : 0 < r) (h1 : r ≤ tot ls) (hr : In 5040 r) (hE : In E (r / tot ls)) :
    (∀ x ∈ (backL t ls r).1, FromN ls (5040 * E) x) ∧ (∀ x ∈ (backL t ls r).2, FromN ls (5040 * E) x) ∧ tot (backL t ls r).1 = r ∧ tot (backL t ls r).1 + tot (backL t ls r).2 = tot ls := by
  have hp0 := fun l hl => (hp l hl).1
  unfold backL
  split
  · have hT : 0 < tot ls := by grind
    have hs : 0 < r / tot ls := by rw [Rat.div_def]; exact Rat.mul_pos h0 (Rat.inv_pos.mpr hT)
    obtain ⟨s1, s2⟩ := part_sums (ls := ls) (r := r) (by grind)
    refine ⟨fun x hx => ?_, fun x hx => ?_, by show tot (partF ls r).1.reverse = r; rw [tot_rev]; exact s1, by show tot (partF ls r).1.reverse + tot (partF ls r).2 = _; rw [tot_rev]; exact s2⟩
    · obtain ⟨l, hl, rfl⟩ := List.mem_map.mp (List.mem_reverse.mp hx)
      exact ⟨Rat.mul_pos (hp0 l hl) hs, (hp l hl).2.mul hE, l, hl, rfl⟩
    · have hx : x ∈ (if r / tot ls = 1 then [] else ls.map (fun l => (l.1, l.2 - l.2 * (r / tot ls))) : List Ly) := hx
      split at hx
      · cases hx
      · next hne =>
        obtain ⟨l, hl, rfl⟩ := List.mem_map.mp hx
        have hle : r / tot ls ≤ 1 := by
          have : r / tot ls * tot ls = r := Rat.div_mul_cancel (by grind)
          apply Rat.not_lt.mp
          intro hgt
          have := Rat.mul_lt_mul_of_pos_right hgt hT
          grind
        have hlt : r / tot ls < 1 := Rat.lt_of_le_of_ne hle hne
        have h2 := Rat.mul_pos (hp0 l hl) (Rat.lt_iff_sub_pos _ _ |>.mp hlt)
        exact ⟨by show 0 < l.2 - l.2 * (r / tot ls); grind, ((hp l hl).2.up E).sub ((hp l hl).2.mul hE), l, hl, rfl⟩
  · have hr' : 0 ≤ r := by grind
    have hpr : ∀ x ∈ ls.reverse, 0 < x.2 ∧ In 5040 x.2 := fun x hx => hp x (List.mem_reverse.mp hx)
    obtain ⟨g1, g2⟩ := first_good0 hpr hr
    obtain ⟨s1, s2⟩ := first_sums (ls := ls.reverse) (fun l hl => (hpr l hl).1) hr' (by rw [tot_rev]; exact h1)
    have up : ∀ {x : Ly}, FromN ls.reverse 5040 x → FromN ls (5040 * E) x := fun ⟨a, b, y, hy, c⟩ => ⟨a, b.up E, y, List.mem_reverse.mp hy, c⟩
    refine ⟨fun x hx => up (g1 x hx), fun x hx => up (g2 x (List.mem_reverse.mp hx)), s1, ?_⟩
    show tot (firstF ls.reverse r).1 + tot (firstF ls.reverse r).2.1.reverse = _
    rw [tot_rev, s2, tot_rev]
theorem first_len3 (ls : List Ly) : ∀ s : List Ly × List Ly × Rat, (ls.foldl stepF s).1.length ≤ s.1.length + ls.length := by
  induction ls with
  | nil => exact fun s => Nat.le_refl _
  | cons l ls ih =>
    intro s
    refine Nat.le_trans (ih (stepF s l)) ?_
    have : (stepF s l).1.length ≤ s.1.length + 1 := by
      unfold stepF
      (repeat' split) <;> simp
    rw [List.length_cons]
    omega
theorem back_len {t : Str} {ls : List Ly} {r : Rat} : (backL t ls r).1.length ≤ ls.length ∧ (backL t ls r).2.length ≤ ls.length := by
  unfold backL
  split
  · refine ⟨by show (partF ls r).1.reverse.length ≤ _; unfold partF; simp, ?_⟩
    show (if r / tot ls = 1 then [] else _ : List Ly).length ≤ _
    split
    · exact Nat.zero_le _
    · simp
  · have h1 := first_len3 ls.reverse ([], [], r)
    have h2 := firstF_len ls.reverse ([], [], r)
    rw [List.length_nil, Nat.zero_add, List.length_reverse] at h1
    rw [List.length_nil, Nat.zero_add, List.length_reverse] at h2
    exact ⟨h1, by show (firstF ls.reverse r).2.1.reverse.length ≤ _; rw [List.length_reverse]; exact h2⟩
theorem Sz.le {b : Nat} {q : Rat} (h : Sz b q) : q ≤ ((2 ^ b : Int) : Rat) := by
  rw [Rat.le_iff]
  have h1 := h.1
  have h2 : 1 ≤ q.den := Nat.pos_of_ne_zero q.den_nz
  show q.num * 1 ≤ 2 ^ b * (q.den : Int)
  have h3 : q.num ≤ 2 ^ b := by
    have : (q.num.natAbs : Int) < ((2 ^ b : Nat) : Int) := by exact_mod_cast h1
    rw [Int.natCast_pow, show ((2 : Nat) : Int) = 2 from rfl] at this
    omega
  have h4 : (0 : Int) ≤ 2 ^ b := Int.pow_nonneg (by decide)
  calc q.num * 1 ≤ 2 ^ b * 1 := by omega
    _ ≤ 2 ^ b * (q.den : Int) := Int.mul_le_mul_of_nonneg_left (by omega) h4
theorem tot_le20 {ls : List Ly} (h : ∀ l ∈ ls, AmOk l.2) : tot ls ≤ (((ls.length : Int) * 1048576 : Int) : Rat) := by
  induction ls with
  | nil => rw [tot_nil]; exact Rat.le_refl
  | cons l ls ih =>
    have h1 := (h l List.mem_cons_self).sz.le
    have h2 := ih fun x hx => h x (List.mem_cons_of_mem _ hx)
    rw [tot_cons, List.length_cons]
    have e : ((((ls.length + 1 : Nat) : Int) * 1048576 : Int) : Rat) = ((((ls.length : Nat) : Int) * 1048576 : Int) : Rat) + ((1048576 : Int) : Rat) := by
      rw [← Rat.intCast_add]
      exact congrArg (fun z : Int => (z : Rat)) (by omega)
    rw [e]
    have e2 : ((2 ^ 20 : Int) : Rat) = ((1048576 : Int) : Rat) := rfl
    rw [e2] at h1
    grind
theorem tot_in {D : Int} {ls : List Ly} (h : ∀ l ∈ ls, In D l.2) : In D (tot ls) := by
  induction ls with
  | nil => rw [tot_nil]; exact In.zero
  | cons l ls ih =>
    rw [tot_cons]
    exact (h l List.mem_cons_self).add (ih fun x hx => h x (List.mem_cons_of_mem _ hx))
theorem In.twice {q : Rat} (h : In 2520 q) : In 5040 q := h.up 2
structure RR (ls ps : List Ly) (r : Rat) (nms : List Str) : Prop where
  ols : ∀ l ∈ ls, AmOk l.2
  lls : ls.length ≤ 6
  ops : ∀ l ∈ ps, AmOk l.2
  lps : ps.length ≤ 6
  nm : ∀ l ∈ ps, l.1 ∈ nms
  r0 : 0 < r
  r1 : r ≤ tot ps
  rin : In 5040 r
/-- all that return_right wants to know -/
structure RRx (t s : Str) (ls ps : List Ly) (r : Rat) (nms : List Str) : Prop where
  z1 : SzL 100 (backL t ps r).1
  z2 : SzL 100 (backL t ps r).2
  l1 : (backL t ps r).1.length ≤ 6
  l2 : (backL t ps r).2.length ≤ 6
  nm : ∀ l ∈ (backL t ps r).1, l.1 ∈ nms
  zi : ∀ i, SzL 100 (laidL s ls ((backL t ps r).1.take i) nms)
  zt : Sz 100 (tot ls + r)
  st : tot (laidL s ls (backL t ps r).1 nms) = tot ls + r
  eq : ∀ p, laidF t p ls (backL t ps r).1 nms = laidL (sideF t p) ls (backL t ps r).1 nms
  eqi : ∀ p i, laidF t p ls ((backL t ps r).1.take i) nms = laidL (sideF t p) ls ((backL t ps r).1.take i) nms
theorem RR.x {ls ps : List Ly} {r : Rat} {nms : List Str} (h : RR ls ps r nms) (t s : Str) : RRx t s ls ps r nms := by
  have hps : ∀ l ∈ ps, 0 < l.2 ∧ In 5040 l.2 := fun l hl => ⟨(h.ops l hl).pos, (h.ops l hl).den.twice⟩
  have hT : 0 < tot ps := by have := h.r0; have := h.r1; grind
  obtain ⟨n, hn⟩ := tot_in fun l hl => (h.ops l hl).den
  have bP := tot_le20 h.ops
  have bL := tot_le20 h.ols
  have nLs := tot_nn2 fun l hl => (h.ols l hl).pos
  have cast : ∀ {k : Nat}, k ≤ 6 → ((((k : Int) * 1048576 : Int)) : Rat) ≤ ((6291456 : Int) : Rat) := fun hk => Rat.intCast_le_intCast.mpr (by omega)
  have bP := Rat.le_trans bP (cast h.lps)
  have bL := Rat.le_trans bL (cast h.lls)
  obtain ⟨n0, n1⟩ := in_bd (D := 2520) (N := 6291456) (by decide) hn (by grind) bP
  have npos : 0 < n := by
    have h2 : (0 : Rat) < ((2520 : Int) : Rat) := by decide
    have := Rat.mul_pos hT h2
    rw [hn] at this
    exact Rat.intCast_pos.mp this
  have hE := share_in2 h.rin hn hT
  obtain ⟨g1, g2, s1, s2⟩ := back_good (t := t) hps h.r0 h.r1 h.rin hE
  obtain ⟨b1, b2⟩ := back_len (t := t) (ls := ps) (r := r)
  have e100 : (2 : Nat) ^ 100 = 1267650600228229401496703205376 := by decide
  have hD0 : 0 < 5040 * (2 * n) := by omega
  have hDb : (5040 * (2 * n)).natAbs < 2 ^ 100 := by rw [e100]; omega
  have hNb : (12582912 * (5040 * (2 * n))).natAbs < 2 ^ 100 := by rw [e100]; omega
  have nB2 : 0 ≤ tot (backL t ps r).2 := tot_nn2 fun l hl => (g2 l hl).1
  have e12 : ((12582912 : Int) : Rat) = ((6291456 : Int) : Rat) + ((6291456 : Int) : Rat) := by rw [← Rat.intCast_add]; rfl
  have hls : ∀ l ∈ ls, 0 < l.2 ∧ In (5040 * (2 * n)) l.2 := fun l hl => ⟨(h.ols l hl).pos, (h.ols l hl).den.twice.up _⟩
  have hb1 : ∀ l ∈ (backL t ps r).1, 0 < l.2 ∧ In (5040 * (2 * n)) l.2 := fun l hl => ⟨(g1 l hl).1, (g1 l hl).2.1⟩
  have r0 := h.r0
  have r1 := h.r1
  have hti : ∀ i, tot ((backL t ps r).1.take i) ≤ r := fun i => by
    have e := List.take_append_drop i (backL t ps r).1
    have e2 : tot ((backL t ps r).1.take i) + tot ((backL t ps r).1.drop i) = r := by rw [← tot_app, e, s1]
    have := tot_nn2 (ls := (backL t ps r).1.drop i) fun l hl => (hb1 l (List.mem_of_mem_drop hl)).1
    grind
  have hbi : ∀ i, ∀ l ∈ (backL t ps r).1.take i, 0 < l.2 ∧ In (5040 * (2 * n)) l.2 := fun i l hl => hb1 l (List.mem_of_mem_take hl)
  have zi : ∀ i, SzL 100 (laidL s ls ((backL t ps r).1.take i) nms) := fun i => by
    obtain ⟨a, b⟩ := laidL_good (s := s) (nms := nms) hls (hbi i)
    exact Good.sz (D := 5040 * (2 * n)) (N := 12582912) ⟨fun l hl => (a l hl).1, fun l hl => (a l hl).2, by rw [b, e12]; have := hti i; grind⟩ hD0 hNb hDb
  refine ⟨?_, ?_, Nat.le_trans b1 h.lps, Nat.le_trans b2 h.lps, fun l hl => ?_, zi, ?_, ?_, fun p => laid_eq hls hb1, fun p i => laid_eq hls (hbi i)⟩
  · exact Good.sz (D := 5040 * (2 * n)) (N := 12582912) ⟨fun l hl => (g1 l hl).1, fun l hl => (g1 l hl).2.1, by rw [s1, e12]; grind⟩ hD0 hNb hDb
  · exact Good.sz (D := 5040 * (2 * n)) (N := 12582912) ⟨fun l hl => (g2 l hl).1, fun l hl => (g2 l hl).2.1, by rw [e12]; grind⟩ hD0 hNb hDb
  · obtain ⟨_, _, y, hy, e⟩ := g1 l hl
    rw [← e]
    exact h.nm y hy
  · refine Sz.of_in (D := 5040 * (2 * n)) (N := 12582912) ((tot_in fun l hl => (hls l hl).2).add (h.rin.up _)) hD0 (by grind) (by rw [e12]; grind) hNb hDb
  · obtain ⟨a, b⟩ := laidL_good (s := s) (nms := nms) hls hb1
    rw [b, s1]

def spRR (C CR : Addr) : Sp := fun vs H Q _ => ∃ (x rq q qp lq : Addr) (v : V) (ru : Ru) (ls ps : List Ly) (r : Rat) (nms : List Str), vs = [.ref x, .ref rq, .ref q, .ref qp, v, .ref lq] ∧ IsRu CR H x ru ∧ H rq = some (.tup [.str ru.t, .str ru.p, .int ru.n]) ∧ LayAt C H q ls ∧ LayAt C H qp ps ∧ IsN C H v r ∧ H lq = some (.lst (nms.map V.str)) ∧ nms.length ≤ 1000 ∧ Sz 200 r ∧ RR ls ps r nms ∧
  ∀ H', Same H H' → Q (.bl true) H'
theorem refs_of {C : Addr} {H : Hp} {xs : List V} {ls : List Ly} (h : All2 (Lay C H) xs ls) : ∀ z ∈ xs, flatB z = true ∨ ∃ a, z = .ref a := fun z hz => by
  obtain ⟨i, hi⟩ := List.mem_iff_getElem?.mp hz
  obtain ⟨y, _, t, _, rfl, _⟩ := h.get hi
  exact .inr ⟨t, rfl⟩
theorem strs_flat {ns : List Str} : ∀ z ∈ ns.map V.str, flatB z = true ∨ ∃ a, z = .ref a := fun z hz => by
  obtain ⟨y, _, rfl⟩ := List.mem_map.mp hz
  exact .inl rfl
theorem laidL_len1 {s : Str} {nms : List Str} {ps : List Ly} : ∀ {ls : List Ly}, (laidL s ls ps nms).length ≤ ls.length + ps.length := by
  induction ps with
  | nil => exact fun {ls} => Nat.le_refl _
  | cons l ps ih =>
    intro ls
    have h1 := ih (ls := putL s ls l nms)
    have h2 := putL_len (s := s) (ls := ls) (l := l) (nms := nms)
    show (laidL s (putL s ls l nms) ps nms).length ≤ _
    rw [List.length_cons]
    omega
theorem laidL_len {s : Str} {nms : List Str} {ls ps : List Ly} (h1 : ls.length ≤ 6) (h2 : ps.length ≤ 6) : (laidL s ls ps nms).length ≤ 12 := Nat.le_trans laidL_len1 (by omega)
section
variable {P : Program} {w : World} {K : PySem.W.Frag} {mg : Str → Option Value} {base : Heap} {A : Ad}
theorem ok_l_return_right (T : Txt K mg A) : FnOk P w K mg base CX0 18 A.l_return_right A.fd_l_return_right P_l_return_right (spRR A.Ratio A.Rule) := by
  refine T.F_l_return_right.ok sc_l_return_right (fun vs H Q E h => ?_) (fun cdv Ar outer s H vs Q E hr h => ?_)
  · obtain ⟨x, rq, q, qp, lq, v, ru, ls, ps, r, nms, rfl, _⟩ := h
    rfl
  · obtain ⟨x, rq, q, qp, lq, v, ru, ls, ps, r, nms, rfl, hx, hrq, hL, hP, hv, hlq, nlen, sr, R, k⟩ := h
    refine ⟨_, (pss_cons (ps_set (i := 6) sc_l_return_right.nd rfl (Or.inl rfl) (pe_callTy call_list_of (by rfl) T.z_list (by decide +kernel) (pa_cons (pv 3) pa_nil)))
      (pss_cons (ps_set (i := 7) sc_l_return_right.nd rfl (Or.inl rfl) (pe_call (ok_l_back T) (hr.mono (by decide)) (by rfl) T.g__law_back T.F_l_back.kp T.b_l_back .nil pass0 (pa_cons (pe_ix ix_tup (pv 1) pe_int (fun _ _ => rfl)) (pa_cons (pv 3) (pa_cons (pv 4) pa_nil)))))
      (pss_cons (ps_g (ps_for PassesOwn.never rfl (pi_range1 rfl T.z_range (pa_cons pe_int pa_nil)) (pg_name (i := 8) sc_l_return_right.nd rfl (Or.inl rfl)) (pss_cons (ps_asg (pe_meth (pv 0) T.cl_Rule T.m_Rule_returned (ok_m_Rule_returned T) (hr.mono (by decide)) T.b_m_Rule_returned .nil passL (pa_cons (pv 6) (pa_cons (pv 4) pa_nil))) (pg_tup (n := 2) rfl (pgs_cons (pg_name (i := 9) sc_l_return_right.nd rfl (Or.inl rfl)) (pgs_cons (pg_name (i := 10) sc_l_return_right.nd rfl (Or.inl rfl)) pgs_nil))))
      (pss_cons (ps_if (PW.pt (pw_or (pt_not (pt_val (pe_call (ok_l_parts_same T) (hr.mono (by decide)) (by rfl) T.g__law_parts_same T.F_l_parts_same.kp T.b_l_parts_same .nil pass0 (pa_cons (pv 9) (pa_cons (pe_ix ix_tup (pv 7) pe_int (fun _ _ => rfl)) pa_nil))))) (pw_or (pt_not (pt_val (pe_call (ok_l_parts_same T) (hr.mono (by decide)) (by rfl) T.g__law_parts_same T.F_l_parts_same.kp T.b_l_parts_same .nil pass0 (pa_cons (pv 10) (pa_cons (pe_ix ix_tup (pv 7) pe_int (fun _ _ => rfl)) pa_nil))))) (pw_or1 (pt_cmpR (op_neL hr.units) (pv 6) (pv 3) (nomark _)))))) (pss_one (ps_ret pe_bl)) pss_nil)
      (pss_cons (ps_set (i := 11) sc_l_return_right.nd rfl (Or.inl rfl) (pe_callTy call_list_of (by rfl) T.z_list (by decide +kernel) (pa_cons (pv 2) pa_nil)))
      (pss_cons (ps_set (i := 12) sc_l_return_right.nd rfl (Or.inl rfl) (pe_callTy call_list_of (by rfl) T.z_list (by decide +kernel) (pa_cons (pv 9) pa_nil)))
      (pss_cons (ps_set (i := 13) sc_l_return_right.nd rfl (Or.inl rfl) (pe_callTy call_list_of (by rfl) T.z_list (by decide +kernel) (pa_cons (pv 5) pa_nil)))
      (pss_cons (ps_set (i := 14) sc_l_return_right.nd rfl (Or.inl rfl) (pe_meth (pv 0) T.cl_Rule T.m_Rule_laid (ok_m_Rule_laid T) (hr.mono (by decide)) T.b_m_Rule_laid .nil pass0 (pa_cons (pv 11) (pa_cons (pv 9) (pa_cons (pv 13) pa_nil)))))
      (pss_cons (ps_set (i := 15) sc_l_return_right.nd rfl (Or.inl rfl) (pe_call (ok_l_laid T) (hr.mono (by decide)) (by rfl) T.g__law_laid T.F_l_laid.kp T.b_l_laid .nil pass0 (pa_cons (pe_call (ok_l_side T) (hr.mono (by decide)) (by rfl) T.g__law_side T.F_l_side.kp T.b_l_side .nil pass0 (pa_cons (pv 1) pa_nil)) (pa_cons (pv 2) (pa_cons (pe_ix ix_tup (pv 7) pe_int (fun _ _ => rfl)) (pa_cons (pv 5) pa_nil))))))
      (pss_cons (ps_if (PW.pt (pw_or (pt_not (pt_val (pe_call (ok_l_parts_same T) (hr.mono (by decide)) (by rfl) T.g__law_parts_same T.F_l_parts_same.kp T.b_l_parts_same .nil pass0 (pa_cons (pv 14) (pa_cons (pv 15) pa_nil))))) (pw_or (pt_cmpR (op_neL hr.units) (pv 11) (pv 2) (nomark _)) (pw_or (pt_cmpR (op_neL hr.units) (pv 9) (pv 12) (nomark _)) (pw_or1 (pt_cmpR (op_neL hr.units) (pv 13) (pv 5) (nomark _))))))) (pss_one (ps_ret pe_bl)) pss_nil)
      (pss_cons (ps_if (pt_not (pt_val (pe_meth (pe_call (ok_l_total T) (hr.mono (by decide)) (by rfl) T.g__law_total T.F_l_total.kp T.b_l_total .nil pass0 (pa_cons (pv 14) pa_nil)) T.cl_Ratio T.m_Ratio_same (ok_m_Ratio_same T) (hr.mono (by decide)) T.b_m_Ratio_same .nil pass0 (pa_cons (pe_op (op_own (E := E0) rfl (oo_add T) (ok_m_Ratio_add T) (hr.mono (by decide)) T.b_m_Ratio_add pass0) (pe_call (ok_l_total T) (hr.mono (by decide)) (by rfl) T.g__law_total T.F_l_total.kp T.b_l_total .nil pass0 (pa_cons (pv 2) pa_nil)) (pv 4)) pa_nil)))) (pss_one (ps_ret pe_bl)) pss_nil)
      (pss_cons (ps_expr (pe_bm0 PySem.F.plainAttrs_list PySem.F.slot_list_clear PySem.F.type_list_clear mt_clear (pv 9)))
      (pss_cons (ps_expr (pe_bm0 PySem.F.plainAttrs_list PySem.F.slot_list_clear PySem.F.type_list_clear mt_clear (pv 10)))
      (pss_cons (ps_expr (pe_bm0 PySem.F.plainAttrs_list PySem.F.slot_list_clear PySem.F.type_list_clear mt_clear (pv 14)))
      (pss_cons (ps_set (i := 14) sc_l_return_right.nd rfl (Or.inl rfl) (pe_meth (pv 0) T.cl_Rule T.m_Rule_laid (ok_m_Rule_laid T) (hr.mono (by decide)) T.b_m_Rule_laid .nil pass0 (pa_cons (pv 11) (pa_cons (pe_lst pa_nil) (pa_cons (pv 13) pa_nil)))))
      (pss_cons (ps_if (pt_not (pt_val (pe_call (ok_l_parts_same T) (hr.mono (by decide)) (by rfl) T.g__law_parts_same T.F_l_parts_same.kp T.b_l_parts_same .nil pass0 (pa_cons (pv 14) (pa_cons (pv 2) pa_nil))))) (pss_one (ps_ret pe_bl)) pss_nil)
      (pss_cons (ps_expr (pe_bm0 PySem.F.plainAttrs_list PySem.F.slot_list_clear PySem.F.type_list_clear mt_clear (pv 14)))
      (pss_one (ps_if (pt_cmpR (op_neL hr.units) (pv 11) (pv 2) (nomark _)) (pss_one (ps_ret pe_bl)) pss_nil)))))))))))))))))))
      (pss_one (ps_ret pe_bl))))), ?_⟩
    have X := R.x ru.t (sideF ru.t ru.p)
    have hpp : ∀ l ∈ ps, 0 < l.2 := fun l hl => (R.ops l hl).pos
    have eB := back_eq (t := ru.t) hpp R.r0 R.r1
    have sLs : SzL 20 ls := fun l hl => (R.ols l hl).sz
    have sPs : SzL 20 ps := fun l hl => (R.ops l hl).sz
    have l6 := R.lls
    have p6 := R.lps
    have hnz : tot ps ≠ 0 := by have := R.r0; have := R.r1; grind
    obtain ⟨dx, ex⟩ := id hx
    obtain ⟨xs, hq, hA⟩ := id hL
    obtain ⟨ys, hqp, hB⟩ := id hP
    refine ⟨_, rfl, qp, ys, rfl, .inl (SqL.of hqp), fun hd hhd => ?_⟩
    have s0 := Same.new (o := .lst ys) hhd
    refine ⟨_, rfl, rq, _, _, _, rfl, rfl, SqT.of (s0 _ _ hrq), rfl, _, rfl, _, rfl, ru.t, qp, v, ps, r, rfl, hP.same s0, hv.same s0, sPs, sr, by omega, hnz, fun p0 qt0 ql0 H1 s1 hp0 ht0 hl0 nt0 nl0 => ?_⟩
    have sH := s0.trans s1
    have hhd1 : H1 hd = some (.lst ys) := s1 _ _ upd_same
    refine ⟨⟨2, rfl, by decide, by decide, for_range (lo := 0) (n := 2) (fun i σ' H' => Wd (∃ (o : List (Option V)), o.length = 8 ∧ σ' = [some (.ref x), some (.ref rq), some (.ref q), some (.ref qp), some v, some (.ref lq), some (.ref hd), some (.ref p0)] ++ o ∧ Same H1 H'))
        ⟨[none, none, none, none, none, none, none, none], rfl, rfl, Same.refl _⟩ ?_ ?_⟩⟩
    · rintro i σ' H2 hi ⟨o, hol, rfl, s2⟩
      match o, hol with
      | [o8, o9, o10, o11, o12, o13, o14, o15], _ =>
      have s02 := sH.trans s2
      have ex2 := s02 _ _ ex
      have hv2 := hv.same s02
      refine ⟨_, rfl, x, dx, _, rfl, ex2, rl_no _ _ _ (by decide +kernel) (by decide +kernel) (by decide +kernel), _, rfl, _, rfl, x, hd, v, ru, ps, r, rfl, ⟨dx, ex2⟩, ⟨ys, s2 _ _ hhd1, hB.mono fun _ _ z => z.same s02⟩, hv2, sPs.mono (by decide), sr, by omega, R.r0, fun _ pt qt ql H3 s3 hpt ht hl nqq nt nl => ?_, fun z => absurd R.r1 (Rat.not_le.mpr z)⟩
      rw [eB] at ht hl
      have s03 := s02.trans s3
      have s13 := s2.trans s3
      have hp3 := s13 _ _ hp0
      have ht3 := ht0.same s13
      have hl3 := hl0.same s13
      have z1 := X.z1
      have z2 := X.z2
      have l1 := X.l1
      have l2 := X.l2
      walk_at "go"
      intro H4 s4
      have hp4 := s4 _ _ hp3
      have hl4 := hl.same s4
      have hl4' := hl3.same s4
      walk_at "go"
      intro H5 s5
      have s35 := s4.trans s5
      have s05 := s03.trans s35
      have s15 := s13.trans s35
      have hq5 := s05 _ _ hq
      have hqp5 := s05 _ _ hqp
      have hhd5 := s15 _ _ hhd1
      have hlq5 := s05 _ _ hlq
      have hA5 : All2 (Lay A.Ratio H5) xs ls := hA.mono fun _ _ z => z.same s05
      have hB5 : All2 (Lay A.Ratio H5) ys ps := hB.mono fun _ _ z => z.same s05
      obtain ⟨bs, hqt, hBk⟩ := id (ht.same s35)
      obtain ⟨ks, hql, hKp⟩ := id (hl.same s35)
      refine ⟨_, rfl, iteF ⟨_, rfl, _, rfl, ⟨hd, qp, ys, rfl, rfl, SqL.of hhd5, SqL.of hqp5, refs_of hB5, _, rfl, iteF ?_⟩⟩⟩
      refine ⟨_, rfl, q, xs, rfl, .inl (SqL.of hq5), fun be hbe => ?_⟩
      have sa := Same.new (o := .lst xs) hbe
      refine ⟨_, rfl, qt, bs, rfl, .inl (SqL.of (sa _ _ hqt)), fun sh hsh => ?_⟩
      have sb := Same.new (o := .lst bs) hsh
      refine ⟨_, rfl, lq, _, rfl, .inl (SqL.of (sb _ _ (sa _ _ hlq5))), fun nq hnq => ?_⟩
      have sc := Same.new (o := .lst (nms.map V.str)) hnq
      have s6 := sa.trans (sb.trans sc)
      have hbe6 := (sb.trans sc) _ _ (upd_same (H := H5) (a := be) (o := .lst xs))
      have hsh6 := sc _ _ (upd_same (H := upd H5 be (.lst xs)) (a := sh) (o := .lst bs))
      have hnq6 := upd_same (H := upd (upd H5 be (.lst xs)) sh (.lst bs)) (a := nq) (o := .lst (nms.map V.str))
      generalize upd (upd (upd H5 be (.lst xs)) sh (.lst bs)) nq (.lst (nms.map V.str)) = H6 at *
      have s06 := s05.trans s6
      have s16 := s15.trans s6
      have ex6 := s06 _ _ ex
      have hq6 := s6 _ _ hq5
      have hqt6 := s6 _ _ hqt
      have hlq6 := s6 _ _ hlq5
      have hrq6 := s06 _ _ hrq
      have hp6 := s16 _ _ hp0
      have hA6 : All2 (Lay A.Ratio H6) xs ls := hA5.mono fun _ _ z => z.same s6
      have hBk6 : LayAt A.Ratio H6 qt (backL ru.t ps r).1 := (ht.same s35).same s6
      refine ⟨_, rfl, x, dx, _, rfl, ex6, rl_no _ _ _ (by decide +kernel) (by decide +kernel) (by decide +kernel), _, rfl, _, rfl, _, rfl, x, be, qt, nq, ru, ls, _, nms, rfl, ⟨dx, ex6⟩, ⟨xs, hbe6, hA6⟩, hBk6, hnq6, nlen, X.nm, fun i _ => by rw [X.eqi]; exact (X.zi i).mono (by decide), z1.mono (by decide), by omega, fun tp H7 s7 ntp hT => ?_⟩
      rw [X.eq] at hT
      have hrq7 := s7 _ _ hrq6
      have hp7 := s7 _ _ hp6
      have zt : SzL 100 (laidL (sideF ru.t ru.p) ls (backL ru.t ps r).1 nms) := by
        have := X.zi (backL ru.t ps r).1.length
        rw [List.take_length] at this
        exact this
      have lT : (laidL (sideF ru.t ru.p) ls (backL ru.t ps r).1 nms).length ≤ 12 := laidL_len l6 l1
      refine ⟨_, rfl, rq, ru, rfl, hrq7, _, rfl, _, rfl, p0, _, _, _, rfl, rfl, SqT.of hp7, rfl, _, rfl, _, q, qt0, lq, ls, _, nms, rfl, ⟨xs, s7 _ _ hq6, hA6.mono fun _ _ z => z.same s7⟩, ht0.same (s16.trans s7), s7 _ _ hlq6, nlen, X.nm, fun i _ => (X.zi i).mono (by decide), z1.mono (by decide), by omega, fun dp H8 s8 hD => ?_⟩
      have hT8 := hT.same s8
      walk_at "go"
      intro H9 s9
      have s69 := s7.trans (s8.trans s9)
      refine ⟨_, rfl, iteF ⟨_, rfl, _, rfl, ⟨be, q, xs, rfl, rfl, SqL.of (s69 _ _ hbe6), SqL.of (s69 _ _ hq6), refs_of hA, _, rfl, iteF ?_⟩⟩⟩
      refine ⟨_, rfl, _, rfl, ⟨qt, sh, bs, rfl, rfl, SqL.of (s69 _ _ hqt6), SqL.of (s69 _ _ hsh6), refs_of hBk, _, rfl, iteF ?_⟩⟩
      refine ⟨_, rfl, _, rfl, ⟨nq, lq, nms.map V.str, rfl, rfl, SqL.of (s69 _ _ hnq6), SqL.of (s69 _ _ hlq6), strs_flat, _, rfl, iteF ?_⟩⟩
      have s09 := s06.trans s69
      have stT : Sz 100 (tot (laidL (sideF ru.t ru.p) ls (backL ru.t ps r).1 nms)) := by rw [X.st]; exact X.zt
      have szL : Sz 127 (tot ls) := (tot_sz sLs).mono (by omega)
      refine ⟨_, rfl, tp, _, 100, rfl, hT.same (s8.trans s9), zt, by omega, by omega, fun tv H10 s10 it => ?_⟩
      obtain ⟨ap, adx, rfl, hap⟩ := id it
      refine ⟨ap, adx, _, rfl, hap, rf_no _ _ (by decide +kernel) (by decide +kernel), _, rfl, q, ls, 20, rfl, hL.same (s09.trans s10), sLs, by omega, by omega, fun lv H11 s11 il => ?_⟩
      refine ⟨_, rfl, r_own il (hv.same (s09.trans (s10.trans s11))) szL sr (by omega) fun sv H12 s12 is => ?_⟩
      refine ⟨_, _, _, _, 100, 328, rfl, it.same (s11.trans s12), .inl is, stT, szL.add sr, by decide, fun H13 s13' => ?_⟩
      refine ⟨true, congrArg V.bl (decide_eq_true X.st), iteF ?_⟩
      have s9d := s10.trans (s11.trans (s12.trans s13'))
      have s6d := s69.trans s9d
      have hqt13 := s6d _ _ hqt6
      have hql13 := (s6.trans s6d) _ _ hql
      obtain ⟨ts, htp, hTp⟩ := hT.same (s8.trans (s9.trans s9d))
      have nbq : be ≠ qt := (ne_of_none hqt hbe).symm
      have nbl : be ≠ ql := (ne_of_none hql hbe).symm
      have nbt : be ≠ tp := ne_of_none hbe6 ntp
      have fnq : H5 nq = none := Same.none sa (Same.none sb hnq)
      have nnq : nq ≠ qt := (ne_of_none hqt fnq).symm
      have nnl : nq ≠ ql := (ne_of_none hql fnq).symm
      have nnt : nq ≠ tp := ne_of_none hnq6 ntp
      have ntq : tp ≠ qt := (ne_of_none hqt6 ntp).symm
      have ntl : tp ≠ ql := (ne_of_none (s6 _ _ hql) ntp).symm
      have hbe13 := s6d _ _ hbe6
      have hnq13 := s6d _ _ hnq6
      refine ⟨_, rfl, .inl ⟨rfl, _, SqL.of hqt13⟩, qt, _, rfl, rfl, hqt13, ?_⟩
      refine ⟨_, rfl, .inl ⟨rfl, _, SqL.of (by walk_at "at")⟩, ql, ks, rfl, rfl, (by walk_at "at"), ?_⟩
      refine ⟨_, rfl, .inl ⟨rfl, _, SqL.of (by walk_at "at")⟩, tp, ts, rfl, rfl, (by walk_at "at"), ?_⟩
      have sZ : Same H2 (upd (upd (upd H13 qt (.lst [])) ql (.lst [])) tp (.lst [])) := Same.at_new (Same.none (s3.trans (s35.trans s6)) ntp) (Same.at_new nl (Same.at_new nt (s3.trans (s35.trans (s6.trans s6d)))))
      have hbe14 : (upd (upd (upd H13 qt (.lst [])) ql (.lst [])) tp (.lst [])) be = some (.lst xs) := by walk_at "at"
      have hnq14 : (upd (upd (upd H13 qt (.lst [])) ql (.lst [])) tp (.lst [])) nq = some (.lst (nms.map V.str)) := by walk_at "at"
      generalize upd (upd (upd H13 qt (.lst [])) ql (.lst [])) tp (.lst []) = H14 at *
      have s0Z := s02.trans sZ
      have ex14 := s0Z _ _ ex
      refine ⟨_, rfl, x, dx, _, rfl, ex14, rl_no _ _ _ (by decide +kernel) (by decide +kernel) (by decide +kernel), _, rfl, Nat.zero_le _, fun em hem => ?_⟩
      have sE := Same.new (o := .lst []) hem
      have ex15 := sE _ _ ex14
      have s0E := s0Z.trans sE
      refine ⟨_, rfl, x, be, em, nq, ru, ls, [], nms, rfl, ⟨dx, ex15⟩, ⟨xs, sE _ _ hbe14, hA.mono fun _ _ z => z.same s0E⟩, ⟨[], upd_same, .nil⟩, sE _ _ hnq14, nlen, (fun l hl => nomatch hl), fun i _ => ?_, (fun l hl => nomatch hl), by rw [List.length_nil]; omega, fun tp2 H16 s16' ntp2 hT2 => ?_⟩
      · rw [List.take_nil]
        exact sLs.mono (by decide)
      have s0F := s0E.trans s16'
      have hT2' : LayAt A.Ratio H16 tp2 ls := hT2
      obtain ⟨us, hus, hU⟩ := id hT2'
      refine ⟨_, rfl, _, rfl, tp2, q, ls, 20, rfl, hT2', hL.same s0F, sLs, by omega, by decide, fun H17 s17 => ?_⟩
      refine ⟨_, rfl, iteF ?_⟩
      have hus17 := s17 _ _ hus
      refine ⟨_, rfl, .inl ⟨rfl, _, SqL.of hus17⟩, tp2, us, rfl, rfl, hus17, ?_⟩
      have sEF := sE.trans (s16'.trans s17)
      have sY : Same H14 (upd H17 tp2 (.lst [])) := Same.at_new (Same.none sE ntp2) sEF
      refine ⟨_, rfl, _, rfl, ⟨be, q, xs, rfl, rfl, SqL.of (sY _ _ hbe14), SqL.of (sY _ _ (s0Z _ _ hq)), refs_of hA, _, rfl, iteF ?_⟩⟩
      exact ⟨[_, _, _, _, _, _, _, _], rfl, rfl, s2.trans (sZ.trans sY)⟩
    · rintro σ' H2 ⟨o, hol, rfl, s2⟩
      match o, hol with
      | [o8, o9, o10, o11, o12, o13, o14, o15], _ =>
      exact k _ (sH.trans s2)
end

/-! ### what is taken and brought back at once -/
theorem spots_first {f : Str → Bool} {ls : List Ly} {i : Nat} (hi : i < ls.length) (hf : f (lotAt ls i) = true) (hb : ∀ j, j < i → f (lotAt ls j) = false) : ∃ is, spots f ls = i :: is := by
  have h : (spots f ls).head? = some i := by
    unfold spots
    rw [List.head?_filter, List.find?_range_eq_some]
    exact ⟨hf, List.mem_range.mpr hi, fun j hj => by rw [hb j hj]; rfl⟩
  cases e : spots f ls with
  | nil => rw [e] at h; cases h
  | cons x xs =>
    rw [e] at h
    cases h
    exact ⟨xs, rfl⟩
theorem spots_none {f : Str → Bool} {ls : List Ly} (hb : ∀ l ∈ ls, f l.1 = false) : spots f ls = [] := by
  unfold spots
  rw [List.filter_eq_nil_iff]
  intro i hi
  have hi := List.mem_range.mp hi
  unfold lotAt
  rw [List.getD_eq_getElem?_getD, List.getElem?_eq_getElem hi]
  rw [show (some ls[i]).getD ("", 0) = ls[i] from rfl, hb _ (List.getElem_mem hi)]
  decide
theorem lotAt_eq {ls : List Ly} {i : Nat} (hi : i < ls.length) : lotAt ls i = ls[i].1 := by
  unfold lotAt
  rw [List.getD_eq_getElem?_getD, List.getElem?_eq_getElem hi]
  rfl
theorem putOwn_hit {P Q : List Ly} {z : Str} {x y : Rat} {nms : List Str} (hz : ∀ l ∈ P, l.1 ≠ z) : putOwn (P ++ (z, y) :: Q) (z, x) nms = P ++ (z, y + x) :: Q := by
  have hi : P.length < (P ++ (z, y) :: Q).length := by rw [List.length_append, List.length_cons]; omega
  have e0 : (P ++ (z, y) :: Q)[P.length]? = some (z, y) := by rw [List.getElem?_append_right (Nat.le_refl _), Nat.sub_self]; rfl
  have e1 : lotAt (P ++ (z, y) :: Q) P.length = z := by
    unfold lotAt
    rw [List.getD_eq_getElem?_getD, e0]
    rfl
  obtain ⟨is, e⟩ := spots_first (f := fun w => decide (w = z)) hi (by rw [e1]; exact decide_eq_true rfl) (fun j hj => by
    rw [lotAt_eq (by omega), List.getElem_append_left hj]
    exact decide_eq_false (hz _ (List.getElem_mem hj)))
  unfold putOwn
  rw [e]
  show (P ++ (z, y) :: Q).take P.length ++ (z, ((P ++ (z, y) :: Q).getD P.length ("", 0)).2 + x) :: (P ++ (z, y) :: Q).drop (P.length + 1) = _
  rw [List.getD_eq_getElem?_getD, e0, List.take_left' rfl, List.drop_append]
  rw [List.drop_eq_nil_of_le (by omega : P.length ≤ P.length + 1), List.nil_append, show P.length + 1 - P.length = 1 by omega]
  rfl
theorem putOwn_first {f : List Ly} {l : Ly} {nms : List Str} (h1 : ∀ x ∈ f, x.1 ≠ l.1) (h2 : ∀ x ∈ f, x.1 ∈ laterF nms l.1) : putOwn f l nms = l :: f := by
  unfold putOwn
  rw [spots_none (f := fun w => decide (w = l.1)) fun x hx => decide_eq_false (h1 x hx)]
  show f.take (spotF f l.1 nms) ++ l :: f.drop (spotF f l.1 nms) = _
  have : spotF f l.1 nms = 0 := by
    cases f with
    | nil => exact Nat.le_zero.mp spotF_le
    | cons a f =>
      obtain ⟨is, e⟩ := spots_first (f := fun w => decide (w ∈ laterF nms l.1)) (ls := a :: f) (i := 0) (by simp) (by rw [lotAt_eq (by simp)]; exact decide_eq_true (h2 a List.mem_cons_self)) (fun j hj => absurd hj (Nat.not_lt_zero j))
      unfold spotF
      rw [e]
  rw [this]
  rfl
theorem putOwn_last {f : List Ly} {l : Ly} {nms : List Str} (h1 : ∀ x ∈ f, x.1 ≠ l.1) (h2 : ∀ x ∈ f, x.1 ∉ laterF nms l.1) : putOwn f l nms = f ++ [l] := by
  unfold putOwn
  rw [spots_none (f := fun w => decide (w = l.1)) fun x hx => decide_eq_false (h1 x hx)]
  show f.take (spotF f l.1 nms) ++ l :: f.drop (spotF f l.1 nms) = _
  have : spotF f l.1 nms = f.length := by
    unfold spotF
    rw [spots_none (f := fun w => decide (w ∈ laterF nms l.1)) fun x hx => decide_eq_false (h2 x hx)]
  rw [this, List.take_length, List.drop_length]
theorem later_first {z : Str} {fs nms : List Str} (h : (z :: fs).Sublist nms) (hn : nms.Nodup) : (∀ y ∈ fs, y ≠ z) ∧ ∀ y ∈ fs, y ∈ laterF nms z := by
  have hn' := hn.sublist h
  rw [List.nodup_cons] at hn'
  refine ⟨fun y hy e => hn'.1 (e ▸ hy), fun y hy => ?_⟩
  obtain ⟨r1, r2, rfl, hz, hs⟩ := List.cons_sublist_iff.mp h
  unfold laterF
  rw [List.idxOf_append, if_pos hz, List.drop_append_of_le_length (List.idxOf_lt_length_iff.mpr hz)]
  exact List.mem_append.mpr (.inr (hs.subset hy))
theorem later_last {z : Str} {fs nms : List Str} (h : (fs ++ [z]).Sublist nms) (hn : nms.Nodup) : (∀ y ∈ fs, y ≠ z) ∧ ∀ y ∈ fs, y ∉ laterF nms z := by
  have hn' := hn.sublist h
  rw [List.nodup_append] at hn'
  refine ⟨fun y hy => hn'.2.2 y hy z (List.mem_singleton.mpr rfl), fun y hy hl => ?_⟩
  obtain ⟨r1, r2, rfl, h1, h2⟩ := List.append_sublist_iff.mp h
  have hz2 : z ∈ r2 := h2.subset (List.mem_singleton.mpr rfl)
  rw [List.nodup_append] at hn
  have hz1 : z ∉ r1 := fun hz => hn.2.2 z hz z hz2 rfl
  unfold laterF at hl
  rw [List.idxOf_append, if_neg hz1] at hl
  rw [List.drop_append, List.drop_eq_nil_of_le (by omega), List.nil_append] at hl
  exact hn.2.2 y (h1.subset hy) y (List.mem_of_mem_drop hl) rfl
def Split (ls tk lf : List Ly) : Prop := ls = tk ++ lf ∨ ∃ (A : List Ly) (z : Str) (x y : Rat) (B : List Ly), tk = A ++ [(z, x)] ∧ lf = (z, y) :: B ∧ ls = A ++ (z, x + y) :: B
theorem first_zero1 {ls : List Ly} (hp : ∀ l ∈ ls, 0 < l.2) : ∀ {tk lf : List Ly}, (ls.foldl stepF (tk, lf, 0)).1 = tk := by
  induction ls with
  | nil => exact fun {tk lf} => rfl
  | cons l ls ih =>
    intro tk lf
    have h := hp l List.mem_cons_self
    have e : stepF (tk, lf, 0) l = (tk, lf ++ [(l.1, l.2 - 0)], 0) := by
      unfold stepF
      rw [if_neg (Rat.not_le.mpr h), if_neg Rat.lt_irrefl]
    show (ls.foldl stepF (stepF (tk, lf, 0) l)).1 = _
    rw [e]
    exact ih fun x hx => hp x (List.mem_cons_of_mem _ hx)
theorem first_split {ls : List Ly} (hp : ∀ l ∈ ls, 0 < l.2) : ∀ {tk : List Ly} {R : Rat}, 0 ≤ R → Split (tk ++ ls) (ls.foldl stepF (tk, [], R)).1 (ls.foldl stepF (tk, [], R)).2.1 := by
  induction ls with
  | nil => exact fun {tk R} _ => .inl rfl
  | cons l ls ih =>
    intro tk R hR
    have hl := hp l List.mem_cons_self
    have hp' := fun x hx => hp x (List.mem_cons_of_mem l hx)
    show Split _ (ls.foldl stepF (stepF (tk, [], R) l)).1 (ls.foldl stepF (stepF (tk, [], R) l)).2.1
    by_cases h : l.2 ≤ R
    · rw [show stepF (tk, [], R) l = (tk ++ [l], [], R - l.2) from if_pos h]
      have := ih hp' (tk := tk ++ [l]) (R := R - l.2) (by grind)
      rw [List.append_assoc] at this
      exact this
    · rw [show stepF (tk, [], R) l = (if 0 < R then tk ++ [(l.1, R)] else tk, [] ++ [(l.1, l.2 - R)], 0) from if_neg h, first_zero hp', first_zero1 hp']
      by_cases h0 : 0 < R
      · rw [if_pos h0]
        refine .inr ⟨tk, l.1, R, l.2 - R, ls, rfl, rfl, ?_⟩
        rw [show R + (l.2 - R) = l.2 by grind]
      · rw [if_neg h0]
        have : R = 0 := by grind
        rw [this, show l.2 - 0 = l.2 by grind]
        exact .inl rfl
theorem first_split0 {ls : List Ly} {r : Rat} (hp : ∀ l ∈ ls, 0 < l.2) (h : 0 ≤ r) : Split ls (firstF ls r).1 (firstF ls r).2.1 := first_split hp (tk := []) h
theorem tot_zero {ls : List Ly} (hp : ∀ l ∈ ls, 0 < l.2) (h : tot ls = 0) : ls = [] := by
  cases ls with
  | nil => rfl
  | cons l ls =>
    rw [tot_cons] at h
    have h1 := hp l List.mem_cons_self
    have h2 := tot_nn2 fun x hx => hp x (List.mem_cons_of_mem l hx)
    grind
theorem back_all {t : Str} {ls : List Ly} (hp : ∀ l ∈ ls, 0 < l.2) (h0 : 0 < tot ls) : backL t ls (tot ls) = (ls.reverse, []) := by
  unfold backL
  have hd : tot ls / tot ls = 1 := by
    rw [Rat.div_def]
    exact Rat.mul_inv_cancel _ (by grind)
  split
  · unfold partF
    rw [hd, if_pos rfl]
    have : (ls.map fun l : Ly => (l.1, l.2 * 1)) = ls := by
      conv => rhs; rw [← List.map_id ls]
      refine List.map_congr_left fun l _ => ?_
      rw [Rat.mul_one]
      rfl
    rw [this]
  · have hpr : ∀ l ∈ ls.reverse, 0 < l.2 := fun l hl => hp l (List.mem_reverse.mp hl)
    have hr : 0 ≤ tot ls := by grind
    obtain ⟨s1, s2⟩ := first_sums hpr hr (by rw [tot_rev]; exact Rat.le_refl)
    rw [tot_rev] at s2
    obtain ⟨_, hl⟩ := first_piece hpr (tk := []) (R := tot ls) hr
    have hnil : (firstF ls.reverse (tot ls)).2.1 = [] := tot_zero hl (by show tot (firstF ls.reverse (tot ls)).2.1 = 0; grind)
    rcases first_split0 hpr hr with e | ⟨A, z, x, y, B, _, e, _⟩
    · rw [hnil, List.append_nil] at e
      rw [hnil, ← e]
      rfl
    · rw [hnil] at e
      cases e
theorem Chn.tail {l : Ly} {ls : List Ly} (h : Chn (l :: ls)) : Chn ls := fun i a b ha hb => h (i + 1) a b ha hb
theorem Chn.pre {A B : List Ly} (h : Chn (A ++ B)) : Chn A := fun i a b ha hb => h i a b (by rw [List.getElem?_append_left (List.getElem?_eq_some_iff.mp ha).1]; exact ha) (by rw [List.getElem?_append_left (List.getElem?_eq_some_iff.mp hb).1]; exact hb)
theorem Chn.post {A B : List Ly} (h : Chn (A ++ B)) : Chn B := by
  induction A with
  | nil => exact h
  | cons a A ih => exact ih (Chn.tail h)
theorem Chn.names {A B : List Ly} (e : A.map (·.1) = B.map (·.1)) (h : Chn A) : Chn B := fun i a b ha hb => by
  have ea : (A.map (·.1))[i]? = some a.1 := by rw [e, List.getElem?_map, ha]; rfl
  have eb : (A.map (·.1))[i + 1]? = some b.1 := by rw [e, List.getElem?_map, hb]; rfl
  rw [List.getElem?_map] at ea eb
  obtain ⟨a', ha', ea⟩ := Option.map_eq_some_iff.mp ea
  obtain ⟨b', hb', eb⟩ := Option.map_eq_some_iff.mp eb
  rw [← ea, ← eb]
  exact h i a' b' ha' hb'
theorem putL_top {C : List Ly} {a : Ly} {nms : List Str} (h : Chn (C ++ [a])) : putL "top" C a nms = C ++ [a] := by
  unfold putL
  rw [if_pos rfl, join_id h]
theorem putL_bot {C : List Ly} {a : Ly} {nms : List Str} (h : Chn (a :: C)) : putL "bottom" C a nms = a :: C := by
  unfold putL
  rw [if_neg (by decide +kernel), if_pos rfl, join_id h]
theorem putL_own {C : List Ly} {a : Ly} {nms : List Str} : putL "own" C a nms = putOwn C a nms := by
  unfold putL
  rw [if_neg (by decide +kernel), if_neg (by decide +kernel)]
theorem lay_front {s : Str} {C : List Ly} {nms : List Str} {A : List Ly} (hs : ∀ a D, (∃ A', A' ++ a :: D = A ++ C) → putL s D a nms = a :: D) : laidL s C A.reverse nms = A ++ C := by
  unfold laidL
  rw [List.foldl_reverse]
  induction A with
  | nil => rfl
  | cons a A ih =>
    rw [List.foldr_cons, ih fun b D ⟨A', e⟩ => hs b D ⟨a :: A', by rw [List.cons_append, e]; rfl⟩]
    exact hs a (A ++ C) ⟨[], rfl⟩
theorem lay_back {s : Str} {nms : List Str} {A : List Ly} : ∀ {C : List Ly}, (∀ a D, (∃ A', D ++ a :: A' = C ++ A) → putL s D a nms = D ++ [a]) → laidL s C A nms = C ++ A := by
  induction A with
  | nil => exact fun {C} _ => (List.append_nil C).symm
  | cons a A ih =>
    intro C hs
    show laidL s (putL s C a nms) A nms = _
    rw [hs a C ⟨A, rfl⟩, ih fun b D ⟨A', e⟩ => hs b D ⟨A', by rw [e, List.append_assoc]; rfl⟩, List.append_assoc]
    rfl
theorem laid_app {s : Str} {nms : List Str} {ls A B : List Ly} : laidL s ls (A ++ B) nms = laidL s (laidL s ls A nms) B nms := by
  unfold laidL
  rw [List.foldl_append]
/-- the oldest units, laid at the bottom again -/
theorem res_bottom {ls tk lf : List Ly} {nms : List Str} (hc : Chn ls) (hs : Split ls tk lf) : laidL "bottom" lf tk.reverse nms = ls := by
  have go : ∀ {A C : List Ly}, Chn (A ++ C) → laidL "bottom" C A.reverse nms = A ++ C := fun {A C} h => lay_front fun a D ⟨A', e⟩ => putL_bot (Chn.post (A := A') (e ▸ h))
  rcases hs with rfl | ⟨A, z, x, y, B, rfl, rfl, rfl⟩
  · exact go hc
  · have hB : Chn ((z, x + y) :: B) := Chn.post hc
    rw [List.reverse_append, List.reverse_singleton, laid_app]
    have e : laidL "bottom" ((z, y) :: B) [(z, x)] nms = (z, x + y) :: B := by
      show putL "bottom" ((z, y) :: B) (z, x) nms = _
      unfold putL
      rw [if_neg (by decide +kernel), if_pos rfl]
      have e2 : joinF ((z, x) :: (z, y) :: B) = joinF ((z, x + y) :: B) := by
        show B.foldl stepJ (stepJ (stepJ [] (z, x)) (z, y)) = B.foldl stepJ (stepJ [] (z, x + y))
        congr 1
        show (if z = z then [] ++ [(z, x + y)] else _) = _
        rw [if_pos rfl]
        rfl
      rw [e2, join_id hB]
    rw [e]
    exact go hc
theorem res_top {ls tk lf : List Ly} {nms : List Str} (hc : Chn ls) (hs : Split ls.reverse tk lf) : laidL "top" lf.reverse tk.reverse nms = ls := by
  have go : ∀ {A C : List Ly}, Chn (C ++ A) → laidL "top" C A nms = C ++ A := fun {A C} h => lay_back fun a D ⟨A', e⟩ => putL_top (Chn.pre (B := A') (by rw [List.append_assoc]; exact e ▸ h))
  have er := congrArg List.reverse (a₁ := ls.reverse) (a₂ := ls.reverse) rfl
  rcases hs with e | ⟨A, z, x, y, B, rfl, rfl, e⟩
  · have e := congrArg List.reverse e
    rw [List.reverse_reverse, List.reverse_append] at e
    rw [e] at hc ⊢
    exact go hc
  · have e := congrArg List.reverse e
    rw [List.reverse_reverse, List.reverse_append, List.reverse_cons] at e
    rw [List.reverse_append, List.reverse_singleton, laid_app, List.reverse_cons]
    have hB : Chn (B.reverse ++ [(z, x + y)]) := Chn.pre (e ▸ hc)
    have hB2 : Chn (B.reverse ++ [(z, y)]) := Chn.names (by rw [List.map_append, List.map_append]; rfl) hB
    have e1 : laidL "top" (B.reverse ++ [(z, y)]) [(z, x)] nms = B.reverse ++ [(z, x + y)] := by
      show putL "top" _ (z, x) nms = _
      unfold putL
      rw [if_pos rfl]
      have : joinF (B.reverse ++ [(z, y)] ++ [(z, x)]) = stepJ (joinF (B.reverse ++ [(z, y)])) (z, x) := by
        unfold joinF
        rw [List.foldl_append]
        rfl
      rw [this, join_id hB2]
      unfold stepJ
      rw [List.getLast?_append, List.getLast?_singleton]
      show (if z = z then _ else _) = _
      rw [if_pos rfl, List.dropLast_concat, Rat.add_comm]
    rw [e1, e]
    rw [e] at hc
    exact go hc
theorem names_of {ls : List Ly} {D : List Ly} (f : Str → Prop) (h : ∀ y ∈ D.map (·.1), f y) : ∀ x ∈ D, f x.1 := fun x hx => h x.1 (List.mem_map.mpr ⟨x, hx, rfl⟩)
theorem res_own1 {ls tk lf : List Ly} {nms : List Str} (hn : nms.Nodup) (hc : (ls.map (·.1)).Sublist nms) (hs : Split ls tk lf) : laidL "own" lf tk.reverse nms = ls := by
  have go : ∀ {A C : List Ly}, ((A ++ C).map (·.1)).Sublist nms → laidL "own" C A.reverse nms = A ++ C := fun {A C} h => lay_front fun a D ⟨A', e⟩ => by
    rw [← e, List.map_append, List.map_cons] at h
    have h2 := (List.sublist_append_right _ _).trans h
    obtain ⟨k1, k2⟩ := later_first h2 hn
    rw [putL_own]
    exact putOwn_first (fun x hx => k1 _ (List.mem_map.mpr ⟨x, hx, rfl⟩)) (fun x hx => k2 _ (List.mem_map.mpr ⟨x, hx, rfl⟩))
  rcases hs with rfl | ⟨A, z, x, y, B, rfl, rfl, rfl⟩
  · exact go hc
  · rw [List.reverse_append, List.reverse_singleton, laid_app]
    have e : laidL "own" ((z, y) :: B) [(z, x)] nms = (z, x + y) :: B := by
      show putL "own" ((z, y) :: B) (z, x) nms = _
      rw [putL_own, Rat.add_comm]
      exact putOwn_hit (P := []) fun l hl => nomatch hl
    rw [e]
    exact go hc
theorem res_own2 {ls tk lf : List Ly} {nms : List Str} (hn : nms.Nodup) (hc : (ls.map (·.1)).Sublist nms) (hs : Split ls.reverse tk lf) : laidL "own" lf.reverse tk.reverse nms = ls := by
  have go : ∀ {A C : List Ly}, ((C ++ A).map (·.1)).Sublist nms → laidL "own" C A nms = C ++ A := fun {A C} h => lay_back fun a D ⟨A', e⟩ => by
    rw [← e, List.map_append, List.map_cons, show D.map (·.1) ++ a.1 :: A'.map (·.1) = (D.map (·.1) ++ [a.1]) ++ A'.map (·.1) by simp] at h
    have h2 := (List.sublist_append_left _ _).trans h
    obtain ⟨k1, k2⟩ := later_last h2 hn
    rw [putL_own]
    exact putOwn_last (fun x hx => k1 _ (List.mem_map.mpr ⟨x, hx, rfl⟩)) (fun x hx => k2 _ (List.mem_map.mpr ⟨x, hx, rfl⟩))
  rcases hs with e | ⟨A, z, x, y, B, rfl, rfl, e⟩
  · have e := congrArg List.reverse e
    rw [List.reverse_reverse, List.reverse_append] at e
    rw [e] at hc ⊢
    exact go hc
  · have e := congrArg List.reverse e
    rw [List.reverse_reverse, List.reverse_append, List.reverse_cons] at e
    rw [List.reverse_append, List.reverse_singleton, laid_app, List.reverse_cons]
    have hnd := hn.sublist hc
    rw [e, List.map_append, List.map_append] at hnd
    have hz : ∀ l ∈ B.reverse, l.1 ≠ z := fun l hl => by
      rw [List.nodup_append, List.nodup_append] at hnd
      exact hnd.1.2.2 l.1 (List.mem_map.mpr ⟨l, hl, rfl⟩) z (by simp)
    have e1 : laidL "own" (B.reverse ++ [(z, y)]) [(z, x)] nms = B.reverse ++ [(z, x + y)] := by
      show putL "own" _ (z, x) nms = _
      rw [putL_own, Rat.add_comm]
      exact putOwn_hit (Q := []) hz
    rw [e1, e]
    rw [e] at hc
    exact go hc
theorem res_even {nms : List Str} {h : Rat} : ∀ (n : Nat) (A B : List Ly), A.length = n → ((A ++ B).map (·.1)).Nodup → laidL "own" ((A.map fun l => (l.1, l.2 - l.2 * h)) ++ B) (A.map fun l => (l.1, l.2 * h)).reverse nms = A ++ B
  | 0, A, B, hl, _ => by
    rw [List.eq_nil_of_length_eq_zero hl]
    rfl
  | n + 1, A, B, hl, hn => by
    have hne : A ≠ [] := fun z => by rw [z] at hl; cases hl
    obtain ⟨A', a, rfl⟩ : ∃ A' a, A = A' ++ [a] := ⟨A.dropLast, A.getLast hne, (List.dropLast_concat_getLast hne).symm⟩
    rw [List.length_append, List.length_singleton] at hl
    rw [List.map_append, List.map_append, List.reverse_append, laid_app]
    have e : laidL "own" ((A'.map fun l => (l.1, l.2 - l.2 * h)) ++ [a].map (fun l => (l.1, l.2 - l.2 * h)) ++ B) ([a].map fun l => (l.1, l.2 * h)).reverse nms = (A'.map fun l => (l.1, l.2 - l.2 * h)) ++ (a :: B) := by
      show putL "own" ((A'.map fun l => (l.1, l.2 - l.2 * h)) ++ [(a.1, a.2 - a.2 * h)] ++ B) (a.1, a.2 * h) nms = _
      rw [putL_own, List.append_assoc]
      have := putOwn_hit (P := A'.map fun l => (l.1, l.2 - l.2 * h)) (Q := B) (z := a.1) (x := a.2 * h) (y := a.2 - a.2 * h) (nms := nms) (fun l hl => by
        obtain ⟨x, hx, rfl⟩ := List.mem_map.mp hl
        rw [List.map_append, List.map_append, List.nodup_append, List.nodup_append] at hn
        exact hn.1.2.2 x.1 (List.mem_map.mpr ⟨x, hx, rfl⟩) a.1 (by simp))
      rw [show a.2 - a.2 * h + a.2 * h = a.2 by grind] at this
      exact this
    rw [e, res_even n A' (a :: B) (by omega) (by rw [← List.append_cons] at *; simpa using hn)]
    simp
/-- taken, brought back at once, and laid: the layers are as they were -/
theorem restored {t p : Str} {ls : List Ly} {nms : List Str} {r : Rat} (ht : t = "oldest" ∨ t = "newest" ∨ t = "even") (hp : ∀ l ∈ ls, 0 < l.2) (h0 : 0 ≤ r) (hne : r / tot ls ≠ 1) (hc : Chn ls) (hn : nms.Nodup)
    (hsub : sideF t p = "own" → (ls.map (·.1)).Sublist nms) (hok : t = "even" ∨ p = "own" ∨ (t = "oldest" ∧ p = "bottom") ∨ (t = "newest" ∧ p = "top")) : laidL (sideF t p) (tookF t ls r).2 (tookF t ls r).1.reverse nms = ls := by
  by_cases he : t = "even"
  · have es : sideF t p = "own" := if_pos he
    have hs := hsub es
    rw [es]
    have e2 : tookF t ls r = partF ls r := if_pos he
    have := res_even (nms := nms) (h := r / tot ls) ls.length ls [] rfl (by rw [List.append_nil]; exact hn.sublist hs)
    rw [List.append_nil, List.append_nil] at this
    rw [e2]
    unfold partF
    rw [if_neg hne]
    exact this
  · have es : sideF t p = p := if_neg he
    rw [es] at hsub ⊢
    have hpr : ∀ l ∈ ls.reverse, 0 < l.2 := fun l hl => hp l (List.mem_reverse.mp hl)
    have s1 := first_split0 (r := r) hp h0
    have s2 := first_split0 (r := r) hpr h0
    by_cases ho : t = "oldest"
    · have e2 : tookF t ls r = ((firstF ls r).1, (firstF ls r).2.1) := by unfold tookF; rw [if_neg he, if_pos ho]
      rw [e2]
      rcases hok with h | h | h | h
      · exact absurd h he
      · rw [h]
        exact res_own1 hn (hsub h) s1
      · rw [h.2]
        exact res_bottom hc s1
      · exact absurd (ho.symm.trans h.1) (by decide +kernel)
    · have e2 : tookF t ls r = ((firstF ls.reverse r).1, (firstF ls.reverse r).2.1.reverse) := by unfold tookF; rw [if_neg he, if_neg ho]
      rw [e2]
      rcases hok with h | h | h | h
      · exact absurd h he
      · rw [h]
        exact res_own2 hn (hsub h) s2
      · exact absurd h.1 ho
      · rw [h.2]
        exact res_top hc s2

/-! ### half of the layers taken, brought back at once and laid -/
theorem half_in {q : Rat} (h : In 2520 q) : In 5040 (q * (1 / 2)) := by
  obtain ⟨n, hn⟩ := h
  refine ⟨n, ?_⟩
  have e : ((5040 : Int) : Rat) = 2 * ((2520 : Int) : Rat) := by decide +kernel
  rw [← hn, e]
  grind
theorem took_good {t : Str} {ls : List Ly} (hp : ∀ l ∈ ls, AmOk l.2) (hT : 0 < tot ls) : (∀ x ∈ (tookF t ls (tot ls / 2)).1, FromN ls 5040 x) ∧ (∀ x ∈ (tookF t ls (tot ls / 2)).2, FromN ls 5040 x) ∧ In 5040 (tot ls / 2) := by
  have hd : tot ls / 2 / tot ls = 1 / 2 := by grind
  have hin : In 5040 (tot ls / 2) := by
    have := half_in (tot_in fun l hl => (hp l hl).den)
    rw [show tot ls / 2 = tot ls * (1 / 2) by grind]
    exact this
  have hps : ∀ l ∈ ls, 0 < l.2 ∧ In 5040 l.2 := fun l hl => ⟨(hp l hl).pos, (hp l hl).den.twice⟩
  rw [← and_assoc]
  refine ⟨?_, hin⟩
  unfold tookF
  split
  · unfold partF
    rw [hd]
    have h1 : ¬ (1 / 2 : Rat) = 1 := by decide +kernel
    rw [if_neg h1]
    refine ⟨fun x hx => ?_, fun x hx => ?_⟩
    · obtain ⟨l, hl, rfl⟩ := List.mem_map.mp hx
      exact ⟨Rat.mul_pos (hp l hl).pos (by decide +kernel), half_in (hp l hl).den, l, hl, rfl⟩
    · obtain ⟨l, hl, rfl⟩ := List.mem_map.mp hx
      have := (hp l hl).pos
      exact ⟨by show 0 < l.2 - l.2 * (1 / 2); grind, by show In 5040 (l.2 - l.2 * (1 / 2)); exact (hp l hl).den.twice.sub (half_in (hp l hl).den), l, hl, rfl⟩
  · split
    · exact first_good0 hps hin
    · have hpr : ∀ x ∈ ls.reverse, 0 < x.2 ∧ In 5040 x.2 := fun x hx => hps x (List.mem_reverse.mp hx)
      obtain ⟨g1, g2⟩ := first_good0 hpr hin
      have up : ∀ {x : Ly}, FromN ls.reverse 5040 x → FromN ls 5040 x := fun ⟨a, b, y, hy, c⟩ => ⟨a, b, y, List.mem_reverse.mp hy, c⟩
      exact ⟨fun x hx => up (g1 x hx), fun x hx => up (g2 x (List.mem_reverse.mp hx))⟩
theorem took_len2 {t : Str} {ls : List Ly} {r : Rat} : (tookF t ls r).1.length ≤ ls.length ∧ (tookF t ls r).2.length ≤ ls.length := by
  have f1 : ∀ xs : List Ly, (firstF xs r).1.length ≤ xs.length := fun xs => by
    have := first_len3 xs ([], [], r)
    rw [List.length_nil, Nat.zero_add] at this
    exact this
  unfold tookF
  split
  · unfold partF
    refine ⟨by simp, ?_⟩
    show (if r / tot ls = 1 then [] else _ : List Ly).length ≤ _
    split
    · exact Nat.zero_le _
    · simp
  · split
    · exact ⟨f1 ls, first_len⟩
    · refine ⟨by have := f1 ls.reverse; rw [List.length_reverse] at this; exact this, ?_⟩
      show (firstF ls.reverse r).2.1.reverse.length ≤ _
      rw [List.length_reverse]
      have := first_len (ls := ls.reverse) (r := r)
      rw [List.length_reverse] at this
      exact this
structure Agn (t : Str) (ls : List Ly) (r : Rat) (nms : List Str) : Prop where
  r0 : 0 < r
  r1 : r ≤ tot ls
  sr : Sz 200 r
  hd : r / tot ls ≠ 1
  et : takeF t ls r = tookF t ls r
  el : leftF t (takeF t ls r).2 = (tookF t ls r).2
  z1 : SzL 100 (tookF t ls r).1
  z2 : SzL 100 (tookF t ls r).2
  l1 : (tookF t ls r).1.length ≤ 6
  l2 : (tookF t ls r).2.length ≤ 6
  s1 : tot (tookF t ls r).1 = r
  eb : backF t (tookF t ls r).1 r = ((tookF t ls r).1.reverse, [])
  nm : ∀ l ∈ (tookF t ls r).1.reverse, l.1 ∈ nms
  zi : ∀ p i, SzL 100 (laidF t p (tookF t ls r).2 ((tookF t ls r).1.reverse.take i) nms)
  st : ∀ p, tot (laidF t p (tookF t ls r).2 (tookF t ls r).1.reverse nms) = tot ls
  eq : ∀ p, laidF t p (tookF t ls r).2 (tookF t ls r).1.reverse nms = laidL (sideF t p) (tookF t ls r).2 (tookF t ls r).1.reverse nms
theorem agn {t : Str} (ht : t = "oldest" ∨ t = "newest" ∨ t = "even") {ls : List Ly} {nms : List Str} (hp : ∀ l ∈ ls, AmOk l.2) (hl : ls.length ≤ 6) (hc : Chn ls) (hT : 0 < tot ls) (hn : ∀ l ∈ ls, l.1 ∈ nms) : Agn t ls (tot ls / 2) nms := by
  have hp0 := fun l hl => (hp l hl).pos
  have r0 : 0 < tot ls / 2 := by grind
  have r1 : tot ls / 2 ≤ tot ls := by grind
  have bL := Rat.le_trans (tot_le20 hp) (Rat.intCast_le_intCast.mpr (by omega : (ls.length : Int) * 1048576 ≤ 6291456))
  obtain ⟨et, eF, _, sum1, sum2⟩ := take_took ht hp0 hc r0 r1
  obtain ⟨g1, g2, hin⟩ := took_good (t := t) hp hT
  obtain ⟨b1, b2⟩ := took_len2 (t := t) (ls := ls) (r := tot ls / 2)
  have sz : ∀ {xs : List Ly}, (∀ x ∈ xs, 0 < x.2 ∧ In 5040 x.2) → tot xs ≤ tot ls → SzL 100 xs := fun h k =>
    Good.sz (D := 5040) (N := 6291456) ⟨fun l hl => (h l hl).1, fun l hl => (h l hl).2, Rat.le_trans k bL⟩ (by decide) (by decide) (by decide)
  have h1 : ∀ x ∈ (tookF t ls (tot ls / 2)).1, 0 < x.2 ∧ In 5040 x.2 := fun x hx => ⟨(g1 x hx).1, (g1 x hx).2.1⟩
  have h2 : ∀ x ∈ (tookF t ls (tot ls / 2)).2, 0 < x.2 ∧ In 5040 x.2 := fun x hx => ⟨(g2 x hx).1, (g2 x hx).2.1⟩
  have n1 := tot_nn2 fun l hl => (h1 l hl).1
  have n2 := tot_nn2 fun l hl => (h2 l hl).1
  have h1r : ∀ x ∈ (tookF t ls (tot ls / 2)).1.reverse, 0 < x.2 ∧ In 5040 x.2 := fun x hx => h1 x (List.mem_reverse.mp hx)
  refine ⟨r0, r1, Sz.of_in (D := 5040) (N := 6291456) hin (by decide) (by grind) (Rat.le_trans r1 bL) (by decide) (by decide), ?_, et, by rw [eF, et], sz h1 (by grind), sz h2 (by grind), by omega, by omega, sum1, ?_, ?_, ?_, ?_, ?_⟩
  · have hd : tot ls / 2 / tot ls = 1 / 2 := by grind
    rw [hd]
    decide +kernel
  · have e := back_all (t := t) (fun l hl => (h1 l hl).1) (by rw [sum1]; exact r0)
    rw [sum1] at e
    rw [back_eq (fun l hl => (h1 l hl).1) r0 (by rw [sum1]; exact Rat.le_refl)]
    exact e
  · intro l hl
    obtain ⟨_, _, y, hy, e⟩ := g1 l (List.mem_reverse.mp hl)
    rw [← e]
    exact hn y hy
  · intro p i
    have hi : ∀ x ∈ (tookF t ls (tot ls / 2)).1.reverse.take i, 0 < x.2 ∧ In 5040 x.2 := fun x hx => h1r x (List.mem_of_mem_take hx)
    rw [laid_eq h2 hi]
    obtain ⟨a, b⟩ := laidL_good (s := sideF t p) (nms := nms) h2 hi
    refine sz a ?_
    rw [b]
    have e := List.take_append_drop i (tookF t ls (tot ls / 2)).1.reverse
    have e2 : tot ((tookF t ls (tot ls / 2)).1.reverse.take i) + tot ((tookF t ls (tot ls / 2)).1.reverse.drop i) = tot (tookF t ls (tot ls / 2)).1 := by rw [← tot_app, e, tot_rev]
    have := tot_nn2 (ls := (tookF t ls (tot ls / 2)).1.reverse.drop i) fun l hl => (h1r l (List.mem_of_mem_drop hl)).1
    grind
  · intro p
    rw [laid_eq h2 h1r, (laidL_good (s := sideF t p) (nms := nms) h2 h1r).2, tot_rev]
    grind
  · exact fun p => laid_eq h2 h1r

structure S42 (A : Ad) (H : Hp) (g l rq lq q qp x : Addr) (ru : Ru) (nms : List Str) (ls ps : List Ly) (wv v : V) (r : Rat) : Prop where
  bag : Bag H g l
  fr : H rq = some (.tup [.str ru.t, .str ru.p, .int ru.n])
  rqg : rq ≠ g
  lots : H lq = some (.lst (nms.map V.str))
  lqg : lq ≠ g
  lay : LayAt A.Ratio H q ls
  qg : q ≠ g
  par : LayAt A.Ratio H qp ps
  qpg : qp ≠ g
  made : IsRu A.Rule H x ru
  who : IsR A.Ratio H wv (tot ps)
  un : IsN A.Ratio H v r
theorem LayAt.kpB2 {C g l q : Addr} {H H' : Hp} {ls : List Ly} (h : LayAt C H q ls) (B : Bag H g l) (n : q ≠ g) (k : Kp g H H') : LayAt C H' q ls := by
  obtain ⟨xs, hq, hA⟩ := h
  obtain ⟨gl, hgl⟩ := B.lst
  exact ⟨xs, k _ _ hq n, hA.mono fun _ _ h => h.keep hgl k⟩
theorem IsN.kpB2 {C g l : Addr} {H H' : Hp} {v : V} {q : Rat} (h : IsN C H v q) (B : Bag H g l) (k : Kp g H H') : IsN C H' v q := by
  obtain ⟨gl, hgl⟩ := B.lst
  exact h.elim (fun z => .inl (z.kp hgl k)) .inr
theorem IsRu.kpB2 {C g l x : Addr} {H H' : Hp} {r : Ru} (h : IsRu C H x r) (B : Bag H g l) (k : Kp g H H') : IsRu C H' x r := by
  obtain ⟨gl, hgl⟩ := B.lst
  obtain ⟨d, e⟩ := h
  exact ⟨d, k _ _ e (ne_of e hgl (by intro z; cases z))⟩
theorem S42.move {A : Ad} {H H' : Hp} {g l rq lq q qp x : Addr} {ru : Ru} {nms : List Str} {ls ps : List Ly} {wv v : V} {r : Rat} (h : S42 A H g l rq lq q qp x ru nms ls ps wv v r) (B : Bag H' g l) (k : Kp g H H') : S42 A H' g l rq lq q qp x ru nms ls ps wv v r := by
  obtain ⟨gl, hgl⟩ := h.bag.lst
  exact ⟨B, k _ _ h.fr h.rqg, h.rqg, k _ _ h.lots h.lqg, h.lqg, h.lay.kpB2 h.bag h.qg k, h.qg, h.par.kpB2 h.bag h.qpg k, h.qpg, h.made.kpB2 h.bag k, h.who.kp hgl k, h.un.kpB2 h.bag k⟩
theorem S42.same {A : Ad} {H H' : Hp} {g l rq lq q qp x : Addr} {ru : Ru} {nms : List Str} {ls ps : List Ly} {wv v : V} {r : Rat} (h : S42 A H g l rq lq q qp x ru nms ls ps wv v r) (s : Same H H') : S42 A H' g l rq lq q qp x ru nms ls ps wv v r := h.move (h.bag.keep s) (Kp.same s)
theorem nodup_S {ns : List (List Nat)} (h : ns.Nodup) : (ns.map SX.S).Nodup := List.Pairwise.map SX.S (fun _ _ n e => n (SX.S_inj e)) h
theorem floor_nn {q : Rat} (h : 0 ≤ q) : 0 ≤ rfloor q := Int.ediv_nonneg (Rat.num_nonneg.mpr h) (by omega)
theorem floor_sz {q : Rat} {a : Nat} (h : Sz a q) : (rfloor q).natAbs < 2 ^ a := Nat.lt_of_le_of_lt (Int.natAbs_ediv_le_natAbs _ _) h.1
theorem tot_pos {ls : List Ly} (hp : ∀ l ∈ ls, 0 < l.2) (h : ls ≠ []) : 0 < tot ls := by
  cases ls with
  | nil => exact absurd rfl h
  | cons l ls =>
    rw [tot_cons]
    have h1 := hp l List.mem_cons_self
    have h2 := tot_nn2 fun x hx => hp x (List.mem_cons_of_mem l hx)
    grind
theorem chn_sub {ls : List Ly} {nms : List Str} (h : (ls.map (·.1)).Sublist nms) (hn : nms.Nodup) : Chn ls := fun i a b ha hb e => by
  have hd := hn.sublist h
  have h1 : (ls.map (·.1))[i]? = some a.1 := by rw [List.getElem?_map, ha]; rfl
  have h2 : (ls.map (·.1))[i + 1]? = some a.1 := by rw [List.getElem?_map, hb, e]; rfl
  have l2 := (List.getElem?_eq_some_iff.mp h2).1
  have := (List.getElem?_inj (by omega) hd).mp (h1.trans h2.symm)
  omega
theorem or3_of {ta tb tc : TE} {σ : L2.St} {H : Hp} {Q : VK} {p1 p2 p3 : Prop} [Decidable p1] [Decidable p2] (h1 : ∀ Q' : VK, Q' (.bl (decide p1)) H → ta σ H Q') (h2 : ∀ Q' : VK, Q' (.bl (decide p2)) H → tb σ H Q')
    (h3 : ¬ p1 → ¬ p2 → ∀ Q' : VK, (∀ (b : Bool) (H' : Hp), Same H H' → (b = true → p3) → Q' (.bl b) H') → tc σ H Q') (k : ∀ (b : Bool) (H' : Hp), Same H H' → (b = true → p1 ∨ p2 ∨ p3) → Q (.bl b) H') : tOrV ta (tOrV tb tc) σ H Q := by
  refine h1 _ ⟨_, rfl, ?_⟩
  by_cases e1 : p1
  · rw [decide_eq_true e1]
    exact iteT (k true H (Same.refl _) fun _ => .inl e1)
  · rw [decide_eq_false e1]
    refine iteF (h2 _ ⟨_, rfl, ?_⟩)
    by_cases e2 : p2
    · rw [decide_eq_true e2]
      exact iteT (k true H (Same.refl _) fun _ => .inr (.inl e2))
    · rw [decide_eq_false e2]
      exact iteF (h3 e1 e2 _ fun b H' s hb => k b H' s fun z => .inr (.inr (hb z)))
theorem shapedT {t p : Str} (ht : t = "oldest" ∨ t = "newest" ∨ t = "even") (hp : p = "own" ∨ p = "top" ∨ p = "bottom") : SeqAt.shaped (.tuple [.str t, .str p]) = true := by
  rcases ht with rfl | rfl | rfl <;> rcases hp with rfl | rfl | rfl <;> decide +kernel
theorem anyT {t p : Str} (ht : t = "oldest" ∨ t = "newest" ∨ t = "even") (hp : p = "own" ∨ p = "top" ∨ p = "bottom") (h : ([PyData.tuple [.str "oldest", .str "bottom"], .tuple [.str "newest", .str "top"]].any fun z => PyData.eqv z (.tuple [.str t, .str p])) = true) :
    (t = "oldest" ∧ p = "bottom") ∨ (t = "newest" ∧ p = "top") := by
  rcases ht with rfl | rfl | rfl <;> rcases hp with rfl | rfl | rfl <;> first | exact .inl ⟨rfl, rfl⟩ | exact .inr ⟨rfl, rfl⟩ | exact absurd h (by decide +kernel)
structure Un (r : Rat) : Prop where
  pos : 0 < r
  sz : Sz 200 r
  i5 : In 5040 r
theorem un_int {n : Int} (h0 : 0 < n) (h1 : n.natAbs < 2 ^ 171) : Un (n : Rat) := ⟨Rat.intCast_pos.mpr h0, ⟨Nat.lt_of_lt_of_le h1 (Nat.pow_le_pow_right (by decide) (by decide)), by show 1 < 2 ^ 200; decide⟩, In.int n⟩
def words3 : List (List Nat) := [[111, 119, 110], [116, 111, 112], [101, 118, 101, 110]]
theorem units65 {k : Nat} {A : Around} (r : Room k A) : A.units + 65 < cLine := by have := r.un; omega
section
variable {P : Program} {w : World} {K : PySem.W.Frag} {mg : Str → Option Value} {base : Heap} {A : Ad}
theorem callO_Rule (T : Txt K mg A) : StX.CallO K A.Rule A.m_Rule_call := ⟨T.ca_Rule, T.cf_Rule, T.ci_Rule⟩
theorem ok_f_law (T : Txt K mg A) : FnOk P w K mg base CX0 22 A.f_law A.fd_f_law P_f_law (spLaw K) := by
  refine T.F_f_law.ok sc_f_law (fun vs H Q E h => ?_) (fun cdv Ar outer s H vs Q E hr h => ?_)
  · obtain ⟨a, ns, rfl, _⟩ := h
    rfl
  · obtain ⟨a, ns, rfl, hS, hlen, k⟩ := h
    refine ⟨_, (pss_cons (ps_set (i := 1) sc_f_law.nd rfl (Or.inr rfl) (pe_call (ok_l_bag T) (hr.mono (by decide)) (by rfl) T.g__law_bag T.F_l_bag.kp T.b_l_bag .nil pass0 (pa_cons (pv 0) pa_nil)))
      (pss_cons (ps_set (i := 2) sc_f_law.nd rfl (Or.inl rfl) (pe_call (ok_l_rule T) (hr.mono (by decide)) (by rfl) T.g__law_rule T.F_l_rule.kp T.b_l_rule .nil pass0 (pa_cons (pv 1) pa_nil)))
      (pss_cons (ps_set (i := 3) sc_f_law.nd rfl (Or.inl rfl) (pe_call (ok_l_names T) (hr.mono (by decide)) (by rfl) T.g__law_names T.F_l_names.kp T.b_l_names .nil pass0 (pa_cons (pv 1) (pa_cons pe_int (pa_cons (pe_lst (pa_cons pe_str (pa_cons pe_str (pa_cons pe_str pa_nil)))) pa_nil)))))
      (pss_cons (ps_set (i := 4) sc_f_law.nd rfl (Or.inl rfl) (pe_call (ok_l_layers T) (hr.mono (by decide)) (by rfl) T.g__law_layers T.F_l_layers.kp T.b_l_layers .nil pass0 (pa_cons (pv 1) (pa_cons (pv 3) (pa_cons pe_int pa_nil)))))
      (pss_cons (ps_set (i := 5) sc_f_law.nd rfl (Or.inl rfl) (pe_op op_cat (pe_call (ok_l_layers T) (hr.mono (by decide)) (by rfl) T.g__law_layers T.F_l_layers.kp T.b_l_layers .nil pass0 (pa_cons (pv 1) (pa_cons (pv 3) (pa_cons pe_int pa_nil)))) (pe_lst (pa_cons (pe_tup (pa_cons (pe_call (ok_l_pick T) (hr.mono (by decide)) (by rfl) T.g__law_pick T.F_l_pick.kp T.b_l_pick .nil pass0 (pa_cons (pv 1) (pa_cons (pv 3) pa_nil))) (pa_cons (pe_call (ok_l_amount T) (hr.mono (by decide)) (by rfl) T.g__law_amount T.F_l_amount.kp T.b_l_amount .nil pass0 (pa_cons (pv 1) pa_nil)) pa_nil))) pa_nil))))
      (pss_cons (ps_set (i := 6) sc_f_law.nd rfl (Or.inl rfl) (pe_call (ok_l_made T) (hr.mono (by decide)) (by rfl) T.g__law_made T.F_l_made.kp T.b_l_made .nil pass0 (pa_cons (pv 2) pa_nil)))
      (pss_cons (ps_set (i := 7) sc_f_law.nd rfl (Or.inl rfl) (pe_call (ok_l_total T) (hr.mono (by decide)) (by rfl) T.g__law_total T.F_l_total.kp T.b_l_total .nil pass0 (pa_cons (pv 5) pa_nil)))
      (pss_cons (ps_set (i := 8) sc_f_law.nd rfl (Or.inl rfl) (pe_op op_add (pe_meth0 (pv 7) T.cl_Ratio T.m_Ratio_floor (ok_m_Ratio_floor T) (hr.mono (by decide)) T.b_m_Ratio_floor .nil pass0) pe_int))
      (pss_cons (ps_set (i := 9) sc_f_law.nd rfl (Or.inl rfl) (pe_ix ix_list (pe_lst (pa_cons (pv 7) (pa_cons (pe_op op_add pe_int (pe_call (ok_l_draw T) (hr.mono (by decide)) (by rfl) T.g__law_draw T.F_l_draw.kp T.b_l_draw .nil pass0 (pa_cons (pv 1) (pa_cons (pv 8) pa_nil)))) (pa_cons (pe_meth (pv 7) T.cl_Ratio T.m_Ratio_over (ok_m_Ratio_over T) (hr.mono (by decide)) T.b_m_Ratio_over .nil passL (pa_cons pe_int pa_nil)) (pa_cons (pv 8) pa_nil))))) (pe_call (ok_l_draw T) (hr.mono (by decide)) (by rfl) T.g__law_draw T.F_l_draw.kp T.b_l_draw .nil pass0 (pa_cons (pv 1) (pa_cons pe_int pa_nil))) (fun _ _ => rfl)))
      (pss_cons (ps_if (pt_not (pt_val (pe_call (ok_l_short T) (hr.mono (by decide)) (by rfl) T.g__law_short T.F_l_short.kp T.b_l_short .nil pass0 (pa_cons (pv 6) (pa_cons (pe_lst pa_nil) (pa_cons pe_int pa_nil)))))) (pss_one (ps_ret pe_bl)) pss_nil)
      (pss_g (Evl.pss_cut (ps_if (pt_val (pe_meth (pv 7) T.cl_Ratio T.m_Ratio_less (ok_m_Ratio_less T) (hr.mono (by decide)) T.b_m_Ratio_less .nil pass0 (pa_cons (pv 9) pa_nil))) (pss_cons (ps_if (PW.pt (pw_or (pt_not (pt_val (pe_call (ok_l_short T) (hr.mono (by decide)) (by rfl) T.g__law_short T.F_l_short.kp T.b_l_short .nil pass0 (pa_cons (pv 6) (pa_cons (pv 5) (pa_cons (pv 9) pa_nil)))))) (pw_or1 (pt_not (pt_val (pe_call (ok_l_short T) (hr.mono (by decide)) (by rfl) T.g__law_short T.F_l_short.kp T.b_l_short .nil pass0 (pa_cons (pv 6) (pa_cons (pv 5) (pa_cons (pv 9) pa_nil))))))))) (pss_one (ps_ret pe_bl)) pss_nil)
      (pss_one (ps_set (i := 9) sc_f_law.nd rfl (Or.inl rfl) (pv 7)))) pss_nil)
      (pss_cons (ps_if (pt_not (pt_val (pe_call (ok_l_return_right T) (hr.mono (by decide)) (by rfl) T.g__law_return_right T.F_l_return_right.kp T.b_l_return_right .nil pass0 (pa_cons (pv 6) (pa_cons (pv 2) (pa_cons (pv 4) (pa_cons (pv 5) (pa_cons (pv 9) (pa_cons (pv 3) pa_nil))))))))) (pss_one (ps_ret pe_bl)) pss_nil)
      (pss_g (Evl.pss_cut (ps_if (pt_cmpR op_eq (pe_call (ok_l_side T) (hr.mono (by decide)) (by rfl) T.g__law_side T.F_l_side.kp T.b_l_side .nil pass0 (pa_cons (pv 2) pa_nil)) pe_str (nomark _)) (pss_one (ps_g (ps_setLcV (i := 4) (own := [("_law_lot", 16)]) rfl sc_f_law.nd rfl rfl (sw_true rfl rfl rfl (by decide +kernel)) (pi_list (pv 3)) (blkOk_by (own := [("_law_lot", 16)]) (N := N_f_law) (sc := defScope s_f_law) (by decide +kernel)) (fun _ _ _ _ _ => (pg_name (i := 16) sc_f_law.nd rfl (Or.inl rfl))) (fun _ _ _ _ _ => (pts_one (pt_cmpR op_eq (pe_call (ok_l_draw T) (hr.mono (by decide)) (by rfl) T.g__law_draw T.F_l_draw.kp T.b_l_draw .nil pass0 (pa_cons (pv 1) (pa_cons pe_int pa_nil))) pe_int (nomark _)))) (fun _ _ _ _ _ => (pe_tup (pa_cons (pv 16) (pa_cons (pe_call (ok_l_amount T) (hr.mono (by decide)) (by rfl) T.g__law_amount T.F_l_amount.kp T.b_l_amount .nil pass0 (pa_cons (pv 1) pa_nil)) pa_nil)))) (fun _ _ _ _ _ => rfl) (fun _ _ _ _ _ => rfl) (fun _ _ _ _ _ => rfl)))) pss_nil)
      (pss_cons (ps_if (pt_cmpR (op_eqNil hr.units) (pv 4) (pe_lst pa_nil) (nomark _)) (pss_one (ps_ret (pe_call (ok_l_parts_same T) (hr.mono (by decide)) (by rfl) T.g__law_parts_same T.F_l_parts_same.kp T.b_l_parts_same .nil pass0 (pa_cons (pe_meth (pv 6) T.cl_Rule T.m_Rule_laid (ok_m_Rule_laid T) (hr.mono (by decide)) T.b_m_Rule_laid .nil pass0 (pa_cons (pe_lst pa_nil) (pa_cons (pe_lst pa_nil) (pa_cons (pv 3) pa_nil)))) (pa_cons (pe_lst pa_nil) pa_nil))))) pss_nil)
      (pss_cons (ps_asg (pe_callI (E := fun _ => E0) (pv 6) (callO_Rule T) (ok_m_Rule_call T) (hr.mono (by decide)) T.b_m_Rule_call (fun σ pins H s e s' I c => passL pins σ H s e s' I c) (pa_cons (pv 4) (pa_cons (pe_meth (pe_call (ok_l_total T) (hr.mono (by decide)) (by rfl) T.g__law_total T.F_l_total.kp T.b_l_total .nil pass0 (pa_cons (pv 4) pa_nil)) T.cl_Ratio T.m_Ratio_over (ok_m_Ratio_over T) (hr.mono (by decide)) T.b_m_Ratio_over .nil passL (pa_cons pe_int pa_nil)) pa_nil))) (pg_tup (n := 2) rfl (pgs_cons (pg_name (i := 10) sc_f_law.nd rfl (Or.inl rfl)) (pgs_cons (pg_name (i := 11) sc_f_law.nd rfl (Or.inl rfl)) pgs_nil))))
      (pss_cons (ps_asg (pe_meth (pv 6) T.cl_Rule T.m_Rule_returned (ok_m_Rule_returned T) (hr.mono (by decide)) T.b_m_Rule_returned .nil passL (pa_cons (pv 10) (pa_cons (pe_meth (pe_call (ok_l_total T) (hr.mono (by decide)) (by rfl) T.g__law_total T.F_l_total.kp T.b_l_total .nil pass0 (pa_cons (pv 4) pa_nil)) T.cl_Ratio T.m_Ratio_over (ok_m_Ratio_over T) (hr.mono (by decide)) T.b_m_Ratio_over .nil passL (pa_cons pe_int pa_nil)) pa_nil))) (pg_tup (n := 2) rfl (pgs_cons (pg_name (i := 12) sc_f_law.nd rfl (Or.inl rfl)) (pgs_cons (pg_name (i := 13) sc_f_law.nd rfl (Or.inl rfl)) pgs_nil))))
      (pss_cons (ps_set (i := 14) sc_f_law.nd rfl (Or.inl rfl) (pe_meth (pv 6) T.cl_Rule T.m_Rule_laid (ok_m_Rule_laid T) (hr.mono (by decide)) T.b_m_Rule_laid .nil pass0 (pa_cons (pv 11) (pa_cons (pv 12) (pa_cons (pv 3) pa_nil)))))
      (pss_cons (ps_set (i := 15) sc_f_law.nd rfl (Or.inl rfl) (pe_or (pe_cmpR op_eq (pe_ix ix_tup (pv 2) pe_int (fun _ _ => rfl)) pe_str (nomark _)) (pe_or (pe_cmpR op_eq (pe_ix ix_tup (pv 2) pe_int (fun _ _ => rfl)) pe_str (nomark _)) (pe_one (pe_cmpR (op_inD (units65 hr)) (pe_tup (pa_cons (pe_ix ix_tup (pv 2) pe_int (fun _ _ => rfl)) (pa_cons (pe_ix ix_tup (pv 2) pe_int (fun _ _ => rfl)) pa_nil))) (pe_lst (pa_cons (pe_tup (pa_cons pe_str (pa_cons pe_str pa_nil))) (pa_cons (pe_tup (pa_cons pe_str (pa_cons pe_str pa_nil))) pa_nil))) (by rfl))))))
      (pss_cons (ps_if (PW.pt (pw_and (pt_val (pv 15)) (pw_and1 (pt_not (pt_val (pe_call (ok_l_parts_same T) (hr.mono (by decide)) (by rfl) T.g__law_parts_same T.F_l_parts_same.kp T.b_l_parts_same .nil pass0 (pa_cons (pv 14) (pa_cons (pv 4) pa_nil)))))))) (pss_one (ps_ret pe_bl)) pss_nil)
      (pss_one (ps_ret (pe_and (pe_cmpR (op_eqNil hr.units) (pv 13) (pe_lst pa_nil) (nomark _)) (pe_one (pe_meth (pe_call (ok_l_total T) (hr.mono (by decide)) (by rfl) T.g__law_total T.F_l_total.kp T.b_l_total .nil pass0 (pa_cons (pv 14) pa_nil)) T.cl_Ratio T.m_Ratio_same (ok_m_Ratio_same T) (hr.mono (by decide)) T.b_m_Ratio_same .nil pass0 (pa_cons (pe_call (ok_l_total T) (hr.mono (by decide)) (by rfl) T.g__law_total T.F_l_total.kp T.b_l_total .nil pass0 (pa_cons (pv 4) pa_nil)) pa_nil))))))))))))))))))))))))))), ?_⟩
    walk_at "go"
    intro g l H1 s1 hg hl B1
    refine ⟨_, rfl, g, l, rfl, B1, fun rq ru H2 okr K2 B2 nrq rqg hrq => ?_⟩
    walk_at "go"
    intro wl hwl
    have B3 := B2.new (o := .lst [V.str "own", .str "top", .str "even"]) hwl
    refine ⟨g, l, wl, 5, words3, rfl, B3, (B2.ne hwl).1, by decide, by decide, upd_same, by decide, by decide, by decide, fun lq ns H4 nps hps nlen nnd nok B4 K4 => ?_⟩
    have lqg : lq ≠ g := (B3.ne nps).1
    have emap : ns.map vS = (ns.map SX.S).map V.str := by rw [List.map_map]; rfl
    rw [emap] at hps
    have nmd : (ns.map SX.S).Nodup := nodup_S nnd
    have nml : (ns.map SX.S).length = 5 := by rw [List.length_map, nlen]; rfl
    clear nok nnd nlen emap
    generalize ns.map SX.S = nms at *
    have hps1 : 1 ≤ (nms.map V.str).length := by rw [List.length_map, nml]; decide
    have hps2 : (nms.map V.str).length ≤ 1000 := by rw [List.length_map, nml]; decide
    have hpst : ∀ v ∈ nms.map V.str, ∃ z : Str, v = .str z := fun v hv => by
      obtain ⟨n, _, rfl⟩ := List.mem_map.mp hv
      exact ⟨_, rfl⟩
    have unm : ∀ {z : Str}, V.str z ∈ nms.map V.str → z ∈ nms := fun h => by
      obtain ⟨y, hy, e⟩ := List.mem_map.mp h
      cases e
      exact hy
    refine ⟨_, rfl, _, rfl, g, l, lq, _, 6, rfl, B4, lqg, hps, hps1, hps2, hpst, by decide, by decide, fun q ls H5 nq okl nml1 LL qg B5 K5 => ?_⟩
    have hps5 := K5 _ _ hps lqg
    refine ⟨_, rfl, _, rfl, g, l, lq, _, 5, rfl, B5, lqg, hps5, hps1, hps2, hpst, by decide, by decide, fun q1 ps1 H6 nq1 okp nml2 LP q1g B6 K6 => ?_⟩
    have hps6 := K6 _ _ hps5 lqg
    refine ⟨_, rfl, _, rfl, g, l, lq, _, rfl, B6, lqg, hps6, hps1, hps2, fun pv' H7 hpv B7 K7 => ?_⟩
    refine ⟨_, rfl, g, l, rfl, B7, fun av ar H8 oka iav K8 B8 => ⟨(by show 2 ≤ sizeLine; decide), fun tz htz => ⟨(by show 1 ≤ sizeLine; decide), fun lz hlz => ?_⟩⟩⟩
    obtain ⟨z, hz, rfl⟩ : ∃ z : Str, z ∈ nms ∧ pv' = .str z := by
      obtain ⟨y, hy, e⟩ := List.mem_map.mp hpv
      exact ⟨y, hy, e.symm⟩
    have LP8 := (LP.kpB2 B6 q1g K7).kpB2 B7 q1g K8
    have s10 := (Same.new (o := .tup [.str z, av]) htz).trans (Same.new (o := .lst [.ref tz]) hlz)
    obtain ⟨xs1, hx1, hA1⟩ := LP8.same s10
    have p1l : ps1.length ≤ 5 := by have := okp.len; omega
    have x1l : xs1.length ≤ 5 := by rw [hA1.1]; exact p1l
    refine ⟨q1, lz, xs1, [.ref tz], rfl, rfl, hx1, upd_same, ?_, fun qp hqp => ?_⟩
    · rw [List.length_singleton]
      exact Nat.le_trans (by omega : xs1.length + 1 ≤ 6) (by decide)
    have sN := Same.new (o := .lst (xs1 ++ [V.ref tz])) hqp
    have hlay : Lay A.Ratio _ (.ref tz) (z, ar) := ⟨tz, av, rfl, sN _ _ ((Same.new (o := .lst [V.ref tz]) hlz) _ _ upd_same), iav.same (s10.trans sN)⟩
    have LPs : LayAt A.Ratio _ qp (ps1 ++ [((z, ar) : Ly)]) := ⟨_, upd_same, All2.app (hA1.mono fun _ _ z => z.same sN) (.one hlay)⟩
    have s11 := s10.trans sN
    have B9 := B8.keep s11
    have qpg : qp ≠ g := (((B8.keep s10)).ne hqp).1
    have hq9 := ((((LL.kpB2 B5 qg K6).kpB2 B6 qg K7).kpB2 B7 qg K8)).same s11
    have hps9 := s11 _ _ ((K7.trans K8) _ _ hps6 lqg)
    have hrq9 := s11 _ _ (((((((Kp.same (Same.new hwl)).trans K4).trans K5).trans K6).trans K7).trans K8) _ _ hrq rqg)
    generalize upd _ qp _ = H9 at *
    have okps : ∀ l ∈ ps1 ++ [((z, ar) : Ly)], AmOk l.2 := fun l hl => by
      rcases List.mem_append.mp hl with h | h
      · exact okp.am l h
      · rw [List.mem_singleton] at h
        subst h
        exact oka
    have nmps : ∀ l ∈ ps1 ++ [((z, ar) : Ly)], l.1 ∈ nms := fun l hl => by
      rcases List.mem_append.mp hl with h | h
      · exact unm (nml2 l h)
      · rw [List.mem_singleton] at h
        subst h
        exact hz
    have psl : (ps1 ++ [((z, ar) : Ly)]).length ≤ 6 := by rw [List.length_append, List.length_singleton]; omega
    have psn : ps1 ++ [((z, ar) : Ly)] ≠ [] := fun e => by cases ps1 <;> cases e
    clear hlay hA1 hx1 x1l sN s10 s11 htz hlz LP8 LP okp p1l
    generalize ps1 ++ [((z, ar) : Ly)] = ps at *
    have sP : SzL 20 ps := fun l hl => (okps l hl).sz
    have tP := tot_pos (fun l hl => (okps l hl).pos) psn
    have szt : Sz 169 (tot ps) := (tot_sz sP).mono (by omega)
    refine ⟨_, rfl, rq, ru, rfl, hrq9, okr, fun x H10 s10 nx hx => ?_⟩
    refine ⟨_, rfl, qp, ps, 20, rfl, LPs.same s10, sP, by omega, by omega, fun wv H11 s11 iw => ?_⟩
    have s911 := s10.trans s11
    obtain ⟨wp, wdx, rfl, hwp⟩ := id iw
    refine ⟨_, rfl, wp, wdx, _, rfl, hwp, rf_no _ _ (by decide +kernel) (by decide +kernel), _, _, 169, rfl, iw, szt, by decide, ?_⟩
    have fn := floor_nn (q := tot ps) (by grind)
    have fs := floor_sz szt
    refine ⟨_, _, rfl, rfl, ?_⟩
    have m0 : 0 < rfloor (tot ps) + 1 := by omega
    have ms : (rfloor (tot ps) + 1).natAbs < 2 ^ 170 := by
      have : (2 : Nat) ^ 170 = 2 * 2 ^ 169 := by decide
      omega
    have ms9 : (rfloor (tot ps) + 1).natAbs < 2 ^ 9000 := Nat.lt_trans ms (Nat.pow_lt_pow_right (by decide) (by decide))
    have B11 := B9.keep s911
    refine ⟨_, rfl, _, rfl, _, rfl, g, l, rfloor (tot ps) + 1, rfl, B11, m0, ms9, fun n H12 n0 n1 B12 K12 => ?_⟩
    refine ⟨_, _, rfl, rfl, ?_⟩
    obtain ⟨gl11, hgl11⟩ := B11.lst
    have iw12 := iw.kp hgl11 K12
    have hwp12 : H12 wp = some (.ins A.Ratio wdx (rf (tot ps).num ((tot ps).den : Int))) := K12 _ _ hwp (ne_of hwp hgl11 (by intro z; cases z))
    have s2' : Sz 3 ((2 : Int) : Rat) := ⟨by decide, by decide⟩
    refine ⟨_, rfl, wp, wdx, _, rfl, hwp12, rf_no _ _ (by decide +kernel) (by decide +kernel), ?_⟩
    refine ⟨_, _, tot ps, ((2 : Int) : Rat), 169, 3, rfl, iw12, .inr ⟨2, rfl, rfl⟩, szt, s2', by decide, fun z => absurd z (by decide), fun _ hv H13 s13 i13 => ?_⟩
    refine ⟨_, rfl, (by show 4 ≤ sizeLine; decide), fun tl htl => ?_⟩
    have s14 := Same.new (o := .lst [.ref wp, .int (1 + n), hv, .int (rfloor (tot ps) + 1)]) htl
    have B14 := (B12.keep s13).keep s14
    refine ⟨_, rfl, g, l, 4, rfl, B14, by decide, by decide, fun c H15 c0 c1 B15 K15 => ?_⟩
    have tlg : tl ≠ g := ((B12.keep s13).ne htl).1
    obtain ⟨gl14, hgl14⟩ := B14.lst
    have iw15 := ((iw12.same s13).same s14).kp hgl14 K15
    have i15 := (i13.same s14).kp hgl14 K15
    obtain ⟨v, r, hat, iv, ur⟩ : ∃ (v : V) (r : Rat), atI [V.ref wp, .int (1 + n), hv, .int (rfloor (tot ps) + 1)] c = some v ∧ IsN A.Ratio H15 v r ∧ Un r := by
      have : c = 0 ∨ c = 1 ∨ c = 2 ∨ c = 3 := by omega
      have i25 : In 5040 (tot ps) := (tot_in fun l hl => (okps l hl).den).twice
      rcases this with rfl | rfl | rfl | rfl
      · exact ⟨_, tot ps, rfl, .inl iw15, tP, szt.mono (by decide), i25⟩
      · refine ⟨_, ((1 + n : Int) : Rat), rfl, .inr ⟨_, rfl, rfl⟩, un_int (by omega) ?_⟩
        have : (2 : Nat) ^ 171 = 2 * 2 ^ 170 := by decide
        omega
      · refine ⟨_, tot ps / ((2 : Int) : Rat), rfl, .inl i15, ?_, (szt.quot s2' (by decide)).mono (by decide), ?_⟩
        · rw [Rat.div_def]
          exact Rat.mul_pos tP (Rat.inv_pos.mpr (by decide))
        · have := half_in (tot_in fun l hl => (okps l hl).den)
          have e : tot ps / ((2 : Int) : Rat) = tot ps * (1 / 2) := by rw [show ((2 : Int) : Rat) = 2 from rfl]; grind
          rw [e]
          exact this
      · exact ⟨_, ((rfloor (tot ps) + 1 : Int) : Rat), rfl, .inr ⟨_, rfl, rfl⟩, un_int m0 (Nat.lt_trans ms (by decide))⟩
    refine ⟨tl, _, c, v, rfl, rfl, SqL.of (K15 _ _ upd_same tlg), hat, ?_⟩
    have KA : Kp g H9 H15 := (Kp.same s911).trans (K12.trans ((Kp.same s13).trans ((Kp.same s14).trans K15)))
    have st : S42 A H15 g l rq lq q qp x ru nms ls ps (.ref wp) v r := ⟨B15, KA _ _ hrq9 rqg, rqg, KA _ _ hps9 lqg, lqg, hq9.kpB2 B9 qg KA, qg, LPs.kpB2 B9 qpg KA, qpg,
      (hx.kpB2 (B9.keep s10) ((Kp.same s11).trans (K12.trans ((Kp.same s13).trans ((Kp.same s14).trans K15))))), iw15, iv⟩
    clear iv hat iw15 i15 hgl14 i13 hwp12 iw12 hgl11 hx LPs hq9 hps9 hrq9 iw hwp KA
    refine ⟨_, rfl, Nat.zero_le _, fun em hem => ?_⟩
    have sE := Same.new (o := .lst []) hem
    have stE := st.same sE
    refine ⟨x, em, .int 1, ru, [], 1, rfl, stE.made, ⟨[], upd_same, .nil⟩, .inr ⟨1, rfl, rfl⟩, (fun l hl => nomatch hl), ⟨by decide, by decide⟩, by decide, by decide, (by show (0 : Rat) < 1; decide), fun H16 s16 => ⟨_, rfl, iteF ?_⟩⟩
    have st16 := stE.same s16
    clear st stE sE hem s16 B15
    refine ⟨⟨fun σ' H' => Wd (∃ (v : V) (r : Rat), σ' = [some (.ref a), some (.ref g), some (.ref rq), some (.ref lq), some (.ref q), some (.ref qp), some (.ref x), some (.ref wp), some (.int (rfloor (tot ps) + 1)), some v, none, none, none, none, none, none, none] ∧ S42 A H' g l rq lq q qp x ru nms ls ps (.ref wp) v r ∧ Un r ∧ r ≤ tot ps), ?_, ?_⟩⟩
    · obtain ⟨wp', wdx', ewp, hwp'⟩ := id st16.who
      cases ewp
      refine ⟨_, rfl, wp, wdx', _, rfl, hwp', rf_no _ _ (by decide +kernel) (by decide +kernel), _, rfl, _, _, tot ps, r, 169, 200, rfl, st16.who, st16.un, szt, ur.sz, by decide, fun H17 s17 => ⟨_, rfl, ?_⟩⟩
      have st17 := st16.same s17
      refine if_dec (fun e => ?_) (fun e => ?_)
      · walk_at "go"
        refine ⟨st17.made, st17.par, st17.un, sP, ur.sz, by omega, ur.pos, e, fun H18 s18 => ?_⟩
        have st18 := st17.same s18
        walk_at "go"
        refine ⟨st18.made, st18.par, st18.un, sP, ur.sz, by omega, ur.pos, e, fun H19 s19 => ?_⟩
        have st19 := st18.same s19
        refine ⟨_, rfl, iteF ⟨_, rfl, .ref wp, tot ps, rfl, { st19 with un := .inl st19.who }, ⟨tP, szt.mono (by decide), (tot_in fun l hl => (okps l hl).den).twice⟩, Rat.le_refl⟩⟩
      · exact ⟨v, r, rfl, st17, ur, Rat.not_lt.mp e⟩
    · clear st16 ur
      rintro σ' H17 ⟨v, r, rfl, st, ur, hrt⟩
      have R : RR ls ps r nms := ⟨okl.am, by have := okl.len; omega, okps, psl, nmps, ur.pos, hrt, ur.i5⟩
      refine ⟨_, rfl, _, rfl, _, rfl, _, rfl, _, rfl, _, rfl, x, rq, q, qp, lq, v, ru, ls, ps, r, nms, rfl, st.made, st.fr, st.lay, st.par, st.un, st.lots, by omega, ur.sz, R, fun H18 s18 => ⟨_, rfl, iteF ?_⟩⟩
      have st18 := st.same s18
      clear st
      refine ⟨⟨fun σ' H' => Wd (∃ (q : Addr) (ls : List Ly), σ' = [some (.ref a), some (.ref g), some (.ref rq), some (.ref lq), some (.ref q), some (.ref qp), some (.ref x), some (.ref wp), some (.int (rfloor (tot ps) + 1)), some v, none, none, none, none, none, none, none] ∧ S42 A H' g l rq lq q qp x ru nms ls ps (.ref wp) v r ∧ (∀ l ∈ ls, AmOk l.2) ∧ ls.length ≤ 6 ∧ Chn ls ∧ (∀ l ∈ ls, l.1 ∈ nms) ∧ (sideF ru.t ru.p = "own" → (ls.map (·.1)).Sublist nms)), ?_, ?_⟩⟩
      · refine ⟨_, rfl, rq, ru, rfl, st18.fr, rfl, _, rfl, if_dec (fun e => ?_) (fun e => ?_)⟩
        · refine ⟨⟨_, rfl, lq, rfl, ⟨_, SqL.of st18.lots⟩, fun D hD => ?_⟩⟩
          have nD := st18.bag.ne hD
          refine lc_list (K := K) (a := lq) (xs := nms.map V.str) (fun i H' => Wd (∃ (zs : List V) (zl : List Ly), H' D = some (.lst zs) ∧ All2 (Lay A.Ratio H') zs zl ∧ (zl.map (·.1)).Sublist (nms.take i) ∧ (∀ l ∈ zl, AmOk l.2) ∧ Kp g H18 H' ∧ Bag H' g l))
            ⟨[], [], upd_same, .nil, List.nil_sublist _, (fun l hl => nomatch hl), (Kp.refl g H18).new hD, st18.bag.new hD⟩ (fun i H' _ h => ?_) ?_ (fun H' h => ?_)
          · obtain ⟨zs, zl, _, _, _, _, K', _⟩ := h.ok
            exact SqL.of (K' _ _ st18.lots lqg)
          · rintro i y H' hi ⟨zs, zl, hDz, hZ, hsub, ham, K', B'⟩
            obtain ⟨yn, hyn, rfl⟩ : ∃ yn, nms[i]? = some yn ∧ y = V.str yn := by
              rw [List.getElem?_map] at hi
              cases en : nms[i]? with
              | none => rw [en] at hi; cases hi
              | some yn => rw [en] at hi; cases hi; exact ⟨yn, rfl, rfl⟩
            have etk : nms.take (i + 1) = nms.take i ++ [yn] := take_more hyn
            have zlen : zs.length < sizeLine := by
              rw [hZ.1, ← List.length_map (f := fun l : Ly => l.1)]
              have := hsub.length_le
              rw [List.length_take] at this
              exact Nat.lt_of_le_of_lt (by omega : _ ≤ 5) (by decide)
            refine ⟨rfl, ?_⟩
            refine ⟨_, rfl, g, l, 2, rfl, B', by decide, by decide, fun c H2 c0 c1 B2 K2 => ?_⟩
            obtain ⟨gl, hgl⟩ := B'.lst
            have hZ2 : All2 (Lay A.Ratio H2) zs zl := hZ.mono fun _ _ h => h.keep hgl K2
            have hD2 := K2 _ _ hDz nD.1
            refine ⟨rfl, _, rfl, if_dec (fun e => ?_) (fun e => ?_)⟩
            · refine ⟨_, rfl, _, rfl, g, l, rfl, B2, fun av2 ar2 H3 oka2 iav2 K3 B3 => ⟨(by show 2 ≤ sizeLine; decide), fun tz htz => ?_⟩⟩
              have sT := Same.new (o := .tup [.str yn, av2]) htz
              have hD3 := sT _ _ (K3 _ _ hD2 nD.1)
              obtain ⟨gl2, hgl2⟩ := B2.lst
              have hZ3 : All2 (Lay A.Ratio _) zs zl := hZ2.mono fun _ _ h => (h.keep hgl2 K3).same sT
              have hlay : Lay A.Ratio _ (.ref tz) (yn, ar2) := ⟨tz, av2, rfl, upd_same, iav2.same sT⟩
              have kpD : Kp D (upd H3 tz (.tup [.str yn, av2])) (upd (upd H3 tz (.tup [.str yn, av2])) D (.lst (zs ++ [V.ref tz]))) := (Kp.refl D _).up
              refine ⟨zs, hD3, zlen, zs ++ [.ref tz], zl ++ [(yn, ar2)], upd_same, All2.app (hZ3.mono fun _ _ h => h.keep hD3 kpD) (.one (hlay.keep hD3 kpD)), ?_, fun l hl => ?_, ((K'.trans (K2.trans K3)).trans (Kp.same sT)).put hD, (B3.keep sT).put nD⟩
              · rw [etk, List.map_append]
                exact hsub.append (List.Sublist.refl _)
              · rcases List.mem_append.mp hl with h | h
                · exact ham l h
                · rw [List.mem_singleton] at h
                  subst h
                  exact oka2
            · exact ⟨zs, zl, hD2, hZ2, hsub.trans (by rw [etk]; exact List.sublist_append_left _ _), ham, K'.trans K2, B2⟩
          · obtain ⟨zs, zl, hDz, hZ, hsub, ham, K', B'⟩ := h.ok
            rw [List.length_map, List.take_length] at hsub
            have zlen : zl.length ≤ 6 := by
              have := hsub.length_le
              rw [List.length_map] at this
              omega
            have st' := st18.move B' K'
            exact ⟨D, zl, rfl, { st' with lay := ⟨zs, hDz, hZ⟩, qg := nD.1 }, ham, zlen, chn_sub hsub nmd, fun l hl => hsub.subset (List.mem_map.mpr ⟨l, hl, rfl⟩), fun _ => hsub⟩
        · exact ⟨q, ls, rfl, st18, okl.am, by have := okl.len; omega, okl.ch, fun l hl => unm (nml1 l hl), fun z => absurd (congrArg V.str z) e⟩
      · clear st18
        rintro σ' H19 ⟨q, ls, rfl, st, lam, llen, lch, lnm, lsub⟩
        obtain ⟨xs, hq, hA⟩ := id st.lay
        obtain ⟨dx, ex⟩ := id st.made
        refine ⟨_, rfl, Nat.zero_le _, fun e0 he0 => ?_⟩
        have s0 := Same.new (o := .lst []) he0
        have st0 := st.same s0
        refine ⟨⟨q, e0, xs, rfl, rfl, SqL.of (s0 _ _ hq), SqL.of upd_same, _, rfl, if_bl (fun e2 => ?_) (fun e2 => ?_)⟩⟩
        · refine ⟨_, rfl, x, dx, _, rfl, s0 _ _ ex, rl_no _ _ _ (by decide +kernel) (by decide +kernel) (by decide +kernel), Nat.zero_le _, fun e1 he1 => ⟨Nat.zero_le _, fun e2 he2 => ?_⟩⟩
          have s1 := Same.new (o := .lst []) he1
          have s2 := Same.new (o := .lst []) he2
          have st2 := (st0.same s1).same s2
          refine ⟨_, rfl, x, e1, e2, lq, ru, [], [], nms, rfl, st2.made, ⟨[], s2 _ _ upd_same, .nil⟩, ⟨[], upd_same, .nil⟩, st2.lots, by omega, (fun l hl => nomatch hl), (fun i _ => by rw [List.take_nil]; exact fun l hl => nomatch hl), (fun l hl => nomatch hl), by decide, fun p3 H3 s3 n3 hT => ?_⟩
          refine ⟨Nat.zero_le _, fun e3 he3 => ?_⟩
          exact ⟨p3, e3, [], 0, rfl, hT.same (Same.new he3), ⟨[], upd_same, .nil⟩, (fun l hl => nomatch hl), by decide, by decide, fun H4 s4 => k _⟩
        have hne : ls ≠ [] := fun z => by
          have := hA.1
          rw [z] at this
          rw [List.eq_nil_of_length_eq_zero this] at e2
          cases e2
        have tL := tot_pos (fun l hl => (lam l hl).pos) hne
        have G := agn okr.1 lam llen lch tL lnm
        have sL : SzL 20 ls := fun l hl => (lam l hl).sz
        have sztL : Sz 169 (tot ls) := (tot_sz sL).mono (by omega)
        have sr := G.sr
        have e2' : tot ls / ((2 : Int) : Rat) = tot ls / 2 := rfl
        refine ⟨_, rfl, x, rfl, _, rfl, _, rfl, q, ls, 20, rfl, st0.lay, sL, by omega, by omega, fun tv H20 s20 it => ?_⟩
        obtain ⟨tp, tdx, rfl, htp⟩ := id it
        refine ⟨tp, tdx, _, rfl, htp, rf_no _ _ (by decide +kernel) (by decide +kernel), ?_⟩
        refine ⟨_, _, tot ls, ((2 : Int) : Rat), 169, 3, rfl, it, .inr ⟨2, rfl, rfl⟩, sztL, s2', by decide, fun z => absurd z (by decide), fun _ hv H21 s21 ih => ?_⟩
        have st21 := (st0.same s20).same s21
        obtain ⟨dx21, ex21⟩ := id st21.made
        rw [e2'] at ih
        refine ⟨⟨dx21, _, ex21⟩, x, q, hv, ru, ls, tot ls / 2, rfl, st21.made, okr, st21.lay, .inl ih, sL, sr, by omega, G.r0, fun _ pt qt ql H22 s22 hpt ht hl nqq nt nl zt zl => ?_, fun z => absurd G.r1 (Rat.not_le.mpr z)⟩
        rw [G.el] at hl
        rw [G.et] at ht
        have st22 := st21.same s22
        obtain ⟨dx22, ex22⟩ := id st22.made
        walk_at "go"
        refine ⟨st22.lay, sL, by omega, by omega, fun tv2 H23 s23 it2 => ?_⟩
        obtain ⟨tp2, tdx2, rfl, htp2⟩ := id it2
        refine ⟨tp2, tdx2, _, rfl, htp2, rf_no _ _ (by decide +kernel) (by decide +kernel), ?_⟩
        refine ⟨_, _, tot ls, ((2 : Int) : Rat), 169, 3, rfl, it2, .inr ⟨2, rfl, rfl⟩, sztL, s2', by decide, fun z => absurd z (by decide), fun _ hv2 H24 s24 ih2 => ?_⟩
        have s224 := s23.trans s24
        have st24 := st22.same s224
        rw [e2'] at ih2
        refine ⟨x, qt, hv2, ru, (tookF ru.t ls (tot ls / 2)).1, tot ls / 2, rfl, st24.made, ht.same s224, .inl ih2, G.z1, sr, by have := G.l1; omega, G.r0, fun _ pt2 qb qk H25 s25 hpt2 hb hk nbk nb nk => ?_, fun z => absurd z (by rw [G.s1]; exact Rat.lt_irrefl)⟩
        rw [G.eb] at hb hk
        replace hb : LayAt A.Ratio H25 qb (tookF ru.t ls (tot ls / 2)).1.reverse := hb
        replace hk : LayAt A.Ratio H25 qk [] := hk
        have st25 := st24.same s25
        obtain ⟨dx25, ex25⟩ := id st25.made
        have hl25 := (hl.same s224).same s25
        walk_at "go"
        refine ⟨st25.lots, by omega, G.nm, fun i _ => (G.zi ru.p i).mono (by decide), (SzL.rev G.z1).mono (by decide), ?_, fun ap H26 s26 nap hT => ?_⟩
        · rw [List.length_reverse]
          have := G.l1
          have := G.l2
          omega
        have st26 := st25.same s26
        have hk26 := hk.same s26
        have zT : SzL 100 (laidF ru.t ru.p (tookF ru.t ls (tot ls / 2)).2 (tookF ru.t ls (tot ls / 2)).1.reverse nms) := by
          have := G.zi ru.p (tookF ru.t ls (tot ls / 2)).1.reverse.length
          rw [List.take_length] at this
          exact this
        have lT : (laidF ru.t ru.p (tookF ru.t ls (tot ls / 2)).2 (tookF ru.t ls (tot ls / 2)).1.reverse nms).length ≤ 12 := by
          rw [G.eq]
          exact laidL_len G.l2 (by rw [List.length_reverse]; exact G.l1)
        unfold gName
        dsimp only
        unfold tSeq
        dsimp only
        unfold tAsg
        dsimp only
        refine or3_of (p1 := ru.t = "even") (p2 := ru.p = "own") (p3 := (ru.t = "oldest" ∧ ru.p = "bottom") ∨ (ru.t = "newest" ∧ ru.p = "top")) (fun Q' q' => ?_) (fun Q' q' => ?_) (fun n1 n2 Q' q' => ?_) (fun b H27 s27 hb => ?_)
        · refine ⟨_, rfl, rq, _, _, _, rfl, rfl, SqT.of st26.fr, rfl, rfl, ?_⟩
          rw [show decide (V.str ru.t = V.str "even") = decide (ru.t = "even") from decide_eq_decide.mpr ⟨V.str.inj, congrArg V.str⟩]
          exact q'
        · refine ⟨_, rfl, rq, _, _, _, rfl, rfl, SqT.of st26.fr, rfl, rfl, ?_⟩
          rw [show decide (V.str ru.p = V.str "own") = decide (ru.p = "own") from decide_eq_decide.mpr ⟨V.str.inj, congrArg V.str⟩]
          exact q'
        · refine ⟨_, rfl, rq, _, _, _, rfl, rfl, SqT.of st26.fr, rfl, _, rfl, rq, _, _, _, rfl, rfl, SqT.of st26.fr, rfl, (by show 2 ≤ sizeLine; decide), fun p0 hp0 => ?_⟩
          have sp0 := Same.new (o := .tup [.str ru.t, .str ru.p]) hp0
          refine ⟨(by show 2 ≤ sizeLine; decide), fun p1 hp1 => ?_⟩
          have sp1 := Same.new (o := .tup [.str "oldest", .str "bottom"]) hp1
          refine ⟨(by show 2 ≤ sizeLine; decide), fun p2 hp2 => ?_⟩
          have sp2 := Same.new (o := .tup [.str "newest", .str "top"]) hp2
          refine ⟨(by show 2 ≤ sizeLine; decide), fun p3 hp3 => ?_⟩
          have sp3 := Same.new (o := .lst [.ref p1, .ref p2]) hp3
          refine ⟨.tuple [.str ru.t, .str ru.p], [.tuple [.str "oldest", .str "bottom"], .tuple [.str "newest", .str "top"]], ?_, ?_, shapedT okr.1 okr.2.1, by decide +kernel, q' _ _ (sp0.trans (sp1.trans (sp2.trans sp3))) (fun z => anyT okr.1 okr.2.1 z)⟩
          · exact .tup (SqT.of (sp3 _ _ (sp2 _ _ (sp1 _ _ upd_same)))) (.cons (.str _) (.cons (.str _) .nil))
          · exact .lst (SqL.of upd_same) (.cons (.tup (SqT.of (sp3 _ _ (sp2 _ _ upd_same))) (.cons (.str _) (.cons (.str _) .nil))) (.cons (.tup (SqT.of (sp3 _ _ upd_same)) (.cons (.str _) (.cons (.str _) .nil))) .nil))
        · have st27 := st26.same s27
          have hT27 := hT.same s27
          refine ⟨_, rfl, b, rfl, if_bl (fun eb => ?_) (fun eb => ?_)⟩
          · have el : laidF ru.t ru.p (tookF ru.t ls (tot ls / 2)).2 (tookF ru.t ls (tot ls / 2)).1.reverse nms = ls := (G.eq ru.p).trans (restored okr.1 (fun l hl => (lam l hl).pos) (Rat.le_of_lt G.r0) G.hd lch nmd lsub (hb eb))
            have hT28 := hT27
            rw [el] at hT28
            refine ⟨_, rfl, _, rfl, ap, q, ls, 20, rfl, hT28, st27.lay, sL, by omega, by decide, fun H28 s28 => ⟨_, rfl, iteF ?_⟩⟩
            have sR := s27.trans s28
            obtain ⟨ks, hks, hKs⟩ := hk26.same sR
            have ek : ks = [] := List.eq_nil_of_length_eq_zero hKs.1
            rw [ek] at hks
            refine ⟨_, rfl, Nat.zero_le _, fun en hen => ?_⟩
            have sn := Same.new (o := .lst []) hen
            refine ⟨⟨qk, en, [], rfl, rfl, SqL.of (sn _ _ hks), SqL.of upd_same, _, rfl, iteT ?_⟩⟩
            refine ⟨_, rfl, ap, _, 100, rfl, (hT.same sR).same sn, zT, by omega, by omega, fun tv H30 s30 it3 => ?_⟩
            obtain ⟨tp3, tdx3, rfl, htp3⟩ := id it3
            refine ⟨tp3, tdx3, _, rfl, htp3, rf_no _ _ (by decide +kernel) (by decide +kernel), _, rfl, q, ls, 20, rfl, (((st26.same sR).same sn).same s30).lay, sL, by omega, by omega, fun lv H31 s31 il => ?_⟩
            refine ⟨_, _, _, _, 169, 169, rfl, it3.same s31, .inl il, by rw [G.st]; exact sztL, sztL, by decide, fun H32 s32 => ?_⟩
            have eD := congrArg V.bl (decide_eq_true (G.st ru.p))
            exact Eq.mpr (congrArg (fun z => Q z H32) eD) (k _)
          · refine iteF ?_
            have sR := s27
            obtain ⟨ks, hks, hKs⟩ := hk26.same sR
            have ek : ks = [] := List.eq_nil_of_length_eq_zero hKs.1
            rw [ek] at hks
            refine ⟨_, rfl, Nat.zero_le _, fun en hen => ?_⟩
            have sn := Same.new (o := .lst []) hen
            refine ⟨⟨qk, en, [], rfl, rfl, SqL.of (sn _ _ hks), SqL.of upd_same, _, rfl, iteT ?_⟩⟩
            refine ⟨_, rfl, ap, _, 100, rfl, (hT.same sR).same sn, zT, by omega, by omega, fun tv H30 s30 it3 => ?_⟩
            obtain ⟨tp3, tdx3, rfl, htp3⟩ := id it3
            refine ⟨tp3, tdx3, _, rfl, htp3, rf_no _ _ (by decide +kernel) (by decide +kernel), _, rfl, q, ls, 20, rfl, (((st26.same sR).same sn).same s30).lay, sL, by omega, by omega, fun lv H31 s31 il => ?_⟩
            refine ⟨_, _, _, _, 169, 169, rfl, it3.same s31, .inl il, by rw [G.st]; exact sztL, sztL, by decide, fun H32 s32 => ?_⟩
            have eD := congrArg V.bl (decide_eq_true (G.st ru.p))
            exact Eq.mpr (congrArg (fun z => Q z H32) eD) (k _)
end

theorem all_mk {l : PySem.W.OpenLaw} {w : World} {K : PySem.W.Frag} {h : Heap} {mg : Str → Option Value} {fa a_CostError a_NoRatio a_BadRule a_Short a_Ratio a_Rule a_m_BadRule_init a_m_Short_init a_f_is_number a_f_common_divisor a_f_halves a_m_Ratio_init a_m_Ratio_add a_m_Ratio_radd a_m_Ratio_sub a_m_Ratio_rsub a_m_Ratio_mul a_m_Ratio_rmul a_m_Ratio_neg a_m_Ratio_abs a_m_Ratio_over a_m_Ratio_less a_m_Ratio_at_most a_m_Ratio_same a_m_Ratio_floor a_m_Ratio_sum_of a_sp_m_Ratio_sum_of a_f_stacked a_f_units_in a_f_cut a_f_shared a_f_check_units a_m_Rule_init a_m_Rule_call a_m_Rule_returned a_m_Rule_laid a_m_Rule_put a_l_bag a_l_draw a_l_names a_l_pick a_l_rule a_l_made a_l_total a_l_joined a_l_first a_l_part a_l_back a_l_put a_l_side a_l_laid a_l_parts_same a_l_amount a_l_layers a_l_short a_l_return_right a_f_law a_TAKES a_SPOTS : Addr} (X : K.In h) (G : h.Ns mainGlobals mg) (hfa : mg "law" = some (.ref fa))
    {od_m_BadRule_init : Option Addr} {an_m_BadRule_init : Option Addr} {sl_m_BadRule_init : Array (Option Value)} {oc_m_BadRule_init : Value} {kV_m_BadRule_init : Value} {dc_m_BadRule_init : Value} {pm_m_BadRule_init : Value} {cd_m_BadRule_init : Value} {ct_m_BadRule_init : Value} {od_m_Short_init : Option Addr} {an_m_Short_init : Option Addr} {sl_m_Short_init : Array (Option Value)} {oc_m_Short_init : Value} {kV_m_Short_init : Value} {dc_m_Short_init : Value} {pm_m_Short_init : Value} {cd_m_Short_init : Value} {ct_m_Short_init : Value} {od_f_is_number : Option Addr} {an_f_is_number : Option Addr} {sl_f_is_number : Array (Option Value)} {oc_f_is_number : Value} {kV_f_is_number : Value} {dc_f_is_number : Value} {pm_f_is_number : Value} {cd_f_is_number : Value} {ct_f_is_number : Value} {od_f_common_divisor : Option Addr} {an_f_common_divisor : Option Addr} {sl_f_common_divisor : Array (Option Value)} {oc_f_common_divisor : Value} {kV_f_common_divisor : Value} {dc_f_common_divisor : Value} {pm_f_common_divisor : Value} {cd_f_common_divisor : Value} {ct_f_common_divisor : Value} {od_f_halves : Option Addr} {an_f_halves : Option Addr} {sl_f_halves : Array (Option Value)} {oc_f_halves : Value} {kV_f_halves : Value} {dc_f_halves : Value} {pm_f_halves : Value} {cd_f_halves : Value} {ct_f_halves : Value} {od_m_Ratio_init : Option Addr} {an_m_Ratio_init : Option Addr} {sl_m_Ratio_init : Array (Option Value)} {oc_m_Ratio_init : Value} {kV_m_Ratio_init : Value} {dc_m_Ratio_init : Value} {pm_m_Ratio_init : Value} {cd_m_Ratio_init : Value} {ct_m_Ratio_init : Value} {tp_m_Ratio_init : Addr} {tn_m_Ratio_init : Nat} {tc_m_Ratio_init : Value} {td_m_Ratio_init : Option Addr} {ts_m_Ratio_init : Array (Option Value)} {tk0_m_Ratio_init : Tok} {od_m_Ratio_add : Option Addr} {an_m_Ratio_add : Option Addr} {sl_m_Ratio_add : Array (Option Value)} {oc_m_Ratio_add : Value} {kV_m_Ratio_add : Value} {dc_m_Ratio_add : Value} {pm_m_Ratio_add : Value} {cd_m_Ratio_add : Value} {ct_m_Ratio_add : Value} {od_m_Ratio_radd : Option Addr} {an_m_Ratio_radd : Option Addr} {sl_m_Ratio_radd : Array (Option Value)} {oc_m_Ratio_radd : Value} {kV_m_Ratio_radd : Value} {dc_m_Ratio_radd : Value} {pm_m_Ratio_radd : Value} {cd_m_Ratio_radd : Value} {ct_m_Ratio_radd : Value} {od_m_Ratio_sub : Option Addr} {an_m_Ratio_sub : Option Addr} {sl_m_Ratio_sub : Array (Option Value)} {oc_m_Ratio_sub : Value} {kV_m_Ratio_sub : Value} {dc_m_Ratio_sub : Value} {pm_m_Ratio_sub : Value} {cd_m_Ratio_sub : Value} {ct_m_Ratio_sub : Value} {od_m_Ratio_rsub : Option Addr} {an_m_Ratio_rsub : Option Addr} {sl_m_Ratio_rsub : Array (Option Value)} {oc_m_Ratio_rsub : Value} {kV_m_Ratio_rsub : Value} {dc_m_Ratio_rsub : Value} {pm_m_Ratio_rsub : Value} {cd_m_Ratio_rsub : Value} {ct_m_Ratio_rsub : Value} {od_m_Ratio_mul : Option Addr} {an_m_Ratio_mul : Option Addr} {sl_m_Ratio_mul : Array (Option Value)} {oc_m_Ratio_mul : Value} {kV_m_Ratio_mul : Value} {dc_m_Ratio_mul : Value} {pm_m_Ratio_mul : Value} {cd_m_Ratio_mul : Value} {ct_m_Ratio_mul : Value} {od_m_Ratio_rmul : Option Addr} {an_m_Ratio_rmul : Option Addr} {sl_m_Ratio_rmul : Array (Option Value)} {oc_m_Ratio_rmul : Value} {kV_m_Ratio_rmul : Value} {dc_m_Ratio_rmul : Value} {pm_m_Ratio_rmul : Value} {cd_m_Ratio_rmul : Value} {ct_m_Ratio_rmul : Value} {od_m_Ratio_neg : Option Addr} {an_m_Ratio_neg : Option Addr} {sl_m_Ratio_neg : Array (Option Value)} {oc_m_Ratio_neg : Value} {kV_m_Ratio_neg : Value} {dc_m_Ratio_neg : Value} {pm_m_Ratio_neg : Value} {cd_m_Ratio_neg : Value} {ct_m_Ratio_neg : Value} {od_m_Ratio_abs : Option Addr} {an_m_Ratio_abs : Option Addr} {sl_m_Ratio_abs : Array (Option Value)} {oc_m_Ratio_abs : Value} {kV_m_Ratio_abs : Value} {dc_m_Ratio_abs : Value} {pm_m_Ratio_abs : Value} {cd_m_Ratio_abs : Value} {ct_m_Ratio_abs : Value} {od_m_Ratio_over : Option Addr} {an_m_Ratio_over : Option Addr} {sl_m_Ratio_over : Array (Option Value)} {oc_m_Ratio_over : Value} {kV_m_Ratio_over : Value} {dc_m_Ratio_over : Value} {pm_m_Ratio_over : Value} {cd_m_Ratio_over : Value} {ct_m_Ratio_over : Value} {od_m_Ratio_less : Option Addr} {an_m_Ratio_less : Option Addr} {sl_m_Ratio_less : Array (Option Value)} {oc_m_Ratio_less : Value} {kV_m_Ratio_less : Value} {dc_m_Ratio_less : Value} {pm_m_Ratio_less : Value} {cd_m_Ratio_less : Value} {ct_m_Ratio_less : Value} {od_m_Ratio_at_most : Option Addr} {an_m_Ratio_at_most : Option Addr} {sl_m_Ratio_at_most : Array (Option Value)} {oc_m_Ratio_at_most : Value} {kV_m_Ratio_at_most : Value} {dc_m_Ratio_at_most : Value} {pm_m_Ratio_at_most : Value} {cd_m_Ratio_at_most : Value} {ct_m_Ratio_at_most : Value} {od_m_Ratio_same : Option Addr} {an_m_Ratio_same : Option Addr} {sl_m_Ratio_same : Array (Option Value)} {oc_m_Ratio_same : Value} {kV_m_Ratio_same : Value} {dc_m_Ratio_same : Value} {pm_m_Ratio_same : Value} {cd_m_Ratio_same : Value} {ct_m_Ratio_same : Value} {od_m_Ratio_floor : Option Addr} {an_m_Ratio_floor : Option Addr} {sl_m_Ratio_floor : Array (Option Value)} {oc_m_Ratio_floor : Value} {kV_m_Ratio_floor : Value} {dc_m_Ratio_floor : Value} {pm_m_Ratio_floor : Value} {cd_m_Ratio_floor : Value} {ct_m_Ratio_floor : Value} {od_m_Ratio_sum_of : Option Addr} {an_m_Ratio_sum_of : Option Addr} {sl_m_Ratio_sum_of : Array (Option Value)} {oc_m_Ratio_sum_of : Value} {kV_m_Ratio_sum_of : Value} {dc_m_Ratio_sum_of : Value} {pm_m_Ratio_sum_of : Value} {cd_m_Ratio_sum_of : Value} {ct_m_Ratio_sum_of : Value} {od_f_stacked : Option Addr} {an_f_stacked : Option Addr} {sl_f_stacked : Array (Option Value)} {oc_f_stacked : Value} {kV_f_stacked : Value} {dc_f_stacked : Value} {pm_f_stacked : Value} {cd_f_stacked : Value} {ct_f_stacked : Value} {od_f_units_in : Option Addr} {an_f_units_in : Option Addr} {sl_f_units_in : Array (Option Value)} {oc_f_units_in : Value} {kV_f_units_in : Value} {dc_f_units_in : Value} {pm_f_units_in : Value} {cd_f_units_in : Value} {ct_f_units_in : Value} {od_f_cut : Option Addr} {an_f_cut : Option Addr} {sl_f_cut : Array (Option Value)} {oc_f_cut : Value} {kV_f_cut : Value} {dc_f_cut : Value} {pm_f_cut : Value} {cd_f_cut : Value} {ct_f_cut : Value} {od_f_shared : Option Addr} {an_f_shared : Option Addr} {sl_f_shared : Array (Option Value)} {oc_f_shared : Value} {kV_f_shared : Value} {dc_f_shared : Value} {pm_f_shared : Value} {cd_f_shared : Value} {ct_f_shared : Value} {od_f_check_units : Option Addr} {an_f_check_units : Option Addr} {sl_f_check_units : Array (Option Value)} {oc_f_check_units : Value} {kV_f_check_units : Value} {dc_f_check_units : Value} {pm_f_check_units : Value} {cd_f_check_units : Value} {ct_f_check_units : Value} {od_m_Rule_init : Option Addr} {an_m_Rule_init : Option Addr} {sl_m_Rule_init : Array (Option Value)} {oc_m_Rule_init : Value} {dc_m_Rule_init : Value} {pm_m_Rule_init : Value} {cd_m_Rule_init : Value} {ct_m_Rule_init : Value} {kd_m_Rule_init : Addr} {kk0_m_Rule_init : Tok} {kk1_m_Rule_init : Tok} {od_m_Rule_call : Option Addr} {an_m_Rule_call : Option Addr} {sl_m_Rule_call : Array (Option Value)} {oc_m_Rule_call : Value} {kV_m_Rule_call : Value} {dc_m_Rule_call : Value} {pm_m_Rule_call : Value} {cd_m_Rule_call : Value} {ct_m_Rule_call : Value} {od_m_Rule_returned : Option Addr} {an_m_Rule_returned : Option Addr} {sl_m_Rule_returned : Array (Option Value)} {oc_m_Rule_returned : Value} {kV_m_Rule_returned : Value} {dc_m_Rule_returned : Value} {pm_m_Rule_returned : Value} {cd_m_Rule_returned : Value} {ct_m_Rule_returned : Value} {od_m_Rule_laid : Option Addr} {an_m_Rule_laid : Option Addr} {sl_m_Rule_laid : Array (Option Value)} {oc_m_Rule_laid : Value} {kV_m_Rule_laid : Value} {dc_m_Rule_laid : Value} {pm_m_Rule_laid : Value} {cd_m_Rule_laid : Value} {ct_m_Rule_laid : Value} {od_m_Rule_put : Option Addr} {an_m_Rule_put : Option Addr} {sl_m_Rule_put : Array (Option Value)} {oc_m_Rule_put : Value} {kV_m_Rule_put : Value} {dc_m_Rule_put : Value} {pm_m_Rule_put : Value} {cd_m_Rule_put : Value} {ct_m_Rule_put : Value} {od_l_bag : Option Addr} {an_l_bag : Option Addr} {sl_l_bag : Array (Option Value)} {oc_l_bag : Value} {kV_l_bag : Value} {dc_l_bag : Value} {pm_l_bag : Value} {cd_l_bag : Value} {ct_l_bag : Value} {od_l_draw : Option Addr} {an_l_draw : Option Addr} {sl_l_draw : Array (Option Value)} {oc_l_draw : Value} {kV_l_draw : Value} {dc_l_draw : Value} {pm_l_draw : Value} {cd_l_draw : Value} {ct_l_draw : Value} {od_l_names : Option Addr} {an_l_names : Option Addr} {sl_l_names : Array (Option Value)} {oc_l_names : Value} {kV_l_names : Value} {dc_l_names : Value} {pm_l_names : Value} {cd_l_names : Value} {ct_l_names : Value} {od_l_pick : Option Addr} {an_l_pick : Option Addr} {sl_l_pick : Array (Option Value)} {oc_l_pick : Value} {kV_l_pick : Value} {dc_l_pick : Value} {pm_l_pick : Value} {cd_l_pick : Value} {ct_l_pick : Value} {od_l_rule : Option Addr} {an_l_rule : Option Addr} {sl_l_rule : Array (Option Value)} {oc_l_rule : Value} {kV_l_rule : Value} {dc_l_rule : Value} {pm_l_rule : Value} {cd_l_rule : Value} {ct_l_rule : Value} {od_l_made : Option Addr} {an_l_made : Option Addr} {sl_l_made : Array (Option Value)} {oc_l_made : Value} {kV_l_made : Value} {dc_l_made : Value} {pm_l_made : Value} {cd_l_made : Value} {ct_l_made : Value} {od_l_total : Option Addr} {an_l_total : Option Addr} {sl_l_total : Array (Option Value)} {oc_l_total : Value} {kV_l_total : Value} {dc_l_total : Value} {pm_l_total : Value} {cd_l_total : Value} {ct_l_total : Value} {od_l_joined : Option Addr} {an_l_joined : Option Addr} {sl_l_joined : Array (Option Value)} {oc_l_joined : Value} {kV_l_joined : Value} {dc_l_joined : Value} {pm_l_joined : Value} {cd_l_joined : Value} {ct_l_joined : Value} {od_l_first : Option Addr} {an_l_first : Option Addr} {sl_l_first : Array (Option Value)} {oc_l_first : Value} {kV_l_first : Value} {dc_l_first : Value} {pm_l_first : Value} {cd_l_first : Value} {ct_l_first : Value} {od_l_part : Option Addr} {an_l_part : Option Addr} {sl_l_part : Array (Option Value)} {oc_l_part : Value} {kV_l_part : Value} {dc_l_part : Value} {pm_l_part : Value} {cd_l_part : Value} {ct_l_part : Value} {od_l_back : Option Addr} {an_l_back : Option Addr} {sl_l_back : Array (Option Value)} {oc_l_back : Value} {kV_l_back : Value} {dc_l_back : Value} {pm_l_back : Value} {cd_l_back : Value} {ct_l_back : Value} {od_l_put : Option Addr} {an_l_put : Option Addr} {sl_l_put : Array (Option Value)} {oc_l_put : Value} {kV_l_put : Value} {dc_l_put : Value} {pm_l_put : Value} {cd_l_put : Value} {ct_l_put : Value} {od_l_side : Option Addr} {an_l_side : Option Addr} {sl_l_side : Array (Option Value)} {oc_l_side : Value} {kV_l_side : Value} {dc_l_side : Value} {pm_l_side : Value} {cd_l_side : Value} {ct_l_side : Value} {od_l_laid : Option Addr} {an_l_laid : Option Addr} {sl_l_laid : Array (Option Value)} {oc_l_laid : Value} {kV_l_laid : Value} {dc_l_laid : Value} {pm_l_laid : Value} {cd_l_laid : Value} {ct_l_laid : Value} {od_l_parts_same : Option Addr} {an_l_parts_same : Option Addr} {sl_l_parts_same : Array (Option Value)} {oc_l_parts_same : Value} {kV_l_parts_same : Value} {dc_l_parts_same : Value} {pm_l_parts_same : Value} {cd_l_parts_same : Value} {ct_l_parts_same : Value} {od_l_amount : Option Addr} {an_l_amount : Option Addr} {sl_l_amount : Array (Option Value)} {oc_l_amount : Value} {kV_l_amount : Value} {dc_l_amount : Value} {pm_l_amount : Value} {cd_l_amount : Value} {ct_l_amount : Value} {od_l_layers : Option Addr} {an_l_layers : Option Addr} {sl_l_layers : Array (Option Value)} {oc_l_layers : Value} {kV_l_layers : Value} {dc_l_layers : Value} {pm_l_layers : Value} {cd_l_layers : Value} {ct_l_layers : Value} {od_l_short : Option Addr} {an_l_short : Option Addr} {sl_l_short : Array (Option Value)} {oc_l_short : Value} {kV_l_short : Value} {dc_l_short : Value} {pm_l_short : Value} {cd_l_short : Value} {ct_l_short : Value} {od_l_return_right : Option Addr} {an_l_return_right : Option Addr} {sl_l_return_right : Array (Option Value)} {oc_l_return_right : Value} {kV_l_return_right : Value} {dc_l_return_right : Value} {pm_l_return_right : Value} {cd_l_return_right : Value} {ct_l_return_right : Value} {od_f_law : Option Addr} {an_f_law : Option Addr} {sl_f_law : Array (Option Value)} {oc_f_law : Value} {kV_f_law : Value} {dc_f_law : Value} {pm_f_law : Value} {cd_f_law : Value} {ct_f_law : Value} {xnm_BadRule : Str} {xq_BadRule : Str} {xN_BadRule : Addr} {xbs_BadRule : List Value} {xbm_BadRule : List Value} {xsn_BadRule : List Str} {xsub_BadRule : List Value} {xab_BadRule : Bool} {xcol_BadRule : Option Bool} {xdd_BadRule : Option Addr} {xk0_BadRule : Option Value} {xk1_BadRule : Option Value} {xk2_BadRule : Option Value} {xk3_BadRule : Option Value} {xk5_BadRule : Option Value} {xnm_Short : Str} {xq_Short : Str} {xN_Short : Addr} {xbs_Short : List Value} {xbm_Short : List Value} {xsn_Short : List Str} {xsub_Short : List Value} {xab_Short : Bool} {xcol_Short : Option Bool} {xdd_Short : Option Addr} {xk0_Short : Option Value} {xk1_Short : Option Value} {xk2_Short : Option Value} {xk3_Short : Option Value} {xk5_Short : Option Value} {rest_m_Ratio_sum_of : List Value} {gt_MOST : Tok} {gt0_TAKES : Tok} {gt1_TAKES : Tok} {gt2_TAKES : Tok} {gn_TAKES : Nat} {gd_TAKES : Option Addr} {gs_TAKES : Array (Option Value)} {gt0_SPOTS : Tok} {gt1_SPOTS : Tok} {gt2_SPOTS : Tok} {gn_SPOTS : Nat} {gd_SPOTS : Option Addr} {gs_SPOTS : Array (Option Value)}
    (pz_abs : PySem.W.nsIn K mainGlobals "abs" = some none)
    (pz_all : PySem.W.nsIn K mainGlobals "all" = some none)
    (pz_bool : PySem.W.nsIn K mainGlobals "bool" = some none)
    (pz_int : PySem.W.nsIn K mainGlobals "int" = some none)
    (pz_isinstance : PySem.W.nsIn K mainGlobals "isinstance" = some none)
    (pz_len : PySem.W.nsIn K mainGlobals "len" = some none)
    (pz_list : PySem.W.nsIn K mainGlobals "list" = some none)
    (pz_range : PySem.W.nsIn K mainGlobals "range" = some none)
    (pz_staticmethod : PySem.W.nsIn K mainGlobals "staticmethod" = some none)
    (pz_tuple : PySem.W.nsIn K mainGlobals "tuple" = some none)
    (pg_CostError : PySem.W.nsIn K mainGlobals "CostError" = some (some (.ref a_CostError)))
    (pek_CostError : PySem.W.keepIn K (.ref a_CostError) = true)
    (peb_CostError : PySem.W.subIn K (.ref a_CostError) (.type "BaseException") = some true)
    (pet_CostError : PySem.W.typeIn K (.ref a_CostError) = some (.type "type"))
    (peh_CostError : PySem.W.hasDictIn K a_CostError = true)
    (peic_CostError : PySem.W.isClsIn K a_CostError = true)
    (pes_CostError : PySem.W.subIn K (.ref a_CostError) (.ref a_CostError) = some true)
    (pxg_CostError : PySem.W.findIn K (.ref a_CostError) "__getattribute__" = some (some (.builtin "BaseException.__getattribute__")))
    (pxk_CostError : PySem.W.findIn K (.ref a_CostError) "__getattr__" = some none)
    (pxa_CostError : PySem.W.findIn K (.ref a_CostError) "__class__" = some (some (.builtin "object.__class__")))
    (pxn_CostError : PySem.W.specialIn K (.builtin "object.__class__") "__get__" = some (some (.builtin "getset_descriptor.__get__")))
    (pxt_CostError : PySem.W.takesIn K (.builtin "object.__class__") = some true)
    (pxm_CostError : PySem.W.mroIn K a_CostError (.type "object") = some true)
    (prd_CostError : PySem.W.readsIn K a_CostError (.type "type") = true)
    (pcg_CostError : PySem.W.specialIn K (.ref a_CostError) "__getattribute__" = some (some (.builtin "type.__getattribute__")))
    (pvi_CostError : PySem.W.findCls K (.ref a_CostError) (.type "type") "__init__" = some (.val (.builtin "ValueError.__init__")))
    (pg_NoRatio : PySem.W.nsIn K mainGlobals "NoRatio" = some (some (.ref a_NoRatio)))
    (pek_NoRatio : PySem.W.keepIn K (.ref a_NoRatio) = true)
    (peb_NoRatio : PySem.W.subIn K (.ref a_NoRatio) (.type "BaseException") = some true)
    (pet_NoRatio : PySem.W.typeIn K (.ref a_NoRatio) = some (.type "type"))
    (peh_NoRatio : PySem.W.hasDictIn K a_NoRatio = true)
    (peic_NoRatio : PySem.W.isClsIn K a_NoRatio = true)
    (pes_NoRatio : PySem.W.subIn K (.ref a_NoRatio) (.ref a_NoRatio) = some true)
    (pxg_NoRatio : PySem.W.findIn K (.ref a_NoRatio) "__getattribute__" = some (some (.builtin "BaseException.__getattribute__")))
    (pxk_NoRatio : PySem.W.findIn K (.ref a_NoRatio) "__getattr__" = some none)
    (pxa_NoRatio : PySem.W.findIn K (.ref a_NoRatio) "__class__" = some (some (.builtin "object.__class__")))
    (pxn_NoRatio : PySem.W.specialIn K (.builtin "object.__class__") "__get__" = some (some (.builtin "getset_descriptor.__get__")))
    (pxt_NoRatio : PySem.W.takesIn K (.builtin "object.__class__") = some true)
    (pxm_NoRatio : PySem.W.mroIn K a_NoRatio (.type "object") = some true)
    (pex_NoRatio : PySem.W.excIn K a_NoRatio [.type "ValueError", .type "Exception", .type "BaseException", .type "object"] "ValueError.__new__" = true)
    (pg_BadRule : PySem.W.nsIn K mainGlobals "BadRule" = some (some (.ref a_BadRule)))
    (pek_BadRule : PySem.W.keepIn K (.ref a_BadRule) = true)
    (peb_BadRule : PySem.W.subIn K (.ref a_BadRule) (.type "BaseException") = some true)
    (pet_BadRule : PySem.W.typeIn K (.ref a_BadRule) = some (.type "type"))
    (peh_BadRule : PySem.W.hasDictIn K a_BadRule = true)
    (peic_BadRule : PySem.W.isClsIn K a_BadRule = true)
    (pes_BadRule : PySem.W.subIn K (.ref a_BadRule) (.ref a_BadRule) = some true)
    (pxg_BadRule : PySem.W.findIn K (.ref a_BadRule) "__getattribute__" = some (some (.builtin "BaseException.__getattribute__")))
    (pxk_BadRule : PySem.W.findIn K (.ref a_BadRule) "__getattr__" = some none)
    (pxa_BadRule : PySem.W.findIn K (.ref a_BadRule) "__class__" = some (some (.builtin "object.__class__")))
    (pxn_BadRule : PySem.W.specialIn K (.builtin "object.__class__") "__get__" = some (some (.builtin "getset_descriptor.__get__")))
    (pxt_BadRule : PySem.W.takesIn K (.builtin "object.__class__") = some true)
    (pxm_BadRule : PySem.W.mroIn K a_BadRule (.type "object") = some true)
    (pn_BadRule_word : PySem.W.findIn K (.ref a_BadRule) "word" = some none)
    (poi_BadRule : PySem.W.findIn K (.ref a_BadRule) "__init__" = some (some (.ref a_m_BadRule_init)))
    (pot_BadRule : PySem.W.typeIn K (.ref a_m_BadRule_init) = some (.type "function"))
    (pol_BadRule : K.lookup a_BadRule = some (excClassObj xnm_BadRule xq_BadRule a_BadRule xN_BadRule xbs_BadRule xbm_BadRule true xsn_BadRule xsub_BadRule xab_BadRule xcol_BadRule xdd_BadRule xk0_BadRule xk1_BadRule xk2_BadRule xk3_BadRule xk5_BadRule "ValueError.__new__"))
    (pov_BadRule : PySem.HandSPX.refsVE xbm_BadRule = true)
    (posa_BadRule : PySem.W.findIn K (.ref a_BadRule) "__setattr__" = some (some (.builtin "object.__setattr__")))
    (pg_Short : PySem.W.nsIn K mainGlobals "Short" = some (some (.ref a_Short)))
    (pek_Short : PySem.W.keepIn K (.ref a_Short) = true)
    (peb_Short : PySem.W.subIn K (.ref a_Short) (.type "BaseException") = some true)
    (pet_Short : PySem.W.typeIn K (.ref a_Short) = some (.type "type"))
    (peh_Short : PySem.W.hasDictIn K a_Short = true)
    (peic_Short : PySem.W.isClsIn K a_Short = true)
    (pes_Short : PySem.W.subIn K (.ref a_Short) (.ref a_Short) = some true)
    (pxg_Short : PySem.W.findIn K (.ref a_Short) "__getattribute__" = some (some (.builtin "BaseException.__getattribute__")))
    (pxk_Short : PySem.W.findIn K (.ref a_Short) "__getattr__" = some none)
    (pxa_Short : PySem.W.findIn K (.ref a_Short) "__class__" = some (some (.builtin "object.__class__")))
    (pxn_Short : PySem.W.specialIn K (.builtin "object.__class__") "__get__" = some (some (.builtin "getset_descriptor.__get__")))
    (pxt_Short : PySem.W.takesIn K (.builtin "object.__class__") = some true)
    (pxm_Short : PySem.W.mroIn K a_Short (.type "object") = some true)
    (pxc_Short : PySem.W.kitOne K (.ref a_Short) (.ref a_CostError) = some true)
    (pn_Short_missing : PySem.W.findIn K (.ref a_Short) "missing" = some none)
    (poi_Short : PySem.W.findIn K (.ref a_Short) "__init__" = some (some (.ref a_m_Short_init)))
    (pot_Short : PySem.W.typeIn K (.ref a_m_Short_init) = some (.type "function"))
    (pol_Short : K.lookup a_Short = some (excClassObj xnm_Short xq_Short a_Short xN_Short xbs_Short xbm_Short true xsn_Short xsub_Short xab_Short xcol_Short xdd_Short xk0_Short xk1_Short xk2_Short xk3_Short xk5_Short "ValueError.__new__"))
    (pov_Short : PySem.HandSPX.refsVE xbm_Short = true)
    (posa_Short : PySem.W.findIn K (.ref a_Short) "__setattr__" = some (some (.builtin "object.__setattr__")))
    (pg_Ratio : PySem.W.nsIn K mainGlobals "Ratio" = some (some (.ref a_Ratio)))
    (ppg_Ratio : PySem.W.plainGet K a_Ratio Str.empty = true)
    (phd_Ratio : PySem.W.hasDictIn K a_Ratio = true)
    (ppo_Ratio : PySem.W.plainOver K a_Ratio = true)
    (psa_Ratio : PySem.W.findIn K (.ref a_Ratio) "__setattr__" = some (some (.builtin "object.__setattr__")))
    (pn_Ratio_top : NoAttr K a_Ratio "top")
    (pn_Ratio_bottom : NoAttr K a_Ratio "bottom")
    (pma_Ratio : PySem.W.makesIn K a_Ratio = true)
    (pmi_Ratio : PySem.W.findIn K (.ref a_Ratio) "__init__" = some (some (.ref a_m_Ratio_init)))
    (pmf_Ratio : PySem.W.isFn K (.ref a_m_Ratio_init) = true)
    (pmc_Ratio : PySem.W.keepIn K (.ref a_Ratio) = true)
    (pmt_m_Ratio_add : PySem.W.findIn K (.ref a_Ratio) "__add__" = some (some (.ref a_m_Ratio_add)))
    (pmn_m_Ratio_add : PySem.W.isFn K (.ref a_m_Ratio_add) = true)
    (pmk_m_Ratio_add : PySem.W.keepIn K (.ref a_m_Ratio_add) = true)
    (pmt_m_Ratio_radd : PySem.W.findIn K (.ref a_Ratio) "__radd__" = some (some (.ref a_m_Ratio_radd)))
    (pmn_m_Ratio_radd : PySem.W.isFn K (.ref a_m_Ratio_radd) = true)
    (pmk_m_Ratio_radd : PySem.W.keepIn K (.ref a_m_Ratio_radd) = true)
    (pmt_m_Ratio_sub : PySem.W.findIn K (.ref a_Ratio) "__sub__" = some (some (.ref a_m_Ratio_sub)))
    (pmn_m_Ratio_sub : PySem.W.isFn K (.ref a_m_Ratio_sub) = true)
    (pmk_m_Ratio_sub : PySem.W.keepIn K (.ref a_m_Ratio_sub) = true)
    (pmt_m_Ratio_rsub : PySem.W.findIn K (.ref a_Ratio) "__rsub__" = some (some (.ref a_m_Ratio_rsub)))
    (pmn_m_Ratio_rsub : PySem.W.isFn K (.ref a_m_Ratio_rsub) = true)
    (pmk_m_Ratio_rsub : PySem.W.keepIn K (.ref a_m_Ratio_rsub) = true)
    (pmt_m_Ratio_mul : PySem.W.findIn K (.ref a_Ratio) "__mul__" = some (some (.ref a_m_Ratio_mul)))
    (pmn_m_Ratio_mul : PySem.W.isFn K (.ref a_m_Ratio_mul) = true)
    (pmk_m_Ratio_mul : PySem.W.keepIn K (.ref a_m_Ratio_mul) = true)
    (pmt_m_Ratio_rmul : PySem.W.findIn K (.ref a_Ratio) "__rmul__" = some (some (.ref a_m_Ratio_rmul)))
    (pmn_m_Ratio_rmul : PySem.W.isFn K (.ref a_m_Ratio_rmul) = true)
    (pmk_m_Ratio_rmul : PySem.W.keepIn K (.ref a_m_Ratio_rmul) = true)
    (pmt_m_Ratio_neg : PySem.W.findIn K (.ref a_Ratio) "__neg__" = some (some (.ref a_m_Ratio_neg)))
    (pmn_m_Ratio_neg : PySem.W.isFn K (.ref a_m_Ratio_neg) = true)
    (pmk_m_Ratio_neg : PySem.W.keepIn K (.ref a_m_Ratio_neg) = true)
    (pmt_m_Ratio_abs : PySem.W.findIn K (.ref a_Ratio) "__abs__" = some (some (.ref a_m_Ratio_abs)))
    (pmn_m_Ratio_abs : PySem.W.isFn K (.ref a_m_Ratio_abs) = true)
    (pmk_m_Ratio_abs : PySem.W.keepIn K (.ref a_m_Ratio_abs) = true)
    (pmt_m_Ratio_over : PySem.W.findIn K (.ref a_Ratio) "over" = some (some (.ref a_m_Ratio_over)))
    (pmn_m_Ratio_over : PySem.W.isFn K (.ref a_m_Ratio_over) = true)
    (pmk_m_Ratio_over : PySem.W.keepIn K (.ref a_m_Ratio_over) = true)
    (pmt_m_Ratio_less : PySem.W.findIn K (.ref a_Ratio) "less" = some (some (.ref a_m_Ratio_less)))
    (pmn_m_Ratio_less : PySem.W.isFn K (.ref a_m_Ratio_less) = true)
    (pmk_m_Ratio_less : PySem.W.keepIn K (.ref a_m_Ratio_less) = true)
    (pmt_m_Ratio_at_most : PySem.W.findIn K (.ref a_Ratio) "at_most" = some (some (.ref a_m_Ratio_at_most)))
    (pmn_m_Ratio_at_most : PySem.W.isFn K (.ref a_m_Ratio_at_most) = true)
    (pmk_m_Ratio_at_most : PySem.W.keepIn K (.ref a_m_Ratio_at_most) = true)
    (pmt_m_Ratio_same : PySem.W.findIn K (.ref a_Ratio) "same" = some (some (.ref a_m_Ratio_same)))
    (pmn_m_Ratio_same : PySem.W.isFn K (.ref a_m_Ratio_same) = true)
    (pmk_m_Ratio_same : PySem.W.keepIn K (.ref a_m_Ratio_same) = true)
    (pmt_m_Ratio_floor : PySem.W.findIn K (.ref a_Ratio) "floor" = some (some (.ref a_m_Ratio_floor)))
    (pmn_m_Ratio_floor : PySem.W.isFn K (.ref a_m_Ratio_floor) = true)
    (pmk_m_Ratio_floor : PySem.W.keepIn K (.ref a_m_Ratio_floor) = true)
    (ps1_m_Ratio_sum_of : PySem.W.readsIn K a_Ratio (.type "type") = true)
    (ps2_m_Ratio_sum_of : PySem.W.specialIn K (.ref a_Ratio) "__getattribute__" = some (some (.builtin "type.__getattribute__")))
    (ps3_m_Ratio_sum_of : PySem.W.findCls K (.ref a_Ratio) (.type "type") "sum_of" = some (.get (.builtin "staticmethod.__get__") (.ref a_sp_m_Ratio_sum_of) .none (.ref a_Ratio)))
    (ps4_m_Ratio_sum_of : PySem.W.recIn K a_sp_m_Ratio_sum_of "staticmethod" = some (.ref a_m_Ratio_sum_of :: rest_m_Ratio_sum_of))
    (ps5_m_Ratio_sum_of : PySem.W.keepIn K (.ref a_m_Ratio_sum_of) = true)
    (ptc_Ratio : PySem.W.findIn K (.ref a_Ratio) "__class__" = some (some (.builtin "object.__class__")))
    (ptn_Ratio : PySem.W.specialIn K (.builtin "object.__class__") "__get__" = some (some (.builtin "getset_descriptor.__get__")))
    (ptk_Ratio : PySem.W.takesIn K (.builtin "object.__class__") = some true)
    (ptm_Ratio : PySem.W.mroIn K a_Ratio (.type "object") = some true)
    (pki_Ratio : PySem.W.kitOne K (.ref a_Ratio) (.type "int") = some false)
    (psf_Ratio : PySem.W.selfFirst K a_Ratio = true)
    (psi_Ratio : PySem.W.subIn K (.type "int") (.ref a_Ratio) = some false)
    (psj_Ratio : PySem.W.subIn K (.ref a_Ratio) (.type "int") = some false)
    (po1a_Ratio : PySem.W.findIn K (.type "int") (PySem.dunder "add") = some (some (.builtin "int.__add__")))
    (po2a_Ratio : PySem.W.findIn K (.type "int") (dunderR "add") = some (some (.builtin "int.__radd__")))
    (po1s_Ratio : PySem.W.findIn K (.type "int") (PySem.dunder "sub") = some (some (.builtin "int.__sub__")))
    (po2s_Ratio : PySem.W.findIn K (.type "int") (dunderR "sub") = some (some (.builtin "int.__rsub__")))
    (po1m_Ratio : PySem.W.findIn K (.type "int") (PySem.dunder "mul") = some (some (.builtin "int.__mul__")))
    (po2m_Ratio : PySem.W.findIn K (.type "int") (dunderR "mul") = some (some (.builtin "int.__rmul__")))
    (pnia_Ratio : noI K a_Ratio "add" = true)
    (pnis_Ratio : noI K a_Ratio "sub" = true)
    (pnim_Ratio : noI K a_Ratio "mul" = true)
    (prd_Ratio : PySem.W.readsIn K a_Ratio (.type "type") = true)
    (pcga_Ratio : PySem.W.specialIn K (.ref a_Ratio) "__getattribute__" = some (some (.builtin "type.__getattribute__")))
    (pg_Rule : PySem.W.nsIn K mainGlobals "Rule" = some (some (.ref a_Rule)))
    (ppg_Rule : PySem.W.plainGet K a_Rule Str.empty = true)
    (phd_Rule : PySem.W.hasDictIn K a_Rule = true)
    (ppo_Rule : PySem.W.plainOver K a_Rule = true)
    (psa_Rule : PySem.W.findIn K (.ref a_Rule) "__setattr__" = some (some (.builtin "object.__setattr__")))
    (pn_Rule_take : NoAttr K a_Rule "take")
    (pn_Rule_place : NoAttr K a_Rule "place")
    (pn_Rule_period : NoAttr K a_Rule "period")
    (pma_Rule : PySem.W.makesIn K a_Rule = true)
    (pmi_Rule : PySem.W.findIn K (.ref a_Rule) "__init__" = some (some (.ref a_m_Rule_init)))
    (pmf_Rule : PySem.W.isFn K (.ref a_m_Rule_init) = true)
    (pmc_Rule : PySem.W.keepIn K (.ref a_Rule) = true)
    (pmt_m_Rule_call : PySem.W.findIn K (.ref a_Rule) "__call__" = some (some (.ref a_m_Rule_call)))
    (pmn_m_Rule_call : PySem.W.isFn K (.ref a_m_Rule_call) = true)
    (pmk_m_Rule_call : PySem.W.keepIn K (.ref a_m_Rule_call) = true)
    (pmt_m_Rule_returned : PySem.W.findIn K (.ref a_Rule) "returned" = some (some (.ref a_m_Rule_returned)))
    (pmn_m_Rule_returned : PySem.W.isFn K (.ref a_m_Rule_returned) = true)
    (pmk_m_Rule_returned : PySem.W.keepIn K (.ref a_m_Rule_returned) = true)
    (pmt_m_Rule_laid : PySem.W.findIn K (.ref a_Rule) "laid" = some (some (.ref a_m_Rule_laid)))
    (pmn_m_Rule_laid : PySem.W.isFn K (.ref a_m_Rule_laid) = true)
    (pmk_m_Rule_laid : PySem.W.keepIn K (.ref a_m_Rule_laid) = true)
    (pmt_m_Rule_put : PySem.W.findIn K (.ref a_Rule) "put" = some (some (.ref a_m_Rule_put)))
    (pmn_m_Rule_put : PySem.W.isFn K (.ref a_m_Rule_put) = true)
    (pmk_m_Rule_put : PySem.W.keepIn K (.ref a_m_Rule_put) = true)
    (pca_Rule : PySem.W.findIn K (.ref a_Rule) "__call__" = some (some (.ref a_m_Rule_call)))
    (pcf_Rule : PySem.W.isFn K (.ref a_m_Rule_call) = true)
    (pci_Rule : PySem.W.fnIn K a_m_Rule_call = true)
    (pg_MOST : PySem.W.nsIn K mainGlobals "MOST" = some (some (.int 1000000 gt_MOST)))
    (pg_TAKES : PySem.W.nsIn K mainGlobals "TAKES" = some (some (.ref a_TAKES)))
    (ptl_TAKES : K.lookup a_TAKES = some ⟨.type "tuple", gd_TAKES, .seq #[.str "oldest" gt0_TAKES, .str "newest" gt1_TAKES, .str "even" gt2_TAKES] gn_TAKES, gs_TAKES⟩)
    (pg_SPOTS : PySem.W.nsIn K mainGlobals "SPOTS" = some (some (.ref a_SPOTS)))
    (ptl_SPOTS : K.lookup a_SPOTS = some ⟨.type "tuple", gd_SPOTS, .seq #[.str "own" gt0_SPOTS, .str "top" gt1_SPOTS, .str "bottom" gt2_SPOTS] gn_SPOTS, gs_SPOTS⟩)
    (pe_m_BadRule_init : PySem.W.findIn K (.ref a_BadRule) "__init__" = some (some (.ref a_m_BadRule_init)))
    (pl_m_BadRule_init : K.lookup a_m_BadRule_init = some ⟨oc_m_BadRule_init, od_m_BadRule_init, .func (PySem.W.fnOf "__init__" "BadRule.__init__" (defArgs s_m_BadRule_init) (defBody s_m_BadRule_init) (defScope s_m_BadRule_init) .none kV_m_BadRule_init dc_m_BadRule_init pm_m_BadRule_init an_m_BadRule_init cd_m_BadRule_init ct_m_BadRule_init), sl_m_BadRule_init⟩)
    (pc_m_BadRule_init : PySem.W.codeIn K cd_m_BadRule_init "BadRule.__init__" = true)
    (pq_m_BadRule_init : PySem.W.keepIn K (.ref a_m_BadRule_init) = true)
    (pe_m_Short_init : PySem.W.findIn K (.ref a_Short) "__init__" = some (some (.ref a_m_Short_init)))
    (pl_m_Short_init : K.lookup a_m_Short_init = some ⟨oc_m_Short_init, od_m_Short_init, .func (PySem.W.fnOf "__init__" "Short.__init__" (defArgs s_m_Short_init) (defBody s_m_Short_init) (defScope s_m_Short_init) .none kV_m_Short_init dc_m_Short_init pm_m_Short_init an_m_Short_init cd_m_Short_init ct_m_Short_init), sl_m_Short_init⟩)
    (pc_m_Short_init : PySem.W.codeIn K cd_m_Short_init "Short.__init__" = true)
    (pq_m_Short_init : PySem.W.keepIn K (.ref a_m_Short_init) = true)
    (pa_f_is_number : PySem.W.nsIn K mainGlobals "is_number" = some (some (.ref a_f_is_number)))
    (pl_f_is_number : K.lookup a_f_is_number = some ⟨oc_f_is_number, od_f_is_number, .func (PySem.W.fnOf "is_number" "is_number" (defArgs s_f_is_number) (defBody s_f_is_number) (defScope s_f_is_number) .none kV_f_is_number dc_f_is_number pm_f_is_number an_f_is_number cd_f_is_number ct_f_is_number), sl_f_is_number⟩)
    (pc_f_is_number : PySem.W.codeIn K cd_f_is_number "is_number" = true)
    (pq_f_is_number : PySem.W.keepIn K (.ref a_f_is_number) = true)
    (pa_f_common_divisor : PySem.W.nsIn K mainGlobals "common_divisor" = some (some (.ref a_f_common_divisor)))
    (pl_f_common_divisor : K.lookup a_f_common_divisor = some ⟨oc_f_common_divisor, od_f_common_divisor, .func (PySem.W.fnOf "common_divisor" "common_divisor" (defArgs s_f_common_divisor) (defBody s_f_common_divisor) (defScope s_f_common_divisor) .none kV_f_common_divisor dc_f_common_divisor pm_f_common_divisor an_f_common_divisor cd_f_common_divisor ct_f_common_divisor), sl_f_common_divisor⟩)
    (pc_f_common_divisor : PySem.W.codeIn K cd_f_common_divisor "common_divisor" = true)
    (pq_f_common_divisor : PySem.W.keepIn K (.ref a_f_common_divisor) = true)
    (pa_f_halves : PySem.W.nsIn K mainGlobals "halves" = some (some (.ref a_f_halves)))
    (pl_f_halves : K.lookup a_f_halves = some ⟨oc_f_halves, od_f_halves, .func (PySem.W.fnOf "halves" "halves" (defArgs s_f_halves) (defBody s_f_halves) (defScope s_f_halves) .none kV_f_halves dc_f_halves pm_f_halves an_f_halves cd_f_halves ct_f_halves), sl_f_halves⟩)
    (pc_f_halves : PySem.W.codeIn K cd_f_halves "halves" = true)
    (pq_f_halves : PySem.W.keepIn K (.ref a_f_halves) = true)
    (pl_m_Ratio_init : K.lookup a_m_Ratio_init = some ⟨oc_m_Ratio_init, od_m_Ratio_init, .func (PySem.W.fnOf "__init__" "Ratio.__init__" (defArgs s_m_Ratio_init) (defBody s_m_Ratio_init) (defScope s_m_Ratio_init) (.ref tp_m_Ratio_init) kV_m_Ratio_init dc_m_Ratio_init pm_m_Ratio_init an_m_Ratio_init cd_m_Ratio_init ct_m_Ratio_init), sl_m_Ratio_init⟩)
    (pt_m_Ratio_init : K.lookup tp_m_Ratio_init = some ⟨tc_m_Ratio_init, td_m_Ratio_init, .seq #[.int 1 tk0_m_Ratio_init] tn_m_Ratio_init, ts_m_Ratio_init⟩)
    (pc_m_Ratio_init : PySem.W.codeIn K cd_m_Ratio_init "Ratio.__init__" = true)
    (pq_m_Ratio_init : PySem.W.keepIn K (.ref a_m_Ratio_init) = true)
    (pl_m_Ratio_add : K.lookup a_m_Ratio_add = some ⟨oc_m_Ratio_add, od_m_Ratio_add, .func (PySem.W.fnOf "__add__" "Ratio.__add__" (defArgs s_m_Ratio_add) (defBody s_m_Ratio_add) (defScope s_m_Ratio_add) .none kV_m_Ratio_add dc_m_Ratio_add pm_m_Ratio_add an_m_Ratio_add cd_m_Ratio_add ct_m_Ratio_add), sl_m_Ratio_add⟩)
    (pc_m_Ratio_add : PySem.W.codeIn K cd_m_Ratio_add "Ratio.__add__" = true)
    (pq_m_Ratio_add : PySem.W.keepIn K (.ref a_m_Ratio_add) = true)
    (pl_m_Ratio_radd : K.lookup a_m_Ratio_radd = some ⟨oc_m_Ratio_radd, od_m_Ratio_radd, .func (PySem.W.fnOf "__radd__" "Ratio.__radd__" (defArgs s_m_Ratio_radd) (defBody s_m_Ratio_radd) (defScope s_m_Ratio_radd) .none kV_m_Ratio_radd dc_m_Ratio_radd pm_m_Ratio_radd an_m_Ratio_radd cd_m_Ratio_radd ct_m_Ratio_radd), sl_m_Ratio_radd⟩)
    (pc_m_Ratio_radd : PySem.W.codeIn K cd_m_Ratio_radd "Ratio.__radd__" = true)
    (pq_m_Ratio_radd : PySem.W.keepIn K (.ref a_m_Ratio_radd) = true)
    (pl_m_Ratio_sub : K.lookup a_m_Ratio_sub = some ⟨oc_m_Ratio_sub, od_m_Ratio_sub, .func (PySem.W.fnOf "__sub__" "Ratio.__sub__" (defArgs s_m_Ratio_sub) (defBody s_m_Ratio_sub) (defScope s_m_Ratio_sub) .none kV_m_Ratio_sub dc_m_Ratio_sub pm_m_Ratio_sub an_m_Ratio_sub cd_m_Ratio_sub ct_m_Ratio_sub), sl_m_Ratio_sub⟩)
    (pc_m_Ratio_sub : PySem.W.codeIn K cd_m_Ratio_sub "Ratio.__sub__" = true)
    (pq_m_Ratio_sub : PySem.W.keepIn K (.ref a_m_Ratio_sub) = true)
    (pl_m_Ratio_rsub : K.lookup a_m_Ratio_rsub = some ⟨oc_m_Ratio_rsub, od_m_Ratio_rsub, .func (PySem.W.fnOf "__rsub__" "Ratio.__rsub__" (defArgs s_m_Ratio_rsub) (defBody s_m_Ratio_rsub) (defScope s_m_Ratio_rsub) .none kV_m_Ratio_rsub dc_m_Ratio_rsub pm_m_Ratio_rsub an_m_Ratio_rsub cd_m_Ratio_rsub ct_m_Ratio_rsub), sl_m_Ratio_rsub⟩)
    (pc_m_Ratio_rsub : PySem.W.codeIn K cd_m_Ratio_rsub "Ratio.__rsub__" = true)
    (pq_m_Ratio_rsub : PySem.W.keepIn K (.ref a_m_Ratio_rsub) = true)
    (pl_m_Ratio_mul : K.lookup a_m_Ratio_mul = some ⟨oc_m_Ratio_mul, od_m_Ratio_mul, .func (PySem.W.fnOf "__mul__" "Ratio.__mul__" (defArgs s_m_Ratio_mul) (defBody s_m_Ratio_mul) (defScope s_m_Ratio_mul) .none kV_m_Ratio_mul dc_m_Ratio_mul pm_m_Ratio_mul an_m_Ratio_mul cd_m_Ratio_mul ct_m_Ratio_mul), sl_m_Ratio_mul⟩)
    (pc_m_Ratio_mul : PySem.W.codeIn K cd_m_Ratio_mul "Ratio.__mul__" = true)
    (pq_m_Ratio_mul : PySem.W.keepIn K (.ref a_m_Ratio_mul) = true)
    (pl_m_Ratio_rmul : K.lookup a_m_Ratio_rmul = some ⟨oc_m_Ratio_rmul, od_m_Ratio_rmul, .func (PySem.W.fnOf "__rmul__" "Ratio.__rmul__" (defArgs s_m_Ratio_rmul) (defBody s_m_Ratio_rmul) (defScope s_m_Ratio_rmul) .none kV_m_Ratio_rmul dc_m_Ratio_rmul pm_m_Ratio_rmul an_m_Ratio_rmul cd_m_Ratio_rmul ct_m_Ratio_rmul), sl_m_Ratio_rmul⟩)
    (pc_m_Ratio_rmul : PySem.W.codeIn K cd_m_Ratio_rmul "Ratio.__rmul__" = true)
    (pq_m_Ratio_rmul : PySem.W.keepIn K (.ref a_m_Ratio_rmul) = true)
    (pl_m_Ratio_neg : K.lookup a_m_Ratio_neg = some ⟨oc_m_Ratio_neg, od_m_Ratio_neg, .func (PySem.W.fnOf "__neg__" "Ratio.__neg__" (defArgs s_m_Ratio_neg) (defBody s_m_Ratio_neg) (defScope s_m_Ratio_neg) .none kV_m_Ratio_neg dc_m_Ratio_neg pm_m_Ratio_neg an_m_Ratio_neg cd_m_Ratio_neg ct_m_Ratio_neg), sl_m_Ratio_neg⟩)
    (pc_m_Ratio_neg : PySem.W.codeIn K cd_m_Ratio_neg "Ratio.__neg__" = true)
    (pq_m_Ratio_neg : PySem.W.keepIn K (.ref a_m_Ratio_neg) = true)
    (pl_m_Ratio_abs : K.lookup a_m_Ratio_abs = some ⟨oc_m_Ratio_abs, od_m_Ratio_abs, .func (PySem.W.fnOf "__abs__" "Ratio.__abs__" (defArgs s_m_Ratio_abs) (defBody s_m_Ratio_abs) (defScope s_m_Ratio_abs) .none kV_m_Ratio_abs dc_m_Ratio_abs pm_m_Ratio_abs an_m_Ratio_abs cd_m_Ratio_abs ct_m_Ratio_abs), sl_m_Ratio_abs⟩)
    (pc_m_Ratio_abs : PySem.W.codeIn K cd_m_Ratio_abs "Ratio.__abs__" = true)
    (pq_m_Ratio_abs : PySem.W.keepIn K (.ref a_m_Ratio_abs) = true)
    (pl_m_Ratio_over : K.lookup a_m_Ratio_over = some ⟨oc_m_Ratio_over, od_m_Ratio_over, .func (PySem.W.fnOf "over" "Ratio.over" (defArgs s_m_Ratio_over) (defBody s_m_Ratio_over) (defScope s_m_Ratio_over) .none kV_m_Ratio_over dc_m_Ratio_over pm_m_Ratio_over an_m_Ratio_over cd_m_Ratio_over ct_m_Ratio_over), sl_m_Ratio_over⟩)
    (pc_m_Ratio_over : PySem.W.codeIn K cd_m_Ratio_over "Ratio.over" = true)
    (pq_m_Ratio_over : PySem.W.keepIn K (.ref a_m_Ratio_over) = true)
    (pl_m_Ratio_less : K.lookup a_m_Ratio_less = some ⟨oc_m_Ratio_less, od_m_Ratio_less, .func (PySem.W.fnOf "less" "Ratio.less" (defArgs s_m_Ratio_less) (defBody s_m_Ratio_less) (defScope s_m_Ratio_less) .none kV_m_Ratio_less dc_m_Ratio_less pm_m_Ratio_less an_m_Ratio_less cd_m_Ratio_less ct_m_Ratio_less), sl_m_Ratio_less⟩)
    (pc_m_Ratio_less : PySem.W.codeIn K cd_m_Ratio_less "Ratio.less" = true)
    (pq_m_Ratio_less : PySem.W.keepIn K (.ref a_m_Ratio_less) = true)
    (pl_m_Ratio_at_most : K.lookup a_m_Ratio_at_most = some ⟨oc_m_Ratio_at_most, od_m_Ratio_at_most, .func (PySem.W.fnOf "at_most" "Ratio.at_most" (defArgs s_m_Ratio_at_most) (defBody s_m_Ratio_at_most) (defScope s_m_Ratio_at_most) .none kV_m_Ratio_at_most dc_m_Ratio_at_most pm_m_Ratio_at_most an_m_Ratio_at_most cd_m_Ratio_at_most ct_m_Ratio_at_most), sl_m_Ratio_at_most⟩)
    (pc_m_Ratio_at_most : PySem.W.codeIn K cd_m_Ratio_at_most "Ratio.at_most" = true)
    (pq_m_Ratio_at_most : PySem.W.keepIn K (.ref a_m_Ratio_at_most) = true)
    (pl_m_Ratio_same : K.lookup a_m_Ratio_same = some ⟨oc_m_Ratio_same, od_m_Ratio_same, .func (PySem.W.fnOf "same" "Ratio.same" (defArgs s_m_Ratio_same) (defBody s_m_Ratio_same) (defScope s_m_Ratio_same) .none kV_m_Ratio_same dc_m_Ratio_same pm_m_Ratio_same an_m_Ratio_same cd_m_Ratio_same ct_m_Ratio_same), sl_m_Ratio_same⟩)
    (pc_m_Ratio_same : PySem.W.codeIn K cd_m_Ratio_same "Ratio.same" = true)
    (pq_m_Ratio_same : PySem.W.keepIn K (.ref a_m_Ratio_same) = true)
    (pl_m_Ratio_floor : K.lookup a_m_Ratio_floor = some ⟨oc_m_Ratio_floor, od_m_Ratio_floor, .func (PySem.W.fnOf "floor" "Ratio.floor" (defArgs s_m_Ratio_floor) (defBody s_m_Ratio_floor) (defScope s_m_Ratio_floor) .none kV_m_Ratio_floor dc_m_Ratio_floor pm_m_Ratio_floor an_m_Ratio_floor cd_m_Ratio_floor ct_m_Ratio_floor), sl_m_Ratio_floor⟩)
    (pc_m_Ratio_floor : PySem.W.codeIn K cd_m_Ratio_floor "Ratio.floor" = true)
    (pq_m_Ratio_floor : PySem.W.keepIn K (.ref a_m_Ratio_floor) = true)
    (pl_m_Ratio_sum_of : K.lookup a_m_Ratio_sum_of = some ⟨oc_m_Ratio_sum_of, od_m_Ratio_sum_of, .func (PySem.W.fnOf "sum_of" "Ratio.sum_of" (defArgs s_m_Ratio_sum_of) (defBody s_m_Ratio_sum_of) (defScope s_m_Ratio_sum_of) .none kV_m_Ratio_sum_of dc_m_Ratio_sum_of pm_m_Ratio_sum_of an_m_Ratio_sum_of cd_m_Ratio_sum_of ct_m_Ratio_sum_of), sl_m_Ratio_sum_of⟩)
    (pc_m_Ratio_sum_of : PySem.W.codeIn K cd_m_Ratio_sum_of "Ratio.sum_of" = true)
    (pq_m_Ratio_sum_of : PySem.W.keepIn K (.ref a_m_Ratio_sum_of) = true)
    (pa_f_stacked : PySem.W.nsIn K mainGlobals "stacked" = some (some (.ref a_f_stacked)))
    (pl_f_stacked : K.lookup a_f_stacked = some ⟨oc_f_stacked, od_f_stacked, .func (PySem.W.fnOf "stacked" "stacked" (defArgs s_f_stacked) (defBody s_f_stacked) (defScope s_f_stacked) .none kV_f_stacked dc_f_stacked pm_f_stacked an_f_stacked cd_f_stacked ct_f_stacked), sl_f_stacked⟩)
    (pc_f_stacked : PySem.W.codeIn K cd_f_stacked "stacked" = true)
    (pq_f_stacked : PySem.W.keepIn K (.ref a_f_stacked) = true)
    (pa_f_units_in : PySem.W.nsIn K mainGlobals "units_in" = some (some (.ref a_f_units_in)))
    (pl_f_units_in : K.lookup a_f_units_in = some ⟨oc_f_units_in, od_f_units_in, .func (PySem.W.fnOf "units_in" "units_in" (defArgs s_f_units_in) (defBody s_f_units_in) (defScope s_f_units_in) .none kV_f_units_in dc_f_units_in pm_f_units_in an_f_units_in cd_f_units_in ct_f_units_in), sl_f_units_in⟩)
    (pc_f_units_in : PySem.W.codeIn K cd_f_units_in "units_in" = true)
    (pq_f_units_in : PySem.W.keepIn K (.ref a_f_units_in) = true)
    (pa_f_cut : PySem.W.nsIn K mainGlobals "cut" = some (some (.ref a_f_cut)))
    (pl_f_cut : K.lookup a_f_cut = some ⟨oc_f_cut, od_f_cut, .func (PySem.W.fnOf "cut" "cut" (defArgs s_f_cut) (defBody s_f_cut) (defScope s_f_cut) .none kV_f_cut dc_f_cut pm_f_cut an_f_cut cd_f_cut ct_f_cut), sl_f_cut⟩)
    (pc_f_cut : PySem.W.codeIn K cd_f_cut "cut" = true)
    (pq_f_cut : PySem.W.keepIn K (.ref a_f_cut) = true)
    (pa_f_shared : PySem.W.nsIn K mainGlobals "shared" = some (some (.ref a_f_shared)))
    (pl_f_shared : K.lookup a_f_shared = some ⟨oc_f_shared, od_f_shared, .func (PySem.W.fnOf "shared" "shared" (defArgs s_f_shared) (defBody s_f_shared) (defScope s_f_shared) .none kV_f_shared dc_f_shared pm_f_shared an_f_shared cd_f_shared ct_f_shared), sl_f_shared⟩)
    (pc_f_shared : PySem.W.codeIn K cd_f_shared "shared" = true)
    (pq_f_shared : PySem.W.keepIn K (.ref a_f_shared) = true)
    (pa_f_check_units : PySem.W.nsIn K mainGlobals "check_units" = some (some (.ref a_f_check_units)))
    (pl_f_check_units : K.lookup a_f_check_units = some ⟨oc_f_check_units, od_f_check_units, .func (PySem.W.fnOf "check_units" "check_units" (defArgs s_f_check_units) (defBody s_f_check_units) (defScope s_f_check_units) .none kV_f_check_units dc_f_check_units pm_f_check_units an_f_check_units cd_f_check_units ct_f_check_units), sl_f_check_units⟩)
    (pc_f_check_units : PySem.W.codeIn K cd_f_check_units "check_units" = true)
    (pq_f_check_units : PySem.W.keepIn K (.ref a_f_check_units) = true)
    (pl_m_Rule_init : K.lookup a_m_Rule_init = some ⟨oc_m_Rule_init, od_m_Rule_init, .func (PySem.W.fnOf "__init__" "Rule.__init__" (defArgs s_m_Rule_init) (defBody s_m_Rule_init) (defScope s_m_Rule_init) .none (.ref kd_m_Rule_init) dc_m_Rule_init pm_m_Rule_init an_m_Rule_init cd_m_Rule_init ct_m_Rule_init), sl_m_Rule_init⟩)
    (pk0_m_Rule_init : PySem.W.nsIn K kd_m_Rule_init "place" = some (some (.str "own" kk0_m_Rule_init)))
    (pk1_m_Rule_init : PySem.W.nsIn K kd_m_Rule_init "period" = some (some (.int 0 kk1_m_Rule_init)))
    (pc_m_Rule_init : PySem.W.codeIn K cd_m_Rule_init "Rule.__init__" = true)
    (pq_m_Rule_init : PySem.W.keepIn K (.ref a_m_Rule_init) = true)
    (pl_m_Rule_call : K.lookup a_m_Rule_call = some ⟨oc_m_Rule_call, od_m_Rule_call, .func (PySem.W.fnOf "__call__" "Rule.__call__" (defArgs s_m_Rule_call) (defBody s_m_Rule_call) (defScope s_m_Rule_call) .none kV_m_Rule_call dc_m_Rule_call pm_m_Rule_call an_m_Rule_call cd_m_Rule_call ct_m_Rule_call), sl_m_Rule_call⟩)
    (pc_m_Rule_call : PySem.W.codeIn K cd_m_Rule_call "Rule.__call__" = true)
    (pq_m_Rule_call : PySem.W.keepIn K (.ref a_m_Rule_call) = true)
    (pl_m_Rule_returned : K.lookup a_m_Rule_returned = some ⟨oc_m_Rule_returned, od_m_Rule_returned, .func (PySem.W.fnOf "returned" "Rule.returned" (defArgs s_m_Rule_returned) (defBody s_m_Rule_returned) (defScope s_m_Rule_returned) .none kV_m_Rule_returned dc_m_Rule_returned pm_m_Rule_returned an_m_Rule_returned cd_m_Rule_returned ct_m_Rule_returned), sl_m_Rule_returned⟩)
    (pc_m_Rule_returned : PySem.W.codeIn K cd_m_Rule_returned "Rule.returned" = true)
    (pq_m_Rule_returned : PySem.W.keepIn K (.ref a_m_Rule_returned) = true)
    (pl_m_Rule_laid : K.lookup a_m_Rule_laid = some ⟨oc_m_Rule_laid, od_m_Rule_laid, .func (PySem.W.fnOf "laid" "Rule.laid" (defArgs s_m_Rule_laid) (defBody s_m_Rule_laid) (defScope s_m_Rule_laid) .none kV_m_Rule_laid dc_m_Rule_laid pm_m_Rule_laid an_m_Rule_laid cd_m_Rule_laid ct_m_Rule_laid), sl_m_Rule_laid⟩)
    (pc_m_Rule_laid : PySem.W.codeIn K cd_m_Rule_laid "Rule.laid" = true)
    (pq_m_Rule_laid : PySem.W.keepIn K (.ref a_m_Rule_laid) = true)
    (pl_m_Rule_put : K.lookup a_m_Rule_put = some ⟨oc_m_Rule_put, od_m_Rule_put, .func (PySem.W.fnOf "put" "Rule.put" (defArgs s_m_Rule_put) (defBody s_m_Rule_put) (defScope s_m_Rule_put) .none kV_m_Rule_put dc_m_Rule_put pm_m_Rule_put an_m_Rule_put cd_m_Rule_put ct_m_Rule_put), sl_m_Rule_put⟩)
    (pc_m_Rule_put : PySem.W.codeIn K cd_m_Rule_put "Rule.put" = true)
    (pq_m_Rule_put : PySem.W.keepIn K (.ref a_m_Rule_put) = true)
    (pa_l_bag : PySem.W.nsIn K mainGlobals "_law_bag" = some (some (.ref a_l_bag)))
    (pl_l_bag : K.lookup a_l_bag = some ⟨oc_l_bag, od_l_bag, .func (PySem.W.fnOf "_law_bag" "_law_bag" (defArgs s_l_bag) (defBody s_l_bag) (defScope s_l_bag) .none kV_l_bag dc_l_bag pm_l_bag an_l_bag cd_l_bag ct_l_bag), sl_l_bag⟩)
    (pc_l_bag : PySem.W.codeIn K cd_l_bag "_law_bag" = true)
    (pq_l_bag : PySem.W.keepIn K (.ref a_l_bag) = true)
    (pa_l_draw : PySem.W.nsIn K mainGlobals "_law_draw" = some (some (.ref a_l_draw)))
    (pl_l_draw : K.lookup a_l_draw = some ⟨oc_l_draw, od_l_draw, .func (PySem.W.fnOf "_law_draw" "_law_draw" (defArgs s_l_draw) (defBody s_l_draw) (defScope s_l_draw) .none kV_l_draw dc_l_draw pm_l_draw an_l_draw cd_l_draw ct_l_draw), sl_l_draw⟩)
    (pc_l_draw : PySem.W.codeIn K cd_l_draw "_law_draw" = true)
    (pq_l_draw : PySem.W.keepIn K (.ref a_l_draw) = true)
    (pa_l_names : PySem.W.nsIn K mainGlobals "_law_names" = some (some (.ref a_l_names)))
    (pl_l_names : K.lookup a_l_names = some ⟨oc_l_names, od_l_names, .func (PySem.W.fnOf "_law_names" "_law_names" (defArgs s_l_names) (defBody s_l_names) (defScope s_l_names) .none kV_l_names dc_l_names pm_l_names an_l_names cd_l_names ct_l_names), sl_l_names⟩)
    (pc_l_names : PySem.W.codeIn K cd_l_names "_law_names" = true)
    (pq_l_names : PySem.W.keepIn K (.ref a_l_names) = true)
    (pa_l_pick : PySem.W.nsIn K mainGlobals "_law_pick" = some (some (.ref a_l_pick)))
    (pl_l_pick : K.lookup a_l_pick = some ⟨oc_l_pick, od_l_pick, .func (PySem.W.fnOf "_law_pick" "_law_pick" (defArgs s_l_pick) (defBody s_l_pick) (defScope s_l_pick) .none kV_l_pick dc_l_pick pm_l_pick an_l_pick cd_l_pick ct_l_pick), sl_l_pick⟩)
    (pc_l_pick : PySem.W.codeIn K cd_l_pick "_law_pick" = true)
    (pq_l_pick : PySem.W.keepIn K (.ref a_l_pick) = true)
    (pa_l_rule : PySem.W.nsIn K mainGlobals "_law_rule" = some (some (.ref a_l_rule)))
    (pl_l_rule : K.lookup a_l_rule = some ⟨oc_l_rule, od_l_rule, .func (PySem.W.fnOf "_law_rule" "_law_rule" (defArgs s_l_rule) (defBody s_l_rule) (defScope s_l_rule) .none kV_l_rule dc_l_rule pm_l_rule an_l_rule cd_l_rule ct_l_rule), sl_l_rule⟩)
    (pc_l_rule : PySem.W.codeIn K cd_l_rule "_law_rule" = true)
    (pq_l_rule : PySem.W.keepIn K (.ref a_l_rule) = true)
    (pa_l_made : PySem.W.nsIn K mainGlobals "_law_made" = some (some (.ref a_l_made)))
    (pl_l_made : K.lookup a_l_made = some ⟨oc_l_made, od_l_made, .func (PySem.W.fnOf "_law_made" "_law_made" (defArgs s_l_made) (defBody s_l_made) (defScope s_l_made) .none kV_l_made dc_l_made pm_l_made an_l_made cd_l_made ct_l_made), sl_l_made⟩)
    (pc_l_made : PySem.W.codeIn K cd_l_made "_law_made" = true)
    (pq_l_made : PySem.W.keepIn K (.ref a_l_made) = true)
    (pa_l_total : PySem.W.nsIn K mainGlobals "_law_total" = some (some (.ref a_l_total)))
    (pl_l_total : K.lookup a_l_total = some ⟨oc_l_total, od_l_total, .func (PySem.W.fnOf "_law_total" "_law_total" (defArgs s_l_total) (defBody s_l_total) (defScope s_l_total) .none kV_l_total dc_l_total pm_l_total an_l_total cd_l_total ct_l_total), sl_l_total⟩)
    (pc_l_total : PySem.W.codeIn K cd_l_total "_law_total" = true)
    (pq_l_total : PySem.W.keepIn K (.ref a_l_total) = true)
    (pa_l_joined : PySem.W.nsIn K mainGlobals "_law_joined" = some (some (.ref a_l_joined)))
    (pl_l_joined : K.lookup a_l_joined = some ⟨oc_l_joined, od_l_joined, .func (PySem.W.fnOf "_law_joined" "_law_joined" (defArgs s_l_joined) (defBody s_l_joined) (defScope s_l_joined) .none kV_l_joined dc_l_joined pm_l_joined an_l_joined cd_l_joined ct_l_joined), sl_l_joined⟩)
    (pc_l_joined : PySem.W.codeIn K cd_l_joined "_law_joined" = true)
    (pq_l_joined : PySem.W.keepIn K (.ref a_l_joined) = true)
    (pa_l_first : PySem.W.nsIn K mainGlobals "_law_first" = some (some (.ref a_l_first)))
    (pl_l_first : K.lookup a_l_first = some ⟨oc_l_first, od_l_first, .func (PySem.W.fnOf "_law_first" "_law_first" (defArgs s_l_first) (defBody s_l_first) (defScope s_l_first) .none kV_l_first dc_l_first pm_l_first an_l_first cd_l_first ct_l_first), sl_l_first⟩)
    (pc_l_first : PySem.W.codeIn K cd_l_first "_law_first" = true)
    (pq_l_first : PySem.W.keepIn K (.ref a_l_first) = true)
    (pa_l_part : PySem.W.nsIn K mainGlobals "_law_part" = some (some (.ref a_l_part)))
    (pl_l_part : K.lookup a_l_part = some ⟨oc_l_part, od_l_part, .func (PySem.W.fnOf "_law_part" "_law_part" (defArgs s_l_part) (defBody s_l_part) (defScope s_l_part) .none kV_l_part dc_l_part pm_l_part an_l_part cd_l_part ct_l_part), sl_l_part⟩)
    (pc_l_part : PySem.W.codeIn K cd_l_part "_law_part" = true)
    (pq_l_part : PySem.W.keepIn K (.ref a_l_part) = true)
    (pa_l_back : PySem.W.nsIn K mainGlobals "_law_back" = some (some (.ref a_l_back)))
    (pl_l_back : K.lookup a_l_back = some ⟨oc_l_back, od_l_back, .func (PySem.W.fnOf "_law_back" "_law_back" (defArgs s_l_back) (defBody s_l_back) (defScope s_l_back) .none kV_l_back dc_l_back pm_l_back an_l_back cd_l_back ct_l_back), sl_l_back⟩)
    (pc_l_back : PySem.W.codeIn K cd_l_back "_law_back" = true)
    (pq_l_back : PySem.W.keepIn K (.ref a_l_back) = true)
    (pa_l_put : PySem.W.nsIn K mainGlobals "_law_put" = some (some (.ref a_l_put)))
    (pl_l_put : K.lookup a_l_put = some ⟨oc_l_put, od_l_put, .func (PySem.W.fnOf "_law_put" "_law_put" (defArgs s_l_put) (defBody s_l_put) (defScope s_l_put) .none kV_l_put dc_l_put pm_l_put an_l_put cd_l_put ct_l_put), sl_l_put⟩)
    (pc_l_put : PySem.W.codeIn K cd_l_put "_law_put" = true)
    (pq_l_put : PySem.W.keepIn K (.ref a_l_put) = true)
    (pa_l_side : PySem.W.nsIn K mainGlobals "_law_side" = some (some (.ref a_l_side)))
    (pl_l_side : K.lookup a_l_side = some ⟨oc_l_side, od_l_side, .func (PySem.W.fnOf "_law_side" "_law_side" (defArgs s_l_side) (defBody s_l_side) (defScope s_l_side) .none kV_l_side dc_l_side pm_l_side an_l_side cd_l_side ct_l_side), sl_l_side⟩)
    (pc_l_side : PySem.W.codeIn K cd_l_side "_law_side" = true)
    (pq_l_side : PySem.W.keepIn K (.ref a_l_side) = true)
    (pa_l_laid : PySem.W.nsIn K mainGlobals "_law_laid" = some (some (.ref a_l_laid)))
    (pl_l_laid : K.lookup a_l_laid = some ⟨oc_l_laid, od_l_laid, .func (PySem.W.fnOf "_law_laid" "_law_laid" (defArgs s_l_laid) (defBody s_l_laid) (defScope s_l_laid) .none kV_l_laid dc_l_laid pm_l_laid an_l_laid cd_l_laid ct_l_laid), sl_l_laid⟩)
    (pc_l_laid : PySem.W.codeIn K cd_l_laid "_law_laid" = true)
    (pq_l_laid : PySem.W.keepIn K (.ref a_l_laid) = true)
    (pa_l_parts_same : PySem.W.nsIn K mainGlobals "_law_parts_same" = some (some (.ref a_l_parts_same)))
    (pl_l_parts_same : K.lookup a_l_parts_same = some ⟨oc_l_parts_same, od_l_parts_same, .func (PySem.W.fnOf "_law_parts_same" "_law_parts_same" (defArgs s_l_parts_same) (defBody s_l_parts_same) (defScope s_l_parts_same) .none kV_l_parts_same dc_l_parts_same pm_l_parts_same an_l_parts_same cd_l_parts_same ct_l_parts_same), sl_l_parts_same⟩)
    (pc_l_parts_same : PySem.W.codeIn K cd_l_parts_same "_law_parts_same" = true)
    (pq_l_parts_same : PySem.W.keepIn K (.ref a_l_parts_same) = true)
    (pa_l_amount : PySem.W.nsIn K mainGlobals "_law_amount" = some (some (.ref a_l_amount)))
    (pl_l_amount : K.lookup a_l_amount = some ⟨oc_l_amount, od_l_amount, .func (PySem.W.fnOf "_law_amount" "_law_amount" (defArgs s_l_amount) (defBody s_l_amount) (defScope s_l_amount) .none kV_l_amount dc_l_amount pm_l_amount an_l_amount cd_l_amount ct_l_amount), sl_l_amount⟩)
    (pc_l_amount : PySem.W.codeIn K cd_l_amount "_law_amount" = true)
    (pq_l_amount : PySem.W.keepIn K (.ref a_l_amount) = true)
    (pa_l_layers : PySem.W.nsIn K mainGlobals "_law_layers" = some (some (.ref a_l_layers)))
    (pl_l_layers : K.lookup a_l_layers = some ⟨oc_l_layers, od_l_layers, .func (PySem.W.fnOf "_law_layers" "_law_layers" (defArgs s_l_layers) (defBody s_l_layers) (defScope s_l_layers) .none kV_l_layers dc_l_layers pm_l_layers an_l_layers cd_l_layers ct_l_layers), sl_l_layers⟩)
    (pc_l_layers : PySem.W.codeIn K cd_l_layers "_law_layers" = true)
    (pq_l_layers : PySem.W.keepIn K (.ref a_l_layers) = true)
    (pa_l_short : PySem.W.nsIn K mainGlobals "_law_short" = some (some (.ref a_l_short)))
    (pl_l_short : K.lookup a_l_short = some ⟨oc_l_short, od_l_short, .func (PySem.W.fnOf "_law_short" "_law_short" (defArgs s_l_short) (defBody s_l_short) (defScope s_l_short) .none kV_l_short dc_l_short pm_l_short an_l_short cd_l_short ct_l_short), sl_l_short⟩)
    (pc_l_short : PySem.W.codeIn K cd_l_short "_law_short" = true)
    (pq_l_short : PySem.W.keepIn K (.ref a_l_short) = true)
    (pa_l_return_right : PySem.W.nsIn K mainGlobals "_law_return_right" = some (some (.ref a_l_return_right)))
    (pl_l_return_right : K.lookup a_l_return_right = some ⟨oc_l_return_right, od_l_return_right, .func (PySem.W.fnOf "_law_return_right" "_law_return_right" (defArgs s_l_return_right) (defBody s_l_return_right) (defScope s_l_return_right) .none kV_l_return_right dc_l_return_right pm_l_return_right an_l_return_right cd_l_return_right ct_l_return_right), sl_l_return_right⟩)
    (pc_l_return_right : PySem.W.codeIn K cd_l_return_right "_law_return_right" = true)
    (pq_l_return_right : PySem.W.keepIn K (.ref a_l_return_right) = true)
    (pa_f_law : PySem.W.nsIn K mainGlobals "law" = some (some (.ref a_f_law)))
    (pl_f_law : K.lookup a_f_law = some ⟨oc_f_law, od_f_law, .func (PySem.W.fnOf "law" "law" (defArgs s_f_law) (defBody s_f_law) (defScope s_f_law) .none kV_f_law dc_f_law pm_f_law an_f_law cd_f_law ct_f_law), sl_f_law⟩)
    (pc_f_law : PySem.W.codeIn K cd_f_law "law" = true)
    (pq_f_law : PySem.W.keepIn K (.ref a_f_law) = true) :
    ∃ fd : FuncData, (∀ (s : Shared) (v : Value), BindsTo s fd ⟨[v], []⟩ [("_law_script", v)]) ∧ ∀ base : Heap, K.In base → base.Ns mainGlobals mg → FnOk l.prog w K mg base CX0 22 fa fd P_f_law (spLaw K) := by
  have e := hfa.symm.trans (PySem.W.mg_of X G pa_f_law)
  cases e
  have F_m_BadRule_init := fun_mk (st := s_m_BadRule_init) pl_m_BadRule_init pc_m_BadRule_init pq_m_BadRule_init
  have b_m_BadRule_init := F_m_BadRule_init.binds (ps := P_m_BadRule_init) fun _ _ _ _ _ _ us hl => match us, hl with | [_, _], _ => rfl
  have F_m_Short_init := fun_mk (st := s_m_Short_init) pl_m_Short_init pc_m_Short_init pq_m_Short_init
  have b_m_Short_init := F_m_Short_init.binds (ps := P_m_Short_init) fun _ _ _ _ _ _ us hl => match us, hl with | [_, _], _ => rfl
  have F_f_is_number := fun_mk (st := s_f_is_number) pl_f_is_number pc_f_is_number pq_f_is_number
  have b_f_is_number := F_f_is_number.binds (ps := P_f_is_number) fun _ _ _ _ _ _ us hl => match us, hl with | [_, _], _ => rfl
  have F_f_common_divisor := fun_mk (st := s_f_common_divisor) pl_f_common_divisor pc_f_common_divisor pq_f_common_divisor
  have b_f_common_divisor := F_f_common_divisor.binds (ps := P_f_common_divisor) fun _ _ _ _ _ _ us hl => match us, hl with | [_, _], _ => rfl
  have F_f_halves := fun_mk (st := s_f_halves) pl_f_halves pc_f_halves pq_f_halves
  have b_f_halves := F_f_halves.binds (ps := P_f_halves) fun _ _ _ _ _ _ us hl => match us, hl with | [_], _ => rfl
  have F_m_Ratio_init : FunD K "__init__" "Ratio.__init__" (defArgs s_m_Ratio_init) (defBody s_m_Ratio_init) (defScope s_m_Ratio_init) [.int 1] [] a_m_Ratio_init (PySem.W.fnOf "__init__" "Ratio.__init__" (defArgs s_m_Ratio_init) (defBody s_m_Ratio_init) (defScope s_m_Ratio_init) (.ref tp_m_Ratio_init) kV_m_Ratio_init dc_m_Ratio_init pm_m_Ratio_init an_m_Ratio_init cd_m_Ratio_init ct_m_Ratio_init) := ⟨⟨_, _, _, _, _, _, _, _, _, _, rfl, pl_m_Ratio_init, pc_m_Ratio_init, (.inr ⟨by simp, _, _, _, _, rfl, pt_m_Ratio_init, rfl, (.cons ⟨_, rfl⟩ .nil)⟩), (.inl rfl)⟩, pq_m_Ratio_init⟩
  obtain ⟨e_m_Ratio_init, ve_m_Ratio_init, b_m_Ratio_init⟩ := F_m_Ratio_init.binds1 (ps := P_m_Ratio_init) 3 1 (by simp) rfl fun T kV doc pm an cdv ct us its hu hi => ⟨_, rfl, by
      match us, hu, its, hi with
      | [_, _, _], _, [_], _ => rfl⟩
  cases ve_m_Ratio_init
  obtain ⟨ds_m_Ratio_init, dv_m_Ratio_init, bd_m_Ratio_init⟩ := F_m_Ratio_init.binds1 (ps := P_m_Ratio_init) 2 0 (by simp) rfl fun T kV doc pm an cdv ct us its hu hi => ⟨_, rfl, by
      match us, hu, its, hi with
      | [_, _], _, [_], _ => rfl⟩
  have F_m_Ratio_add := fun_mk (st := s_m_Ratio_add) pl_m_Ratio_add pc_m_Ratio_add pq_m_Ratio_add
  have b_m_Ratio_add := F_m_Ratio_add.binds (ps := P_m_Ratio_add) fun _ _ _ _ _ _ us hl => match us, hl with | [_, _], _ => rfl
  have F_m_Ratio_radd := fun_mk (st := s_m_Ratio_radd) pl_m_Ratio_radd pc_m_Ratio_radd pq_m_Ratio_radd
  have b_m_Ratio_radd := F_m_Ratio_radd.binds (ps := P_m_Ratio_radd) fun _ _ _ _ _ _ us hl => match us, hl with | [_, _], _ => rfl
  have F_m_Ratio_sub := fun_mk (st := s_m_Ratio_sub) pl_m_Ratio_sub pc_m_Ratio_sub pq_m_Ratio_sub
  have b_m_Ratio_sub := F_m_Ratio_sub.binds (ps := P_m_Ratio_sub) fun _ _ _ _ _ _ us hl => match us, hl with | [_, _], _ => rfl
  have F_m_Ratio_rsub := fun_mk (st := s_m_Ratio_rsub) pl_m_Ratio_rsub pc_m_Ratio_rsub pq_m_Ratio_rsub
  have b_m_Ratio_rsub := F_m_Ratio_rsub.binds (ps := P_m_Ratio_rsub) fun _ _ _ _ _ _ us hl => match us, hl with | [_, _], _ => rfl
  have F_m_Ratio_mul := fun_mk (st := s_m_Ratio_mul) pl_m_Ratio_mul pc_m_Ratio_mul pq_m_Ratio_mul
  have b_m_Ratio_mul := F_m_Ratio_mul.binds (ps := P_m_Ratio_mul) fun _ _ _ _ _ _ us hl => match us, hl with | [_, _], _ => rfl
  have F_m_Ratio_rmul := fun_mk (st := s_m_Ratio_rmul) pl_m_Ratio_rmul pc_m_Ratio_rmul pq_m_Ratio_rmul
  have b_m_Ratio_rmul := F_m_Ratio_rmul.binds (ps := P_m_Ratio_rmul) fun _ _ _ _ _ _ us hl => match us, hl with | [_, _], _ => rfl
  have F_m_Ratio_neg := fun_mk (st := s_m_Ratio_neg) pl_m_Ratio_neg pc_m_Ratio_neg pq_m_Ratio_neg
  have b_m_Ratio_neg := F_m_Ratio_neg.binds (ps := P_m_Ratio_neg) fun _ _ _ _ _ _ us hl => match us, hl with | [_], _ => rfl
  have F_m_Ratio_abs := fun_mk (st := s_m_Ratio_abs) pl_m_Ratio_abs pc_m_Ratio_abs pq_m_Ratio_abs
  have b_m_Ratio_abs := F_m_Ratio_abs.binds (ps := P_m_Ratio_abs) fun _ _ _ _ _ _ us hl => match us, hl with | [_], _ => rfl
  have F_m_Ratio_over := fun_mk (st := s_m_Ratio_over) pl_m_Ratio_over pc_m_Ratio_over pq_m_Ratio_over
  have b_m_Ratio_over := F_m_Ratio_over.binds (ps := P_m_Ratio_over) fun _ _ _ _ _ _ us hl => match us, hl with | [_, _], _ => rfl
  have F_m_Ratio_less := fun_mk (st := s_m_Ratio_less) pl_m_Ratio_less pc_m_Ratio_less pq_m_Ratio_less
  have b_m_Ratio_less := F_m_Ratio_less.binds (ps := P_m_Ratio_less) fun _ _ _ _ _ _ us hl => match us, hl with | [_, _], _ => rfl
  have F_m_Ratio_at_most := fun_mk (st := s_m_Ratio_at_most) pl_m_Ratio_at_most pc_m_Ratio_at_most pq_m_Ratio_at_most
  have b_m_Ratio_at_most := F_m_Ratio_at_most.binds (ps := P_m_Ratio_at_most) fun _ _ _ _ _ _ us hl => match us, hl with | [_, _], _ => rfl
  have F_m_Ratio_same := fun_mk (st := s_m_Ratio_same) pl_m_Ratio_same pc_m_Ratio_same pq_m_Ratio_same
  have b_m_Ratio_same := F_m_Ratio_same.binds (ps := P_m_Ratio_same) fun _ _ _ _ _ _ us hl => match us, hl with | [_, _], _ => rfl
  have F_m_Ratio_floor := fun_mk (st := s_m_Ratio_floor) pl_m_Ratio_floor pc_m_Ratio_floor pq_m_Ratio_floor
  have b_m_Ratio_floor := F_m_Ratio_floor.binds (ps := P_m_Ratio_floor) fun _ _ _ _ _ _ us hl => match us, hl with | [_], _ => rfl
  have F_m_Ratio_sum_of := fun_mk (st := s_m_Ratio_sum_of) pl_m_Ratio_sum_of pc_m_Ratio_sum_of pq_m_Ratio_sum_of
  have b_m_Ratio_sum_of := F_m_Ratio_sum_of.binds (ps := P_m_Ratio_sum_of) fun _ _ _ _ _ _ us hl => match us, hl with | [_], _ => rfl
  have F_f_stacked := fun_mk (st := s_f_stacked) pl_f_stacked pc_f_stacked pq_f_stacked
  have b_f_stacked := F_f_stacked.binds (ps := P_f_stacked) fun _ _ _ _ _ _ us hl => match us, hl with | [_], _ => rfl
  have F_f_units_in := fun_mk (st := s_f_units_in) pl_f_units_in pc_f_units_in pq_f_units_in
  have b_f_units_in := F_f_units_in.binds (ps := P_f_units_in) fun _ _ _ _ _ _ us hl => match us, hl with | [_], _ => rfl
  have F_f_cut := fun_mk (st := s_f_cut) pl_f_cut pc_f_cut pq_f_cut
  have b_f_cut := F_f_cut.binds (ps := P_f_cut) fun _ _ _ _ _ _ us hl => match us, hl with | [_, _], _ => rfl
  have F_f_shared := fun_mk (st := s_f_shared) pl_f_shared pc_f_shared pq_f_shared
  have b_f_shared := F_f_shared.binds (ps := P_f_shared) fun _ _ _ _ _ _ us hl => match us, hl with | [_, _], _ => rfl
  have F_f_check_units := fun_mk (st := s_f_check_units) pl_f_check_units pc_f_check_units pq_f_check_units
  have b_f_check_units := F_f_check_units.binds (ps := P_f_check_units) fun _ _ _ _ _ _ us hl => match us, hl with | [_, _], _ => rfl
  have F_m_Rule_init : FunD K "__init__" "Rule.__init__" (defArgs s_m_Rule_init) (defBody s_m_Rule_init) (defScope s_m_Rule_init) [] [("place", .str "own"), ("period", .int 0)] a_m_Rule_init (PySem.W.fnOf "__init__" "Rule.__init__" (defArgs s_m_Rule_init) (defBody s_m_Rule_init) (defScope s_m_Rule_init) .none (.ref kd_m_Rule_init) dc_m_Rule_init pm_m_Rule_init an_m_Rule_init cd_m_Rule_init ct_m_Rule_init) := ⟨⟨_, _, _, _, _, _, _, _, _, _, rfl, pl_m_Rule_init, pc_m_Rule_init, (.inl ⟨rfl, rfl⟩), (.inr ⟨_, rfl, fun q hq => by
      simp only [List.mem_cons, List.not_mem_nil, or_false] at hq
      rcases hq with rfl | rfl
      · exact ⟨_, pk0_m_Rule_init, ⟨_, rfl⟩⟩
      · exact ⟨_, pk1_m_Rule_init, ⟨_, rfl⟩⟩⟩)⟩, pq_m_Rule_init⟩
  have F_m_Rule_call := fun_mk (st := s_m_Rule_call) pl_m_Rule_call pc_m_Rule_call pq_m_Rule_call
  have b_m_Rule_call := F_m_Rule_call.binds (ps := P_m_Rule_call) fun _ _ _ _ _ _ us hl => match us, hl with | [_, _, _], _ => rfl
  have F_m_Rule_returned := fun_mk (st := s_m_Rule_returned) pl_m_Rule_returned pc_m_Rule_returned pq_m_Rule_returned
  have b_m_Rule_returned := F_m_Rule_returned.binds (ps := P_m_Rule_returned) fun _ _ _ _ _ _ us hl => match us, hl with | [_, _, _], _ => rfl
  have F_m_Rule_laid := fun_mk (st := s_m_Rule_laid) pl_m_Rule_laid pc_m_Rule_laid pq_m_Rule_laid
  have b_m_Rule_laid := F_m_Rule_laid.binds (ps := P_m_Rule_laid) fun _ _ _ _ _ _ us hl => match us, hl with | [_, _, _, _], _ => rfl
  have F_m_Rule_put := fun_mk (st := s_m_Rule_put) pl_m_Rule_put pc_m_Rule_put pq_m_Rule_put
  have b_m_Rule_put := F_m_Rule_put.binds (ps := P_m_Rule_put) fun _ _ _ _ _ _ us hl => match us, hl with | [_, _, _, _], _ => rfl
  have F_l_bag := fun_mk (st := s_l_bag) pl_l_bag pc_l_bag pq_l_bag
  have b_l_bag := F_l_bag.binds (ps := P_l_bag) fun _ _ _ _ _ _ us hl => match us, hl with | [_], _ => rfl
  have F_l_draw := fun_mk (st := s_l_draw) pl_l_draw pc_l_draw pq_l_draw
  have b_l_draw := F_l_draw.binds (ps := P_l_draw) fun _ _ _ _ _ _ us hl => match us, hl with | [_, _], _ => rfl
  have F_l_names := fun_mk (st := s_l_names) pl_l_names pc_l_names pq_l_names
  have b_l_names := F_l_names.binds (ps := P_l_names) fun _ _ _ _ _ _ us hl => match us, hl with | [_, _, _], _ => rfl
  have F_l_pick := fun_mk (st := s_l_pick) pl_l_pick pc_l_pick pq_l_pick
  have b_l_pick := F_l_pick.binds (ps := P_l_pick) fun _ _ _ _ _ _ us hl => match us, hl with | [_, _], _ => rfl
  have F_l_rule := fun_mk (st := s_l_rule) pl_l_rule pc_l_rule pq_l_rule
  have b_l_rule := F_l_rule.binds (ps := P_l_rule) fun _ _ _ _ _ _ us hl => match us, hl with | [_], _ => rfl
  have F_l_made := fun_mk (st := s_l_made) pl_l_made pc_l_made pq_l_made
  have b_l_made := F_l_made.binds (ps := P_l_made) fun _ _ _ _ _ _ us hl => match us, hl with | [_], _ => rfl
  have F_l_total := fun_mk (st := s_l_total) pl_l_total pc_l_total pq_l_total
  have b_l_total := F_l_total.binds (ps := P_l_total) fun _ _ _ _ _ _ us hl => match us, hl with | [_], _ => rfl
  have F_l_joined := fun_mk (st := s_l_joined) pl_l_joined pc_l_joined pq_l_joined
  have b_l_joined := F_l_joined.binds (ps := P_l_joined) fun _ _ _ _ _ _ us hl => match us, hl with | [_], _ => rfl
  have F_l_first := fun_mk (st := s_l_first) pl_l_first pc_l_first pq_l_first
  have b_l_first := F_l_first.binds (ps := P_l_first) fun _ _ _ _ _ _ us hl => match us, hl with | [_, _], _ => rfl
  have F_l_part := fun_mk (st := s_l_part) pl_l_part pc_l_part pq_l_part
  have b_l_part := F_l_part.binds (ps := P_l_part) fun _ _ _ _ _ _ us hl => match us, hl with | [_, _], _ => rfl
  have F_l_back := fun_mk (st := s_l_back) pl_l_back pc_l_back pq_l_back
  have b_l_back := F_l_back.binds (ps := P_l_back) fun _ _ _ _ _ _ us hl => match us, hl with | [_, _, _], _ => rfl
  have F_l_put := fun_mk (st := s_l_put) pl_l_put pc_l_put pq_l_put
  have b_l_put := F_l_put.binds (ps := P_l_put) fun _ _ _ _ _ _ us hl => match us, hl with | [_, _, _, _], _ => rfl
  have F_l_side := fun_mk (st := s_l_side) pl_l_side pc_l_side pq_l_side
  have b_l_side := F_l_side.binds (ps := P_l_side) fun _ _ _ _ _ _ us hl => match us, hl with | [_], _ => rfl
  have F_l_laid := fun_mk (st := s_l_laid) pl_l_laid pc_l_laid pq_l_laid
  have b_l_laid := F_l_laid.binds (ps := P_l_laid) fun _ _ _ _ _ _ us hl => match us, hl with | [_, _, _, _], _ => rfl
  have F_l_parts_same := fun_mk (st := s_l_parts_same) pl_l_parts_same pc_l_parts_same pq_l_parts_same
  have b_l_parts_same := F_l_parts_same.binds (ps := P_l_parts_same) fun _ _ _ _ _ _ us hl => match us, hl with | [_, _], _ => rfl
  have F_l_amount := fun_mk (st := s_l_amount) pl_l_amount pc_l_amount pq_l_amount
  have b_l_amount := F_l_amount.binds (ps := P_l_amount) fun _ _ _ _ _ _ us hl => match us, hl with | [_], _ => rfl
  have F_l_layers := fun_mk (st := s_l_layers) pl_l_layers pc_l_layers pq_l_layers
  have b_l_layers := F_l_layers.binds (ps := P_l_layers) fun _ _ _ _ _ _ us hl => match us, hl with | [_, _, _], _ => rfl
  have F_l_short := fun_mk (st := s_l_short) pl_l_short pc_l_short pq_l_short
  have b_l_short := F_l_short.binds (ps := P_l_short) fun _ _ _ _ _ _ us hl => match us, hl with | [_, _, _], _ => rfl
  have F_l_return_right := fun_mk (st := s_l_return_right) pl_l_return_right pc_l_return_right pq_l_return_right
  have b_l_return_right := F_l_return_right.binds (ps := P_l_return_right) fun _ _ _ _ _ _ us hl => match us, hl with | [_, _, _, _, _, _], _ => rfl
  have F_f_law := fun_mk (st := s_f_law) pl_f_law pc_f_law pq_f_law
  have b_f_law := F_f_law.binds (ps := P_f_law) fun _ _ _ _ _ _ us hl => match us, hl with | [_], _ => rfl
  have T : Txt K mg ⟨a_CostError, a_NoRatio, a_BadRule, a_Short, a_Ratio, a_Rule, a_m_BadRule_init, (PySem.W.fnOf "__init__" "BadRule.__init__" (defArgs s_m_BadRule_init) (defBody s_m_BadRule_init) (defScope s_m_BadRule_init) .none kV_m_BadRule_init dc_m_BadRule_init pm_m_BadRule_init an_m_BadRule_init cd_m_BadRule_init ct_m_BadRule_init), a_m_Short_init, (PySem.W.fnOf "__init__" "Short.__init__" (defArgs s_m_Short_init) (defBody s_m_Short_init) (defScope s_m_Short_init) .none kV_m_Short_init dc_m_Short_init pm_m_Short_init an_m_Short_init cd_m_Short_init ct_m_Short_init), a_f_is_number, (PySem.W.fnOf "is_number" "is_number" (defArgs s_f_is_number) (defBody s_f_is_number) (defScope s_f_is_number) .none kV_f_is_number dc_f_is_number pm_f_is_number an_f_is_number cd_f_is_number ct_f_is_number), a_f_common_divisor, (PySem.W.fnOf "common_divisor" "common_divisor" (defArgs s_f_common_divisor) (defBody s_f_common_divisor) (defScope s_f_common_divisor) .none kV_f_common_divisor dc_f_common_divisor pm_f_common_divisor an_f_common_divisor cd_f_common_divisor ct_f_common_divisor), a_f_halves, (PySem.W.fnOf "halves" "halves" (defArgs s_f_halves) (defBody s_f_halves) (defScope s_f_halves) .none kV_f_halves dc_f_halves pm_f_halves an_f_halves cd_f_halves ct_f_halves), a_m_Ratio_init, (PySem.W.fnOf "__init__" "Ratio.__init__" (defArgs s_m_Ratio_init) (defBody s_m_Ratio_init) (defScope s_m_Ratio_init) (.ref tp_m_Ratio_init) kV_m_Ratio_init dc_m_Ratio_init pm_m_Ratio_init an_m_Ratio_init cd_m_Ratio_init ct_m_Ratio_init), a_m_Ratio_add, (PySem.W.fnOf "__add__" "Ratio.__add__" (defArgs s_m_Ratio_add) (defBody s_m_Ratio_add) (defScope s_m_Ratio_add) .none kV_m_Ratio_add dc_m_Ratio_add pm_m_Ratio_add an_m_Ratio_add cd_m_Ratio_add ct_m_Ratio_add), a_m_Ratio_radd, (PySem.W.fnOf "__radd__" "Ratio.__radd__" (defArgs s_m_Ratio_radd) (defBody s_m_Ratio_radd) (defScope s_m_Ratio_radd) .none kV_m_Ratio_radd dc_m_Ratio_radd pm_m_Ratio_radd an_m_Ratio_radd cd_m_Ratio_radd ct_m_Ratio_radd), a_m_Ratio_sub, (PySem.W.fnOf "__sub__" "Ratio.__sub__" (defArgs s_m_Ratio_sub) (defBody s_m_Ratio_sub) (defScope s_m_Ratio_sub) .none kV_m_Ratio_sub dc_m_Ratio_sub pm_m_Ratio_sub an_m_Ratio_sub cd_m_Ratio_sub ct_m_Ratio_sub), a_m_Ratio_rsub, (PySem.W.fnOf "__rsub__" "Ratio.__rsub__" (defArgs s_m_Ratio_rsub) (defBody s_m_Ratio_rsub) (defScope s_m_Ratio_rsub) .none kV_m_Ratio_rsub dc_m_Ratio_rsub pm_m_Ratio_rsub an_m_Ratio_rsub cd_m_Ratio_rsub ct_m_Ratio_rsub), a_m_Ratio_mul, (PySem.W.fnOf "__mul__" "Ratio.__mul__" (defArgs s_m_Ratio_mul) (defBody s_m_Ratio_mul) (defScope s_m_Ratio_mul) .none kV_m_Ratio_mul dc_m_Ratio_mul pm_m_Ratio_mul an_m_Ratio_mul cd_m_Ratio_mul ct_m_Ratio_mul), a_m_Ratio_rmul, (PySem.W.fnOf "__rmul__" "Ratio.__rmul__" (defArgs s_m_Ratio_rmul) (defBody s_m_Ratio_rmul) (defScope s_m_Ratio_rmul) .none kV_m_Ratio_rmul dc_m_Ratio_rmul pm_m_Ratio_rmul an_m_Ratio_rmul cd_m_Ratio_rmul ct_m_Ratio_rmul), a_m_Ratio_neg, (PySem.W.fnOf "__neg__" "Ratio.__neg__" (defArgs s_m_Ratio_neg) (defBody s_m_Ratio_neg) (defScope s_m_Ratio_neg) .none kV_m_Ratio_neg dc_m_Ratio_neg pm_m_Ratio_neg an_m_Ratio_neg cd_m_Ratio_neg ct_m_Ratio_neg), a_m_Ratio_abs, (PySem.W.fnOf "__abs__" "Ratio.__abs__" (defArgs s_m_Ratio_abs) (defBody s_m_Ratio_abs) (defScope s_m_Ratio_abs) .none kV_m_Ratio_abs dc_m_Ratio_abs pm_m_Ratio_abs an_m_Ratio_abs cd_m_Ratio_abs ct_m_Ratio_abs), a_m_Ratio_over, (PySem.W.fnOf "over" "Ratio.over" (defArgs s_m_Ratio_over) (defBody s_m_Ratio_over) (defScope s_m_Ratio_over) .none kV_m_Ratio_over dc_m_Ratio_over pm_m_Ratio_over an_m_Ratio_over cd_m_Ratio_over ct_m_Ratio_over), a_m_Ratio_less, (PySem.W.fnOf "less" "Ratio.less" (defArgs s_m_Ratio_less) (defBody s_m_Ratio_less) (defScope s_m_Ratio_less) .none kV_m_Ratio_less dc_m_Ratio_less pm_m_Ratio_less an_m_Ratio_less cd_m_Ratio_less ct_m_Ratio_less), a_m_Ratio_at_most, (PySem.W.fnOf "at_most" "Ratio.at_most" (defArgs s_m_Ratio_at_most) (defBody s_m_Ratio_at_most) (defScope s_m_Ratio_at_most) .none kV_m_Ratio_at_most dc_m_Ratio_at_most pm_m_Ratio_at_most an_m_Ratio_at_most cd_m_Ratio_at_most ct_m_Ratio_at_most), a_m_Ratio_same, (PySem.W.fnOf "same" "Ratio.same" (defArgs s_m_Ratio_same) (defBody s_m_Ratio_same) (defScope s_m_Ratio_same) .none kV_m_Ratio_same dc_m_Ratio_same pm_m_Ratio_same an_m_Ratio_same cd_m_Ratio_same ct_m_Ratio_same), a_m_Ratio_floor, (PySem.W.fnOf "floor" "Ratio.floor" (defArgs s_m_Ratio_floor) (defBody s_m_Ratio_floor) (defScope s_m_Ratio_floor) .none kV_m_Ratio_floor dc_m_Ratio_floor pm_m_Ratio_floor an_m_Ratio_floor cd_m_Ratio_floor ct_m_Ratio_floor), a_m_Ratio_sum_of, (PySem.W.fnOf "sum_of" "Ratio.sum_of" (defArgs s_m_Ratio_sum_of) (defBody s_m_Ratio_sum_of) (defScope s_m_Ratio_sum_of) .none kV_m_Ratio_sum_of dc_m_Ratio_sum_of pm_m_Ratio_sum_of an_m_Ratio_sum_of cd_m_Ratio_sum_of ct_m_Ratio_sum_of), a_sp_m_Ratio_sum_of, a_f_stacked, (PySem.W.fnOf "stacked" "stacked" (defArgs s_f_stacked) (defBody s_f_stacked) (defScope s_f_stacked) .none kV_f_stacked dc_f_stacked pm_f_stacked an_f_stacked cd_f_stacked ct_f_stacked), a_f_units_in, (PySem.W.fnOf "units_in" "units_in" (defArgs s_f_units_in) (defBody s_f_units_in) (defScope s_f_units_in) .none kV_f_units_in dc_f_units_in pm_f_units_in an_f_units_in cd_f_units_in ct_f_units_in), a_f_cut, (PySem.W.fnOf "cut" "cut" (defArgs s_f_cut) (defBody s_f_cut) (defScope s_f_cut) .none kV_f_cut dc_f_cut pm_f_cut an_f_cut cd_f_cut ct_f_cut), a_f_shared, (PySem.W.fnOf "shared" "shared" (defArgs s_f_shared) (defBody s_f_shared) (defScope s_f_shared) .none kV_f_shared dc_f_shared pm_f_shared an_f_shared cd_f_shared ct_f_shared), a_f_check_units, (PySem.W.fnOf "check_units" "check_units" (defArgs s_f_check_units) (defBody s_f_check_units) (defScope s_f_check_units) .none kV_f_check_units dc_f_check_units pm_f_check_units an_f_check_units cd_f_check_units ct_f_check_units), a_m_Rule_init, (PySem.W.fnOf "__init__" "Rule.__init__" (defArgs s_m_Rule_init) (defBody s_m_Rule_init) (defScope s_m_Rule_init) .none (.ref kd_m_Rule_init) dc_m_Rule_init pm_m_Rule_init an_m_Rule_init cd_m_Rule_init ct_m_Rule_init), a_m_Rule_call, (PySem.W.fnOf "__call__" "Rule.__call__" (defArgs s_m_Rule_call) (defBody s_m_Rule_call) (defScope s_m_Rule_call) .none kV_m_Rule_call dc_m_Rule_call pm_m_Rule_call an_m_Rule_call cd_m_Rule_call ct_m_Rule_call), a_m_Rule_returned, (PySem.W.fnOf "returned" "Rule.returned" (defArgs s_m_Rule_returned) (defBody s_m_Rule_returned) (defScope s_m_Rule_returned) .none kV_m_Rule_returned dc_m_Rule_returned pm_m_Rule_returned an_m_Rule_returned cd_m_Rule_returned ct_m_Rule_returned), a_m_Rule_laid, (PySem.W.fnOf "laid" "Rule.laid" (defArgs s_m_Rule_laid) (defBody s_m_Rule_laid) (defScope s_m_Rule_laid) .none kV_m_Rule_laid dc_m_Rule_laid pm_m_Rule_laid an_m_Rule_laid cd_m_Rule_laid ct_m_Rule_laid), a_m_Rule_put, (PySem.W.fnOf "put" "Rule.put" (defArgs s_m_Rule_put) (defBody s_m_Rule_put) (defScope s_m_Rule_put) .none kV_m_Rule_put dc_m_Rule_put pm_m_Rule_put an_m_Rule_put cd_m_Rule_put ct_m_Rule_put), a_l_bag, (PySem.W.fnOf "_law_bag" "_law_bag" (defArgs s_l_bag) (defBody s_l_bag) (defScope s_l_bag) .none kV_l_bag dc_l_bag pm_l_bag an_l_bag cd_l_bag ct_l_bag), a_l_draw, (PySem.W.fnOf "_law_draw" "_law_draw" (defArgs s_l_draw) (defBody s_l_draw) (defScope s_l_draw) .none kV_l_draw dc_l_draw pm_l_draw an_l_draw cd_l_draw ct_l_draw), a_l_names, (PySem.W.fnOf "_law_names" "_law_names" (defArgs s_l_names) (defBody s_l_names) (defScope s_l_names) .none kV_l_names dc_l_names pm_l_names an_l_names cd_l_names ct_l_names), a_l_pick, (PySem.W.fnOf "_law_pick" "_law_pick" (defArgs s_l_pick) (defBody s_l_pick) (defScope s_l_pick) .none kV_l_pick dc_l_pick pm_l_pick an_l_pick cd_l_pick ct_l_pick), a_l_rule, (PySem.W.fnOf "_law_rule" "_law_rule" (defArgs s_l_rule) (defBody s_l_rule) (defScope s_l_rule) .none kV_l_rule dc_l_rule pm_l_rule an_l_rule cd_l_rule ct_l_rule), a_l_made, (PySem.W.fnOf "_law_made" "_law_made" (defArgs s_l_made) (defBody s_l_made) (defScope s_l_made) .none kV_l_made dc_l_made pm_l_made an_l_made cd_l_made ct_l_made), a_l_total, (PySem.W.fnOf "_law_total" "_law_total" (defArgs s_l_total) (defBody s_l_total) (defScope s_l_total) .none kV_l_total dc_l_total pm_l_total an_l_total cd_l_total ct_l_total), a_l_joined, (PySem.W.fnOf "_law_joined" "_law_joined" (defArgs s_l_joined) (defBody s_l_joined) (defScope s_l_joined) .none kV_l_joined dc_l_joined pm_l_joined an_l_joined cd_l_joined ct_l_joined), a_l_first, (PySem.W.fnOf "_law_first" "_law_first" (defArgs s_l_first) (defBody s_l_first) (defScope s_l_first) .none kV_l_first dc_l_first pm_l_first an_l_first cd_l_first ct_l_first), a_l_part, (PySem.W.fnOf "_law_part" "_law_part" (defArgs s_l_part) (defBody s_l_part) (defScope s_l_part) .none kV_l_part dc_l_part pm_l_part an_l_part cd_l_part ct_l_part), a_l_back, (PySem.W.fnOf "_law_back" "_law_back" (defArgs s_l_back) (defBody s_l_back) (defScope s_l_back) .none kV_l_back dc_l_back pm_l_back an_l_back cd_l_back ct_l_back), a_l_put, (PySem.W.fnOf "_law_put" "_law_put" (defArgs s_l_put) (defBody s_l_put) (defScope s_l_put) .none kV_l_put dc_l_put pm_l_put an_l_put cd_l_put ct_l_put), a_l_side, (PySem.W.fnOf "_law_side" "_law_side" (defArgs s_l_side) (defBody s_l_side) (defScope s_l_side) .none kV_l_side dc_l_side pm_l_side an_l_side cd_l_side ct_l_side), a_l_laid, (PySem.W.fnOf "_law_laid" "_law_laid" (defArgs s_l_laid) (defBody s_l_laid) (defScope s_l_laid) .none kV_l_laid dc_l_laid pm_l_laid an_l_laid cd_l_laid ct_l_laid), a_l_parts_same, (PySem.W.fnOf "_law_parts_same" "_law_parts_same" (defArgs s_l_parts_same) (defBody s_l_parts_same) (defScope s_l_parts_same) .none kV_l_parts_same dc_l_parts_same pm_l_parts_same an_l_parts_same cd_l_parts_same ct_l_parts_same), a_l_amount, (PySem.W.fnOf "_law_amount" "_law_amount" (defArgs s_l_amount) (defBody s_l_amount) (defScope s_l_amount) .none kV_l_amount dc_l_amount pm_l_amount an_l_amount cd_l_amount ct_l_amount), a_l_layers, (PySem.W.fnOf "_law_layers" "_law_layers" (defArgs s_l_layers) (defBody s_l_layers) (defScope s_l_layers) .none kV_l_layers dc_l_layers pm_l_layers an_l_layers cd_l_layers ct_l_layers), a_l_short, (PySem.W.fnOf "_law_short" "_law_short" (defArgs s_l_short) (defBody s_l_short) (defScope s_l_short) .none kV_l_short dc_l_short pm_l_short an_l_short cd_l_short ct_l_short), a_l_return_right, (PySem.W.fnOf "_law_return_right" "_law_return_right" (defArgs s_l_return_right) (defBody s_l_return_right) (defScope s_l_return_right) .none kV_l_return_right dc_l_return_right pm_l_return_right an_l_return_right cd_l_return_right ct_l_return_right), fa, (PySem.W.fnOf "law" "law" (defArgs s_f_law) (defBody s_f_law) (defScope s_f_law) .none kV_f_law dc_f_law pm_f_law an_f_law cd_f_law ct_f_law), a_TAKES, a_SPOTS, ds_m_Ratio_init, []⟩ := {
    z_abs := PySem.W.mg_none_of X G pz_abs,
    z_all := PySem.W.mg_none_of X G pz_all,
    z_bool := PySem.W.mg_none_of X G pz_bool,
    z_int := PySem.W.mg_none_of X G pz_int,
    z_isinstance := PySem.W.mg_none_of X G pz_isinstance,
    z_len := PySem.W.mg_none_of X G pz_len,
    z_list := PySem.W.mg_none_of X G pz_list,
    z_range := PySem.W.mg_none_of X G pz_range,
    z_staticmethod := PySem.W.mg_none_of X G pz_staticmethod,
    z_tuple := PySem.W.mg_none_of X G pz_tuple,
    g_CostError := PySem.W.mg_of X G pg_CostError,
    ek_CostError := pek_CostError,
    eb_CostError := peb_CostError,
    et_CostError := pet_CostError,
    eh_CostError := peh_CostError,
    eic_CostError := peic_CostError,
    es_CostError := pes_CostError,
    xg_CostError := pxg_CostError,
    xk_CostError := pxk_CostError,
    xa_CostError := pxa_CostError,
    xn_CostError := pxn_CostError,
    xt_CostError := pxt_CostError,
    xm_CostError := pxm_CostError,
    rd_CostError := prd_CostError,
    cg_CostError := pcg_CostError,
    vi_CostError := pvi_CostError,
    g_NoRatio := PySem.W.mg_of X G pg_NoRatio,
    ek_NoRatio := pek_NoRatio,
    eb_NoRatio := peb_NoRatio,
    et_NoRatio := pet_NoRatio,
    eh_NoRatio := peh_NoRatio,
    eic_NoRatio := peic_NoRatio,
    es_NoRatio := pes_NoRatio,
    xg_NoRatio := pxg_NoRatio,
    xk_NoRatio := pxk_NoRatio,
    xa_NoRatio := pxa_NoRatio,
    xn_NoRatio := pxn_NoRatio,
    xt_NoRatio := pxt_NoRatio,
    xm_NoRatio := pxm_NoRatio,
    ex_NoRatio := pex_NoRatio,
    g_BadRule := PySem.W.mg_of X G pg_BadRule,
    ek_BadRule := pek_BadRule,
    eb_BadRule := peb_BadRule,
    et_BadRule := pet_BadRule,
    eh_BadRule := peh_BadRule,
    eic_BadRule := peic_BadRule,
    es_BadRule := pes_BadRule,
    xg_BadRule := pxg_BadRule,
    xk_BadRule := pxk_BadRule,
    xa_BadRule := pxa_BadRule,
    xn_BadRule := pxn_BadRule,
    xt_BadRule := pxt_BadRule,
    xm_BadRule := pxm_BadRule,
    n_BadRule_word := pn_BadRule_word,
    oi_BadRule := poi_BadRule,
    ot_BadRule := pot_BadRule,
    ox_BadRule := ⟨⟨_, _, _, _, _, _, _, _, _, _, _, _, _, _, _, pol_BadRule, pov_BadRule⟩, posa_BadRule, peb_BadRule, pet_BadRule, pek_BadRule⟩,
    g_Short := PySem.W.mg_of X G pg_Short,
    ek_Short := pek_Short,
    eb_Short := peb_Short,
    et_Short := pet_Short,
    eh_Short := peh_Short,
    eic_Short := peic_Short,
    es_Short := pes_Short,
    xg_Short := pxg_Short,
    xk_Short := pxk_Short,
    xa_Short := pxa_Short,
    xn_Short := pxn_Short,
    xt_Short := pxt_Short,
    xm_Short := pxm_Short,
    xc_Short := pxc_Short,
    n_Short_missing := pn_Short_missing,
    oi_Short := poi_Short,
    ot_Short := pot_Short,
    ox_Short := ⟨⟨_, _, _, _, _, _, _, _, _, _, _, _, _, _, _, pol_Short, pov_Short⟩, posa_Short, peb_Short, pet_Short, pek_Short⟩,
    g_Ratio := PySem.W.mg_of X G pg_Ratio,
    cl_Ratio := ⟨ppg_Ratio, phd_Ratio, ppo_Ratio, psa_Ratio⟩,
    n_Ratio_top := pn_Ratio_top,
    n_Ratio_bottom := pn_Ratio_bottom,
    mk_Ratio := ⟨pma_Ratio, pmi_Ratio, pmf_Ratio, pmc_Ratio⟩,
    m_Ratio___add__ := ⟨pmt_m_Ratio_add, pmn_m_Ratio_add, pmk_m_Ratio_add⟩,
    m_Ratio___radd__ := ⟨pmt_m_Ratio_radd, pmn_m_Ratio_radd, pmk_m_Ratio_radd⟩,
    m_Ratio___sub__ := ⟨pmt_m_Ratio_sub, pmn_m_Ratio_sub, pmk_m_Ratio_sub⟩,
    m_Ratio___rsub__ := ⟨pmt_m_Ratio_rsub, pmn_m_Ratio_rsub, pmk_m_Ratio_rsub⟩,
    m_Ratio___mul__ := ⟨pmt_m_Ratio_mul, pmn_m_Ratio_mul, pmk_m_Ratio_mul⟩,
    m_Ratio___rmul__ := ⟨pmt_m_Ratio_rmul, pmn_m_Ratio_rmul, pmk_m_Ratio_rmul⟩,
    m_Ratio___neg__ := ⟨pmt_m_Ratio_neg, pmn_m_Ratio_neg, pmk_m_Ratio_neg⟩,
    m_Ratio___abs__ := ⟨pmt_m_Ratio_abs, pmn_m_Ratio_abs, pmk_m_Ratio_abs⟩,
    m_Ratio_over := ⟨pmt_m_Ratio_over, pmn_m_Ratio_over, pmk_m_Ratio_over⟩,
    m_Ratio_less := ⟨pmt_m_Ratio_less, pmn_m_Ratio_less, pmk_m_Ratio_less⟩,
    m_Ratio_at_most := ⟨pmt_m_Ratio_at_most, pmn_m_Ratio_at_most, pmk_m_Ratio_at_most⟩,
    m_Ratio_same := ⟨pmt_m_Ratio_same, pmn_m_Ratio_same, pmk_m_Ratio_same⟩,
    m_Ratio_floor := ⟨pmt_m_Ratio_floor, pmn_m_Ratio_floor, pmk_m_Ratio_floor⟩,
    sm_Ratio_sum_of := ⟨ps1_m_Ratio_sum_of, ps2_m_Ratio_sum_of, ps3_m_Ratio_sum_of, ⟨_, ps4_m_Ratio_sum_of⟩, ps5_m_Ratio_sum_of⟩,
    tc_Ratio := ptc_Ratio,
    tn_Ratio := ptn_Ratio,
    tk_Ratio := ptk_Ratio,
    tm_Ratio := ptm_Ratio,
    ki_Ratio := pki_Ratio,
    sf_Ratio := psf_Ratio,
    si_Ratio := psi_Ratio,
    sj_Ratio := psj_Ratio,
    o1a_Ratio := po1a_Ratio,
    o2a_Ratio := po2a_Ratio,
    o1s_Ratio := po1s_Ratio,
    o2s_Ratio := po2s_Ratio,
    o1m_Ratio := po1m_Ratio,
    o2m_Ratio := po2m_Ratio,
    nia_Ratio := pnia_Ratio,
    nis_Ratio := pnis_Ratio,
    nim_Ratio := pnim_Ratio,
    rd_Ratio := prd_Ratio,
    cga_Ratio := pcga_Ratio,
    g_Rule := PySem.W.mg_of X G pg_Rule,
    cl_Rule := ⟨ppg_Rule, phd_Rule, ppo_Rule, psa_Rule⟩,
    n_Rule_take := pn_Rule_take,
    n_Rule_place := pn_Rule_place,
    n_Rule_period := pn_Rule_period,
    mk_Rule := ⟨pma_Rule, pmi_Rule, pmf_Rule, pmc_Rule⟩,
    m_Rule___call__ := ⟨pmt_m_Rule_call, pmn_m_Rule_call, pmk_m_Rule_call⟩,
    m_Rule_returned := ⟨pmt_m_Rule_returned, pmn_m_Rule_returned, pmk_m_Rule_returned⟩,
    m_Rule_laid := ⟨pmt_m_Rule_laid, pmn_m_Rule_laid, pmk_m_Rule_laid⟩,
    m_Rule_put := ⟨pmt_m_Rule_put, pmn_m_Rule_put, pmk_m_Rule_put⟩,
    ca_Rule := pca_Rule,
    cf_Rule := pcf_Rule,
    ci_Rule := pci_Rule,
    g_MOST := ⟨_, PySem.W.mg_of X G pg_MOST⟩,
    g_TAKES := PySem.W.mg_of X G pg_TAKES,
    tq_TAKES := ⟨_, _, _, ptl_TAKES, rfl, rfl, Nat.le_of_ble_eq_true rfl, (.cons ⟨_, rfl⟩ (.cons ⟨_, rfl⟩ (.cons ⟨_, rfl⟩ .nil)))⟩,
    g_SPOTS := PySem.W.mg_of X G pg_SPOTS,
    tq_SPOTS := ⟨_, _, _, ptl_SPOTS, rfl, rfl, Nat.le_of_ble_eq_true rfl, (.cons ⟨_, rfl⟩ (.cons ⟨_, rfl⟩ (.cons ⟨_, rfl⟩ .nil)))⟩,
    F_m_BadRule_init := F_m_BadRule_init,
    b_m_BadRule_init := b_m_BadRule_init,
    F_m_Short_init := F_m_Short_init,
    b_m_Short_init := b_m_Short_init,
    F_f_is_number := F_f_is_number,
    b_f_is_number := b_f_is_number,
    g_is_number := PySem.W.mg_of X G pa_f_is_number,
    F_f_common_divisor := F_f_common_divisor,
    b_f_common_divisor := b_f_common_divisor,
    g_common_divisor := PySem.W.mg_of X G pa_f_common_divisor,
    F_f_halves := F_f_halves,
    b_f_halves := b_f_halves,
    g_halves := PySem.W.mg_of X G pa_f_halves,
    F_m_Ratio_init := F_m_Ratio_init,
    b_m_Ratio_init := b_m_Ratio_init,
    dv_m_Ratio_init := dv_m_Ratio_init,
    b_m_Ratio_init_d1 := bd_m_Ratio_init,
    F_m_Ratio_add := F_m_Ratio_add,
    b_m_Ratio_add := b_m_Ratio_add,
    F_m_Ratio_radd := F_m_Ratio_radd,
    b_m_Ratio_radd := b_m_Ratio_radd,
    F_m_Ratio_sub := F_m_Ratio_sub,
    b_m_Ratio_sub := b_m_Ratio_sub,
    F_m_Ratio_rsub := F_m_Ratio_rsub,
    b_m_Ratio_rsub := b_m_Ratio_rsub,
    F_m_Ratio_mul := F_m_Ratio_mul,
    b_m_Ratio_mul := b_m_Ratio_mul,
    F_m_Ratio_rmul := F_m_Ratio_rmul,
    b_m_Ratio_rmul := b_m_Ratio_rmul,
    F_m_Ratio_neg := F_m_Ratio_neg,
    b_m_Ratio_neg := b_m_Ratio_neg,
    F_m_Ratio_abs := F_m_Ratio_abs,
    b_m_Ratio_abs := b_m_Ratio_abs,
    F_m_Ratio_over := F_m_Ratio_over,
    b_m_Ratio_over := b_m_Ratio_over,
    F_m_Ratio_less := F_m_Ratio_less,
    b_m_Ratio_less := b_m_Ratio_less,
    F_m_Ratio_at_most := F_m_Ratio_at_most,
    b_m_Ratio_at_most := b_m_Ratio_at_most,
    F_m_Ratio_same := F_m_Ratio_same,
    b_m_Ratio_same := b_m_Ratio_same,
    F_m_Ratio_floor := F_m_Ratio_floor,
    b_m_Ratio_floor := b_m_Ratio_floor,
    F_m_Ratio_sum_of := F_m_Ratio_sum_of,
    b_m_Ratio_sum_of := b_m_Ratio_sum_of,
    F_f_stacked := F_f_stacked,
    b_f_stacked := b_f_stacked,
    g_stacked := PySem.W.mg_of X G pa_f_stacked,
    F_f_units_in := F_f_units_in,
    b_f_units_in := b_f_units_in,
    g_units_in := PySem.W.mg_of X G pa_f_units_in,
    F_f_cut := F_f_cut,
    b_f_cut := b_f_cut,
    g_cut := PySem.W.mg_of X G pa_f_cut,
    F_f_shared := F_f_shared,
    b_f_shared := b_f_shared,
    g_shared := PySem.W.mg_of X G pa_f_shared,
    F_f_check_units := F_f_check_units,
    b_f_check_units := b_f_check_units,
    g_check_units := PySem.W.mg_of X G pa_f_check_units,
    F_m_Rule_init := F_m_Rule_init,
    F_m_Rule_call := F_m_Rule_call,
    b_m_Rule_call := b_m_Rule_call,
    F_m_Rule_returned := F_m_Rule_returned,
    b_m_Rule_returned := b_m_Rule_returned,
    F_m_Rule_laid := F_m_Rule_laid,
    b_m_Rule_laid := b_m_Rule_laid,
    F_m_Rule_put := F_m_Rule_put,
    b_m_Rule_put := b_m_Rule_put,
    F_l_bag := F_l_bag,
    b_l_bag := b_l_bag,
    g__law_bag := PySem.W.mg_of X G pa_l_bag,
    F_l_draw := F_l_draw,
    b_l_draw := b_l_draw,
    g__law_draw := PySem.W.mg_of X G pa_l_draw,
    F_l_names := F_l_names,
    b_l_names := b_l_names,
    g__law_names := PySem.W.mg_of X G pa_l_names,
    F_l_pick := F_l_pick,
    b_l_pick := b_l_pick,
    g__law_pick := PySem.W.mg_of X G pa_l_pick,
    F_l_rule := F_l_rule,
    b_l_rule := b_l_rule,
    g__law_rule := PySem.W.mg_of X G pa_l_rule,
    F_l_made := F_l_made,
    b_l_made := b_l_made,
    g__law_made := PySem.W.mg_of X G pa_l_made,
    F_l_total := F_l_total,
    b_l_total := b_l_total,
    g__law_total := PySem.W.mg_of X G pa_l_total,
    F_l_joined := F_l_joined,
    b_l_joined := b_l_joined,
    g__law_joined := PySem.W.mg_of X G pa_l_joined,
    F_l_first := F_l_first,
    b_l_first := b_l_first,
    g__law_first := PySem.W.mg_of X G pa_l_first,
    F_l_part := F_l_part,
    b_l_part := b_l_part,
    g__law_part := PySem.W.mg_of X G pa_l_part,
    F_l_back := F_l_back,
    b_l_back := b_l_back,
    g__law_back := PySem.W.mg_of X G pa_l_back,
    F_l_put := F_l_put,
    b_l_put := b_l_put,
    g__law_put := PySem.W.mg_of X G pa_l_put,
    F_l_side := F_l_side,
    b_l_side := b_l_side,
    g__law_side := PySem.W.mg_of X G pa_l_side,
    F_l_laid := F_l_laid,
    b_l_laid := b_l_laid,
    g__law_laid := PySem.W.mg_of X G pa_l_laid,
    F_l_parts_same := F_l_parts_same,
    b_l_parts_same := b_l_parts_same,
    g__law_parts_same := PySem.W.mg_of X G pa_l_parts_same,
    F_l_amount := F_l_amount,
    b_l_amount := b_l_amount,
    g__law_amount := PySem.W.mg_of X G pa_l_amount,
    F_l_layers := F_l_layers,
    b_l_layers := b_l_layers,
    g__law_layers := PySem.W.mg_of X G pa_l_layers,
    F_l_short := F_l_short,
    b_l_short := b_l_short,
    g__law_short := PySem.W.mg_of X G pa_l_short,
    F_l_return_right := F_l_return_right,
    b_l_return_right := b_l_return_right,
    g__law_return_right := PySem.W.mg_of X G pa_l_return_right,
    F_f_law := F_f_law,
    b_f_law := b_f_law,
    g_law := PySem.W.mg_of X G pa_f_law }
  exact ⟨_, fun s v => .of_eq rfl, fun base _ _ => ok_f_law T⟩
theorem walk {l : PySem.W.OpenLaw} {q : Program} {loose : List Str} {XP : (Str → Option Value) → Heap → Prop} {YP : World → Heap → Prop} {d : DefRec} {K : Params → PySem.W.Frag} (hn : l.most = some 63) (hdf : d.params.defaults = [])
    (hY : ∀ (w : World) (h : Heap), YP w h → (K w.params).In h)
    (F : ∀ (w : World) (mg : Str → Option Value) (fa : Addr) (h : Heap), (K w.params).In h → h.Ns mainGlobals mg → mg d.name = some (.ref fa) →
      ∃ fd : FuncData, (∀ (s : Shared) (u : Value), BindsTo s fd ⟨[u], []⟩ [("_law_script", u)]) ∧ ∀ base : Heap, (K w.params).In base → base.Ns mainGlobals mg → FnOk l.prog w (K w.params) mg base CX0 22 fa fd ["_law_script"] (spLaw (K w.params))) :
    PySem.W.WalkO q loose XP YP l.row.toRowW d [] (fun f vs => PySem.call f vs) :=
  L2.walk_of (n := 63) (k := 22) (x := "_law_script") (CX := fun _ => CX0) (sp := fun w => spLaw (K w.params)) hn (by decide) hdf ⟨rfl, by decide, by decide⟩ hY F (fun _ _ a ns hl _ hS => ⟨a, ns, rfl, hS, hl, fun _ => rfl⟩) fun _ _ _ _ _ z => z
end Lot
open PySem PySem.W PyProof.Rows
set_option maxRecDepth 100000 in
set_option maxHeartbeats 0 in
theorem PySem.Challenge.cw_lotcosts_k42_units_brought_back_holds : PySem.Challenge.rw_lotcosts_k42_units_brought_back.Holds := by
  w_on; o_law; k_head; (case hw => w_witness2)
  k_fill
  refine Lot.walk (l := PySem.Challenge.rw_lotcosts_k42_units_brought_back) rfl rfl (fun w h Y => PySem.W.kIn_of Y) ?F
  case F =>
    intro w mg fa h KX G hmg
    refine' Lot.all_mk KX G hmg ?pz_abs ?pz_all ?pz_bool ?pz_int ?pz_isinstance ?pz_len ?pz_list ?pz_range ?pz_staticmethod ?pz_tuple ?pg_CostError ?pek_CostError ?peb_CostError ?pet_CostError ?peh_CostError ?peic_CostError ?pes_CostError ?pxg_CostError ?pxk_CostError ?pxa_CostError ?pxn_CostError ?pxt_CostError ?pxm_CostError ?prd_CostError ?pcg_CostError ?pvi_CostError ?pg_NoRatio ?pek_NoRatio ?peb_NoRatio ?pet_NoRatio ?peh_NoRatio ?peic_NoRatio ?pes_NoRatio ?pxg_NoRatio ?pxk_NoRatio ?pxa_NoRatio ?pxn_NoRatio ?pxt_NoRatio ?pxm_NoRatio ?pex_NoRatio ?pg_BadRule ?pek_BadRule ?peb_BadRule ?pet_BadRule ?peh_BadRule ?peic_BadRule ?pes_BadRule ?pxg_BadRule ?pxk_BadRule ?pxa_BadRule ?pxn_BadRule ?pxt_BadRule ?pxm_BadRule ?pn_BadRule_word ?poi_BadRule ?pot_BadRule ?pol_BadRule ?pov_BadRule ?posa_BadRule ?pg_Short ?pek_Short ?peb_Short ?pet_Short ?peh_Short ?peic_Short ?pes_Short ?pxg_Short ?pxk_Short ?pxa_Short ?pxn_Short ?pxt_Short ?pxm_Short ?pxc_Short ?pn_Short_missing ?poi_Short ?pot_Short ?pol_Short ?pov_Short ?posa_Short ?pg_Ratio ?ppg_Ratio ?phd_Ratio ?ppo_Ratio ?psa_Ratio ?pn_Ratio_top ?pn_Ratio_bottom ?pma_Ratio ?pmi_Ratio ?pmf_Ratio ?pmc_Ratio ?pmt_m_Ratio_add ?pmn_m_Ratio_add ?pmk_m_Ratio_add ?pmt_m_Ratio_radd ?pmn_m_Ratio_radd ?pmk_m_Ratio_radd ?pmt_m_Ratio_sub ?pmn_m_Ratio_sub ?pmk_m_Ratio_sub ?pmt_m_Ratio_rsub ?pmn_m_Ratio_rsub ?pmk_m_Ratio_rsub ?pmt_m_Ratio_mul ?pmn_m_Ratio_mul ?pmk_m_Ratio_mul ?pmt_m_Ratio_rmul ?pmn_m_Ratio_rmul ?pmk_m_Ratio_rmul ?pmt_m_Ratio_neg ?pmn_m_Ratio_neg ?pmk_m_Ratio_neg ?pmt_m_Ratio_abs ?pmn_m_Ratio_abs ?pmk_m_Ratio_abs ?pmt_m_Ratio_over ?pmn_m_Ratio_over ?pmk_m_Ratio_over ?pmt_m_Ratio_less ?pmn_m_Ratio_less ?pmk_m_Ratio_less ?pmt_m_Ratio_at_most ?pmn_m_Ratio_at_most ?pmk_m_Ratio_at_most ?pmt_m_Ratio_same ?pmn_m_Ratio_same ?pmk_m_Ratio_same ?pmt_m_Ratio_floor ?pmn_m_Ratio_floor ?pmk_m_Ratio_floor ?ps1_m_Ratio_sum_of ?ps2_m_Ratio_sum_of ?ps3_m_Ratio_sum_of ?ps4_m_Ratio_sum_of ?ps5_m_Ratio_sum_of ?ptc_Ratio ?ptn_Ratio ?ptk_Ratio ?ptm_Ratio ?pki_Ratio ?psf_Ratio ?psi_Ratio ?psj_Ratio ?po1a_Ratio ?po2a_Ratio ?po1s_Ratio ?po2s_Ratio ?po1m_Ratio ?po2m_Ratio ?pnia_Ratio ?pnis_Ratio ?pnim_Ratio ?prd_Ratio ?pcga_Ratio ?pg_Rule ?ppg_Rule ?phd_Rule ?ppo_Rule ?psa_Rule ?pn_Rule_take ?pn_Rule_place ?pn_Rule_period ?pma_Rule ?pmi_Rule ?pmf_Rule ?pmc_Rule ?pmt_m_Rule_call ?pmn_m_Rule_call ?pmk_m_Rule_call ?pmt_m_Rule_returned ?pmn_m_Rule_returned ?pmk_m_Rule_returned ?pmt_m_Rule_laid ?pmn_m_Rule_laid ?pmk_m_Rule_laid ?pmt_m_Rule_put ?pmn_m_Rule_put ?pmk_m_Rule_put ?pca_Rule ?pcf_Rule ?pci_Rule ?pg_MOST ?pg_TAKES ?ptl_TAKES ?pg_SPOTS ?ptl_SPOTS ?pe_m_BadRule_init ?pl_m_BadRule_init ?pc_m_BadRule_init ?pq_m_BadRule_init ?pe_m_Short_init ?pl_m_Short_init ?pc_m_Short_init ?pq_m_Short_init ?pa_f_is_number ?pl_f_is_number ?pc_f_is_number ?pq_f_is_number ?pa_f_common_divisor ?pl_f_common_divisor ?pc_f_common_divisor ?pq_f_common_divisor ?pa_f_halves ?pl_f_halves ?pc_f_halves ?pq_f_halves ?pl_m_Ratio_init ?pt_m_Ratio_init ?pc_m_Ratio_init ?pq_m_Ratio_init ?pl_m_Ratio_add ?pc_m_Ratio_add ?pq_m_Ratio_add ?pl_m_Ratio_radd ?pc_m_Ratio_radd ?pq_m_Ratio_radd ?pl_m_Ratio_sub ?pc_m_Ratio_sub ?pq_m_Ratio_sub ?pl_m_Ratio_rsub ?pc_m_Ratio_rsub ?pq_m_Ratio_rsub ?pl_m_Ratio_mul ?pc_m_Ratio_mul ?pq_m_Ratio_mul ?pl_m_Ratio_rmul ?pc_m_Ratio_rmul ?pq_m_Ratio_rmul ?pl_m_Ratio_neg ?pc_m_Ratio_neg ?pq_m_Ratio_neg ?pl_m_Ratio_abs ?pc_m_Ratio_abs ?pq_m_Ratio_abs ?pl_m_Ratio_over ?pc_m_Ratio_over ?pq_m_Ratio_over ?pl_m_Ratio_less ?pc_m_Ratio_less ?pq_m_Ratio_less ?pl_m_Ratio_at_most ?pc_m_Ratio_at_most ?pq_m_Ratio_at_most ?pl_m_Ratio_same ?pc_m_Ratio_same ?pq_m_Ratio_same ?pl_m_Ratio_floor ?pc_m_Ratio_floor ?pq_m_Ratio_floor ?pl_m_Ratio_sum_of ?pc_m_Ratio_sum_of ?pq_m_Ratio_sum_of ?pa_f_stacked ?pl_f_stacked ?pc_f_stacked ?pq_f_stacked ?pa_f_units_in ?pl_f_units_in ?pc_f_units_in ?pq_f_units_in ?pa_f_cut ?pl_f_cut ?pc_f_cut ?pq_f_cut ?pa_f_shared ?pl_f_shared ?pc_f_shared ?pq_f_shared ?pa_f_check_units ?pl_f_check_units ?pc_f_check_units ?pq_f_check_units ?pl_m_Rule_init ?pk0_m_Rule_init ?pk1_m_Rule_init ?pc_m_Rule_init ?pq_m_Rule_init ?pl_m_Rule_call ?pc_m_Rule_call ?pq_m_Rule_call ?pl_m_Rule_returned ?pc_m_Rule_returned ?pq_m_Rule_returned ?pl_m_Rule_laid ?pc_m_Rule_laid ?pq_m_Rule_laid ?pl_m_Rule_put ?pc_m_Rule_put ?pq_m_Rule_put ?pa_l_bag ?pl_l_bag ?pc_l_bag ?pq_l_bag ?pa_l_draw ?pl_l_draw ?pc_l_draw ?pq_l_draw ?pa_l_names ?pl_l_names ?pc_l_names ?pq_l_names ?pa_l_pick ?pl_l_pick ?pc_l_pick ?pq_l_pick ?pa_l_rule ?pl_l_rule ?pc_l_rule ?pq_l_rule ?pa_l_made ?pl_l_made ?pc_l_made ?pq_l_made ?pa_l_total ?pl_l_total ?pc_l_total ?pq_l_total ?pa_l_joined ?pl_l_joined ?pc_l_joined ?pq_l_joined ?pa_l_first ?pl_l_first ?pc_l_first ?pq_l_first ?pa_l_part ?pl_l_part ?pc_l_part ?pq_l_part ?pa_l_back ?pl_l_back ?pc_l_back ?pq_l_back ?pa_l_put ?pl_l_put ?pc_l_put ?pq_l_put ?pa_l_side ?pl_l_side ?pc_l_side ?pq_l_side ?pa_l_laid ?pl_l_laid ?pc_l_laid ?pq_l_laid ?pa_l_parts_same ?pl_l_parts_same ?pc_l_parts_same ?pq_l_parts_same ?pa_l_amount ?pl_l_amount ?pc_l_amount ?pq_l_amount ?pa_l_layers ?pl_l_layers ?pc_l_layers ?pq_l_layers ?pa_l_short ?pl_l_short ?pc_l_short ?pq_l_short ?pa_l_return_right ?pl_l_return_right ?pc_l_return_right ?pq_l_return_right ?pa_f_law ?pl_f_law ?pc_f_law ?pq_f_law
    (case pz_abs => first | k_is | rfl)
    (case pz_all => first | k_is | rfl)
    (case pz_bool => first | k_is | rfl)
    (case pz_int => first | k_is | rfl)
    (case pz_isinstance => first | k_is | rfl)
    (case pz_len => first | k_is | rfl)
    (case pz_list => first | k_is | rfl)
    (case pz_range => first | k_is | rfl)
    (case pz_staticmethod => first | k_is | rfl)
    (case pz_tuple => first | k_is | rfl)
    (case pg_CostError => first | k_is | rfl)
    (case pek_CostError => first | k_is | rfl)
    (case peb_CostError => first | k_is | rfl)
    (case pet_CostError => first | k_is | rfl)
    (case peh_CostError => first | k_is | rfl)
    (case peic_CostError => first | k_is | rfl)
    (case pes_CostError => first | k_is | rfl)
    (case pxg_CostError => first | k_is | rfl)
    (case pxk_CostError => first | k_is | rfl)
    (case pxa_CostError => first | k_is | rfl)
    (case pxn_CostError => first | k_is | rfl)
    (case pxt_CostError => first | k_is | rfl)
    (case pxm_CostError => first | k_is | rfl)
    (case prd_CostError => first | k_is | rfl)
    (case pcg_CostError => first | k_is | rfl)
    (case pvi_CostError => first | k_is | rfl)
    (case pg_NoRatio => first | k_is | rfl)
    (case pek_NoRatio => first | k_is | rfl)
    (case peb_NoRatio => first | k_is | rfl)
    (case pet_NoRatio => first | k_is | rfl)
    (case peh_NoRatio => first | k_is | rfl)
    (case peic_NoRatio => first | k_is | rfl)
    (case pes_NoRatio => first | k_is | rfl)
    (case pxg_NoRatio => first | k_is | rfl)
    (case pxk_NoRatio => first | k_is | rfl)
    (case pxa_NoRatio => first | k_is | rfl)
    (case pxn_NoRatio => first | k_is | rfl)
    (case pxt_NoRatio => first | k_is | rfl)
    (case pxm_NoRatio => first | k_is | rfl)
    (case pex_NoRatio => k_exc)
    (case pg_BadRule => first | k_is | rfl)
    (case pek_BadRule => first | k_is | rfl)
    (case peb_BadRule => first | k_is | rfl)
    (case pet_BadRule => first | k_is | rfl)
    (case peh_BadRule => first | k_is | rfl)
    (case peic_BadRule => first | k_is | rfl)
    (case pes_BadRule => first | k_is | rfl)
    (case pxg_BadRule => first | k_is | rfl)
    (case pxk_BadRule => first | k_is | rfl)
    (case pxa_BadRule => first | k_is | rfl)
    (case pxn_BadRule => first | k_is | rfl)
    (case pxt_BadRule => first | k_is | rfl)
    (case pxm_BadRule => first | k_is | rfl)
    (case pn_BadRule_word => first | k_is | rfl)
    (case poi_BadRule => first | k_is | rfl)
    (case pot_BadRule => first | k_is | rfl)
    (case pol_BadRule => first | k_is | rfl)
    (case pov_BadRule => first | k_is | rfl)
    (case posa_BadRule => first | k_is | rfl)
    (case pg_Short => first | k_is | rfl)
    (case pek_Short => first | k_is | rfl)
    (case peb_Short => first | k_is | rfl)
    (case pet_Short => first | k_is | rfl)
    (case peh_Short => first | k_is | rfl)
    (case peic_Short => first | k_is | rfl)
    (case pes_Short => first | k_is | rfl)
    (case pxg_Short => first | k_is | rfl)
    (case pxk_Short => first | k_is | rfl)
    (case pxa_Short => first | k_is | rfl)
    (case pxn_Short => first | k_is | rfl)
    (case pxt_Short => first | k_is | rfl)
    (case pxm_Short => first | k_is | rfl)
    (case pxc_Short => first | k_is | rfl)
    (case pn_Short_missing => first | k_is | rfl)
    (case poi_Short => first | k_is | rfl)
    (case pot_Short => first | k_is | rfl)
    (case pol_Short => first | k_is | rfl)
    (case pov_Short => first | k_is | rfl)
    (case posa_Short => first | k_is | rfl)
    (case pg_Ratio => first | k_is | rfl)
    (case ppg_Ratio => first | k_is | rfl)
    (case phd_Ratio => first | k_is | rfl)
    (case ppo_Ratio => first | k_is | rfl)
    (case psa_Ratio => first | k_is | rfl)
    (case pn_Ratio_top => first | k_is | rfl)
    (case pn_Ratio_bottom => first | k_is | rfl)
    (case pma_Ratio => first | k_is | rfl)
    (case pmi_Ratio => first | k_is | rfl)
    (case pmf_Ratio => first | k_is | rfl)
    (case pmc_Ratio => first | k_is | rfl)
    (case pmt_m_Ratio_add => first | k_is | rfl)
    (case pmn_m_Ratio_add => first | k_is | rfl)
    (case pmk_m_Ratio_add => first | k_is | rfl)
    (case pmt_m_Ratio_radd => first | k_is | rfl)
    (case pmn_m_Ratio_radd => first | k_is | rfl)
    (case pmk_m_Ratio_radd => first | k_is | rfl)
    (case pmt_m_Ratio_sub => first | k_is | rfl)
    (case pmn_m_Ratio_sub => first | k_is | rfl)
    (case pmk_m_Ratio_sub => first | k_is | rfl)
    (case pmt_m_Ratio_rsub => first | k_is | rfl)
    (case pmn_m_Ratio_rsub => first | k_is | rfl)
    (case pmk_m_Ratio_rsub => first | k_is | rfl)
    (case pmt_m_Ratio_mul => first | k_is | rfl)
    (case pmn_m_Ratio_mul => first | k_is | rfl)
    (case pmk_m_Ratio_mul => first | k_is | rfl)
    (case pmt_m_Ratio_rmul => first | k_is | rfl)
    (case pmn_m_Ratio_rmul => first | k_is | rfl)
    (case pmk_m_Ratio_rmul => first | k_is | rfl)
    (case pmt_m_Ratio_neg => first | k_is | rfl)
    (case pmn_m_Ratio_neg => first | k_is | rfl)
    (case pmk_m_Ratio_neg => first | k_is | rfl)
    (case pmt_m_Ratio_abs => first | k_is | rfl)
    (case pmn_m_Ratio_abs => first | k_is | rfl)
    (case pmk_m_Ratio_abs => first | k_is | rfl)
    (case pmt_m_Ratio_over => first | k_is | rfl)
    (case pmn_m_Ratio_over => first | k_is | rfl)
    (case pmk_m_Ratio_over => first | k_is | rfl)
    (case pmt_m_Ratio_less => first | k_is | rfl)
    (case pmn_m_Ratio_less => first | k_is | rfl)
    (case pmk_m_Ratio_less => first | k_is | rfl)
    (case pmt_m_Ratio_at_most => first | k_is | rfl)
    (case pmn_m_Ratio_at_most => first | k_is | rfl)
    (case pmk_m_Ratio_at_most => first | k_is | rfl)
    (case pmt_m_Ratio_same => first | k_is | rfl)
    (case pmn_m_Ratio_same => first | k_is | rfl)
    (case pmk_m_Ratio_same => first | k_is | rfl)
    (case pmt_m_Ratio_floor => first | k_is | rfl)
    (case pmn_m_Ratio_floor => first | k_is | rfl)
    (case pmk_m_Ratio_floor => first | k_is | rfl)
    (case ps1_m_Ratio_sum_of => first | k_is | rfl)
    (case ps2_m_Ratio_sum_of => first | k_is | rfl)
    (case ps3_m_Ratio_sum_of => first | k_is | rfl)
    (case ps4_m_Ratio_sum_of => first | k_is | rfl)
    (case ps5_m_Ratio_sum_of => first | k_is | rfl)
    (case ptc_Ratio => first | k_is | rfl)
    (case ptn_Ratio => first | k_is | rfl)
    (case ptk_Ratio => first | k_is | rfl)
    (case ptm_Ratio => first | k_is | rfl)
    (case pki_Ratio => first | k_is | rfl)
    (case psf_Ratio => first | k_is | rfl)
    (case psi_Ratio => first | k_is | rfl)
    (case psj_Ratio => first | k_is | rfl)
    (case po1a_Ratio => first | k_is | rfl)
    (case po2a_Ratio => first | k_is | rfl)
    (case po1s_Ratio => first | k_is | rfl)
    (case po2s_Ratio => first | k_is | rfl)
    (case po1m_Ratio => first | k_is | rfl)
    (case po2m_Ratio => first | k_is | rfl)
    (case pnia_Ratio => first | k_is | rfl)
    (case pnis_Ratio => first | k_is | rfl)
    (case pnim_Ratio => first | k_is | rfl)
    (case prd_Ratio => first | k_is | rfl)
    (case pcga_Ratio => first | k_is | rfl)
    (case pg_Rule => first | k_is | rfl)
    (case ppg_Rule => first | k_is | rfl)
    (case phd_Rule => first | k_is | rfl)
    (case ppo_Rule => first | k_is | rfl)
    (case psa_Rule => first | k_is | rfl)
    (case pn_Rule_take => first | k_is | rfl)
    (case pn_Rule_place => first | k_is | rfl)
    (case pn_Rule_period => first | k_is | rfl)
    (case pma_Rule => first | k_is | rfl)
    (case pmi_Rule => first | k_is | rfl)
    (case pmf_Rule => first | k_is | rfl)
    (case pmc_Rule => first | k_is | rfl)
    (case pmt_m_Rule_call => first | k_is | rfl)
    (case pmn_m_Rule_call => first | k_is | rfl)
    (case pmk_m_Rule_call => first | k_is | rfl)
    (case pmt_m_Rule_returned => first | k_is | rfl)
    (case pmn_m_Rule_returned => first | k_is | rfl)
    (case pmk_m_Rule_returned => first | k_is | rfl)
    (case pmt_m_Rule_laid => first | k_is | rfl)
    (case pmn_m_Rule_laid => first | k_is | rfl)
    (case pmk_m_Rule_laid => first | k_is | rfl)
    (case pmt_m_Rule_put => first | k_is | rfl)
    (case pmn_m_Rule_put => first | k_is | rfl)
    (case pmk_m_Rule_put => first | k_is | rfl)
    (case pca_Rule => first | k_is | rfl)
    (case pcf_Rule => first | k_is | rfl)
    (case pci_Rule => first | k_is | rfl)
    (case pg_MOST => first | k_is | rfl)
    (case pg_TAKES => first | k_is | rfl)
    (case ptl_TAKES => first | k_is | rfl)
    (case pg_SPOTS => first | k_is | rfl)
    (case ptl_SPOTS => first | k_is | rfl)
    (case pe_m_BadRule_init => first | k_is | rfl)
    (case pl_m_BadRule_init => first | k_is | rfl)
    (case pc_m_BadRule_init => first | k_is | rfl)
    (case pq_m_BadRule_init => first | k_is | rfl)
    (case pe_m_Short_init => first | k_is | rfl)
    (case pl_m_Short_init => first | k_is | rfl)
    (case pc_m_Short_init => first | k_is | rfl)
    (case pq_m_Short_init => first | k_is | rfl)
    (case pa_f_is_number => first | k_is | rfl)
    (case pl_f_is_number => first | k_is | rfl)
    (case pc_f_is_number => first | k_is | rfl)
    (case pq_f_is_number => first | k_is | rfl)
    (case pa_f_common_divisor => first | k_is | rfl)
    (case pl_f_common_divisor => first | k_is | rfl)
    (case pc_f_common_divisor => first | k_is | rfl)
    (case pq_f_common_divisor => first | k_is | rfl)
    (case pa_f_halves => first | k_is | rfl)
    (case pl_f_halves => first | k_is | rfl)
    (case pc_f_halves => first | k_is | rfl)
    (case pq_f_halves => first | k_is | rfl)
    (case pl_m_Ratio_init => first | k_is | rfl)
    (case pt_m_Ratio_init => first | k_is | rfl)
    (case pc_m_Ratio_init => first | k_is | rfl)
    (case pq_m_Ratio_init => first | k_is | rfl)
    (case pl_m_Ratio_add => first | k_is | rfl)
    (case pc_m_Ratio_add => first | k_is | rfl)
    (case pq_m_Ratio_add => first | k_is | rfl)
    (case pl_m_Ratio_radd => first | k_is | rfl)
    (case pc_m_Ratio_radd => first | k_is | rfl)
    (case pq_m_Ratio_radd => first | k_is | rfl)
    (case pl_m_Ratio_sub => first | k_is | rfl)
    (case pc_m_Ratio_sub => first | k_is | rfl)
    (case pq_m_Ratio_sub => first | k_is | rfl)
    (case pl_m_Ratio_rsub => first | k_is | rfl)
    (case pc_m_Ratio_rsub => first | k_is | rfl)
    (case pq_m_Ratio_rsub => first | k_is | rfl)
    (case pl_m_Ratio_mul => first | k_is | rfl)
    (case pc_m_Ratio_mul => first | k_is | rfl)
    (case pq_m_Ratio_mul => first | k_is | rfl)
    (case pl_m_Ratio_rmul => first | k_is | rfl)
    (case pc_m_Ratio_rmul => first | k_is | rfl)
    (case pq_m_Ratio_rmul => first | k_is | rfl)
    (case pl_m_Ratio_neg => first | k_is | rfl)
    (case pc_m_Ratio_neg => first | k_is | rfl)
    (case pq_m_Ratio_neg => first | k_is | rfl)
    (case pl_m_Ratio_abs => first | k_is | rfl)
    (case pc_m_Ratio_abs => first | k_is | rfl)
    (case pq_m_Ratio_abs => first | k_is | rfl)
    (case pl_m_Ratio_over => first | k_is | rfl)
    (case pc_m_Ratio_over => first | k_is | rfl)
    (case pq_m_Ratio_over => first | k_is | rfl)
    (case pl_m_Ratio_less => first | k_is | rfl)
    (case pc_m_Ratio_less => first | k_is | rfl)
    (case pq_m_Ratio_less => first | k_is | rfl)
    (case pl_m_Ratio_at_most => first | k_is | rfl)
    (case pc_m_Ratio_at_most => first | k_is | rfl)
    (case pq_m_Ratio_at_most => first | k_is | rfl)
    (case pl_m_Ratio_same => first | k_is | rfl)
    (case pc_m_Ratio_same => first | k_is | rfl)
    (case pq_m_Ratio_same => first | k_is | rfl)
    (case pl_m_Ratio_floor => first | k_is | rfl)
    (case pc_m_Ratio_floor => first | k_is | rfl)
    (case pq_m_Ratio_floor => first | k_is | rfl)
    (case pl_m_Ratio_sum_of => first | k_is | rfl)
    (case pc_m_Ratio_sum_of => first | k_is | rfl)
    (case pq_m_Ratio_sum_of => first | k_is | rfl)
    (case pa_f_stacked => first | k_is | rfl)
    (case pl_f_stacked => first | k_is | rfl)
    (case pc_f_stacked => first | k_is | rfl)
    (case pq_f_stacked => first | k_is | rfl)
    (case pa_f_units_in => first | k_is | rfl)
    (case pl_f_units_in => first | k_is | rfl)
    (case pc_f_units_in => first | k_is | rfl)
    (case pq_f_units_in => first | k_is | rfl)
    (case pa_f_cut => first | k_is | rfl)
    (case pl_f_cut => first | k_is | rfl)
    (case pc_f_cut => first | k_is | rfl)
    (case pq_f_cut => first | k_is | rfl)
    (case pa_f_shared => first | k_is | rfl)
    (case pl_f_shared => first | k_is | rfl)
    (case pc_f_shared => first | k_is | rfl)
    (case pq_f_shared => first | k_is | rfl)
    (case pa_f_check_units => first | k_is | rfl)
    (case pl_f_check_units => first | k_is | rfl)
    (case pc_f_check_units => first | k_is | rfl)
    (case pq_f_check_units => first | k_is | rfl)
    (case pl_m_Rule_init => first | k_is | rfl)
    (case pk0_m_Rule_init => first | k_is | rfl)
    (case pk1_m_Rule_init => first | k_is | rfl)
    (case pc_m_Rule_init => first | k_is | rfl)
    (case pq_m_Rule_init => first | k_is | rfl)
    (case pl_m_Rule_call => first | k_is | rfl)
    (case pc_m_Rule_call => first | k_is | rfl)
    (case pq_m_Rule_call => first | k_is | rfl)
    (case pl_m_Rule_returned => first | k_is | rfl)
    (case pc_m_Rule_returned => first | k_is | rfl)
    (case pq_m_Rule_returned => first | k_is | rfl)
    (case pl_m_Rule_laid => first | k_is | rfl)
    (case pc_m_Rule_laid => first | k_is | rfl)
    (case pq_m_Rule_laid => first | k_is | rfl)
    (case pl_m_Rule_put => first | k_is | rfl)
    (case pc_m_Rule_put => first | k_is | rfl)
    (case pq_m_Rule_put => first | k_is | rfl)
    (case pa_l_bag => first | k_is | rfl)
    (case pl_l_bag => first | k_is | rfl)
    (case pc_l_bag => first | k_is | rfl)
    (case pq_l_bag => first | k_is | rfl)
    (case pa_l_draw => first | k_is | rfl)
    (case pl_l_draw => first | k_is | rfl)
    (case pc_l_draw => first | k_is | rfl)
    (case pq_l_draw => first | k_is | rfl)
    (case pa_l_names => first | k_is | rfl)
    (case pl_l_names => first | k_is | rfl)
    (case pc_l_names => first | k_is | rfl)
    (case pq_l_names => first | k_is | rfl)
    (case pa_l_pick => first | k_is | rfl)
    (case pl_l_pick => first | k_is | rfl)
    (case pc_l_pick => first | k_is | rfl)
    (case pq_l_pick => first | k_is | rfl)
    (case pa_l_rule => first | k_is | rfl)
    (case pl_l_rule => first | k_is | rfl)
    (case pc_l_rule => first | k_is | rfl)
    (case pq_l_rule => first | k_is | rfl)
    (case pa_l_made => first | k_is | rfl)
    (case pl_l_made => first | k_is | rfl)
    (case pc_l_made => first | k_is | rfl)
    (case pq_l_made => first | k_is | rfl)
    (case pa_l_total => first | k_is | rfl)
    (case pl_l_total => first | k_is | rfl)
    (case pc_l_total => first | k_is | rfl)
    (case pq_l_total => first | k_is | rfl)
    (case pa_l_joined => first | k_is | rfl)
    (case pl_l_joined => first | k_is | rfl)
    (case pc_l_joined => first | k_is | rfl)
    (case pq_l_joined => first | k_is | rfl)
    (case pa_l_first => first | k_is | rfl)
    (case pl_l_first => first | k_is | rfl)
    (case pc_l_first => first | k_is | rfl)
    (case pq_l_first => first | k_is | rfl)
    (case pa_l_part => first | k_is | rfl)
    (case pl_l_part => first | k_is | rfl)
    (case pc_l_part => first | k_is | rfl)
    (case pq_l_part => first | k_is | rfl)
    (case pa_l_back => first | k_is | rfl)
    (case pl_l_back => first | k_is | rfl)
    (case pc_l_back => first | k_is | rfl)
    (case pq_l_back => first | k_is | rfl)
    (case pa_l_put => first | k_is | rfl)
    (case pl_l_put => first | k_is | rfl)
    (case pc_l_put => first | k_is | rfl)
    (case pq_l_put => first | k_is | rfl)
    (case pa_l_side => first | k_is | rfl)
    (case pl_l_side => first | k_is | rfl)
    (case pc_l_side => first | k_is | rfl)
    (case pq_l_side => first | k_is | rfl)
    (case pa_l_laid => first | k_is | rfl)
    (case pl_l_laid => first | k_is | rfl)
    (case pc_l_laid => first | k_is | rfl)
    (case pq_l_laid => first | k_is | rfl)
    (case pa_l_parts_same => first | k_is | rfl)
    (case pl_l_parts_same => first | k_is | rfl)
    (case pc_l_parts_same => first | k_is | rfl)
    (case pq_l_parts_same => first | k_is | rfl)
    (case pa_l_amount => first | k_is | rfl)
    (case pl_l_amount => first | k_is | rfl)
    (case pc_l_amount => first | k_is | rfl)
    (case pq_l_amount => first | k_is | rfl)
    (case pa_l_layers => first | k_is | rfl)
    (case pl_l_layers => first | k_is | rfl)
    (case pc_l_layers => first | k_is | rfl)
    (case pq_l_layers => first | k_is | rfl)
    (case pa_l_short => first | k_is | rfl)
    (case pl_l_short => first | k_is | rfl)
    (case pc_l_short => first | k_is | rfl)
    (case pq_l_short => first | k_is | rfl)
    (case pa_l_return_right => first | k_is | rfl)
    (case pl_l_return_right => first | k_is | rfl)
    (case pc_l_return_right => first | k_is | rfl)
    (case pq_l_return_right => first | k_is | rfl)
    (case pa_f_law => first | k_is | rfl)
    (case pl_f_law => first | k_is | rfl)
    (case pc_f_law => first | k_is | rfl)
    (case pq_f_law => first | k_is | rfl)
#print axioms PySem.Challenge.cw_lotcosts_k42_units_brought_back_holds

