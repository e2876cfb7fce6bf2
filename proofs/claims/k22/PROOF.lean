import PyProof.Rows.All
import Wide.All
import OpenK.AllK
import Wide.FinOn
import HandS.ForMost
import HandS.ForExc
import HandS.Flow
import HandS.Evl
import HandS.Style
import KE.KOpsOwn
import HandS.ClsMeth
import HandS.OwnEq
import HandS.IsInst
import HandS.ExcIs
import HandS.ExcInit
import HandS.ExcField
import HandS.ExcValue
import HandS.MakeKwOnly
import KE.KExcIs
import KE.DataEq
import KE.DataMinMax
import HandS.Wide
import HandS.Codes
import HandS.Text
import HandS.Defaults
import HandS.DictTup
import HandS.TupLen
import HandS.SortRule
import HandS.Conv
import HandS.Walk
import HandS.CallLocal
import HandS.Star
import HandS.HotCalls
import HandS.Deep
import HandS.DictComp
import HandS.Finally
import HandS.NoneIn
import HandS.SetFor
import HandS.SetTxt0
import HandS.SetBool
import HandS.RaiseMore
import HandS.Strs
import PySem.Challenge.RW_lotcosts_k22_forms_in_order_and_at_price
set_option Elab.async false
set_option linter.all false
set_option pp.maxSteps 400
set_option maxRecDepth 100000
set_option maxHeartbeats 4000000
namespace Lot
open PySem L2
/-! ### steps -/
local macro_rules | `(tactic| walk_at "ne") => `(tactic| first
  | with_reducible assumption
  | (apply Ne.symm; with_reducible assumption)
  | exact ne_of_none (by with_reducible assumption) (by with_reducible assumption)
  | exact (ne_of_none (by with_reducible assumption) (by with_reducible assumption)).symm)
local macro_rules | `(tactic| walk_at "at") => `(tactic| first
  | with_reducible assumption
  | exact upd_same
  | (refine Eq.trans (upd_ne (by walk_at "ne")) ?_; walk_at "at"))
local macro_rules | `(tactic| walk_at "num") => `(tactic| first
  | decide
  | omega
  | (dsimp only; first | decide | omega))
local macro_rules | `(tactic| walk_at "fact") => `(tactic| first
  | with_reducible assumption
  | exact rfl
  | walk_at "at"
  | exact SqL.of (by walk_at "at")
  | exact SqT.of (by walk_at "at")
  | exact .inl (SqL.of (by walk_at "at"))
  | exact .inr (SqT.of (by walk_at "at"))
  | exact .inl ⟨rfl, _, SqL.of (by walk_at "at")⟩
  | exact Or.inl ⟨by walk_at "num", by walk_at "num"⟩
  | exact Or.inr ⟨by walk_at "num", by walk_at "num"⟩
  | exact ⟨by walk_at "num", by walk_at "num"⟩
  | exact ⟨by walk_at "num", by walk_at "num", by walk_at "num"⟩
  | exact wide_div (b := 9000) (by omega) (by assumption) (by decide) (by decide)
  | exact Nat.le_of_ble_eq_true rfl
  | assumption
  | walk_at "num")
local macro_rules | `(tactic| walk_at "go") => `(tactic| repeat (first
  | apply Exists.intro
  | refine And.intro (by walk_at "fact") ?_
  | refine Or.inl ⟨_, rfl, ?_⟩
  | refine Or.inr ⟨_, rfl, ?_⟩
  | refine iteT ?_
  | refine iteF ?_))
def top (i : Nat) : Stmt := PySem.Challenge.pw_lotcosts_k22_forms_in_order_and_at_price.main.body.getD i (.Pass ⟨0, 0, 0, 0⟩)
abbrev s_m_BadName_init : Stmt := inClass (top 4) 0
abbrev N_m_BadName_init : List Str := ["self", "name"]
abbrev P_m_BadName_init : List Str := ["self", "name"]
theorem sc_m_BadName_init : FnScope N_m_BadName_init P_m_BadName_init (defScope s_m_BadName_init) := ⟨rfl, rfl, rfl, by decide +kernel, rfl, by decide +kernel, by decide +kernel⟩
abbrev s_m_NoPrice_init : Stmt := inClass (top 5) 0
abbrev N_m_NoPrice_init : List Str := ["self", "name"]
abbrev P_m_NoPrice_init : List Str := ["self", "name"]
theorem sc_m_NoPrice_init : FnScope N_m_NoPrice_init P_m_NoPrice_init (defScope s_m_NoPrice_init) := ⟨rfl, rfl, rfl, by decide +kernel, rfl, by decide +kernel, by decide +kernel⟩
abbrev s_m_Negative_init : Stmt := inClass (top 6) 0
abbrev N_m_Negative_init : List Str := ["self", "name"]
abbrev P_m_Negative_init : List Str := ["self", "name"]
theorem sc_m_Negative_init : FnScope N_m_Negative_init P_m_Negative_init (defScope s_m_Negative_init) := ⟨rfl, rfl, rfl, by decide +kernel, rfl, by decide +kernel, by decide +kernel⟩
abbrev s_f_common_divisor : Stmt := top 8
abbrev N_f_common_divisor : List Str := ["one", "other"]
abbrev P_f_common_divisor : List Str := ["one", "other"]
theorem sc_f_common_divisor : FnScope N_f_common_divisor P_f_common_divisor (defScope s_f_common_divisor) := ⟨rfl, rfl, rfl, by decide +kernel, rfl, by decide +kernel, by decide +kernel⟩
abbrev s_f_halves : Stmt := top 9
abbrev N_f_halves : List Str := ["value"]
abbrev P_f_halves : List Str := ["value"]
theorem sc_f_halves : FnScope N_f_halves P_f_halves (defScope s_f_halves) := ⟨rfl, rfl, rfl, by decide +kernel, rfl, by decide +kernel, by decide +kernel⟩
abbrev s_m_Ratio_init : Stmt := inClass (top 10) 0
abbrev N_m_Ratio_init : List Str := ["self", "top", "bottom", "divisor"]
abbrev P_m_Ratio_init : List Str := ["self", "top", "bottom"]
theorem sc_m_Ratio_init : FnScope N_m_Ratio_init P_m_Ratio_init (defScope s_m_Ratio_init) := ⟨rfl, rfl, rfl, by decide +kernel, rfl, by decide +kernel, by decide +kernel⟩
abbrev s_m_Ratio_add : Stmt := inClass (top 10) 1
abbrev N_m_Ratio_add : List Str := ["self", "other", "top", "bottom"]
abbrev P_m_Ratio_add : List Str := ["self", "other"]
theorem sc_m_Ratio_add : FnScope N_m_Ratio_add P_m_Ratio_add (defScope s_m_Ratio_add) := ⟨rfl, rfl, rfl, by decide +kernel, rfl, by decide +kernel, by decide +kernel⟩
abbrev s_m_Ratio_radd : Stmt := inClass (top 10) 2
abbrev N_m_Ratio_radd : List Str := ["self", "other"]
abbrev P_m_Ratio_radd : List Str := ["self", "other"]
theorem sc_m_Ratio_radd : FnScope N_m_Ratio_radd P_m_Ratio_radd (defScope s_m_Ratio_radd) := ⟨rfl, rfl, rfl, by decide +kernel, rfl, by decide +kernel, by decide +kernel⟩
abbrev s_m_Ratio_sub : Stmt := inClass (top 10) 3
abbrev N_m_Ratio_sub : List Str := ["self", "other", "top", "bottom"]
abbrev P_m_Ratio_sub : List Str := ["self", "other"]
theorem sc_m_Ratio_sub : FnScope N_m_Ratio_sub P_m_Ratio_sub (defScope s_m_Ratio_sub) := ⟨rfl, rfl, rfl, by decide +kernel, rfl, by decide +kernel, by decide +kernel⟩
abbrev s_m_Ratio_rsub : Stmt := inClass (top 10) 4
abbrev N_m_Ratio_rsub : List Str := ["self", "other"]
abbrev P_m_Ratio_rsub : List Str := ["self", "other"]
theorem sc_m_Ratio_rsub : FnScope N_m_Ratio_rsub P_m_Ratio_rsub (defScope s_m_Ratio_rsub) := ⟨rfl, rfl, rfl, by decide +kernel, rfl, by decide +kernel, by decide +kernel⟩
abbrev s_m_Ratio_mul : Stmt := inClass (top 10) 5
abbrev N_m_Ratio_mul : List Str := ["self", "other", "top", "bottom"]
abbrev P_m_Ratio_mul : List Str := ["self", "other"]
theorem sc_m_Ratio_mul : FnScope N_m_Ratio_mul P_m_Ratio_mul (defScope s_m_Ratio_mul) := ⟨rfl, rfl, rfl, by decide +kernel, rfl, by decide +kernel, by decide +kernel⟩
abbrev s_m_Ratio_rmul : Stmt := inClass (top 10) 6
abbrev N_m_Ratio_rmul : List Str := ["self", "other"]
abbrev P_m_Ratio_rmul : List Str := ["self", "other"]
theorem sc_m_Ratio_rmul : FnScope N_m_Ratio_rmul P_m_Ratio_rmul (defScope s_m_Ratio_rmul) := ⟨rfl, rfl, rfl, by decide +kernel, rfl, by decide +kernel, by decide +kernel⟩
abbrev s_m_Ratio_neg : Stmt := inClass (top 10) 7
abbrev N_m_Ratio_neg : List Str := ["self"]
abbrev P_m_Ratio_neg : List Str := ["self"]
theorem sc_m_Ratio_neg : FnScope N_m_Ratio_neg P_m_Ratio_neg (defScope s_m_Ratio_neg) := ⟨rfl, rfl, rfl, by decide +kernel, rfl, by decide +kernel, by decide +kernel⟩
abbrev s_m_Ratio_abs : Stmt := inClass (top 10) 8
abbrev N_m_Ratio_abs : List Str := ["self"]
abbrev P_m_Ratio_abs : List Str := ["self"]
theorem sc_m_Ratio_abs : FnScope N_m_Ratio_abs P_m_Ratio_abs (defScope s_m_Ratio_abs) := ⟨rfl, rfl, rfl, by decide +kernel, rfl, by decide +kernel, by decide +kernel⟩
abbrev s_m_Ratio_at_most : Stmt := inClass (top 10) 11
abbrev N_m_Ratio_at_most : List Str := ["self", "other", "top", "bottom"]
abbrev P_m_Ratio_at_most : List Str := ["self", "other"]
theorem sc_m_Ratio_at_most : FnScope N_m_Ratio_at_most P_m_Ratio_at_most (defScope s_m_Ratio_at_most) := ⟨rfl, rfl, rfl, by decide +kernel, rfl, by decide +kernel, by decide +kernel⟩
abbrev s_m_Ratio_same : Stmt := inClass (top 10) 12
abbrev N_m_Ratio_same : List Str := ["self", "other"]
abbrev P_m_Ratio_same : List Str := ["self", "other"]
theorem sc_m_Ratio_same : FnScope N_m_Ratio_same P_m_Ratio_same (defScope s_m_Ratio_same) := ⟨rfl, rfl, rfl, by decide +kernel, rfl, by decide +kernel, by decide +kernel⟩
abbrev s_m_Ratio_sum_of : Stmt := inClass (top 10) 15
abbrev N_m_Ratio_sum_of : List Str := ["items", "total", "item"]
abbrev P_m_Ratio_sum_of : List Str := ["items"]
theorem sc_m_Ratio_sum_of : FnScope N_m_Ratio_sum_of P_m_Ratio_sum_of (defScope s_m_Ratio_sum_of) := ⟨rfl, rfl, rfl, by decide +kernel, rfl, by decide +kernel, by decide +kernel⟩
abbrev s_f_valid_name : Stmt := top 13
abbrev N_f_valid_name : List Str := ["name", "letter"]
abbrev P_f_valid_name : List Str := ["name"]
theorem sc_f_valid_name : FnScope N_f_valid_name P_f_valid_name (defScope s_f_valid_name) := ⟨rfl, rfl, rfl, by decide +kernel, rfl, by decide +kernel, by decide +kernel⟩
abbrev s_m_Form_init : Stmt := inClass (top 14) 0
abbrev N_m_Form_init : List Str := ["self", "shares", "given", "name", "exact"]
abbrev P_m_Form_init : List Str := ["self", "shares"]
theorem sc_m_Form_init : FnScope N_m_Form_init P_m_Form_init (defScope s_m_Form_init) := ⟨rfl, rfl, rfl, by decide +kernel, rfl, by decide +kernel, by decide +kernel⟩
abbrev s_m_Form_of : Stmt := inClass (top 14) 1
abbrev N_m_Form_of : List Str := ["cls", "name"]
abbrev P_m_Form_of : List Str := ["cls", "name"]
theorem sc_m_Form_of : FnScope N_m_Form_of P_m_Form_of (defScope s_m_Form_of) := ⟨rfl, rfl, rfl, by decide +kernel, rfl, by decide +kernel, by decide +kernel⟩
abbrev s_m_Form_share : Stmt := inClass (top 14) 2
abbrev N_m_Form_share : List Str := ["self", "name"]
abbrev P_m_Form_share : List Str := ["self", "name"]
theorem sc_m_Form_share : FnScope N_m_Form_share P_m_Form_share (defScope s_m_Form_share) := ⟨rfl, rfl, rfl, by decide +kernel, rfl, by decide +kernel, by decide +kernel⟩
abbrev s_m_Form_names : Stmt := inClass (top 14) 3
abbrev N_m_Form_names : List Str := ["self"]
abbrev P_m_Form_names : List Str := ["self"]
theorem sc_m_Form_names : FnScope N_m_Form_names P_m_Form_names (defScope s_m_Form_names) := ⟨rfl, rfl, rfl, by decide +kernel, rfl, by decide +kernel, by decide +kernel⟩
abbrev s_m_Form_at_most : Stmt := inClass (top 14) 10
abbrev N_m_Form_at_most : List Str := ["self", "other", "name"]
abbrev P_m_Form_at_most : List Str := ["self", "other"]
theorem sc_m_Form_at_most : FnScope N_m_Form_at_most P_m_Form_at_most (defScope s_m_Form_at_most) := ⟨rfl, rfl, rfl, by decide +kernel, rfl, by decide +kernel, by decide +kernel⟩
abbrev s_m_Form_same : Stmt := inClass (top 14) 11
abbrev N_m_Form_same : List Str := ["self", "other"]
abbrev P_m_Form_same : List Str := ["self", "other"]
theorem sc_m_Form_same : FnScope N_m_Form_same P_m_Form_same (defScope s_m_Form_same) := ⟨rfl, rfl, rfl, by decide +kernel, rfl, by decide +kernel, by decide +kernel⟩
abbrev s_m_Form_at : Stmt := inClass (top 14) 12
abbrev N_m_Form_at : List Str := ["self", "prices", "name"]
abbrev P_m_Form_at : List Str := ["self", "prices"]
theorem sc_m_Form_at : FnScope N_m_Form_at P_m_Form_at (defScope s_m_Form_at) := ⟨rfl, rfl, rfl, by decide +kernel, rfl, by decide +kernel, by decide +kernel⟩
abbrev s_l_bag : Stmt := top 16
abbrev N_l_bag : List Str := ["_law_script"]
abbrev P_l_bag : List Str := ["_law_script"]
theorem sc_l_bag : FnScope N_l_bag P_l_bag (defScope s_l_bag) := ⟨rfl, rfl, rfl, by decide +kernel, rfl, by decide +kernel, by decide +kernel⟩
abbrev s_l_draw : Stmt := top 17
abbrev N_l_draw : List Str := ["_law_bag_here", "_law_size", "_law_cell", "_law_digit", "_law_mixed_here"]
abbrev P_l_draw : List Str := ["_law_bag_here", "_law_size"]
theorem sc_l_draw : FnScope N_l_draw P_l_draw (defScope s_l_draw) := ⟨rfl, rfl, rfl, by decide +kernel, rfl, by decide +kernel, by decide +kernel⟩
abbrev s_l_names : Stmt := top 18
abbrev N_l_names : List Str := ["_law_bag_here", "_law_count", "_law_words", "_law_letters", "_law_size", "_law_stem", "_law_where", "_law_shift", "_law_longer", "_law_names_here", "_law_k", "_law_name", "_law_spot", "_law_word"]
abbrev P_l_names : List Str := ["_law_bag_here", "_law_count", "_law_words"]
theorem sc_l_names : FnScope N_l_names P_l_names (defScope s_l_names) := ⟨rfl, rfl, rfl, by decide +kernel, rfl, by decide +kernel, by decide +kernel⟩
abbrev s_l_pick : Stmt := top 19
abbrev N_l_pick : List Str := ["_law_bag_here", "_law_items"]
abbrev P_l_pick : List Str := ["_law_bag_here", "_law_items"]
theorem sc_l_pick : FnScope N_l_pick P_l_pick (defScope s_l_pick) := ⟨rfl, rfl, rfl, by decide +kernel, rfl, by decide +kernel, by decide +kernel⟩
abbrev s_l_mixed : Stmt := top 20
abbrev N_l_mixed : List Str := ["_law_bag_here", "_law_items", "_law_left", "_law_found", "_law_k"]
abbrev P_l_mixed : List Str := ["_law_bag_here", "_law_items"]
theorem sc_l_mixed : FnScope N_l_mixed P_l_mixed (defScope s_l_mixed) := ⟨rfl, rfl, rfl, by decide +kernel, rfl, by decide +kernel, by decide +kernel⟩
abbrev s_l_divisor : Stmt := top 21
abbrev N_l_divisor : List Str := ["_law_one", "_law_other", "_law_rest"]
abbrev P_l_divisor : List Str := ["_law_one", "_law_other"]
theorem sc_l_divisor : FnScope N_l_divisor P_l_divisor (defScope s_l_divisor) := ⟨rfl, rfl, rfl, by decide +kernel, rfl, by decide +kernel, by decide +kernel⟩
abbrev s_l_lowest : Stmt := top 22
abbrev N_l_lowest : List Str := ["_law_top_here", "_law_bottom", "_law_divisor_here"]
abbrev P_l_lowest : List Str := ["_law_top_here", "_law_bottom"]
theorem sc_l_lowest : FnScope N_l_lowest P_l_lowest (defScope s_l_lowest) := ⟨rfl, rfl, rfl, by decide +kernel, rfl, by decide +kernel, by decide +kernel⟩
abbrev s_l_top : Stmt := top 23
abbrev N_l_top : List Str := ["_law_bag_here", "_law_size"]
abbrev P_l_top : List Str := ["_law_bag_here"]
theorem sc_l_top : FnScope N_l_top P_l_top (defScope s_l_top) := ⟨rfl, rfl, rfl, by decide +kernel, rfl, by decide +kernel, by decide +kernel⟩
abbrev s_l_share : Stmt := top 24
abbrev N_l_share : List Str := ["_law_bag_here"]
abbrev P_l_share : List Str := ["_law_bag_here"]
theorem sc_l_share : FnScope N_l_share P_l_share (defScope s_l_share) := ⟨rfl, rfl, rfl, by decide +kernel, rfl, by decide +kernel, by decide +kernel⟩
abbrev s_l_shares : Stmt := top 25
abbrev N_l_shares : List Str := ["_law_bag_here", "_law_names_here", "_law_shares_here", "_law_name"]
abbrev P_l_shares : List Str := ["_law_bag_here", "_law_names_here"]
theorem sc_l_shares : FnScope N_l_shares P_l_shares (defScope s_l_shares) := ⟨rfl, rfl, rfl, by decide +kernel, rfl, by decide +kernel, by decide +kernel⟩
abbrev s_l_handed : Stmt := top 26
abbrev N_l_handed : List Str := ["_law_bag_here", "_law_shares_here", "_law_handed_here", "_law_name", "_law_top_here", "_law_bottom"]
abbrev P_l_handed : List Str := ["_law_bag_here", "_law_shares_here"]
theorem sc_l_handed : FnScope N_l_handed P_l_handed (defScope s_l_handed) := ⟨rfl, rfl, rfl, by decide +kernel, rfl, by decide +kernel, by decide +kernel⟩
abbrev s_l_sum : Stmt := top 27
abbrev N_l_sum : List Str := ["_law_one", "_law_other", "_law_sign", "_law_shares_here", "_law_name", "_law_top_here", "_law_bottom", "_law_more", "_law_parts"]
abbrev P_l_sum : List Str := ["_law_one", "_law_other", "_law_sign"]
theorem sc_l_sum : FnScope N_l_sum P_l_sum (defScope s_l_sum) := ⟨rfl, rfl, rfl, by decide +kernel, rfl, by decide +kernel, by decide +kernel⟩
abbrev s_l_never_greater : Stmt := top 28
abbrev N_l_never_greater : List Str := ["_law_one", "_law_other", "_law_names_here", "_law_name", "_law_left", "_law_right"]
abbrev P_l_never_greater : List Str := ["_law_one", "_law_other", "_law_names_here"]
theorem sc_l_never_greater : FnScope N_l_never_greater P_l_never_greater (defScope s_l_never_greater) := ⟨rfl, rfl, rfl, by decide +kernel, rfl, by decide +kernel, by decide +kernel⟩
abbrev s_l_value : Stmt := top 29
abbrev N_l_value : List Str := ["_law_shares_here", "_law_prices", "_law_top_here", "_law_bottom", "_law_name", "_law_more", "_law_part"]
abbrev P_l_value : List Str := ["_law_shares_here", "_law_prices"]
theorem sc_l_value : FnScope N_l_value P_l_value (defScope s_l_value) := ⟨rfl, rfl, rfl, by decide +kernel, rfl, by decide +kernel, by decide +kernel⟩
abbrev s_l_price : Stmt := top 30
abbrev N_l_price : List Str := ["_law_bag_here", "_law_top_here"]
abbrev P_l_price : List Str := ["_law_bag_here"]
theorem sc_l_price : FnScope N_l_price P_l_price (defScope s_l_price) := ⟨rfl, rfl, rfl, by decide +kernel, rfl, by decide +kernel, by decide +kernel⟩
abbrev s_l_refusal : Stmt := top 31
abbrev N_l_refusal : List Str := ["_law_form", "_law_prices", "_law_told", "e"]
abbrev P_l_refusal : List Str := ["_law_form", "_law_prices"]
theorem sc_l_refusal : FnScope N_l_refusal P_l_refusal (defScope s_l_refusal) := ⟨rfl, rfl, rfl, by decide +kernel, rfl, by decide +kernel, by decide +kernel⟩
abbrev s_l_bad_names : Stmt := top 32
abbrev N_l_bad_names : List Str := ["_law_bag_here", "_law_names_here", "_law_pool", "_law_odd", "_law_shares_here", "_law_name", "_law_told", "e"]
abbrev P_l_bad_names : List Str := ["_law_bag_here", "_law_names_here"]
theorem sc_l_bad_names : FnScope N_l_bad_names P_l_bad_names (defScope s_l_bad_names) := ⟨rfl, rfl, rfl, by decide +kernel, rfl, by decide +kernel, by decide +kernel⟩
abbrev s_l_order_right : Stmt := top 33
abbrev N_l_order_right : List Str := ["_law_left", "_law_right", "_law_one", "_law_other", "_law_names_here", "_law_less", "_law_more"]
abbrev P_l_order_right : List Str := ["_law_left", "_law_right", "_law_one", "_law_other", "_law_names_here"]
theorem sc_l_order_right : FnScope N_l_order_right P_l_order_right (defScope s_l_order_right) := ⟨rfl, rfl, rfl, by decide +kernel, rfl, by decide +kernel, by decide +kernel⟩
abbrev s_l_refused_right : Stmt := top 34
abbrev N_l_refused_right : List Str := ["_law_bag_here", "_law_left", "_law_handed_here", "_law_names_here", "_law_spot", "_law_name"]
abbrev P_l_refused_right : List Str := ["_law_bag_here", "_law_left", "_law_handed_here"]
theorem sc_l_refused_right : FnScope N_l_refused_right P_l_refused_right (defScope s_l_refused_right) := ⟨rfl, rfl, rfl, by decide +kernel, rfl, by decide +kernel, by decide +kernel⟩
abbrev s_f_law : Stmt := top 35
abbrev N_f_law : List Str := ["_law_script", "_law_bag_here", "_law_names_here", "_law_one", "_law_other", "_law_more", "_law_name", "_law_top_here", "_law_bottom", "_law_left", "_law_prices", "_law_handed_here", "_law_turn", "_law_kept", "_law_told", "_law_spot"]
abbrev P_f_law : List Str := ["_law_script"]
theorem sc_f_law : FnScope N_f_law P_f_law (defScope s_f_law) := ⟨rfl, rfl, rfl, by decide +kernel, rfl, by decide +kernel, by decide +kernel⟩
/-- no __iop__ in the class's chain -/
def noI (K : PySem.W.Frag) (C : Addr) (nm : String) : Bool := (PySem.W.clsIn K C).any fun cd => cd.mro.all fun c => PySem.W.findIn K c (dunderI nm) == some none
/-- C.m is a staticmethod: its record at p, its def at g -/
structure SMet (K : PySem.W.Frag) (C : Addr) (m : Str) (p g : Addr) : Prop where
  rd : PySem.W.readsIn K C (.type "type") = true
  ga : PySem.W.specialIn K (.ref C) "__getattribute__" = some (some (.builtin "type.__getattribute__"))
  at_ : PySem.W.findCls K (.ref C) (.type "type") m = some (.get (.builtin "staticmethod.__get__") (.ref p) .none (.ref C))
  rc : ∃ rest, PySem.W.recIn K p "staticmethod" = some (.ref g :: rest)
  kp : PySem.W.keepIn K (.ref g) = true
/-- C.m is a classmethod: its record at p, its def at g -/
def CMx (K : PySem.W.Frag) (C : Addr) (m : Str) (p g : Addr) : Prop := ClX.CRead K C (.type "type") ∧ ClX.CMet K C (.type "type") m p g
/-- each of the classes cs is itself alone among them, and under CE and ValueError -/
def kitAll (K : PySem.W.Frag) (cs : List Addr) (CE : Addr) : Bool := cs.all fun C => cs.count C == 1 && (cs.all fun D => PySem.W.kitOne K (.ref C) (.ref D) == some (C == D)) && PySem.W.kitOne K (.ref C) (.ref CE) == some true && PySem.W.kitOne K (.ref C) (.type "ValueError") == some true
structure Ad where
  CostError : Addr
  NoRatio : Addr
  BadName : Addr
  NoPrice : Addr
  Negative : Addr
  Ratio : Addr
  Form : Addr
  m_BadName_init : Addr
  fd_m_BadName_init : FuncData
  m_NoPrice_init : Addr
  fd_m_NoPrice_init : FuncData
  m_Negative_init : Addr
  fd_m_Negative_init : FuncData
  f_common_divisor : Addr
  fd_f_common_divisor : FuncData
  f_halves : Addr
  fd_f_halves : FuncData
  m_Ratio_init : Addr
  fd_m_Ratio_init : FuncData
  m_Ratio_add : Addr
  fd_m_Ratio_add : FuncData
  m_Ratio_radd : Addr
  fd_m_Ratio_radd : FuncData
  m_Ratio_sub : Addr
  fd_m_Ratio_sub : FuncData
  m_Ratio_rsub : Addr
  fd_m_Ratio_rsub : FuncData
  m_Ratio_mul : Addr
  fd_m_Ratio_mul : FuncData
  m_Ratio_rmul : Addr
  fd_m_Ratio_rmul : FuncData
  m_Ratio_neg : Addr
  fd_m_Ratio_neg : FuncData
  m_Ratio_abs : Addr
  fd_m_Ratio_abs : FuncData
  m_Ratio_at_most : Addr
  fd_m_Ratio_at_most : FuncData
  m_Ratio_same : Addr
  fd_m_Ratio_same : FuncData
  m_Ratio_sum_of : Addr
  fd_m_Ratio_sum_of : FuncData
  sp_m_Ratio_sum_of : Addr
  f_valid_name : Addr
  fd_f_valid_name : FuncData
  m_Form_init : Addr
  fd_m_Form_init : FuncData
  m_Form_of : Addr
  fd_m_Form_of : FuncData
  sp_m_Form_of : Addr
  m_Form_share : Addr
  fd_m_Form_share : FuncData
  m_Form_names : Addr
  fd_m_Form_names : FuncData
  m_Form_at_most : Addr
  fd_m_Form_at_most : FuncData
  m_Form_same : Addr
  fd_m_Form_same : FuncData
  m_Form_at : Addr
  fd_m_Form_at : FuncData
  l_bag : Addr
  fd_l_bag : FuncData
  l_draw : Addr
  fd_l_draw : FuncData
  l_names : Addr
  fd_l_names : FuncData
  l_pick : Addr
  fd_l_pick : FuncData
  l_mixed : Addr
  fd_l_mixed : FuncData
  l_divisor : Addr
  fd_l_divisor : FuncData
  l_lowest : Addr
  fd_l_lowest : FuncData
  l_top : Addr
  fd_l_top : FuncData
  l_share : Addr
  fd_l_share : FuncData
  l_shares : Addr
  fd_l_shares : FuncData
  l_handed : Addr
  fd_l_handed : FuncData
  l_sum : Addr
  fd_l_sum : FuncData
  l_never_greater : Addr
  fd_l_never_greater : FuncData
  l_value : Addr
  fd_l_value : FuncData
  l_price : Addr
  fd_l_price : FuncData
  l_refusal : Addr
  fd_l_refusal : FuncData
  l_bad_names : Addr
  fd_l_bad_names : FuncData
  l_order_right : Addr
  fd_l_order_right : FuncData
  l_refused_right : Addr
  fd_l_refused_right : FuncData
  f_law : Addr
  fd_f_law : FuncData
  ds_m_Ratio_init : List Value
  ds_m_Form_init : List Value
structure Txt (K : PySem.W.Frag) (mg : Str → Option Value) (A : Ad) : Prop where
  z_abs : mg "abs" = none
  z_all : mg "all" = none
  z_classmethod : mg "classmethod" = none
  z_dict : mg "dict" = none
  z_int : mg "int" = none
  z_isinstance : mg "isinstance" = none
  z_len : mg "len" = none
  z_list : mg "list" = none
  z_min : mg "min" = none
  z_range : mg "range" = none
  z_sorted : mg "sorted" = none
  z_staticmethod : mg "staticmethod" = none
  z_str : mg "str" = none
  g_CostError : mg "CostError" = some (.ref A.CostError)
  ek_CostError : PySem.W.keepIn K (.ref A.CostError) = true
  eb_CostError : PySem.W.subIn K (.ref A.CostError) (.type "BaseException") = some true
  et_CostError : PySem.W.typeIn K (.ref A.CostError) = some (.type "type")
  eh_CostError : PySem.W.hasDictIn K A.CostError = true
  eic_CostError : PySem.W.isClsIn K A.CostError = true
  es_CostError : PySem.W.subIn K (.ref A.CostError) (.ref A.CostError) = some true
  xg_CostError : PySem.W.findIn K (.ref A.CostError) "__getattribute__" = some (some (.builtin "BaseException.__getattribute__"))
  xk_CostError : PySem.W.findIn K (.ref A.CostError) "__getattr__" = some none
  xa_CostError : PySem.W.findIn K (.ref A.CostError) "__class__" = some (some (.builtin "object.__class__"))
  xn_CostError : PySem.W.specialIn K (.builtin "object.__class__") "__get__" = some (some (.builtin "getset_descriptor.__get__"))
  xt_CostError : PySem.W.takesIn K (.builtin "object.__class__") = some true
  xm_CostError : PySem.W.mroIn K A.CostError (.type "object") = some true
  rd_CostError : PySem.W.readsIn K A.CostError (.type "type") = true
  cg_CostError : PySem.W.specialIn K (.ref A.CostError) "__getattribute__" = some (some (.builtin "type.__getattribute__"))
  vi_CostError : PySem.W.findCls K (.ref A.CostError) (.type "type") "__init__" = some (.val (.builtin "ValueError.__init__"))
  g_NoRatio : mg "NoRatio" = some (.ref A.NoRatio)
  ek_NoRatio : PySem.W.keepIn K (.ref A.NoRatio) = true
  eb_NoRatio : PySem.W.subIn K (.ref A.NoRatio) (.type "BaseException") = some true
  et_NoRatio : PySem.W.typeIn K (.ref A.NoRatio) = some (.type "type")
  eh_NoRatio : PySem.W.hasDictIn K A.NoRatio = true
  eic_NoRatio : PySem.W.isClsIn K A.NoRatio = true
  es_NoRatio : PySem.W.subIn K (.ref A.NoRatio) (.ref A.NoRatio) = some true
  xg_NoRatio : PySem.W.findIn K (.ref A.NoRatio) "__getattribute__" = some (some (.builtin "BaseException.__getattribute__"))
  xk_NoRatio : PySem.W.findIn K (.ref A.NoRatio) "__getattr__" = some none
  xa_NoRatio : PySem.W.findIn K (.ref A.NoRatio) "__class__" = some (some (.builtin "object.__class__"))
  xn_NoRatio : PySem.W.specialIn K (.builtin "object.__class__") "__get__" = some (some (.builtin "getset_descriptor.__get__"))
  xt_NoRatio : PySem.W.takesIn K (.builtin "object.__class__") = some true
  xm_NoRatio : PySem.W.mroIn K A.NoRatio (.type "object") = some true
  ex_NoRatio : PySem.W.excIn K A.NoRatio [.type "ValueError", .type "Exception", .type "BaseException", .type "object"] "ValueError.__new__" = true
  g_BadName : mg "BadName" = some (.ref A.BadName)
  ek_BadName : PySem.W.keepIn K (.ref A.BadName) = true
  eb_BadName : PySem.W.subIn K (.ref A.BadName) (.type "BaseException") = some true
  et_BadName : PySem.W.typeIn K (.ref A.BadName) = some (.type "type")
  eh_BadName : PySem.W.hasDictIn K A.BadName = true
  eic_BadName : PySem.W.isClsIn K A.BadName = true
  es_BadName : PySem.W.subIn K (.ref A.BadName) (.ref A.BadName) = some true
  xg_BadName : PySem.W.findIn K (.ref A.BadName) "__getattribute__" = some (some (.builtin "BaseException.__getattribute__"))
  xk_BadName : PySem.W.findIn K (.ref A.BadName) "__getattr__" = some none
  xa_BadName : PySem.W.findIn K (.ref A.BadName) "__class__" = some (some (.builtin "object.__class__"))
  xn_BadName : PySem.W.specialIn K (.builtin "object.__class__") "__get__" = some (some (.builtin "getset_descriptor.__get__"))
  xt_BadName : PySem.W.takesIn K (.builtin "object.__class__") = some true
  xm_BadName : PySem.W.mroIn K A.BadName (.type "object") = some true
  xc_BadName : PySem.W.kitOne K (.ref A.BadName) (.ref A.CostError) = some true
  n_BadName_name : PySem.W.findIn K (.ref A.BadName) "name" = some none
  oi_BadName : PySem.W.findIn K (.ref A.BadName) "__init__" = some (some (.ref A.m_BadName_init))
  ot_BadName : PySem.W.typeIn K (.ref A.m_BadName_init) = some (.type "function")
  ox_BadName : OexC K A.BadName
  g_NoPrice : mg "NoPrice" = some (.ref A.NoPrice)
  ek_NoPrice : PySem.W.keepIn K (.ref A.NoPrice) = true
  eb_NoPrice : PySem.W.subIn K (.ref A.NoPrice) (.type "BaseException") = some true
  et_NoPrice : PySem.W.typeIn K (.ref A.NoPrice) = some (.type "type")
  eh_NoPrice : PySem.W.hasDictIn K A.NoPrice = true
  eic_NoPrice : PySem.W.isClsIn K A.NoPrice = true
  es_NoPrice : PySem.W.subIn K (.ref A.NoPrice) (.ref A.NoPrice) = some true
  xg_NoPrice : PySem.W.findIn K (.ref A.NoPrice) "__getattribute__" = some (some (.builtin "BaseException.__getattribute__"))
  xk_NoPrice : PySem.W.findIn K (.ref A.NoPrice) "__getattr__" = some none
  xa_NoPrice : PySem.W.findIn K (.ref A.NoPrice) "__class__" = some (some (.builtin "object.__class__"))
  xn_NoPrice : PySem.W.specialIn K (.builtin "object.__class__") "__get__" = some (some (.builtin "getset_descriptor.__get__"))
  xt_NoPrice : PySem.W.takesIn K (.builtin "object.__class__") = some true
  xm_NoPrice : PySem.W.mroIn K A.NoPrice (.type "object") = some true
  xc_NoPrice : PySem.W.kitOne K (.ref A.NoPrice) (.ref A.CostError) = some true
  n_NoPrice_name : PySem.W.findIn K (.ref A.NoPrice) "name" = some none
  oi_NoPrice : PySem.W.findIn K (.ref A.NoPrice) "__init__" = some (some (.ref A.m_NoPrice_init))
  ot_NoPrice : PySem.W.typeIn K (.ref A.m_NoPrice_init) = some (.type "function")
  ox_NoPrice : OexC K A.NoPrice
  g_Negative : mg "Negative" = some (.ref A.Negative)
  ek_Negative : PySem.W.keepIn K (.ref A.Negative) = true
  eb_Negative : PySem.W.subIn K (.ref A.Negative) (.type "BaseException") = some true
  et_Negative : PySem.W.typeIn K (.ref A.Negative) = some (.type "type")
  eh_Negative : PySem.W.hasDictIn K A.Negative = true
  eic_Negative : PySem.W.isClsIn K A.Negative = true
  es_Negative : PySem.W.subIn K (.ref A.Negative) (.ref A.Negative) = some true
  xg_Negative : PySem.W.findIn K (.ref A.Negative) "__getattribute__" = some (some (.builtin "BaseException.__getattribute__"))
  xk_Negative : PySem.W.findIn K (.ref A.Negative) "__getattr__" = some none
  xa_Negative : PySem.W.findIn K (.ref A.Negative) "__class__" = some (some (.builtin "object.__class__"))
  xn_Negative : PySem.W.specialIn K (.builtin "object.__class__") "__get__" = some (some (.builtin "getset_descriptor.__get__"))
  xt_Negative : PySem.W.takesIn K (.builtin "object.__class__") = some true
  xm_Negative : PySem.W.mroIn K A.Negative (.type "object") = some true
  xc_Negative : PySem.W.kitOne K (.ref A.Negative) (.ref A.CostError) = some true
  nn_Negative : PySem.W.exmOne K (.ref A.Negative) (.ref A.NoPrice) = some false
  n_Negative_name : PySem.W.findIn K (.ref A.Negative) "name" = some none
  oi_Negative : PySem.W.findIn K (.ref A.Negative) "__init__" = some (some (.ref A.m_Negative_init))
  ot_Negative : PySem.W.typeIn K (.ref A.m_Negative_init) = some (.type "function")
  ox_Negative : OexC K A.Negative
  g_Ratio : mg "Ratio" = some (.ref A.Ratio)
  cl_Ratio : Cls K A.Ratio
  n_Ratio_top : NoAttr K A.Ratio "top"
  n_Ratio_bottom : NoAttr K A.Ratio "bottom"
  mk_Ratio : Mk K A.Ratio A.m_Ratio_init
  m_Ratio___add__ : Meth K A.Ratio "__add__" A.m_Ratio_add
  m_Ratio___radd__ : Meth K A.Ratio "__radd__" A.m_Ratio_radd
  m_Ratio___sub__ : Meth K A.Ratio "__sub__" A.m_Ratio_sub
  m_Ratio___rsub__ : Meth K A.Ratio "__rsub__" A.m_Ratio_rsub
  m_Ratio___mul__ : Meth K A.Ratio "__mul__" A.m_Ratio_mul
  m_Ratio___rmul__ : Meth K A.Ratio "__rmul__" A.m_Ratio_rmul
  m_Ratio___neg__ : Meth K A.Ratio "__neg__" A.m_Ratio_neg
  m_Ratio___abs__ : Meth K A.Ratio "__abs__" A.m_Ratio_abs
  m_Ratio_at_most : Meth K A.Ratio "at_most" A.m_Ratio_at_most
  m_Ratio_same : Meth K A.Ratio "same" A.m_Ratio_same
  sm_Ratio_sum_of : SMet K A.Ratio "sum_of" A.sp_m_Ratio_sum_of A.m_Ratio_sum_of
  tc_Ratio : PySem.W.findIn K (.ref A.Ratio) "__class__" = some (some (.builtin "object.__class__"))
  tn_Ratio : PySem.W.specialIn K (.builtin "object.__class__") "__get__" = some (some (.builtin "getset_descriptor.__get__"))
  tk_Ratio : PySem.W.takesIn K (.builtin "object.__class__") = some true
  tm_Ratio : PySem.W.mroIn K A.Ratio (.type "object") = some true
  ki_Ratio : PySem.W.kitOne K (.ref A.Ratio) (.type "int") = some false
  sf_Ratio : PySem.W.selfFirst K A.Ratio = true
  si_Ratio : PySem.W.subIn K (.type "int") (.ref A.Ratio) = some false
  sj_Ratio : PySem.W.subIn K (.ref A.Ratio) (.type "int") = some false
  o1a_Ratio : PySem.W.findIn K (.type "int") (PySem.dunder "add") = some (some (.builtin "int.__add__"))
  o2a_Ratio : PySem.W.findIn K (.type "int") (dunderR "add") = some (some (.builtin "int.__radd__"))
  o1s_Ratio : PySem.W.findIn K (.type "int") (PySem.dunder "sub") = some (some (.builtin "int.__sub__"))
  o2s_Ratio : PySem.W.findIn K (.type "int") (dunderR "sub") = some (some (.builtin "int.__rsub__"))
  o1m_Ratio : PySem.W.findIn K (.type "int") (PySem.dunder "mul") = some (some (.builtin "int.__mul__"))
  o2m_Ratio : PySem.W.findIn K (.type "int") (dunderR "mul") = some (some (.builtin "int.__rmul__"))
  nia_Ratio : noI K A.Ratio "add" = true
  nis_Ratio : noI K A.Ratio "sub" = true
  nim_Ratio : noI K A.Ratio "mul" = true
  rd_Ratio : PySem.W.readsIn K A.Ratio (.type "type") = true
  cga_Ratio : PySem.W.specialIn K (.ref A.Ratio) "__getattribute__" = some (some (.builtin "type.__getattribute__"))
  g_Form : mg "Form" = some (.ref A.Form)
  cl_Form : Cls K A.Form
  n_Form_shares : NoAttr K A.Form "shares"
  mk_Form : Mk K A.Form A.m_Form_init
  cm_Form_of : CMx K A.Form "of" A.sp_m_Form_of A.m_Form_of
  m_Form_share : Meth K A.Form "share" A.m_Form_share
  m_Form_names : Meth K A.Form "names" A.m_Form_names
  m_Form_at_most : Meth K A.Form "at_most" A.m_Form_at_most
  m_Form_same : Meth K A.Form "same" A.m_Form_same
  m_Form_at : Meth K A.Form "at" A.m_Form_at
  g_LETTERS : ∃ t, mg "LETTERS" = some (.str "abcdefghijklmnopqrstuvwxyz" t)
  F_m_BadName_init : Fun K "__init__" "BadName.__init__" s_m_BadName_init A.m_BadName_init A.fd_m_BadName_init
  b_m_BadName_init : Binds K A.fd_m_BadName_init P_m_BadName_init []
  F_m_NoPrice_init : Fun K "__init__" "NoPrice.__init__" s_m_NoPrice_init A.m_NoPrice_init A.fd_m_NoPrice_init
  b_m_NoPrice_init : Binds K A.fd_m_NoPrice_init P_m_NoPrice_init []
  F_m_Negative_init : Fun K "__init__" "Negative.__init__" s_m_Negative_init A.m_Negative_init A.fd_m_Negative_init
  b_m_Negative_init : Binds K A.fd_m_Negative_init P_m_Negative_init []
  F_f_common_divisor : Fun K "common_divisor" "common_divisor" s_f_common_divisor A.f_common_divisor A.fd_f_common_divisor
  b_f_common_divisor : Binds K A.fd_f_common_divisor P_f_common_divisor []
  g_common_divisor : mg "common_divisor" = some (.ref A.f_common_divisor)
  F_f_halves : Fun K "halves" "halves" s_f_halves A.f_halves A.fd_f_halves
  b_f_halves : Binds K A.fd_f_halves P_f_halves []
  g_halves : mg "halves" = some (.ref A.f_halves)
  F_m_Ratio_init : FunD K "__init__" "Ratio.__init__" (defArgs s_m_Ratio_init) (defBody s_m_Ratio_init) (defScope s_m_Ratio_init) [.int 1] [] A.m_Ratio_init A.fd_m_Ratio_init
  b_m_Ratio_init : Binds K A.fd_m_Ratio_init P_m_Ratio_init []
  dv_m_Ratio_init : Vals [.int 1] A.ds_m_Ratio_init
  b_m_Ratio_init_d1 : Binds K A.fd_m_Ratio_init P_m_Ratio_init A.ds_m_Ratio_init
  F_m_Ratio_add : Fun K "__add__" "Ratio.__add__" s_m_Ratio_add A.m_Ratio_add A.fd_m_Ratio_add
  b_m_Ratio_add : Binds K A.fd_m_Ratio_add P_m_Ratio_add []
  F_m_Ratio_radd : Fun K "__radd__" "Ratio.__radd__" s_m_Ratio_radd A.m_Ratio_radd A.fd_m_Ratio_radd
  b_m_Ratio_radd : Binds K A.fd_m_Ratio_radd P_m_Ratio_radd []
  F_m_Ratio_sub : Fun K "__sub__" "Ratio.__sub__" s_m_Ratio_sub A.m_Ratio_sub A.fd_m_Ratio_sub
  b_m_Ratio_sub : Binds K A.fd_m_Ratio_sub P_m_Ratio_sub []
  F_m_Ratio_rsub : Fun K "__rsub__" "Ratio.__rsub__" s_m_Ratio_rsub A.m_Ratio_rsub A.fd_m_Ratio_rsub
  b_m_Ratio_rsub : Binds K A.fd_m_Ratio_rsub P_m_Ratio_rsub []
  F_m_Ratio_mul : Fun K "__mul__" "Ratio.__mul__" s_m_Ratio_mul A.m_Ratio_mul A.fd_m_Ratio_mul
  b_m_Ratio_mul : Binds K A.fd_m_Ratio_mul P_m_Ratio_mul []
  F_m_Ratio_rmul : Fun K "__rmul__" "Ratio.__rmul__" s_m_Ratio_rmul A.m_Ratio_rmul A.fd_m_Ratio_rmul
  b_m_Ratio_rmul : Binds K A.fd_m_Ratio_rmul P_m_Ratio_rmul []
  F_m_Ratio_neg : Fun K "__neg__" "Ratio.__neg__" s_m_Ratio_neg A.m_Ratio_neg A.fd_m_Ratio_neg
  b_m_Ratio_neg : Binds K A.fd_m_Ratio_neg P_m_Ratio_neg []
  F_m_Ratio_abs : Fun K "__abs__" "Ratio.__abs__" s_m_Ratio_abs A.m_Ratio_abs A.fd_m_Ratio_abs
  b_m_Ratio_abs : Binds K A.fd_m_Ratio_abs P_m_Ratio_abs []
  F_m_Ratio_at_most : Fun K "at_most" "Ratio.at_most" s_m_Ratio_at_most A.m_Ratio_at_most A.fd_m_Ratio_at_most
  b_m_Ratio_at_most : Binds K A.fd_m_Ratio_at_most P_m_Ratio_at_most []
  F_m_Ratio_same : Fun K "same" "Ratio.same" s_m_Ratio_same A.m_Ratio_same A.fd_m_Ratio_same
  b_m_Ratio_same : Binds K A.fd_m_Ratio_same P_m_Ratio_same []
  F_m_Ratio_sum_of : Fun K "sum_of" "Ratio.sum_of" s_m_Ratio_sum_of A.m_Ratio_sum_of A.fd_m_Ratio_sum_of
  b_m_Ratio_sum_of : Binds K A.fd_m_Ratio_sum_of P_m_Ratio_sum_of []
  F_f_valid_name : Fun K "valid_name" "valid_name" s_f_valid_name A.f_valid_name A.fd_f_valid_name
  b_f_valid_name : Binds K A.fd_f_valid_name P_f_valid_name []
  g_valid_name : mg "valid_name" = some (.ref A.f_valid_name)
  F_m_Form_init : FunD K "__init__" "Form.__init__" (defArgs s_m_Form_init) (defBody s_m_Form_init) (defScope s_m_Form_init) [.non] [] A.m_Form_init A.fd_m_Form_init
  b_m_Form_init : Binds K A.fd_m_Form_init P_m_Form_init []
  dv_m_Form_init : Vals [.non] A.ds_m_Form_init
  b_m_Form_init_d1 : Binds K A.fd_m_Form_init P_m_Form_init A.ds_m_Form_init
  F_m_Form_of : Fun K "of" "Form.of" s_m_Form_of A.m_Form_of A.fd_m_Form_of
  b_m_Form_of : Binds K A.fd_m_Form_of P_m_Form_of []
  F_m_Form_share : Fun K "share" "Form.share" s_m_Form_share A.m_Form_share A.fd_m_Form_share
  b_m_Form_share : Binds K A.fd_m_Form_share P_m_Form_share []
  F_m_Form_names : Fun K "names" "Form.names" s_m_Form_names A.m_Form_names A.fd_m_Form_names
  b_m_Form_names : Binds K A.fd_m_Form_names P_m_Form_names []
  F_m_Form_at_most : Fun K "at_most" "Form.at_most" s_m_Form_at_most A.m_Form_at_most A.fd_m_Form_at_most
  b_m_Form_at_most : Binds K A.fd_m_Form_at_most P_m_Form_at_most []
  F_m_Form_same : Fun K "same" "Form.same" s_m_Form_same A.m_Form_same A.fd_m_Form_same
  b_m_Form_same : Binds K A.fd_m_Form_same P_m_Form_same []
  F_m_Form_at : Fun K "at" "Form.at" s_m_Form_at A.m_Form_at A.fd_m_Form_at
  b_m_Form_at : Binds K A.fd_m_Form_at P_m_Form_at []
  F_l_bag : Fun K "_law_bag" "_law_bag" s_l_bag A.l_bag A.fd_l_bag
  b_l_bag : Binds K A.fd_l_bag P_l_bag []
  g__law_bag : mg "_law_bag" = some (.ref A.l_bag)
  F_l_draw : Fun K "_law_draw" "_law_draw" s_l_draw A.l_draw A.fd_l_draw
  b_l_draw : Binds K A.fd_l_draw P_l_draw []
  g__law_draw : mg "_law_draw" = some (.ref A.l_draw)
  F_l_names : Fun K "_law_names" "_law_names" s_l_names A.l_names A.fd_l_names
  b_l_names : Binds K A.fd_l_names P_l_names []
  g__law_names : mg "_law_names" = some (.ref A.l_names)
  F_l_pick : Fun K "_law_pick" "_law_pick" s_l_pick A.l_pick A.fd_l_pick
  b_l_pick : Binds K A.fd_l_pick P_l_pick []
  g__law_pick : mg "_law_pick" = some (.ref A.l_pick)
  F_l_mixed : Fun K "_law_mixed" "_law_mixed" s_l_mixed A.l_mixed A.fd_l_mixed
  b_l_mixed : Binds K A.fd_l_mixed P_l_mixed []
  g__law_mixed : mg "_law_mixed" = some (.ref A.l_mixed)
  F_l_divisor : Fun K "_law_divisor" "_law_divisor" s_l_divisor A.l_divisor A.fd_l_divisor
  b_l_divisor : Binds K A.fd_l_divisor P_l_divisor []
  g__law_divisor : mg "_law_divisor" = some (.ref A.l_divisor)
  F_l_lowest : Fun K "_law_lowest" "_law_lowest" s_l_lowest A.l_lowest A.fd_l_lowest
  b_l_lowest : Binds K A.fd_l_lowest P_l_lowest []
  g__law_lowest : mg "_law_lowest" = some (.ref A.l_lowest)
  F_l_top : Fun K "_law_top" "_law_top" s_l_top A.l_top A.fd_l_top
  b_l_top : Binds K A.fd_l_top P_l_top []
  g__law_top : mg "_law_top" = some (.ref A.l_top)
  F_l_share : Fun K "_law_share" "_law_share" s_l_share A.l_share A.fd_l_share
  b_l_share : Binds K A.fd_l_share P_l_share []
  g__law_share : mg "_law_share" = some (.ref A.l_share)
  F_l_shares : Fun K "_law_shares" "_law_shares" s_l_shares A.l_shares A.fd_l_shares
  b_l_shares : Binds K A.fd_l_shares P_l_shares []
  g__law_shares : mg "_law_shares" = some (.ref A.l_shares)
  F_l_handed : Fun K "_law_handed" "_law_handed" s_l_handed A.l_handed A.fd_l_handed
  b_l_handed : Binds K A.fd_l_handed P_l_handed []
  g__law_handed : mg "_law_handed" = some (.ref A.l_handed)
  F_l_sum : Fun K "_law_sum" "_law_sum" s_l_sum A.l_sum A.fd_l_sum
  b_l_sum : Binds K A.fd_l_sum P_l_sum []
  g__law_sum : mg "_law_sum" = some (.ref A.l_sum)
  F_l_never_greater : Fun K "_law_never_greater" "_law_never_greater" s_l_never_greater A.l_never_greater A.fd_l_never_greater
  b_l_never_greater : Binds K A.fd_l_never_greater P_l_never_greater []
  g__law_never_greater : mg "_law_never_greater" = some (.ref A.l_never_greater)
  F_l_value : Fun K "_law_value" "_law_value" s_l_value A.l_value A.fd_l_value
  b_l_value : Binds K A.fd_l_value P_l_value []
  g__law_value : mg "_law_value" = some (.ref A.l_value)
  F_l_price : Fun K "_law_price" "_law_price" s_l_price A.l_price A.fd_l_price
  b_l_price : Binds K A.fd_l_price P_l_price []
  g__law_price : mg "_law_price" = some (.ref A.l_price)
  F_l_refusal : Fun K "_law_refusal" "_law_refusal" s_l_refusal A.l_refusal A.fd_l_refusal
  b_l_refusal : Binds K A.fd_l_refusal P_l_refusal []
  g__law_refusal : mg "_law_refusal" = some (.ref A.l_refusal)
  F_l_bad_names : Fun K "_law_bad_names" "_law_bad_names" s_l_bad_names A.l_bad_names A.fd_l_bad_names
  b_l_bad_names : Binds K A.fd_l_bad_names P_l_bad_names []
  g__law_bad_names : mg "_law_bad_names" = some (.ref A.l_bad_names)
  F_l_order_right : Fun K "_law_order_right" "_law_order_right" s_l_order_right A.l_order_right A.fd_l_order_right
  b_l_order_right : Binds K A.fd_l_order_right P_l_order_right []
  g__law_order_right : mg "_law_order_right" = some (.ref A.l_order_right)
  F_l_refused_right : Fun K "_law_refused_right" "_law_refused_right" s_l_refused_right A.l_refused_right A.fd_l_refused_right
  b_l_refused_right : Binds K A.fd_l_refused_right P_l_refused_right []
  g__law_refused_right : mg "_law_refused_right" = some (.ref A.l_refused_right)
  F_f_law : Fun K "law" "law" s_f_law A.f_law A.fd_f_law
  b_f_law : Binds K A.fd_f_law P_f_law []
  g_law : mg "law" = some (.ref A.f_law)
/-- a word that the steps don't open -/
structure Wd (p : Prop) : Prop where
  ok : p
section
variable {X : Cx}
def tG (t : TS) : TS := fun D σ H => Wd (t D σ H)
def tGE (t : TE) : TE := fun σ H Q => Wd (t σ H Q)
theorem ps_g {st : Stmt} {t : TS} (h : PS X st t) : PS X st (tG t) := ⟨fun pins s σ H D I hw => h.run pins s σ H D I hw.ok⟩
theorem pss_g {st : List Stmt} {t : TS} (h : PSs X st t) : PSs X st (tG t) := ⟨fun pins s σ H D I hw => h.run pins s σ H D I hw.ok⟩
theorem pe_g {e : Expr} {t : TE} (h : PE X e t) : PE X e (tGE t) := ⟨fun pins s σ H Q I hw => h.run pins s σ H Q I hw.ok⟩
end
theorem if_int {i j : Int} {A B : Prop} (h1 : i = j → A) (h2 : i ≠ j → B) : if decide (V.int i = V.int j) = true then A else B := by
  by_cases e : i = j
  · rw [if_pos (decide_eq_true (congrArg V.int e))]
    exact h1 e
  · rw [if_neg fun z => e (V.int.inj (of_decide_eq_true z))]
    exact h2 e
theorem if_intN {i j : Int} {A B : Prop} (h1 : i ≠ j → A) (h2 : i = j → B) : if (!decide (V.int i = V.int j)) = true then A else B := by
  by_cases e : i = j
  · rw [decide_eq_true (congrArg V.int e)]
    exact iteF (h2 e)
  · rw [decide_eq_false fun z => e (V.int.inj z)]
    exact iteT (h1 e)
theorem if_dec {p A B : Prop} [Decidable p] (h1 : p → A) (h2 : ¬ p → B) : if decide p = true then A else B := by
  by_cases e : p
  · rw [if_pos (decide_eq_true e)]
    exact h1 e
  · rw [if_neg fun z => e (of_decide_eq_true z)]
    exact h2 e
theorem ifT {p A B : Prop} [Decidable p] (hp : p) (h : A) : if decide p = true then A else B := by
  rw [if_pos (decide_eq_true hp)]
  exact h
theorem ifF {p A B : Prop} [Decidable p] (hp : ¬ p) (h : B) : if decide p = true then A else B := by
  rw [if_neg fun z => hp (of_decide_eq_true z)]
  exact h
theorem ifNT {p A B : Prop} [Decidable p] (hp : p) (h : B) : if (!decide p) = true then A else B := by
  rw [decide_eq_true hp]
  exact iteF h
theorem ifNF {p A B : Prop} [Decidable p] (hp : ¬ p) (h : A) : if (!decide p) = true then A else B := by
  rw [decide_eq_false hp]
  exact iteT h
theorem if_bl {b : Bool} {A B : Prop} (h1 : b = true → A) (h2 : b = false → B) : if b = true then A else B := by
  cases b with
  | true => exact h1 rfl
  | false => exact iteF (h2 rfl)
/-- all but what stands at g is kept -/
def Kp (g : Addr) (H H' : Hp) : Prop := ∀ b o, H b = some o → b ≠ g → H' b = some o
theorem Kp.refl (g : Addr) (H : Hp) : Kp g H H := fun _ _ h _ => h
theorem Kp.trans {g : Addr} {H H1 H2 : Hp} (a : Kp g H H1) (b : Kp g H1 H2) : Kp g H H2 := fun c o h n => b c o (a c o h n) n
theorem Kp.up {g : Addr} {H H' : Hp} {o : HO} (k : Kp g H H') : Kp g H (upd H' g o) := fun b u e n => by
  rw [upd_ne n]
  exact k b u e n

/-! ### the bag of draws -/
structure Bag (H : Hp) (g l : Addr) : Prop where
  ex : ∃ (i r s c : Int) (ns : List Int), H g = some (.lst [.ref l, .int i, .int r, .int s, .int c]) ∧ H l = some (.lst (ns.map V.int)) ∧ 0 ≤ i
def spDraw : Sp := fun vs H Q _ => ∃ (g l : Addr) (z : Int), vs = [.ref g, .int z] ∧ Bag H g l ∧ 0 < z ∧ z.natAbs < 2 ^ 9000 ∧
  ∀ (n : Int) (H' : Hp), 0 ≤ n → n < z → Bag H' g l → Kp g H H' → Q (.int n) H'
theorem at_ints {ns : List Int} {i : Int} (h0 : 0 ≤ i) (h1 : i < (ns.length : Int)) : ∃ n, atI (ns.map V.int) i = some (.int n) := by
  obtain ⟨j, rfl⟩ := Int.eq_ofNat_of_zero_le h0
  have hj : j < ns.length := by omega
  exact ⟨ns[j], atI_nat (by rw [List.getElem?_map, List.getElem?_eq_getElem hj]; rfl)⟩
theorem cmul_r {i j : Int} (h : -(2 ^ 64) < j ∧ j < 2 ^ 64) : CMul i j := .inr h
theorem cmul_l {i j : Int} (h : -(2 ^ 64) < i ∧ i < 2 ^ 64) : CMul i j := .inl h
theorem cpow_of {i j : Int} (h1 : 0 ≤ j ∧ j ≤ 1000000) (h2 : -(2 ^ 63) < i ∧ i < 2 ^ 63) : CPow i j := ⟨h1.1, h1.2, by omega⟩
section
variable {P : Program} {w : World} {K : PySem.W.Frag} {mg : Str → Option Value} {base : Heap} {A : Ad}
theorem ok_l_draw (T : Txt K mg A) : FnOk P w K mg base CX0 1 A.l_draw A.fd_l_draw P_l_draw spDraw := by
  refine T.F_l_draw.ok sc_l_draw (fun vs H Q E h => ?_) (fun cdv Ar outer s H vs Q E hr h => ?_)
  · obtain ⟨g, l, z, rfl, _⟩ := h
    rfl
  · obtain ⟨g, l, z, rfl, ⟨i, r, sd, c, ns, hg, hl, hi⟩, hz, hz2, k⟩ := h
    have nlg : l ≠ g := ne_of hl hg (by intro q; cases ns <;> cases q)
    refine ⟨_, (pss_cons (ps_asg (pe_op op_add (pe_ix ix_list (pv 0) pe_int (fun _ _ => rfl)) pe_int) (pg_sub (pv 0) pe_int set_list))
      (pss_g (Evl.pss_cut (ps_if (PW.pt (pw_and (pt_cmpR op_eq (pe_ix ix_list (pv 0) pe_int (fun _ _ => rfl)) pe_int (nomark _)) (pw_and1 (pt_cmpR op_lt (pe_ix ix_list (pv 0) pe_int (fun _ _ => rfl)) (pe_callB call_len_seq (by rfl) T.z_len (by decide +kernel) (pa_cons (pe_ix ix_list (pv 0) pe_int (fun _ _ => rfl)) pa_nil)) (nomark _))))) (pss_cons (ps_set (i := 2) sc_l_draw.nd rfl (Or.inl rfl) (pe_ix ix_list (pe_ix ix_list (pv 0) pe_int (fun _ _ => rfl)) (pe_ix ix_list (pv 0) pe_int (fun _ _ => rfl)) (fun _ _ => rfl)))
      (pss_cons (ps_asg (pe_op op_add (pe_ix ix_list (pv 0) pe_int (fun _ _ => rfl)) pe_int) (pg_sub (pv 0) pe_int set_list))
      (pss_cons (ps_asg (pe_op op_mul (pe_op op_add (pe_op op_mul pe_int (pe_callB call_abs (by rfl) T.z_abs (by decide +kernel) (pa_cons (pv 2) pa_nil))) (pe_callTy call_int1 (by rfl) T.z_int (by decide +kernel) (pa_cons (pe_cmpR op_lt (pv 2) pe_int (nomark _)) pa_nil))) (pe_callTy call_int1 (by rfl) T.z_int (by decide +kernel) (pa_cons (pe_cmpR op_ge (pe_callB call_abs (by rfl) T.z_abs (by decide +kernel) (pa_cons (pv 2) pa_nil)) (pe_op op_pow pe_int pe_int) (nomark _)) pa_nil))) (pg_sub (pv 0) pe_int set_list))
      (pss_one (ps_asg (pe_op op_mod (pe_callTy call_int1 (by rfl) T.z_int (by decide +kernel) (pa_cons (pe_op op_add (pe_op op_add (pe_op op_mul (pe_ix ix_list (pv 0) pe_int (fun _ _ => rfl)) pe_int) (pe_op op_mul (pv 2) pe_int)) pe_int) pa_nil)) pe_int) (pg_sub (pv 0) pe_int set_list)))))) pss_nil)
      (pss_cons (ps_set (i := 3) sc_l_draw.nd rfl (Or.inl rfl) (pe_op op_mod (pe_callTy call_int1 (by rfl) T.z_int (by decide +kernel) (pa_cons (pe_ix ix_list (pv 0) pe_int (fun _ _ => rfl)) pa_nil)) (pv 1)))
      (pss_cons (ps_if (pt_cmpR op_gt (pe_ix ix_list (pv 0) pe_int (fun _ _ => rfl)) pe_int (nomark _)) (pss_cons (ps_asg (pe_op op_fdivW (pe_ix ix_list (pv 0) pe_int (fun _ _ => rfl)) (pv 1)) (pg_sub (pv 0) pe_int set_list))
      (pss_one (ps_ret (pv 3)))) pss_nil)
      (pss_cons (ps_set (i := 4) sc_l_draw.nd rfl (Or.inl rfl) (pe_op op_mod (pe_callTy call_int1 (by rfl) T.z_int (by decide +kernel) (pa_cons (pe_op op_add (pe_ix ix_list (pv 0) pe_int (fun _ _ => rfl)) (pe_op op_mul (pe_ix ix_list (pv 0) pe_int (fun _ _ => rfl)) pe_int)) pa_nil)) pe_int))
      (pss_cons (ps_set (i := 4) sc_l_draw.nd rfl (Or.inl rfl) (pe_op op_mod (pe_callTy call_int1 (by rfl) T.z_int (by decide +kernel) (pa_cons (pe_op op_add (pe_op op_add (pe_op op_pow (pv 4) pe_int) (pe_op op_mul (pe_ix ix_list (pv 0) pe_int (fun _ _ => rfl)) pe_int)) pe_int) pa_nil)) pe_int))
      (pss_one (ps_ret (pe_op op_mod (pe_op op_fdiv (pe_op op_mod (pe_callTy call_int1 (by rfl) T.z_int (by decide +kernel) (pa_cons (pe_op op_pow (pv 4) pe_int) pa_nil)) pe_int) pe_int) (pv 1))))))))))), ?_⟩
    refine ⟨_, rfl, g, _, _, _, rfl, rfl, SqL.of hg, rfl, _, _, rfl, rfl, _, rfl, g, _, _, _, rfl, rfl, hg, rfl, ?_⟩
    refine ⟨⟨fun σ' H' => Wd (∃ (i r s c : Int) (v : Option V), σ' = [some (.ref g), some (.int z), v, none, none] ∧ 0 ≤ i ∧ H' g = some (.lst [.ref l, .int i, .int r, .int s, .int c]) ∧ H' l = some (.lst (ns.map V.int)) ∧ Kp g H H'), ?_, ?_⟩⟩
    · walk_at "go"
      refine if_int (fun e0 => ?_) (fun e0 => ?_)
      · walk_at "go"
        refine if_dec (fun e1 => ?_) (fun e1 => ?_)
        · obtain ⟨n, hn⟩ := at_ints (ns := ns) hi (by simpa using e1)
          walk_at "go"
          exact ⟨i + 1, _, _, c + 1, _, rfl, by omega, upd_same, by walk_at "at", (((Kp.refl g H).up.up.up.up))⟩
        · exact ⟨i, r, sd, c + 1, none, rfl, hi, upd_same, by walk_at "at", (Kp.refl g H).up⟩
      · refine iteF ?_
        exact ⟨i, r, sd, c + 1, none, rfl, hi, upd_same, by walk_at "at", (Kp.refl g H).up⟩
    · rintro σ' H' ⟨i, r, s, c, v, rfl, hi, hg, hl, kp⟩
      walk_at "go"
      refine if_dec (fun e1 => ?_) (fun e1 => ?_)
      · walk_at "go"
        exact k _ _ (Int.emod_nonneg _ (by omega)) (Int.emod_lt_of_pos _ hz) ⟨i, _, s, c, ns, upd_same, by walk_at "at", hi⟩ kp.up
      · walk_at "go"
        exact k _ _ (Int.emod_nonneg _ (by omega)) (Int.emod_lt_of_pos _ hz) ⟨i, r, s, c, ns, hg, hl, hi⟩ kp
end

/-! ### calls in the body of a try: what they raise is wished for at the slots as they stand -/
section
open PySem.Spec PyProof.Rows
variable {X : Cx} {CX : CXT} {k : Nat} {f C : Addr} {fd : FuncData} {ps : List Str} {sp : Sp} {dvs : List V} {ds : List Value} {E : L2.St → XK} {x m : Str} {p pos apos : Pos} {e o : Expr} {es : List Expr} {ta : TE} {t : TA}
theorem run_mkS {pins : List (Addr × Obj)} {σ : L2.St} {H : Hp} {s : Shared} {Q : VK} {us : List Value} {vs : List V} (M : Mk X.K C f) (F : FnOk X.prog X.w X.K X.mg X.base CX k f fd ps sp)
    (hr : Room (k + 1) X.A) (hb : Binds X.K fd ps ds) (hd : Vals dvs ds) (hx : PassesAt CX X σ (E σ)) (I : Inv X pins σ H s) (r : Vals vs us)
    (h : ∀ x dx, H x = none → H dx = none → dx ≠ x → sp (.ref x :: (vs ++ dvs)) (upd (upd H dx (.own x)) x (.ins C dx [])) (fun v H2 => v = .non ∧ Q (.ref x) H2) (E σ)) :
    wpAny (model X.prog X.w) X.A (call (.ref C) us) (EP X pins σ Q) X.xe s := by
  have a1 := h (s.heap.objs.size + 1) s.heap.objs.size (I.hok.fresh (Nat.le_succ _)) (I.hok.fresh (Nat.le_refl _)) (Nat.ne_of_lt (Nat.lt_succ_self _))
  have J := Inv.made (C := C) I
  have a2 : Vals (V.ref (s.heap.objs.size + 1) :: (vs ++ dvs)) (Value.ref (s.heap.objs.size + 1) :: (us ++ ds)) := .cons rfl (r.append hd)
  have a3 : (Value.ref (s.heap.objs.size + 1) :: us ++ ds).length = ps.length := by
    have z := a2.length
    rw [F.len _ _ _ _ a1] at z
    exact z.symm
  refine wpAny_call (make_map (f := f) I.kIn M.makes M.init (beq_iff_eq.mp M.fn) (codeAny_mono (F.run _ X.stack _ _ ⟨Value.ref (s.heap.objs.size + 1) :: us, []⟩
    (Value.ref (s.heap.objs.size + 1) :: (us ++ ds)) _ _ (E σ) (hr.make C us []) (J.env0.make C us []) (hb _ (Value.ref (s.heap.objs.size + 1) :: us) J.kIn a3) a2 a1) fun r s' z => ?_))
  cases r with
  | error u => exact hx pins _ _ u s' J z
  | ok fl =>
    cases fl with
    | ret u =>
      obtain ⟨v, H', J3, rv, ev, q3⟩ := J.after z
      subst ev
      exact ⟨rv, V.ref (s.heap.objs.size + 1), H', J3, rfl, q3⟩
    | next => exact z.elim
    | brk => exact z.elim
    | cont => exact z.elim
def tMakeS (C : Addr) (sp : Sp) (dvs : List V) (E : L2.St → XK) (t : TA) : TE := fun σ H Q => t σ H fun vs H1 => ∀ x dx, H1 x = none → H1 dx = none → dx ≠ x →
  sp (.ref x :: (vs ++ dvs)) (upd (upd H1 dx (.own x)) x (.ins C dx [])) (fun v H2 => v = .non ∧ Q (.ref x) H2) (E σ)
theorem pe_makeS (M : Mk X.K C f) (F : FnOk X.prog X.w X.K X.mg X.base CX k f fd ps sp) (hr : Room (k + 1) X.A) (hg : Gl X x) (hm : X.mg x = some (.ref C)) (hb : Binds X.K fd ps ds) (hd : Vals dvs ds) (hx : ∀ σ, PassesAt CX X σ (E σ))
    (ha : PA X (e :: es) t) (hdb : (x == ("__debug__" : Str)) = false := by decide) (he : starEach (e :: es) X.env = (false, eval e X.env) :: starEach es X.env := by rfl)
    (hpl : (backTo pos (starEach es X.env)).any (·.1) = false := by rfl) : PE X (.Call (.Name x p) (e :: es) [] pos) (tMakeS C sp dvs E t) := ⟨fun pins s σ H Q I h =>
  wpAny_Call_Name_kw (ld_glob I hg hm (PySem.W.callWith_K (h₀ := X.base) I.ok.mod.kin M.kp (thn (ha.run pos pins s σ H _ I h) fun us s1 ⟨vs, H1, I1, r, q⟩ => ⟨I1.kIn, run_mkS M F hr hb hd (hx σ) I1 r q⟩) he hpl) hdb)⟩
def tMethS (C : Addr) (m : Str) (sp : Sp) (E : L2.St → XK) (ta : TE) (t : TA) : TE := fun σ H Q => ta σ H fun x H1 => ∃ a dx fs, x = .ref a ∧ H1 a = some (.ins C dx fs) ∧ fs.lookup m = none ∧
  t σ H1 fun vs H2 => sp (.ref a :: vs) H2 Q (E σ)
theorem pe_methA {pl : Sem Bool} (he : PE X o ta) (c : Cls X.K C) (hm : Meth X.K C m f) (F : FnOk X.prog X.w X.K X.mg X.base CX k f fd ps sp) (hr : Room k X.A) (hb : Binds X.K fd ps []) (hx : ∀ σ, PassesAt CX X σ (E σ)) (ha : PA X (e :: es) t)
    (hst : starEach (e :: es) X.env = (false, eval e X.env) :: starEach es X.env := by rfl) (hpl : (backTo pos (starEach es X.env)).any (·.1) = false := by rfl)
    (ht : eval (.Call (.Attribute o m apos) (e :: es) [] pos) X.env = (eval o X.env >>= fun ov => standAt apos.atName >>= fun _ => holding [ov] (getMethod ov m pl) >>= fun (f, first) =>
      callWith pos f first (backTo pos (starEach (e :: es) X.env)) (backToKw pos (keywordEach [] X.env))) := by rfl) :
    PE X (.Call (.Attribute o m apos) (e :: es) [] pos) (tMethS C m sp E ta t) := by
  refine ⟨fun pins s σ H Q I h => ?_⟩
  refine PySem.W.methodCall_KW (pl := pl) (thn (he.run pins s σ H _ I h) fun u s1 ⟨x, H1, I1, rx, a, dx, fs, ex, ea, l, q⟩ => ?_) ht
  cases ex
  obtain rfl : u = Value.ref a := rx
  exact getmeth_ok I1 ea c hm l (PySem.W.callWith_K (first := [.ref a]) (h₀ := X.base) I.ok.mod.kin hm.kp (thn (ha.run pos pins s1 σ H1 _ I1 q) fun us s2 ⟨vs, H2, I2, r, q2⟩ =>
    ⟨I2.kIn, run_fnS (E := E) (us := .ref a :: us) (vs := .ref a :: vs) F hr hb (hx σ) I2 (.cons rfl r) q2⟩) hst hpl)

def oe0 : Obj := { cls := .none, data := .fields #[] }
variable {n : Str} {c : Value} {i : Nat} {body suite : List Stmt} {b0 : Stmt} {np pos' : Pos} {Wout : WX}
  {tb : WX → List (Addr × Obj) → (Value → Shared → Prop) → TS} {ts : Addr → Obj → Value → Option Addr → List (Addr × Obj) → TS}
/-- try: .. except x as n: .., the readings of the body and of the suite free of what they can't hang on (both shown by rfl) -/
theorem ps_tryV (hs : X.stack = X.env :: X.outer) (hf : X.env.frame = some X.env.locals) (hN : X.N.Nodup) (hi : X.N[i]? = some n) (hln : X.env.kindOf n = some .local) (hc : Names X x c) (tk : Takes X Wout)
    (hb : ∀ (W : WX) (pn : List (Addr × Obj)) (xe : Value → Shared → Prop), Takes (X.tr pn xe) W → PassesOwn (model X.prog X.w) X.A X.env xe → PSs (X.tr pn xe) body (tb W pn xe))
    (hsu : ∀ (a : Addr) (oe : Obj) (cls : Value) (d : Option Addr) (pn : List (Addr × Obj)), Zc cls d oe → (∃ vs, oe.data = .fields vs) → PSs (X.suite a ((a, oe) :: pn)) (b0 :: suite) (ts a oe cls d pn))
    (e1 : ∀ W pn xe, tb W pn xe = tb W [] (fun _ _ => False)) (e2 : ∀ a oe cls d pn, ts a oe cls d pn = ts a oe0 cls d []) :
    PS X (.Try body [.ExceptHandler (some (.Name x np)) (some n) (b0 :: suite) pos'] [] [] pos) (fun D σ H => tb (wAs X.K c i (fun a cls d => ts a oe0 cls d []) Wout D) [] (fun _ _ => False) D σ H) :=
  ps_try_as (tb := fun W => tb W [] (fun _ _ => False)) (ts := fun a cls d => ts a oe0 cls d []) hs hf hN hi hln hc tk (fun W pn xe k po => by rw [← e1 W pn xe]; exact hb W pn xe k po)
    (fun a oe cls d pn z f => by rw [← e2 a oe cls d pn]; exact hsu a oe cls d pn z f)
/-- isinstance(e, C) of the error that the suite holds, one without a dict of its own -/
def rIsEV (K : PySem.W.Frag) (cls : Value) (d : Option Addr) (a : Addr) : List V → Hp → VK → Prop := fun xs H Q => ∃ (D : Addr) (c : V) (cv : Value) (b : Bool), cls = .ref D ∧ d = none ∧ ExcC K D ∧ xs = [.ref a, c] ∧ (∀ u, RelV c u → u = cv) ∧ PySem.W.kitOne K (.ref D) cv = some b ∧ Q (.bl b) H
theorem call_isEV {a : Addr} {oe : Obj} {cls : Value} {d : Option Addr} {pn : List (Addr × Obj)} (hz : Zc cls d oe) (hf : ∃ vs, oe.data = .fields vs) : CallR (X.suite a ((a, oe) :: pn)) (.builtin "isinstance") (rIsEV X.K cls d a) := by
  intro pins s σ H xs us Q I r h
  obtain ⟨D, c, cv, b, rfl, rfl, C, h⟩ := h
  exact call_isE C hz hf pins s σ H xs us Q I r ⟨c, cv, b, h⟩
end
/-! ### list comprehensions: the readings of their parts free of what they can't hang on -/
section
open PySem.Spec PyProof.Rows
variable {X : Cx} {elt tg iter : Expr} {ifs : List Expr} {scope : Scope} {own : List (Str × Nat)} {pos spos py : Pos} {wi : TI} {i : Nat} {y : Str}
abbrev Bk (α : Type) := Shared → Hp → Addr → List (Str × Addr) → List Addr → α
abbrev Bk.at0 {α : Type} (f : Bk α) (X : Cx) : α := f X.s_0 X.H_0 0 [] []
variable {g : Bk TG} {tt : Bk TT} {te : Bk TE}
theorem pe_lcV (hc : X.calm = true) (hN : X.N.Nodup) (hi : PI X tg iter wi) (ok : BlkOk X.N X.env.scope scope own)
    (hg : ∀ s H C cl fp, PG (X.blk s H scope (compEnvC scope cl C X.env) fp) tg (g s H C cl fp)) (ht : ∀ s H C cl fp, PTs (X.blk s H scope (compEnvC scope cl C X.env) fp) ifs (tt s H C cl fp))
    (he : ∀ s H C cl fp, PE (X.blk s H scope (compEnvC scope cl C X.env) fp) elt (te s H C cl fp)) (e1 : ∀ s H C cl fp, g s H C cl fp = g.at0 X) (e2 : ∀ s H C cl fp, tt s H C cl fp = tt.at0 X)
    (e3 : ∀ s H C cl fp, te s H C cl fp = te.at0 X) (hs : ∀ x, foldedSetIterable iter X.env x = pure x := by intro _; rfl) :
    PE X (.ListComp elt [⟨tg, iter, ifs, 0⟩] scope pos) (tLc wi (g.at0 X) (tt.at0 X) (te.at0 X) (own.map (·.2))) :=
  pe_lc hc hN hi ok (fun s H C cl fp => by rw [← e1 s H C cl fp]; exact hg s H C cl fp) (fun s H C cl fp => by rw [← e2 s H C cl fp]; exact ht s H C cl fp) (fun s H C cl fp => by rw [← e3 s H C cl fp]; exact he s H C cl fp) hs
theorem ps_setLcV (hc : X.calm = true) (hN : X.N.Nodup) (hy : X.N[i]? = some y) (hyl : X.env.scope.names.lookup y = some .local)
    (hsw : swapsWith (.ListComp elt [⟨tg, iter, ifs, 0⟩] scope pos) (some (.Name y py)) spos.line X.env = pure true) (hi : PI X tg iter wi) (ok : BlkOk X.N X.env.scope scope own)
    (hg : ∀ s H C cl fp, PG (X.blk s H scope (compEnvC scope cl C X.env) fp) tg (g s H C cl fp)) (ht : ∀ s H C cl fp, PTs (X.blk s H scope (compEnvC scope cl C X.env) fp) ifs (tt s H C cl fp))
    (he : ∀ s H C cl fp, PE (X.blk s H scope (compEnvC scope cl C X.env) fp) elt (te s H C cl fp)) (e1 : ∀ s H C cl fp, g s H C cl fp = g.at0 X) (e2 : ∀ s H C cl fp, tt s H C cl fp = tt.at0 X)
    (e3 : ∀ s H C cl fp, te s H C cl fp = te.at0 X) (hs : ∀ x, foldedSetIterable iter X.env x = pure x := by intro _; rfl) :
    PS X (.Assign [.Name y py] (.ListComp elt [⟨tg, iter, ifs, 0⟩] scope pos) spos) (tAsg (tLc wi (g.at0 X) (tt.at0 X) (te.at0 X) (own.map (·.2))) (gName i)) :=
  ps_setLc hc hN hy hyl hsw hi ok (fun s H C cl fp => by rw [← e1 s H C cl fp]; exact hg s H C cl fp) (fun s H C cl fp => by rw [← e2 s H C cl fp]; exact ht s H C cl fp) (fun s H C cl fp => by rw [← e3 s H C cl fp]; exact he s H C cl fp) hs
end

/-! ### errors of own classes with fields -/
section
open PySem.Spec PyProof.Rows
variable {X : Cx} {CX : CXT} {k n : Nat} {f C CE : Addr} {fd : FuncData} {ps ks : List Str} {sp : Sp} {ds : List Value} {dvs : List V} {x : Str} {p p1 p2 pos : Pos} {e : Expr} {es : List Expr} {kws : List Keyword} {ta t tk : TA} {te : TE}
/-- B.__init__(self, ..), B an own class that has it from ValueError -/
theorem pe_ceinit {pl : Sem Bool} (hg : Gl X x) (hm : X.mg x = some (.ref CE)) (rd : PySem.W.readsIn X.K CE (.type "type") = true) (ga : PySem.W.specialIn X.K (.ref CE) "__getattribute__" = some (some (.builtin "type.__getattribute__")))
    (vV : PySem.W.findCls X.K (.ref CE) (.type "type") "__init__" = some (.val (.builtin "ValueError.__init__"))) (ha : PA X (e :: es) ta) (hdb : (x == ("__debug__" : Str)) = false := by decide)
    (hc : eval (.Call (.Attribute (.Name x p1) "__init__" p2) (e :: es) [] pos) X.env = (eval (.Name x p1) X.env >>= fun ov => standAt p2.atName >>= fun _ => holding [ov] (getMethod ov "__init__" pl) >>= fun (f, first) =>
      callWith pos f first (backTo pos (starEach (e :: es) X.env)) (backToKw pos (keywordEach [] X.env))) := by rfl)
    (he : starEach (e :: es) X.env = (false, eval e X.env) :: starEach es X.env := by rfl) (hpl : (backTo pos (starEach es X.env)).any (·.1) = false := by rfl) :
    PE X (.Call (.Attribute (.Name x p1) "__init__" p2) (e :: es) [] pos) (tVeI X.K ta) := by
  refine ⟨fun pins s σ H Q I h => ?_⟩
  refine PySem.W.methodCall_KW (ld_glob I hg hm ?_ hdb) hc
  refine PySem.W.method_cls I.kIn ga (PySem.W.cls_value I.kIn rd vV (by decide +kernel) ?_)
  refine callWith_method1 (first := []) (id := "ValueError.__init__") (thn (ha.run pos pins _ σ H _ (I.tok _) h) fun us s1 z => ?_) he hpl
  obtain ⟨vs, H1, J, r1, a, C, ws, rfl, hl, T, ea, q⟩ := z
  obtain ⟨u0, ur, rfl, ra, rr⟩ : ∃ u0 ur, us = u0 :: ur ∧ RelV (.ref a) u0 ∧ Vals ws ur := by
    cases r1 with
    | cons a1 b1 => exact ⟨_, _, rfl, a1, b1⟩
  obtain rfl : u0 = Value.ref a := ra
  exact oinit_ok T J ea (by rw [← rr.length, sizeLine_eq]; omega) fun s' J' => ⟨.non, H1, J', rfl, q⟩
/-- isinstance(e, C) of the error that the suite holds, one with a dict of its own -/
def rIsEW (K : PySem.W.Frag) (cls : Value) (d : Option Addr) (a : Addr) : List V → Hp → VK → Prop := fun xs H Q => ∃ (D dd : Addr) (fs : List (Str × V)) (c : V) (cv : Value) (b : Bool), cls = .ref D ∧ d = some dd ∧ H dd = some (.xd fs) ∧ ExcC K D ∧ xs = [.ref a, c] ∧
  (∀ u, RelV c u → u = cv) ∧ PySem.W.kitOne K (.ref D) cv = some b ∧ Q (.bl b) H
theorem call_isEW {a : Addr} {oe : Obj} {cls : Value} {d : Option Addr} {pn : List (Addr × Obj)} (hz : Zc cls d oe) (hf : ∃ vs, oe.data = .fields vs) : CallR (X.suite a ((a, oe) :: pn)) (.builtin "isinstance") (rIsEW X.K cls d a) := by
  intro pins s σ H xs us Q I r h
  obtain ⟨D, dd, fs, c, cv, b, rfl, rfl, hd, Z, rfl, hcv, hk, q⟩ := h
  obtain ⟨u1, u2, rfl, r1, r2⟩ : ∃ u1 u2, us = [u1, u2] ∧ RelV (.ref a) u1 ∧ RelV c u2 := by
    cases r with
    | cons a1 b1 =>
      cases b1 with
      | cons a2 b2 =>
        cases b2
        exact ⟨_, _, rfl, a1, a2⟩
  obtain rfl : u1 = Value.ref a := r1
  obtain rfl := hcv _ r2
  obtain ⟨hget, _⟩ := I.pin (a, oe) (List.mem_append_left _ List.mem_cons_self)
  obtain ⟨vs, hv⟩ := hf
  obtain ⟨mA, hns, _⟩ := (show ObjOk X.prog X.w H s.heap dd (.xd fs) from I.hok dd _ hd)
  obtain ⟨od, ho, _⟩ := lookIn_ns hns
  have J : PySem.W.InstAt s.heap a oe D (some od) := ⟨hget, hz.1, by unfold PySem.W.notCls; rw [hv] <;> rfl, by rw [hz.2]; exact ho⟩
  obtain ⟨cd, hcd, _⟩ := PySem.W.any_some Z.hd
  exact PySem.W.kia_one (PySem.W.kitx_exc (by rw [hcd]; rfl) Z.hg Z.hk Z.hs Z.ha Z.hn Z.ht Z.hm) I.kIn J hk (fun z => nomatch z) fun tk => ⟨.bl b, H, I.kept (t' := tk) fun _ _ z => z, rfl, q⟩
/-- C(.., k = v, ..) in the body of a try -/
def tMakeKS (C : Addr) (n m : Nat) (sp : Sp) (gV : List V → List V → List V) (E : L2.St → XK) (t tk : TA) : TE := fun σ H Q => t σ H fun vs H1 => tk σ H1 fun zs H2 => vs.length = n ∧ zs.length = m ∧ ∀ x dx, H2 x = none → H2 dx = none → dx ≠ x →
  sp (gV (.ref x :: vs) zs) (upd (upd H2 dx (.own x)) x (.ins C dx [])) (fun v H3 => v = .non ∧ Q (.ref x) H3) (E σ)
theorem pe_makeKS {g : List Value → List Value → List Value} {gV : List V → List V → List V} {E : L2.St → XK} (M : Mk X.K C f) (F : FnOk X.prog X.w X.K X.mg X.base CX k f fd ps sp) (hr : Room (k + 1) X.A) (hg : Gl X x) (hm : X.mg x = some (.ref C)) (hb : KBn X.K fd ps (n + 1) ks g gV)
    (hx : ∀ σ, PassesAt CX X σ (E σ)) (ha : PA X (e :: es) t) (hkw : PK X kws tk)
    (hall : (backToKw pos (keywordEach kws X.env)).all (·.1.isSome) = true := by rfl) (hks : (backToKw pos (keywordEach kws X.env)).filterMap (·.1) = ks := by rfl) (hdb : (x == ("__debug__" : Str)) = false := by decide)
    (he : starEach (e :: es) X.env = (false, eval e X.env) :: starEach es X.env := by rfl) (hpl : ((backTo pos (starEach (e :: es) X.env)).any (·.1) || (backToKw pos (keywordEach kws X.env)).any (·.1.isNone)) = false := by rfl) :
    PE X (.Call (.Name x p) (e :: es) kws pos) (tMakeKS C n ks.length sp gV E t tk) := by
  refine ⟨fun pins s σ H Q I h => wpAny_Call_Name_kw (ld_glob I hg hm (PySem.W.callWith_KW (h₀ := X.base) I.ok.mod.kin M.kp hall (thn (ha.run pos pins s σ H _ I h) fun us s1 z => ?_) hpl he) hdb)⟩
  obtain ⟨vs, H1, I1, r, q⟩ := z
  refine thn (hkw.run pos pins s1 σ H1 _ I1 q) fun ws s2 z => ?_
  obtain ⟨zs, H2, I2, rz, l1, l2, q2⟩ := z
  refine ⟨I2.kIn, ?_⟩
  rw [hks]
  have a1 := q2 (s2.heap.objs.size + 1) s2.heap.objs.size (I2.hok.fresh (Nat.le_succ _)) (I2.hok.fresh (Nat.le_refl _)) (Nat.ne_of_lt (Nat.lt_succ_self _))
  have J := Inv.made (C := C) I2
  have r1 : Vals (V.ref (s2.heap.objs.size + 1) :: vs) (Value.ref (s2.heap.objs.size + 1) :: us) := .cons rfl r
  refine wpAny_call (make_map (f := f) I2.kIn M.makes M.init (beq_iff_eq.mp M.fn) (codeAny_mono (F.run _ X.stack _ _ ⟨Value.ref (s2.heap.objs.size + 1) :: us, ks.zip ws⟩ (g (Value.ref (s2.heap.objs.size + 1) :: us) ws) _ _ (E σ) (hr.make C us (ks.zip ws))
    (J.env0.make C us (ks.zip ws)) (hb.to _ (Value.ref (s2.heap.objs.size + 1) :: us) ws J.kIn (by rw [List.length_cons, ← r.length, l1]) (rz.length.symm.trans l2)) (hb.rel r1 rz) a1) fun o s' z => ?_))
  cases o with
  | error u => exact hx σ pins _ _ u s' J z
  | ok fl =>
    cases fl with
    | ret u =>
      obtain ⟨v, H', J3, rv, ev, q3⟩ := J.after z
      subst ev
      exact ⟨rv, V.ref (s2.heap.objs.size + 1), H', J3, rfl, q3⟩
    | next => exact z.elim
    | brk => exact z.elim
    | cont => exact z.elim
end
/-- C.__init__(self, v): the error gets its dict with one field -/
def spExc1 (C : Addr) (f : Str) : Sp := fun vs H Q _ => ∃ (a : Addr) (v : V), vs = [.ref a, v] ∧ H a = some (exo a C none) ∧ ∀ d, H d = none → d ≠ a → Q .non (upd (upd H d (exd d [(f, v)])) a (exo a C (some d)))

/-! ### operators that an own class defines -/
section
open PySem.W PySem.Calls PyProof.Rows
variable {prog : Program} {w : World} {A : Around} {E : Value → Shared → Prop} {s : Shared} {K : PySem.W.Frag} {x y C f r : Addr} {ox oy : Obj} {od : Option Obj} {nm : String}
/-- a op b, two instances of one class -/
theorem b1_same {b : Value} {Q : Value → Shared → Prop} (X : K.In s.heap) (I : InstAt s.heap x ox C od) (hb : Looks (model prog w) s.heap (typeOf b) (.ref C)) (hc : selfFirst K C = true)
    (hs : findIn K (.ref C) (PySem.dunder nm) = some (some (.ref f))) (hf : isFn K (.ref f) = true) (h : wpAny (model prog w) A (call (.ref f) [.ref x, b]) (PySem.W.CmpBack Q) E s) :
    wpAny (model prog w) A (binaryOp1 nm (.ref x) b) (fun o s' => ∃ v, o = some v ∧ Q v s') E s := by
  obtain ⟨cd, rest, hcd, hm⟩ := ksp_first hc
  have one := ksp_try X I hs hf h
  unfold binaryOp1
  refine wpAny_bind (I.type.here (wpAny_bind (hb.here (wpAny_bind ((fills_K X hcd hm hs).here ?_)))))
  simp only [beq_self_eq_true, if_true]
  refine wpAny_bind (wpAny_pure ?_)
  simp only [Bool.and_false, Bool.false_eq_true, if_false, Bool.false_and]
  refine wpAny_bind (wpAny_pure ?_)
  simp only [Bool.false_eq_true, if_false]
  refine wpAny_bind (wpAny_mono one (fun o s' ho => ?_) fun _ _ e => e)
  obtain ⟨v, rfl, hq⟩ := ho
  exact wpAny_pure ⟨v, rfl, hq⟩
/-- a op n, n an int -/
theorem b1_int {i : Int} {t : Tok} {fo ro rc : Option Value} {Q : Value → Shared → Prop} (X : K.In s.heap) (I : InstAt s.heap x ox C od) (hc : selfFirst K C = true)
    (hs : findIn K (.ref C) (PySem.dunder nm) = some (some (.ref f))) (hf : isFn K (.ref f) = true) (hr : findIn K (.ref C) (dunderR nm) = some rc) (hp : rc = none ∨ ∃ g : Addr, rc = some (.ref g))
    (h1 : findIn K (.type "int") (PySem.dunder nm) = some fo) (h2 : findIn K (.type "int") (dunderR nm) = some ro) (hsub : subIn K (.type "int") (.ref C) = some false)
    (h : wpAny (model prog w) A (call (.ref f) [.ref x, .int i t]) (PySem.W.CmpBack Q) E s) : wpAny (model prog w) A (binaryOp1 nm (.ref x) (.int i t)) (fun o s' => ∃ v, o = some v ∧ Q v s') E s := by
  obtain ⟨cd, rest, hcd, hm⟩ := ksp_first hc
  have one := ksp_try X I hs hf h
  obtain ⟨hh, g, d, tt, os⟩ := s
  have L1 : Looks (model prog w) hh (typeOf (.ref x)) (.ref C) := I.type
  have L2 : Looks (model prog w) hh (typeOf (.int i t)) (.type "int") := Looks.of_pure rfl
  have L3 : Looks (model prog w) hh (fillsNumberSlot (.ref C) nm) true := fills_K X hcd hm hs
  have L4 : Looks (model prog w) hh (fillsNumberSlot (.type "int") nm) ((fo.isSome && !isSeqSlot fo) || (ro.isSome && !isSeqSlot ro)) := ksp_fillsT X h1 h2
  have L5 : Looks (model prog w) hh (isSubtype (.type "int") (.ref C)) false := looks_subIn X hsub
  have L6 : Looks (model prog w) hh (numberSlotInPython (.ref C) nm) true := ksp_inPy X hs hr hp
  have L7 : Looks (model prog w) hh (numberSlotInPython (.type "int") nm) false := Looks.of_pure rfl
  have L8 : Looks (model prog w) hh (typeLookup (.type "int") (dunderR nm)) ro := looks_findIn X h2
  generalize ((fo.isSome && !isSeqSlot fo) || (ro.isSome && !isSeqSlot ro)) = right at L4
  have hne : (Value.ref C == Value.type "int") = false := Bool.eq_false_iff.mpr fun q => by cases beq_iff_eq.mp q
  unfold binaryOp1
  refine wpAny_bind (L1.at (wpAny_bind (L2.at (wpAny_bind (L3.at ?_)))))
  simp only [hne, Bool.false_eq_true, if_false]
  cases right with
  | false =>
    ksp_lk
    refine wpAny_mono one (fun o s' ho => ?_) fun _ _ e => e
    obtain ⟨v, rfl, hq⟩ := ho
    ksp_lk
    exact ⟨v, rfl, hq⟩
  | true =>
    ksp_lk
    refine wpAny_mono one (fun o s' ho => ?_) fun _ _ e => e
    obtain ⟨v, rfl, hq⟩ := ho
    ksp_lk
    exact ⟨v, rfl, hq⟩
/-- n op a, n an int: int's own way declines, the reflected one serves -/
theorem b1_rint {i : Int} {t : Tok} {id : String} {bi : Builtin} {Q : Value → Shared → Prop} (X : K.In s.heap) (I : InstAt s.heap y oy C od) (hc : selfFirst K C = true)
    (hs : findIn K (.ref C) (PySem.dunder nm) = some (some (.ref f))) (hr : findIn K (.ref C) (dunderR nm) = some (some (.ref r))) (hf : isFn K (.ref r) = true)
    (hfi : fillsNumberSlot (.type "int") nm = pure true) (hsub : subIn K (.ref C) (.type "int") = some false) (slot : Slot "int" (PySem.dunder nm) id) (entry : entryFor table id = some bi)
    (args : argsOk id ⟨[.int i t, .ref y], []⟩) (dec : wpAny (model prog w) A.in1 (bi ⟨[.int i t, .ref y], []⟩) (fun fin s' => fin = .done (.ret .notImplemented) ∧ s' = s) E s)
    (h : wpAny (model prog w) A (call (.ref r) [.ref y, .int i t]) (PySem.W.CmpBack Q) E s) : wpAny (model prog w) A (binaryOp1 nm (.int i t) (.ref y)) (fun o s' => ∃ v, o = some v ∧ Q v s') E s := by
  obtain ⟨cd, rest, hcd, hm⟩ := ksp_first hc
  have one := ksp_try X I hr hf h
  have two : wpAny (model prog w) A (call (.builtin id) [.int i t, .ref y]) (fun v s' => v = .notImplemented ∧ s' = s) E s :=
    wpAny_call_entry slot rfl entry (wpAny_mono dec (fun fin s' z => ⟨_, z.1, rfl, z.2⟩) fun _ _ e => e) args
  obtain ⟨hh, g, d, tt, os⟩ := s
  have L1 : Looks (model prog w) hh (typeOf (.ref y)) (.ref C) := I.type
  have L2 : Looks (model prog w) hh (typeOf (.int i t)) (.type "int") := Looks.of_pure rfl
  have L3 : Looks (model prog w) hh (fillsNumberSlot (.ref C) nm) true := fills_K X hcd hm hs
  have L4 : Looks (model prog w) hh (fillsNumberSlot (.type "int") nm) true := Looks.of_pure hfi
  have L5 : Looks (model prog w) hh (isSubtype (.ref C) (.type "int")) false := looks_subIn X hsub
  have L7 : Looks (model prog w) hh (numberSlotInPython (.type "int") nm) false := Looks.of_pure rfl
  have hne : (Value.type "int" == Value.ref C) = false := Bool.eq_false_iff.mpr fun q => by cases beq_iff_eq.mp q
  unfold binaryOp1
  refine wpAny_bind (L2.at (wpAny_bind (L1.at (wpAny_bind (L4.at ?_)))))
  simp only [hne, Bool.false_eq_true, if_false]
  ksp_lk
  refine wpAny_tryMethod_declines (s := ⟨hh, g, d, tt, os⟩) (T := "int") rfl slot (wpAny_mono two (fun v s' z => ⟨z.1, ?_⟩) fun _ _ e => e)
  obtain ⟨_, rfl⟩ := z
  ksp_lk
  refine wpAny_mono one (fun o s' ho => ?_) fun _ _ e => e
  obtain ⟨v, rfl, hq⟩ := ho
  ksp_lk
  exact ⟨v, rfl, hq⟩
/-- int's own way with an instance declines -/
theorem int_declines {i : Int} {t : Tok} {dx : Addr} {name : String} {g : Int → Int → Sem Fin} (hy : s.heap.get? y = some (instObj C dx)) :
    wpAny (model prog w) A (Builtin.Int.intBinary name g false ⟨[.int i t, .ref y], []⟩) (fun fin s' => fin = .done (.ret .notImplemented) ∧ s' = s) E s := by
  obtain ⟨hh, gg, d, tt, os⟩ := s
  wp_walk using wpAny_load hy
  exact ⟨rfl, rfl⟩
theorem fillsI_no {M : Model} {h : Heap} {add : Bool} (X : K.In h) (hn : noI K C nm = true) : Looks M h (fillsInplaceSlot (.ref C) nm add) false := by
  obtain ⟨cd, hcd, hall⟩ := any_some hn
  intro A Q E s k q
  have Lm : Looks M h (mroOf (.ref C)) cd.mro := (looks_clsIn X hcd).andThen (f := fun cd => pure cd.mro) .now
  unfold fillsInplaceSlot
  refine wpAny_bind (Lm A _ E s k ?_)
  have X' : K.In s.heap := X.keeps k
  generalize cd.mro = l at hall
  induction l with
  | nil => exact wpAny_pure q
  | cons c l ih =>
    rw [List.all_cons, Bool.and_eq_true] at hall
    rw [List.anyM_cons]
    refine wpAny_bind (wpAny_bind ((looks_findIn X' (beq_iff_eq.mp hall.1)).here ?_))
    refine wpAny_pure ?_
    exact ih hall.2
end
section
open PySem.Spec PyProof.Rows
variable {X : Cx} {CX : CXT} {k : Nat} {f r C : Addr} {fd : FuncData} {ps : List Str} {sp : Sp} {E : XK} {nm : String} {op : Operator}
/-- what the written part says of a class with __op__ (f) and __rop__ (r) -/
structure OwnOp (K : PySem.W.Frag) (C f r : Addr) (nm : String) : Prop where
  hc : PySem.W.selfFirst K C = true
  hs : PySem.W.findIn K (.ref C) (PySem.dunder nm) = some (some (.ref f))
  hf : PySem.W.isFn K (.ref f) = true
  hr : PySem.W.findIn K (.ref C) (dunderR nm) = some (some (.ref r))
  hg : PySem.W.isFn K (.ref r) = true
  h1 : ∃ fo, PySem.W.findIn K (.type "int") (PySem.dunder nm) = some fo
  h2 : ∃ ro, PySem.W.findIn K (.type "int") (dunderR nm) = some ro
  sub : PySem.W.subIn K (.type "int") (.ref C) = some false
  sub2 : PySem.W.subIn K (.ref C) (.type "int") = some false
theorem back_of {pins : List (Addr × Obj)} {σ : L2.St} {Q : VK} {u : Value} {s : Shared} (h : EP X pins σ Q u s) : PySem.W.CmpBack (EP X pins σ Q) u s := by
  obtain ⟨v, H', I, rv, q⟩ := h
  have h : EP X pins σ Q u s := ⟨v, H', I, rv, q⟩
  cases v with
  | non => cases rv; exact h
  | bl b => cases rv; exact h
  | int i => obtain ⟨t, rfl⟩ := rv; exact h
  | str i => obtain ⟨t, rfl⟩ := rv; exact h
  | byt i => obtain ⟨t, rfl⟩ := rv; exact h
  | flt i => obtain ⟨t, rfl⟩ := rv; exact h
  | ref a => cases rv; exact h
  | ty n => cases rv; exact h
/-- a op b: the operand's own method -/
def rOwn (C : Addr) (sp : Sp) (E : XK) : R2 := fun x y H Q => Wd (∃ a dx fs, x = .ref a ∧ H a = some (.ins C dx fs) ∧ ((∃ i, y = .int i) ∨ ∃ b dy gs, y = .ref b ∧ H b = some (.ins C dy gs)) ∧ sp [x, y] H Q E)
theorem own1 (O : OwnOp X.K C f r nm) (F : FnOk X.prog X.w X.K X.mg X.base CX k f fd ps sp) (hrm : Room k X.A) (hb : Binds X.K fd ps []) (hx : Passes CX X E) {pins : List (Addr × Obj)} {s : Shared} {σ : L2.St} {H : Hp} {x y : V} {v u : Value} {Q : VK}
    (I : Inv X pins σ H s) (rx : RelV x v) (ry : RelV y u) (h : rOwn C sp E x y H Q) : wpAny (model X.prog X.w) X.A (binaryOp1 nm v u) (fun o s' => ∃ z, o = some z ∧ EP X pins σ Q z s') X.xe s := by
  obtain ⟨a, dx, fs, rfl, ha, hy, h⟩ := h.ok
  obtain rfl : v = Value.ref a := rx
  obtain ⟨mA, O1, _⟩ := ins_get I.hok ha
  obtain ⟨od, J, _⟩ := O1.look
  have fin : wpAny (model X.prog X.w) X.A (call (.ref f) [.ref a, u]) (PySem.W.CmpBack (EP X pins σ Q)) X.xe s :=
    thn (run_fn (us := [.ref a, u]) (vs := [.ref a, y]) F hrm hb .nil hx I (.cons rfl (.cons ry .nil)) h) fun _ _ z => back_of z
  rcases hy with ⟨i, rfl⟩ | ⟨b, dy, gs, rfl, hb2⟩
  · obtain ⟨t, rfl⟩ := ry
    obtain ⟨fo, h1⟩ := O.h1
    obtain ⟨ro, h2⟩ := O.h2
    exact b1_int I.kIn J O.hc O.hs O.hf O.hr (.inr ⟨r, rfl⟩) h1 h2 O.sub fin
  · obtain rfl : u = Value.ref b := ry
    obtain ⟨mB, O2, _⟩ := ins_get I.hok hb2
    obtain ⟨od2, J2, _⟩ := O2.look
    exact b1_same I.kIn J J2.type O.hc O.hs O.hf fin
theorem op_own (hop : op.info.2 = nm) (O : OwnOp X.K C f r nm) (F : FnOk X.prog X.w X.K X.mg X.base CX k f fd ps sp) (hrm : Room k X.A) (hb : Binds X.K fd ps []) (hx : Passes CX X E) : OpR X (binaryOp op) (rOwn C sp E) := by
  intro pins s σ H x y v u Q I rx ry h
  have one := own1 O F hrm hb hx I rx ry h
  rcases hi : op.info with ⟨sym, nm'⟩
  rw [hi] at hop
  cases hop
  simp only [binaryOp, hi]
  refine wpAny_holding (wpAny_bind (wpAny_mono one (fun o s' ho => ?_) fun _ _ e => e))
  obtain ⟨z, rfl, q⟩ := ho
  exact wpAny_pure q
theorem iop_own (hop : op.info.2 = nm) (O : OwnOp X.K C f r nm) (hn : noI X.K C nm = true) (F : FnOk X.prog X.w X.K X.mg X.base CX k f fd ps sp) (hrm : Room k X.A) (hb : Binds X.K fd ps []) (hx : Passes CX X E) : PIp X op (rOwn C sp E) := by
  intro pins s σ H x y v u Q I rx ry h
  have one := own1 O F hrm hb hx I rx ry h
  obtain ⟨a, dx, fs, rfl, ha, hy, h⟩ := h.ok
  obtain rfl : v = Value.ref a := rx
  obtain ⟨mA, O1, _⟩ := ins_get I.hok ha
  obtain ⟨od, J, _⟩ := O1.look
  subst hop
  unfold inplaceOp
  refine wpAny_holding (wpAny_bind (J.type.here (wpAny_bind ((fillsI_no I.kIn hn).here ?_))))
  simp only [Bool.false_eq_true, if_false]
  refine wpAny_bind (wpAny_mono one (fun o s' ho => ?_) fun _ _ e => e)
  obtain ⟨z, rfl, q⟩ := ho
  exact wpAny_pure q
/-- n op a: the reflected method -/
def rROwn (C : Addr) (sp : Sp) (E : XK) : R2 := fun x y H Q => Wd (∃ (i : Int) (b dy : Addr) (gs : List (Str × V)), x = .int i ∧ y = .ref b ∧ H b = some (.ins C dy gs) ∧ sp [y, x] H Q E)
theorem op_rown {id : String} {bi : Builtin} {nm2 : String} {g : Int → Int → Sem PySem.Fin} (hop : op.info.2 = nm) (O : OwnOp X.K C f r nm) (hfi : fillsNumberSlot (.type "int") nm = pure true) (slot : Slot "int" (PySem.dunder nm) id) (entry : entryFor table id = some bi)
    (args : ∀ p q, argsOk id ⟨[p, q], []⟩) (hbi : bi = Builtin.Int.intBinary nm2 g false) (F : FnOk X.prog X.w X.K X.mg X.base CX k r fd ps sp) (hrm : Room k X.A) (hb : Binds X.K fd ps []) (hx : Passes CX X E) : OpR X (binaryOp op) (rROwn C sp E) := by
  intro pins s σ H x y v u Q I rx ry h
  obtain ⟨i, b, dy, gs, rfl, rfl, hb2, h⟩ := h.ok
  obtain ⟨t, rfl⟩ := rx
  obtain rfl : u = Value.ref b := ry
  obtain ⟨mB, O2, _⟩ := ins_get I.hok hb2
  obtain ⟨od2, J2, _⟩ := O2.look
  have fin : wpAny (model X.prog X.w) X.A (call (.ref r) [.ref b, .int i t]) (PySem.W.CmpBack (EP X pins σ Q)) X.xe s :=
    thn (run_fn (us := [.ref b, .int i t]) (vs := [.ref b, .int i]) F hrm hb .nil hx I (.cons rfl (.cons ⟨t, rfl⟩ .nil)) h) fun _ _ z => back_of z
  rcases hi : op.info with ⟨sym, nm'⟩
  rw [hi] at hop
  cases hop
  subst hbi
  have one := b1_rint (prog := X.prog) (w := X.w) (A := X.A) (E := X.xe) (Q := EP X pins σ Q) I.kIn J2 O.hc O.hs O.hr O.hg hfi O.sub2 slot entry (args _ _) (int_declines J2.at_) fin
  simp only [binaryOp, hi]
  refine wpAny_holding (wpAny_bind (wpAny_mono one (fun o s' ho => ?_) fun _ _ e => e))
  obtain ⟨z, rfl, q⟩ := ho
  exact wpAny_pure q
/-- -a -/
theorem un_own (hs : PySem.W.findIn X.K (.ref C) "__neg__" = some (some (.ref f))) (hf : PySem.W.isFn X.K (.ref f) = true) (F : FnOk X.prog X.w X.K X.mg X.base CX k f fd ps sp) (hrm : Room k X.A) (hb : Binds X.K fd ps []) (hx : Passes CX X E) :
    UnR X (unaryOp .USub) (fun x H Q => Wd (∃ a dx fs, x = .ref a ∧ H a = some (.ins C dx fs) ∧ sp [x] H Q E)) := by
  intro pins s σ H x v Q I rx h
  obtain ⟨a, dx, fs, rfl, ha, h⟩ := h.ok
  obtain rfl : v = Value.ref a := rx
  obtain ⟨mA, O1, _⟩ := ins_get I.hok ha
  obtain ⟨od, J, _⟩ := O1.look
  obtain ⟨m, fr⟩ := I.fr
  exact PySem.W.ksp_neg fr I.mod.kin J hs hf (run_fn (us := [.ref a]) (vs := [.ref a]) F hrm hb .nil hx I (.cons rfl .nil) h)
theorem run_fn1 {pins : List (Addr × Obj)} {σ : L2.St} {H : Hp} {s : Shared} {Q : VK} {us : List Value} {vs : List V} (F : FnOk X.prog X.w X.K X.mg X.base CX k f fd ps sp) (hr : Room (k + 1) X.A) (hb : Binds X.K fd ps []) (hx : Passes CX X E)
    (I : Inv X pins σ H s) (rv : Vals vs us) (h : sp vs H Q E) : wpAny (model X.prog X.w) X.A.in1 (call (.ref f) us) (EP X pins σ Q) X.xe s := by
  have hl : us.length = ps.length := by rw [← rv.length]; exact F.len _ _ _ _ h
  have b := hb s us I.kIn (by rw [List.append_nil]; exact hl)
  rw [List.append_nil] at b
  refine wpAny_call (codeAny_mono (F.run X.A.in1 X.stack s H ⟨us, []⟩ us vs Q E hr.in1 I.env0.in1 b rv h) fun o s' z => ?_)
  cases o with
  | error e => exact hx pins σ H s e s' I z
  | ok fl =>
    cases fl with
    | ret u => exact I.after z
    | next => exact z.elim
    | brk => exact z.elim
    | cont => exact z.elim
/-- abs(a) -/
theorem call_absO (hs : PySem.W.findIn X.K (.ref C) "__abs__" = some (some (.ref f))) (hf : PySem.W.isFn X.K (.ref f) = true) (F : FnOk X.prog X.w X.K X.mg X.base CX k f fd ps sp) (hrm : Room (k + 1) X.A) (hb : Binds X.K fd ps []) (hx : Passes CX X E) :
    CallR X (.builtin "abs") (fun xs H Q => Wd (∃ a dx fs, xs = [.ref a] ∧ H a = some (.ins C dx fs) ∧ sp [.ref a] H Q E)) := by
  intro pins s σ H xs us Q I rv h
  obtain ⟨a, dx, fs, rfl, ha, h⟩ := h.ok
  obtain ⟨u, rfl, ru⟩ := vals1 rv
  obtain rfl : u = Value.ref a := ru
  obtain ⟨mA, O1, _⟩ := ins_get I.hok ha
  obtain ⟨od, J, _⟩ := O1.look
  refine PySem.Calls.call_function_entry kind_abs plain_abs entry_abs (args_abs _) ?_
  unfold Builtin.abs
  refine wpAny_bind (m := oneArg "abs" _) (wpAny_pure ?_)
  refine wpAny_bind (m := callSpecial? (.ref a) (Str.ofString "__abs__")) (PySem.W.special_fn I.kIn J hs (beq_iff_eq.mp hf) ?_)
  exact thn (run_fn1 (us := [.ref a]) (vs := [.ref a]) F hrm hb hx I (.cons rfl .nil) h) fun v s' z => wpAny_pure ⟨v, rfl, z⟩
def tSMeth (C : Addr) (sp : Sp) (E : XK) (ta : TE) (t : TA) : TE := fun σ H Q => ta σ H fun x H1 => x = .ref C ∧ t σ H1 fun vs H2 => sp vs H2 Q E
theorem pe_smeth {pl : Sem Bool} {p : Addr} {o e : Expr} {es : List Expr} {m : Str} {apos pos : Pos} {ta : TE} {t : TA} (he : PE X o ta) (S : SMet X.K C m p f) (F : FnOk X.prog X.w X.K X.mg X.base CX k f fd ps sp) (hrm : Room k X.A) (hb : Binds X.K fd ps [])
    (hx : Passes CX X E) (ha : PA X (e :: es) t) (hst : starEach (e :: es) X.env = (false, eval e X.env) :: starEach es X.env := by rfl) (hpl : (backTo pos (starEach es X.env)).any (·.1) = false := by rfl)
    (ht : eval (.Call (.Attribute o m apos) (e :: es) [] pos) X.env = (eval o X.env >>= fun ov => standAt apos.atName >>= fun _ => holding [ov] (getMethod ov m pl) >>= fun (f, first) =>
      callWith pos f first (backTo pos (starEach (e :: es) X.env)) (backToKw pos (keywordEach [] X.env))) := by rfl) :
    PE X (.Call (.Attribute o m apos) (e :: es) [] pos) (tSMeth C sp E ta t) := by
  refine ⟨fun pins s σ H Q I h => ?_⟩
  refine PySem.W.methodCall_KW (pl := pl) (thn (he.run pins s σ H _ I h) fun u s1 ⟨x, H1, I1, rx, ex, q⟩ => ?_) ht
  subst ex
  obtain rfl : u = Value.ref C := rx
  obtain ⟨rest, hp⟩ := S.rc
  refine PySem.W.method_cls I1.kIn S.ga (PySem.W.cls_bind I1.kIn S.rd S.at_ (wpAny_call (PySem.W.sm_get (s := { s1 with toks := s1.toks + 1 }) I1.kIn hp (PySem.W.handed_on rfl ?_))))
  have I2 := I1.tok (s1.toks + 1)
  refine PySem.W.callWith_K (first := []) (h₀ := X.base) I.ok.mod.kin S.kp (thn (ha.run pos pins _ σ H1 _ I2 q) fun us s2 ⟨vs, H2, I3, rv, q2⟩ => ⟨I3.kIn, ?_⟩) hst hpl
  exact run_fn (us := us) (vs := vs) F hrm hb .nil hx I3 rv (by rw [List.append_nil]; exact q2)
end

/-! ### lists side by side -/
section
variable {α β : Type} {R S : α → β → Prop} {xs us : List α} {ys vs : List β} {x : α} {y : β} {i : Nat}
def All2 (R : α → β → Prop) (xs : List α) (ys : List β) : Prop := xs.length = ys.length ∧ ∀ (i : Nat) x y, xs[i]? = some x → ys[i]? = some y → R x y
theorem All2.nil : All2 R [] [] := ⟨rfl, fun i x y h => by simp at h⟩
theorem All2.mono (h : All2 R xs ys) (k : ∀ x y, R x y → S x y) : All2 S xs ys := ⟨h.1, fun i x y a b => k _ _ (h.2 i x y a b)⟩
theorem All2.cons (h : R x y) (k : All2 R xs ys) : All2 R (x :: xs) (y :: ys) := ⟨by rw [List.length_cons, List.length_cons, k.1], fun i a b ha hb => by
  cases i with
  | zero => simp at ha hb; subst ha; subst hb; exact h
  | succ i => simp at ha hb; exact k.2 i a b ha hb⟩
theorem All2.one (h : R x y) : All2 R [x] [y] := .cons h .nil
theorem All2.app (h : All2 R xs ys) (k : All2 R us vs) : All2 R (xs ++ us) (ys ++ vs) := ⟨by rw [List.length_append, List.length_append, h.1, k.1], fun i a b ha hb => by
  by_cases hi : i < xs.length
  · rw [List.getElem?_append_left hi] at ha
    rw [List.getElem?_append_left (by rw [← h.1]; exact hi)] at hb
    exact h.2 i a b ha hb
  · rw [List.getElem?_append_right (by omega)] at ha
    rw [List.getElem?_append_right (by rw [← h.1]; omega), ← h.1] at hb
    exact k.2 _ a b ha hb⟩
theorem All2.take (h : All2 R xs ys) (n : Nat) : All2 R (xs.take n) (ys.take n) := ⟨by rw [List.length_take, List.length_take, h.1], fun i a b ha hb => by
  rw [List.getElem?_take] at ha hb
  by_cases hi : i < n
  · rw [if_pos hi] at ha hb
    exact h.2 i a b ha hb
  · rw [if_neg hi] at ha
    cases ha⟩
theorem All2.drop (h : All2 R xs ys) (n : Nat) : All2 R (xs.drop n) (ys.drop n) := ⟨by rw [List.length_drop, List.length_drop, h.1], fun i a b ha hb => by
  rw [List.getElem?_drop] at ha hb
  exact h.2 _ a b ha hb⟩
theorem All2.get (h : All2 R xs ys) (hi : xs[i]? = some x) : ∃ y, ys[i]? = some y ∧ R x y := by
  have hl : i < ys.length := by
    rw [← h.1]
    exact (List.getElem?_eq_some_iff.mp hi).1
  have e : ys[i]? = some ys[i] := List.getElem?_eq_getElem hl
  exact ⟨_, e, h.2 i _ _ hi e⟩
theorem take_more {α : Type} {ys : List α} {y : α} {i : Nat} (h : ys[i]? = some y) : ys.take (i + 1) = ys.take i ++ [y] := by
  rw [List.take_add_one, h]
  rfl
end
section
open PySem.Spec PyProof.Rows
variable {X : Cx}
/-- one operator, two ways to read it -/
theorem op_mix {f : Value → Value → Sem Value} {r1 r2 : R2} (h1 : OpR X f r1) (h2 : OpR X f r2) : OpR X f (fun x y H Q => Wd (r1 x y H Q ∨ r2 x y H Q)) := by
  intro pins s σ H x y v u Q I rx ry h
  rcases h.ok with h | h
  · exact h1 pins s σ H x y v u Q I rx ry h
  · exact h2 pins s σ H x y v u Q I rx ry h
theorem vals_same {A : Around} {s : Shared} {xs : List V} (hx : ∀ x ∈ xs, flatB x = true ∨ ∃ a, x = .ref a) : ∀ {us ws : List Value}, Vals xs us → Vals xs ws → ∀ j (h1 : j < us.length) (h2 : j < ws.length), SeqAt.EqAt A s us[j] ws[j] true := by
  induction xs with
  | nil =>
    intro us ws r1 r2 j h1 h2
    cases r1
    exact absurd h1 (Nat.not_lt_zero j)
  | cons x xs ih =>
    intro us ws r1 r2 j h1 h2
    cases r1 with
    | cons a1 b1 =>
      cases r2 with
      | cons a2 b2 =>
        cases j with
        | zero =>
          rcases hx x List.mem_cons_self with f | ⟨a, rfl⟩
          · exact eqAt_same a1 a2 f
          · cases a1
            cases a2
            exact SeqAt.EqAt.same _
        | succ j => exact ih (fun y hy => hx y (List.mem_cons_of_mem _ hy)) b1 b2 j (Nat.lt_of_succ_lt_succ h1) (Nat.lt_of_succ_lt_succ h2)
/-- a != b, two lists of the same items -/
theorem op_neL (hu : X.A.units + 64 < cLine) : OpR X (compareOp .NotEq) (fun x y H Q => Wd (∃ (a b : Addr) (xs : List V), x = .ref a ∧ y = .ref b ∧ SqL X.K H a xs ∧ SqL X.K H b xs ∧ (∀ x ∈ xs, flatB x = true ∨ ∃ a, x = .ref a) ∧ Q (.bl false) H)) := by
  intro pins s σ H x y v u Q I rx ry h
  obtain ⟨a, b, xs, rfl, rfl, ha, hb, hx, q⟩ := h.ok
  cases rx
  cases ry
  obtain ⟨us, r1, p1, _⟩ := I.list ha
  obtain ⟨ws, r2, p2, _⟩ := I.list hb
  have hsz : us.toArray.size = ws.toArray.size := by
    rw [List.size_toArray, List.size_toArray, ← r1.length, ← r2.length]
  have k := SeqAt.RcNeAt.lists (A := X.A) (e := fun _ => true) p1.isList p2.isList hsz (by omega) (fun j h1 h2 => by
    have k := vals_same (A := X.A.in1) (s := s) hx r1 r2 j (by simpa using h1) (by simpa using h2)
    simpa using k)
  refine k X.prog X.w _ _ ?_
  rw [show ((List.range us.toArray.size).all fun _ => true) = true from List.all_eq_true.mpr fun _ _ => rfl]
  exact ⟨.bl false, H, I, rfl, q⟩
/-- a != b, two tuples of the same items -/
theorem op_neT (hu : X.A.units + 64 < cLine) : OpR X (compareOp .NotEq) (fun x y H Q => Wd (∃ (a b : Addr) (xs : List V), x = .ref a ∧ y = .ref b ∧ SqT X.K H a xs ∧ SqT X.K H b xs ∧ (∀ x ∈ xs, flatB x = true ∨ ∃ a, x = .ref a) ∧ Q (.bl false) H)) := by
  intro pins s σ H x y v u Q I rx ry h
  obtain ⟨a, b, xs, rfl, rfl, ha, hb, hx, q⟩ := h.ok
  cases rx
  cases ry
  obtain ⟨us, r1, p1, _⟩ := I.tuple ha
  obtain ⟨ws, r2, p2, _⟩ := I.tuple hb
  have hsz : us.toArray.size = ws.toArray.size := by
    rw [List.size_toArray, List.size_toArray, ← r1.length, ← r2.length]
  have k := SeqAt.RcNeAt.tuples (A := X.A) (e := fun _ => true) p1 p2 (by omega) (fun j h1 h2 => by
    have k := vals_same (A := X.A.in1) (s := s) hx r1 r2 j (by simpa using h1) (by simpa using h2)
    simpa using k)
  refine k X.prog X.w _ _ ?_
  refine ⟨.bl false, H, I, ?_, q⟩
  show Value.bool _ = Value.bool false
  simp [hsz]
end

/-! ### == and != of data of any depth, texts of any signs -/
section
open PySem.Spec PyProof.Rows
variable {X : Cx}
def rEqP (K : PySem.W.Frag) : R2 := fun x y H Q => Wd (∃ d e, Dp K H x d ∧ Dp K H y e ∧ d.plain = true ∧ e.plain = true ∧ d.depth ≤ 64 ∧ Q (.bl (PyData.eqv d e)) H)
def rNeP (K : PySem.W.Frag) : R2 := fun x y H Q => Wd (∃ d e, Dp K H x d ∧ Dp K H y e ∧ d.plain = true ∧ e.plain = true ∧ d.depth ≤ 64 ∧ Q (.bl (!PyData.eqv d e)) H)
theorem op_eqP (hu : X.A.units + 64 < cLine) : OpR X (compareOp .Eq) (rEqP X.K) := by
  intro pins s σ H x y v u Q I rx ry h
  obtain ⟨d, e, hd, he, sd, se, dp, q⟩ := h.ok
  obtain ⟨as, r1⟩ := Dp.reads I d x v hd rx
  obtain ⟨bs, r2⟩ := Dp.reads I e y u he ry
  have := Nat.min_le_left d.depth e.depth
  exact SeqAt.eq_plain r1 r2 sd se (by omega) ⟨.bl _, H, I, rfl, q⟩
theorem op_neP (hu : X.A.units + 64 < cLine) : OpR X (compareOp .NotEq) (rNeP X.K) := by
  intro pins s σ H x y v u Q I rx ry h
  obtain ⟨d, e, hd, he, sd, se, dp, q⟩ := h.ok
  obtain ⟨as, r1⟩ := Dp.reads I d x v hd rx
  obtain ⟨bs, r2⟩ := Dp.reads I e y u he ry
  have := Nat.min_le_left d.depth e.depth
  exact SeqAt.ne_plain r1 r2 sd se (by omega) ⟨.bl _, H, I, rfl, q⟩
theorem eqP_same {K : PySem.W.Frag} {x y : V} {H : Hp} {Q : VK} {d : PyData} (hx : Dp K H x d) (hy : Dp K H y d) (hp : d.plain = true) (hd : d.depth ≤ 64) (h : Q (.bl true) H) : rEqP K x y H Q :=
  ⟨d, d, hx, hy, hp, hp, hd, by rw [SeqAt.eqv_refl_plain d hp]; exact h⟩
theorem neP_same {K : PySem.W.Frag} {x y : V} {H : Hp} {Q : VK} {d : PyData} (hx : Dp K H x d) (hy : Dp K H y d) (hp : d.plain = true) (hd : d.depth ≤ 64) (h : Q (.bl false) H) : rNeP K x y H Q :=
  ⟨d, d, hx, hy, hp, hp, hd, by rw [SeqAt.eqv_refl_plain d hp]; exact h⟩
end

/-! ### xs == [], xs != [] -/
section
open PySem.Spec PyProof.Rows
variable {X : Cx}
def rNil (K : PySem.W.Frag) (neg : Bool) : R2 := fun x y H Q => Wd (∃ (a b : Addr) (xs : List V), x = .ref a ∧ y = .ref b ∧ SqL K H a xs ∧ SqL K H b [] ∧ Q (.bl (if neg then !xs.isEmpty else xs.isEmpty)) H)
theorem nil_sizes {xs : List V} {us ws : List Value} (r1 : Vals xs us) (r2 : Vals [] ws) : us.toArray.size = xs.length ∧ ws.toArray.size = 0 := by
  cases r2
  exact ⟨by rw [List.size_toArray, r1.length], rfl⟩
theorem op_eqNil (hu : X.A.units + 64 < cLine) : OpR X (compareOp .Eq) (rNil X.K false) := by
  intro pins s σ H x y v u Q I rx ry h
  obtain ⟨a, b, xs, rfl, rfl, ha, hb, q⟩ := h.ok
  cases rx
  cases ry
  obtain ⟨us, r1, p1, _⟩ := I.list ha
  obtain ⟨ws, r2, p2, _⟩ := I.list hb
  obtain ⟨e1, e2⟩ := nil_sizes r1 r2
  cases xs with
  | nil =>
    have k := SeqAt.RcAt.lists (A := X.A) (e := fun _ => true) p1.isList p2.isList (by rw [e1, e2]; rfl) (by omega) (fun j h1 h2 => by omega)
    refine k X.prog X.w _ _ ?_
    rw [show ((List.range us.toArray.size).all fun _ => true) = true from List.all_eq_true.mpr fun _ _ => rfl]
    exact ⟨.bl true, H, I, rfl, q⟩
  | cons z zs =>
    have k := SeqAt.RcAt.lists_lengths (A := X.A) p1.isList p2.isList (by rw [e1, e2]; rfl) (by omega)
    exact k X.prog X.w _ _ ⟨.bl false, H, I, rfl, q⟩
theorem op_neNil (hu : X.A.units + 64 < cLine) : OpR X (compareOp .NotEq) (rNil X.K true) := by
  intro pins s σ H x y v u Q I rx ry h
  obtain ⟨a, b, xs, rfl, rfl, ha, hb, q⟩ := h.ok
  cases rx
  cases ry
  obtain ⟨us, r1, p1, _⟩ := I.list ha
  obtain ⟨ws, r2, p2, _⟩ := I.list hb
  obtain ⟨e1, e2⟩ := nil_sizes r1 r2
  cases xs with
  | nil =>
    have k := SeqAt.RcNeAt.lists (A := X.A) (e := fun _ => true) p1.isList p2.isList (by rw [e1, e2]; rfl) (by omega) (fun j h1 h2 => by omega)
    refine k X.prog X.w _ _ ?_
    rw [show ((List.range us.toArray.size).all fun _ => true) = true from List.all_eq_true.mpr fun _ _ => rfl]
    exact ⟨.bl false, H, I, rfl, q⟩
  | cons z zs =>
    have k := SeqAt.RcNeAt.lists_lengths (A := X.A) p1.isList p2.isList (by rw [e1, e2]; rfl) (by omega)
    exact k X.prog X.w _ _ ⟨.bl true, H, I, rfl, q⟩
end

/-! ### try with several clauses `except X as n` (one name for all) -/
section
open PySem.Spec PyProof.Rows
/-- the ways out of a suite, behind which slot i holds nothing -/
def offI (i : Nat) (D : Ends) : Ends := { nx := fun τ h => D.nx (τ.set i none) h, rt := D.rt, bk := fun τ h => D.bk (τ.set i none) h, ct := fun τ h => D.ct (τ.set i none) h }
/-- what the clauses wish of an exception of the body -/
def wClauses (K : PySem.W.Frag) (i : Nat) (Wo : WX) (D : Ends) : List (Value × (Addr → Value → Option Addr → TS)) → WX
  | [] => Wo
  | cl :: more => fun c d τ h => ∃ b, PySem.W.exmOne K c cl.1 = some b ∧ (b = true → ∀ a, h a = none → cl.2 a c d (offI i D) (τ.set i (some (.ref a))) h) ∧ (b = false → wClauses K i Wo D more c d τ h)
inductive Clauses (X : Cx) (n : Str) : List ExceptHandler → List (Value × (Addr → Value → Option Addr → TS)) → Prop
  | done : Clauses X n [] []
  | more {x : Str} {cv : Value} {ts : Addr → Value → Option Addr → TS} {b0 : Stmt} {su : List Stmt} {p1 p2 : Pos} {hs : List ExceptHandler} {l : List (Value × (Addr → Value → Option Addr → TS))} (nm : Names X x cv)
      (rd : ∀ (a : Addr) (oe : Obj) (c : Value) (d : Option Addr) (pn : List (Addr × Obj)), Zc c d oe → (∃ vs, oe.data = .fields vs) → PSs (X.suite a ((a, oe) :: pn)) (b0 :: su) (ts a c d)) (rest : Clauses X n hs l) :
      Clauses X n (.ExceptHandler (some (.Name x p1)) (some n) (b0 :: su) p2 :: hs) ((cv, ts) :: l)
section
variable {X : Cx} {n : Str} {i : Nat} {body : List Stmt} {h1 : ExceptHandler} {hs : List ExceptHandler} {l : List (Value × (Addr → Value → Option Addr → TS))} {pos : Pos} {tb : WX → TS} {Wo : WX}
theorem ps_tryAs (est : X.stack = X.env :: X.outer) (efr : X.env.frame = some X.env.locals) (nd : X.N.Nodup) (at_i : X.N[i]? = some n) (kd : X.env.kindOf n = some .local) (tk : Takes X Wo)
    (hb : ∀ (W : WX) (pn : List (Addr × Obj)) (xe : Value → Shared → Prop), Takes (X.tr pn xe) W → PassesOwn (model X.prog X.w) X.A X.env xe → PSs (X.tr pn xe) body (tb W))
    (cs : Clauses X n (h1 :: hs) l) : PS X (.Try body (h1 :: hs) [] [] pos) (fun D τ H => tb (wClauses X.K i Wo D l) D τ H) := by
  refine ⟨fun pins s τ H D I rdg => ?_⟩
  have okI := I.ok; have frs1 : X.A.frames = some (X.env :: X.outer) := by rw [okI.frames, est]
  have lc : Loc X.env.scope n := .inl kd
  refine wpAny_Try_except ?_; refine wpAny_mono ((hb (wClauses X.K i Wo D l) (X.pn ++ pins) (fun e s₁ => wpAny (model X.prog X.w) X.A (noteFrame e X.env) (fun _ s₂ => wpAny (model X.prog X.w) X.A (setFlight e none) (fun _ s₃ => wpAny (model X.prog X.w) X.A (handleBy e X.env (h1 :: hs)) (SP X pins D) X.xe s₃) X.xe s₂) X.xe s₁) (fun u s' caught => ?_) PassesOwn.looking).run [] s τ H D (I.toTry _) rdg) (fun f s1 fin => ?_) (fun e s1 out => out)
  · obtain ⟨a, B, sI, pins', τ', H', c, d, rfl, J', nb, up, sky, na, os, ag, wsh⟩ := caught
    have J : Inv X pins τ' H' sI := J'.ofTry okI
    have sky1 : Sky B (X.env :: X.outer) a (Zc c d) X.env.locals s'.heap := by rw [← est]; exact sky
    show wpAny (model X.prog X.w) X.A (noteFrame (.ref a) X.env) _ _ _; refine Sky.land Zc.steady frs1 efr sky1 fun g fl ug => ?_
    have Jg : Inv X pins τ' H' { s' with heap := g } := J.landed nb fl.1 (up.trans ug) os ag
    obtain ⟨o3, v3, at3, z3, d3⟩ := fl.there
    have off : ∀ {k : Heap} {o : Obj} {vs : Array Value}, k.FunFrames B (X.env :: X.outer) → k.get? a = some o → o.data = .fields vs → a ∉ frs (X.env :: X.outer) := fun {k o vs} ff e dd hm => by
      obtain ⟨_, o', e', hnf⟩ := ff.mem hm
      rw [e] at e'; cases e'; exact hnf _ dd
    have nfr := off fl.2.2.1 at3 d3
    have nL : a ≠ X.env.locals := fun z => nfr (List.mem_filterMap.mpr ⟨X.env, List.mem_cons_self, by rw [efr, z]⟩)
    have nF : a ∉ X.fs := fun hm => by
      obtain ⟨e, he, q⟩ := List.mem_filterMap.mp hm
      exact nfr (List.mem_filterMap.mpr ⟨e, List.mem_cons_of_mem _ he, q⟩)
    have Sg := Jg.suite at3 d3 na nL nF
    have go : ∀ {hs' : List ExceptHandler} {l' : List (Value × (Addr → Value → Option Addr → TS))}, Clauses X n hs' l' → wClauses X.K i Wo D l' c d τ' H' → wpAny (model X.prog X.w) X.A (handleBy (.ref a) X.env hs') (SP X pins D) X.xe { s' with heap := g } := by
      intro hs' l' hk
      induction hk with
      | done =>
        intro wsh
        refine wpAny_handleBy_nil ?_
        obtain ⟨k1, k2, k3, oe, vs, F, oF, ts', he, hz, hd, hf1, hr⟩ := id fl
        unfold PySem.passOn; refine wpAny_bind (wpAny_field he hd hf1 ?_); rw [if_neg (show ¬ ((Value.ref F == Value.none) = true) from by simp)]
        have last : wpAny (model X.prog X.w) X.A (setFlight (.ref a) X.env.frame) (fun _ s4 => wpAny (model X.prog X.w) X.A (throw (.ref a) : Sem Flow) (SP X pins D) X.xe s4) X.xe { s' with heap := g } := by
          rw [efr]; refine HandSPX.setFlight_upZ fl fun h4 hh4 up4 => wpAny_throw (tk _ _ ?_)
          exact ⟨a, B, sI, pins, τ', H', c, d, rfl, J, nb, (up.trans ug).trans up4, .inr (.inr (by rw [est]; exact hh4)), na, os, ag, wsh⟩
        first | exact wpAny_bind (wpAny_pure (wpAny_bind last)) | exact wpAny_bind last
      | @more x cv ts b0 su p1 p2 hs2 l2 nm rd rest ih =>
        intro wsh
        obtain ⟨b, eb, yes, no⟩ := wsh
        refine wpAny_handleBy_cons (codeAny_handlers_test ?_) (by intro q; cases q)
        have LT : PySem.W.Looks (model X.prog X.w) g (typeOf (.ref a)) c := fun A Q E s k q => wpAny_typeOf_ref (k _ _ at3) (by rw [z3.1]; exact q)
        have LM := PySem.W.exm_one (M := model X.prog X.w) (Jg.kIn) LT eb
        have ask : ∀ {Q : Value → Shared → Prop} {E : Value → Shared → Prop}, Q cv { s' with heap := g } → wpAny (model X.prog X.w) (X.A.mark (some (.ref a))) (eval (.Name x p1) X.env) Q E { s' with heap := g } := fun {Q E} q => by
          obtain ⟨hg, hdbg, hm | ⟨hm, hv, hnn⟩⟩ := nm
          · exact ld_glob (X := X.suite a ((a, o3) :: (X.pn ++ pins))) Sg hg hm q hdbg
          · exact ld_blt (X := X.suite a ((a, o3) :: (X.pn ++ pins))) Sg hg hm hv q hnn hdbg
        refine ask (LM.here ?_)
        cases b with
        | true =>
          refine codeAny_handlers_suite_as ?_; refine HandSPX.lands_againZ fl fun h4 fl4 up4 => ?_
          have J4 : Inv X pins τ' H' { s' with heap := h4 } := J.landed nb fl4.1 ((up.trans ug).trans up4) os ag
          obtain ⟨o4, v4, at4, z4, d4⟩ := fl4.there
          have S4 := J4.suite at4 d4 na nL nF
          refine store_ok (X := X.suite a ((a, o4) :: (X.pn ++ pins))) (v := .ref a) S4 nd at_i lc rfl (fun s5 S5 => ?_) (.inr kd)
          refine wpAny_mono ((rd a o4 c d (X.pn ++ pins) z4 ⟨_, d4⟩).run [] s5 _ H' _ S5 (yes rfl a na)) (fun f s6 q => ?_) (fun _ _ z => False.elim z)
          have fin6 : ∀ {σ6 : L2.St} {H6 : Hp} {Q : Shared → Prop}, Inv (X.suite a ((a, o4) :: (X.pn ++ pins))) [] σ6 H6 s6 → (∀ s7, Inv X pins (σ6.set i none) H6 s7 → Q s7) → wpAny (model X.prog X.w) X.A (do bindName X.env n .none; unbindBehindTheSuite X.env n p2) (fun _ s7 => Q s7) X.xe s6 := fun {σ6 H6 Q} S6 hq => gone_ok (S6.unsuite okI) nd at_i kd hq
          cases f with
          | next =>
            obtain ⟨σ6, H6, S6, q6⟩ := q
            exact fin6 S6 fun s7 J7 => ⟨_, _, J7, q6⟩
          | brk =>
            obtain ⟨σ6, H6, S6, q6⟩ := q
            exact fin6 S6 fun s7 J7 => ⟨_, _, J7, q6⟩
          | cont =>
            obtain ⟨σ6, H6, S6, q6⟩ := q
            exact fin6 S6 fun s7 J7 => ⟨_, _, J7, q6⟩
          | ret u =>
            obtain ⟨v6, σ6, H6, S6, r6, q6⟩ := q
            exact fin6 S6 fun s7 J7 => ⟨_, _, _, J7, r6, q6⟩
        | false =>
          show wpAny _ X.A (handleBy (.ref a) X.env hs2) _ _ _
          exact ih (no rfl)
    exact go cs wsh
  · cases f with
    | next =>
      obtain ⟨τ', H', J', q⟩ := fin
      exact wpAny_execs_nil ⟨τ', H', J'.ofTry okI, q⟩
    | brk =>
      obtain ⟨τ', H', J', q⟩ := fin
      exact ⟨τ', H', J'.ofTry okI, q⟩
    | cont =>
      obtain ⟨τ', H', J', q⟩ := fin
      exact ⟨τ', H', J'.ofTry okI, q⟩
    | ret u =>
      obtain ⟨v, τ', H', J', r, q⟩ := fin
      exact ⟨v, τ', H', J'.ofTry okI, r, q⟩
end
section
variable {X : Cx} {x1 x2 n : Str} {c1 c2 : Value} {i : Nat} {body su1 su2 : List Stmt} {b1 b2 : Stmt} {p1 p2 p3 p4 pos : Pos} {Wo : WX} {tb : WX → List (Addr × Obj) → (Value → Shared → Prop) → TS} {t1 t2 : Addr → Obj → Value → Option Addr → List (Addr × Obj) → TS}
/-- try: .. except x1 as n: .. except x2 as n: .., the readings free of what they can't hang on -/
theorem ps_try2V (est : X.stack = X.env :: X.outer) (efr : X.env.frame = some X.env.locals) (nd : X.N.Nodup) (at_i : X.N[i]? = some n) (kd : X.env.kindOf n = some .local) (hc1 : Names X x1 c1) (hc2 : Names X x2 c2) (tk : Takes X Wo)
    (hb : ∀ (W : WX) (pn : List (Addr × Obj)) (xe : Value → Shared → Prop), Takes (X.tr pn xe) W → PassesOwn (model X.prog X.w) X.A X.env xe → PSs (X.tr pn xe) body (tb W pn xe))
    (r1 : ∀ (a : Addr) (oe : Obj) (c : Value) (d : Option Addr) (pn : List (Addr × Obj)), Zc c d oe → (∃ vs, oe.data = .fields vs) → PSs (X.suite a ((a, oe) :: pn)) (b1 :: su1) (t1 a oe c d pn))
    (r2 : ∀ (a : Addr) (oe : Obj) (c : Value) (d : Option Addr) (pn : List (Addr × Obj)), Zc c d oe → (∃ vs, oe.data = .fields vs) → PSs (X.suite a ((a, oe) :: pn)) (b2 :: su2) (t2 a oe c d pn))
    (e1 : ∀ W pn xe, tb W pn xe = tb W [] (fun _ _ => False)) (e2 : ∀ a oe c d pn, t1 a oe c d pn = t1 a oe0 c d []) (e3 : ∀ a oe c d pn, t2 a oe c d pn = t2 a oe0 c d []) :
    PS X (.Try body [.ExceptHandler (some (.Name x1 p1)) (some n) (b1 :: su1) p2, .ExceptHandler (some (.Name x2 p3)) (some n) (b2 :: su2) p4] [] [] pos) (fun D σ H => tb (wClauses X.K i Wo D [(c1, fun a c d => t1 a oe0 c d []), (c2, fun a c d => t2 a oe0 c d [])]) [] (fun _ _ => False) D σ H) :=
  ps_tryAs (tb := fun W => tb W [] (fun _ _ => False)) est efr nd at_i kd tk (fun W pn xe k po => by rw [← e1 W pn xe]; exact hb W pn xe k po)
    (.more hc1 (fun a oe c d pn z f => by rw [← e2 a oe c d pn]; exact r1 a oe c d pn z f) (.more hc2 (fun a oe c d pn z f => by rw [← e3 a oe c d pn]; exact r2 a oe c d pn z f) .done))
end
end

/-! ### ratios: plain mathematics -/
def iabs (n : Int) : Int := if n < 0 then -n else n
theorem iabs_eq (n : Int) : iabs n = (n.natAbs : Int) := by
  unfold iabs
  split <;> omega
theorem gcd_turn (a b : Nat) : Nat.gcd b (a % b) = Nat.gcd a b := by
  rw [Nat.gcd_comm b (a % b), ← Nat.gcd_rec, Nat.gcd_comm]
theorem low_num {t b s : Int} (hb : b ≠ 0) (hs : s = if b < 0 then -((Int.gcd t b : Nat) : Int) else ((Int.gcd t b : Nat) : Int)) :
    s ≠ 0 ∧ s.natAbs ≤ b.natAbs ∧ t.fdiv s = (Rat.divInt t b).num ∧ b.fdiv s = ((Rat.divInt t b).den : Int) := by
  have hg : 0 < Int.gcd t b := Int.gcd_pos_of_ne_zero_right _ hb
  obtain ⟨x, hx⟩ := Int.gcd_dvd_left (a := t) (b := b)
  obtain ⟨y, hy⟩ := Int.gcd_dvd_right (a := t) (b := b)
  have e1 : (Rat.divInt t b).num = b.sign * t / ((Int.gcd t b : Nat) : Int) := by rw [Rat.num_divInt, Int.gcd_comm]
  have e2 : ((Rat.divInt t b).den : Int) = (b.natAbs : Int) / ((Int.gcd t b : Nat) : Int) := by
    rw [Rat.den_divInt, if_neg hb, Int.gcd_comm b t]
    rfl
  have hle : (Int.gcd t b) ≤ b.natAbs := Nat.le_of_dvd (by omega) (Int.gcd_dvd_natAbs_right t b)
  generalize Int.gcd t b = g at *
  have hg' : ((g : Nat) : Int) ≠ 0 := by omega
  by_cases hneg : b < 0
  · rw [if_pos hneg] at hs
    subst hs
    refine ⟨by omega, by omega, ?_, ?_⟩
    · rw [e1, Int.sign_eq_neg_one_of_neg hneg]
      have h1 : t = -(g : Int) * (-x) := by rw [Int.neg_mul_neg]; exact hx
      have h2 : -1 * t = (g : Int) * (-x) := by rw [hx, Int.mul_neg]; omega
      rw [h2, Int.mul_ediv_cancel_left _ hg']
      conv => lhs; rw [h1]
      exact Int.mul_fdiv_cancel_left _ (by omega)
    · rw [e2]
      have h0 : (b.natAbs : Int) = (g : Int) * (-y) := by rw [Int.mul_neg, ← hy]; omega
      have h1 : b = -(g : Int) * (-y) := by rw [Int.neg_mul_neg]; exact hy
      rw [h0, Int.mul_ediv_cancel_left _ hg']
      conv => lhs; rw [h1]
      exact Int.mul_fdiv_cancel_left _ (by omega)
  · rw [if_neg hneg] at hs
    subst hs
    have hpos : 0 < b := by omega
    refine ⟨by omega, by omega, ?_, ?_⟩
    · rw [e1, Int.sign_eq_one_of_pos hpos, Int.one_mul]
      conv => rhs; rw [hx]
      rw [Int.mul_ediv_cancel_left _ hg']
      conv => lhs; rw [hx]
      exact Int.mul_fdiv_cancel_left _ (by omega)
    · rw [e2]
      have h0 : (b.natAbs : Int) = (g : Int) * y := by rw [← hy]; omega
      rw [h0, Int.mul_ediv_cancel_left _ hg']
      conv => lhs; rw [hy]
      exact Int.mul_fdiv_cancel_left _ (by omega)
theorem gcd_emod {x y : Int} (hx : 0 ≤ x) (hy : 0 ≤ y) : Int.gcd y (x % y) = Int.gcd x y := by
  obtain ⟨x', rfl⟩ := Int.eq_ofNat_of_zero_le hx
  obtain ⟨y', rfl⟩ := Int.eq_ofNat_of_zero_le hy
  exact gcd_turn _ _
theorem gcd_abs (t b : Int) : Int.gcd (if t < 0 then -t else t) (if b < 0 then -b else b) = Int.gcd t b := by
  unfold Int.gcd
  rw [show (if t < 0 then -t else t).natAbs = t.natAbs by split <;> omega, show (if b < 0 then -b else b).natAbs = b.natAbs by split <;> omega]

/-! ### rules that the layer lacks -/
section
variable {X : Cx} {pos p : Pos}
def CDivZ (_ j : Int) : Prop := j ≠ 0 ∧ j.natAbs.log2 < 9000
theorem op_fdivZ : OpR X (binaryOp .FloorDiv) (rI CDivZ fun i j => .int (i.fdiv j)) := opI fun _ _ _ _ _ _ _ hc q => PyProof.Rows.floordiv_int hc.1 q (.inl (PyProof.noPylong_of_log2 hc.2))
theorem cdivz {i j : Int} {b : Int} (h : j ≠ 0) (hj : j.natAbs ≤ b.natAbs) (hb : b.natAbs < 2 ^ 9000) : CDivZ i j := ⟨h, PySem.Flt.log2_lt_of (by decide) (Nat.lt_of_le_of_lt hj hb)⟩
/-- an own exception class without own __init__, made with nothing -/
theorem pmk_own0 {C : Addr} {bmB : List Value} {B newId initId : String} {x : Str} (F : ExcBaseFacts B newId initId bmB) (q : PySem.W.excIn X.K C bmB newId = true) (gC : X.mg x = some (.ref C))
    (kC : PySem.W.keepIn X.K (.ref C) = true) (r : Raises X (.ref C)) (hg : Gl X x) (hdb : (x == ("__debug__" : Str)) = false := by decide) : PMk X (.Call (.Name x p) [] [] pos) (fun _ H Q => Q (.ref C) none H) := by
  intro pins s σ H Q I h
  refine wpAny_Call_Name_kw (ld_glob I hg gC ?_ hdb)
  refine PySem.W.callWith_K0 I.kIn kC ?_
  obtain ⟨bm, N, nm, qn, bs, hdct, sn, sub, ab, col, dd, k0, k1, k2, k3, k5, mN, hC, hN, hni, T⟩ := exc_obj I.kIn q
  exact wpAny_call_exc_subT F T hC hN hni (fun h' e hm => mk_of I hm r h (I.hok.gone hm.new)) (Nat.zero_le _)
end
/-! ### ratios in the heap -/
def rf (a b : Int) : List (Str × V) := [("top", V.int a), ("bottom", V.int b)]
theorem rf_put (a b : Int) : putF "bottom" (V.int b) (putF "top" (V.int a) []) = rf a b := by
  show (if ("top" : Str) = "bottom" then [(("top" : Str), V.int b)] else (("top" : Str), V.int a) :: putF "bottom" (V.int b) []) = rf a b
  rw [if_neg (by decide +kernel)]
  all_goals rfl
theorem rf_top (a b : Int) : (rf a b).lookup ("top" : Str) = some (.int a) := by
  rw [← rf_put, lookup_putF, if_neg (by decide +kernel), lookup_putF, if_pos rfl]
theorem rf_bottom (a b : Int) : (rf a b).lookup ("bottom" : Str) = some (.int b) := by
  rw [← rf_put, lookup_putF, if_pos rfl]
theorem rf_no (a b : Int) {m : Str} (h1 : ¬ m = "top") (h2 : ¬ m = "bottom") : (rf a b).lookup m = none := by
  rw [← rf_put, lookup_putF, if_neg h2, lookup_putF, if_neg h1]
  all_goals rfl
/-- v is the ratio q -/
def IsR (C : Addr) (H : Hp) (v : V) (q : Rat) : Prop := ∃ p dx, v = .ref p ∧ H p = some (.ins C dx (rf q.num (q.den : Int)))
theorem IsR.mono {C : Addr} {H H' : Hp} {v : V} {q : Rat} (h : IsR C H v q) (s : ∀ p dx fs, H p = some (.ins C dx fs) → H' p = some (.ins C dx fs)) : IsR C H' v q := by
  obtain ⟨p, dx, e, h⟩ := h
  exact ⟨p, dx, e, s _ _ _ h⟩
theorem IsR.same {C : Addr} {H H' : Hp} {v : V} {q : Rat} (h : IsR C H v q) (s : Same H H') : IsR C H' v q := h.mono fun _ _ _ e => s _ _ e
theorem IsR.kp {C g : Addr} {H H' : Hp} {v : V} {q : Rat} {xs : List V} (h : IsR C H v q) (hg : H g = some (.lst xs)) (s : Kp g H H') : IsR C H' v q := h.mono fun _ _ _ e => s _ _ e (ne_of e hg (by intro z; cases z))
/-- v is the number q: a ratio or an int -/
def IsN (C : Addr) (H : Hp) (v : V) (q : Rat) : Prop := IsR C H v q ∨ ∃ n : Int, v = .int n ∧ q = (n : Rat)
/-! ### promises -/
def spGcd : Sp := fun vs H Q _ => ∃ a b : Int, vs = [.int a, .int b] ∧ 0 ≤ a ∧ 0 ≤ b ∧ Q (.int ((Int.gcd a b : Nat) : Int)) H
def spRatioInit (C CE : Addr) : Sp := fun vs H Q E => ∃ (p dx : Addr) (t b : Int), vs = [.ref p, .int t, .int b] ∧ H p = some (.ins C dx []) ∧ b.natAbs < 2 ^ 9000 ∧
  (b = 0 → E (.ref CE) none H) ∧ (b ≠ 0 → Q .non (upd H p (.ins C dx (rf (Rat.divInt t b).num ((Rat.divInt t b).den : Int)))))
section
variable {P : Program} {w : World} {K : PySem.W.Frag} {mg : Str → Option Value} {base : Heap} {A : Ad}
theorem ok_f_common_divisor (T : Txt K mg A) : FnOk P w K mg base CX0 1 A.f_common_divisor A.fd_f_common_divisor P_f_common_divisor spGcd := by
  refine T.F_f_common_divisor.ok sc_f_common_divisor (fun vs H Q E h => ?_) (fun cdv Ar outer s H vs Q E hr h => ?_)
  · obtain ⟨a, b, rfl, _⟩ := h
    rfl
  · obtain ⟨a, b, rfl, ha, hb, k⟩ := h
    refine ⟨_, (pss_cons (ps_g (ps_while PassesOwn.never (pt_cmpR op_ne (pv 1) pe_int (nomark _)) (pss_one (ps_par (i := 0) (j := 1) rfl sc_f_common_divisor.nd rfl rfl (by decide) rfl rfl (pa_cons (pv 1) (pa_cons (pe_op op_mod (pv 0) (pv 1)) pa_nil)) (by rfl)))))
      (pss_one (ps_ret (pv 0)))), ?_⟩
    refine ⟨⟨fun m σ' H' => Wd (∃ x y : Int, σ' = [some (.int x), some (.int y)] ∧ 0 ≤ x ∧ 0 ≤ y ∧ y.toNat = m ∧ Int.gcd x y = Int.gcd a b ∧ H' = H), ⟨_, ⟨a, b, rfl, ha, hb, rfl, rfl, rfl⟩⟩, ?_⟩⟩
    rintro m σ' H' ⟨x, y, rfl, hx, hy, hm, hg, rfl⟩
    walk_at "go"
    refine if_intN (fun e => ?_) (fun e => ?_)
    · refine ⟨fun σ2 H2 => Wd (σ2 = [some (.int y), some (.int (x % y))] ∧ H2 = H'), ?_, ?_⟩
      · rintro σ2 H2 ⟨rfl, rfl⟩
        have h1 : 0 ≤ x % y := Int.emod_nonneg _ e
        have h2 : x % y < y := Int.emod_lt_of_pos _ (by omega)
        refine ⟨(x % y).toNat, by omega, ⟨y, x % y, rfl, hy, h1, rfl, ?_, rfl⟩⟩
        rw [← hg]
        exact gcd_emod hx hy
      · walk_at "go"
        exact ⟨rfl, rfl⟩
    · subst e
      walk_at "go"
      have e : ((Int.gcd a b : Nat) : Int) = x := by
        rw [← hg, Int.gcd_zero_right]
        omega
      rw [e] at k
      exact k
theorem ok_m_Ratio_init (T : Txt K mg A) : FnOk P w K mg base (L2.CX P w) 4 A.m_Ratio_init A.fd_m_Ratio_init P_m_Ratio_init (spRatioInit A.Ratio A.NoRatio) := by
  refine T.F_m_Ratio_init.ok sc_m_Ratio_init (fun vs H Q E h => ?_) (fun cdv Ar outer s H vs Q E hr h => ?_)
  · obtain ⟨p, dx, t, b, rfl, _⟩ := h
    rfl
  · obtain ⟨p, dx, t, b, rfl, hp, hb, kE, kQ⟩ := h
    refine ⟨_, (pss_cons (ps_if (pt_cmpR op_eq (pv 2) pe_int (nomark _)) (pss_one (ps_raise rfl (takes_of rfl rfl rfl rfl) (pmk_own0 PySem.F.excBase_ValueError T.ex_NoRatio T.g_NoRatio T.ek_NoRatio (raises_own T.eb_NoRatio T.et_NoRatio) (by rfl)))) pss_nil)
      (pss_cons (ps_set (i := 3) sc_m_Ratio_init.nd rfl (Or.inl rfl) (pe_call (ok_f_common_divisor T) (hr.mono (by decide)) (by rfl) T.g_common_divisor T.F_f_common_divisor.kp T.b_f_common_divisor .nil pass0 (pa_cons (pe_callB call_abs (by rfl) T.z_abs (by decide +kernel) (pa_cons (pv 1) pa_nil)) (pa_cons (pe_callB call_abs (by rfl) T.z_abs (by decide +kernel) (pa_cons (pv 2) pa_nil)) pa_nil))))
      (pss_g (Evl.pss_cut (ps_if (pt_cmpR op_lt (pv 2) pe_int (nomark _)) (pss_one (ps_set (i := 3) sc_m_Ratio_init.nd rfl (Or.inl rfl) (pe_un un_neg (pv 3)))) pss_nil)
      (pss_cons (ps_fld (pv 0) (pe_op op_fdivZ (pv 1) (pv 3)) rfl)
      (pss_one (ps_fld (pv 0) (pe_op op_fdivZ (pv 2) (pv 3)) rfl))))))), ?_⟩
    walk_at "go"
    refine if_int (fun e => ?_) (fun e => ?_)
    · exact kE e
    · walk_at "go"
      refine ⟨⟨fun σ' H' => Wd (σ' = [some (.ref p), some (.int t), some (.int b), some (.int (if b < 0 then -((Int.gcd t b : Nat) : Int) else ((Int.gcd t b : Nat) : Int)))] ∧ H' = H), ?_, ?_⟩⟩
      · have eg := gcd_abs t b
        walk_at "go"
        refine if_dec (fun e1 => ?_) (fun e1 => ?_)
        · walk_at "go"
          refine ⟨?_, rfl⟩
          rw [eg, if_pos e1]
          rfl
        · refine ⟨?_, rfl⟩
          rw [eg, if_neg e1]
          rfl
      · rintro σ' H' ⟨rfl, rfl⟩
        obtain ⟨h0, h1, h2, h3⟩ := low_num (t := t) e rfl
        generalize (if b < 0 then -((Int.gcd t b : Nat) : Int) else ((Int.gcd t b : Nat) : Int)) = s at *
        have hz : ∀ i, CDivZ i s := fun i => cdivz h0 h1 hb
        have n1 := T.n_Ratio_top
        have n2 := T.n_Ratio_bottom
        have n3 := T.cl_Ratio
        refine ⟨_, rfl, _, rfl, _, _, rfl, rfl, hz _, _, rfl, p, A.Ratio, dx, [], rfl, hp, n3, n1, (by show 0 < 1000; decide), ?_⟩
        refine ⟨_, rfl, _, rfl, _, _, rfl, rfl, hz _, _, rfl, p, A.Ratio, dx, _, rfl, upd_same, n3, n2, (by show 1 < 1000; decide), ?_⟩
        dsimp only
        rw [upd_upd, h2, h3, rf_put]
        exact kQ e
end

/-! ### the law's own helpers: bag, integer, divisor, lowest -/
def spBag (K : PySem.W.Frag) : Sp := fun vs H Q _ => ∃ (a : Addr) (ns : List Int), vs = [.ref a] ∧ SqL K H a (ns.map V.int) ∧ ∀ (g l : Addr) (H' : Hp), Same H H' → H g = none → H l = none → Bag H' g l → Q (.ref g) H'
def spInteger : Sp := fun vs H Q _ => ∃ g l : Addr, vs = [.ref g] ∧ Bag H g l ∧ ∀ (n : Int) (H' : Hp), n.natAbs ≤ 10 ^ 49 → Bag H' g l → Kp g H H' → Q (.int n) H'
def spLowest : Sp := fun vs H Q _ => ∃ t b : Int, vs = [.int t, .int b] ∧ b ≠ 0 ∧ b.natAbs < 2 ^ 9000 ∧ ∀ p, H p = none → Q (.ref p) (upd H p (.tup [.int (Rat.divInt t b).num, .int ((Rat.divInt t b).den : Int)]))
theorem Bag.keep {H H' : Hp} {g l : Addr} (b : Bag H g l) (s : Same H H') : Bag H' g l := by
  obtain ⟨i, r, sd, c, ns, hg, hl, hi⟩ := b
  exact ⟨i, r, sd, c, ns, s _ _ hg, s _ _ hl, hi⟩
theorem Bag.lst {H : Hp} {g l : Addr} (b : Bag H g l) : ∃ xs, H g = some (.lst xs) := by
  obtain ⟨i, r, sd, c, ns, hg, hl, hi⟩ := b
  exact ⟨_, hg⟩
theorem Bag.ne {H : Hp} {g l p : Addr} (b : Bag H g l) (hp : H p = none) : p ≠ g ∧ p ≠ l := by
  obtain ⟨i, r, sd, c, ns, hg, hl, hi⟩ := b
  exact ⟨(ne_of_none hg hp).symm, (ne_of_none hl hp).symm⟩
/-- a bag stands where nothing of it is written -/
theorem Bag.put {H : Hp} {g l p : Addr} {o : HO} (b : Bag H g l) (n : p ≠ g ∧ p ≠ l) : Bag (upd H p o) g l := by
  obtain ⟨i, r, sd, c, ns, hg, hl, hi⟩ := b
  exact ⟨i, r, sd, c, ns, by rw [upd_ne n.1.symm]; exact hg, by rw [upd_ne n.2.symm]; exact hl, hi⟩
theorem Bag.new {H : Hp} {g l p : Addr} {o : HO} (b : Bag H g l) (hp : H p = none) : Bag (upd H p o) g l := b.keep fun c u e => by
  rw [upd_ne (ne_of_none e hp)]
  exact e
theorem Kp.new {g p : Addr} {H H' : Hp} {o : HO} (k : Kp g H H') (hp : H' p = none) : Kp g H (upd H' p o) := fun b u e n => by
  have e1 := k b u e n
  rw [upd_ne (ne_of_none e1 hp)]
  exact e1
theorem Kp.put {g p : Addr} {H H' : Hp} {o : HO} (k : Kp g H H') (hp : H p = none) : Kp g H (upd H' p o) := fun b u e n => by
  rw [upd_ne (ne_of_none e hp)]
  exact k b u e n
theorem Kp.same {g : Addr} {H H' : Hp} (s : Same H H') : Kp g H H' := fun b u e _ => s b u e
theorem Same.new {H : Hp} {p : Addr} {o : HO} (hp : H p = none) : Same H (upd H p o) := fun b u e => by
  rw [upd_ne (ne_of_none e hp)]
  exact e
theorem size_at {c : Int} (h0 : 0 ≤ c) (h6 : c < 6) (hc : c ≠ 0) : ∃ z : Int, atI [V.int 1, V.int 2, V.int 3, V.int 12, V.int 1000, V.int (10 ^ (49 : Int).toNat)] c = some (.int z) ∧ 0 < z ∧ z ≤ 10 ^ 49 := by
  have : c = 1 ∨ c = 2 ∨ c = 3 ∨ c = 4 ∨ c = 5 := by omega
  rcases this with rfl | rfl | rfl | rfl | rfl
  · exact ⟨2, rfl, by decide, by decide⟩
  · exact ⟨3, rfl, by decide, by decide⟩
  · exact ⟨12, rfl, by decide, by decide⟩
  · exact ⟨1000, rfl, by decide, by decide⟩
  · exact ⟨10 ^ 49, rfl, by decide, by decide⟩
theorem big49 : (10 : Nat) ^ 49 < 2 ^ 200 := by decide
theorem pow_mono {a b : Nat} (h : a ≤ b) : (2 : Nat) ^ a ≤ 2 ^ b := Nat.pow_le_pow_right (by decide) h
theorem lt_pow {n a b : Nat} (h : n < 2 ^ a) (hab : a ≤ b) : n < 2 ^ b := Nat.lt_of_lt_of_le h (pow_mono hab)
theorem lt200 {n : Nat} (h : n ≤ 10 ^ 49) : n < 2 ^ 200 := Nat.lt_of_le_of_lt h big49
theorem lt9000 {n : Nat} (h : n ≤ 10 ^ 49) : n < 2 ^ 9000 := lt_pow (lt200 h) (by decide)
def spLaw (K : PySem.W.Frag) : Sp := fun vs H Q _ => ∃ (a : Addr) (ns : List Int), vs = [.ref a] ∧ SqL K H a (ns.map V.int) ∧ ns.length ≤ 63 ∧ ∀ H', Q (.bl true) H'
theorem neD_same {K : PySem.W.Frag} {H : Hp} {p q : Addr} {a b : Int} {Q : VK} (hp : H p = some (.tup [.int a, .int b])) (hq : H q = some (.tup [.int a, .int b])) (h : Q (.bl false) H) : rNeD K (.ref p) (.ref q) H Q := by
  refine ⟨.tuple [.int a, .int b], .tuple [.int a, .int b], .tup (SqT.of hp) (.cons (.int a) (.cons (.int b) .nil)), .tup (SqT.of hq) (.cons (.int a) (.cons (.int b) .nil)), rfl, rfl, ?_⟩
  have e : PyData.eqv (.tuple [.int a, .int b]) (.tuple [.int a, .int b]) = true := by simp [PyData.eqv, PyData.eqvAll]
  rw [e]
  exact h
theorem or_go {K : PySem.W.Frag} {H : Hp} {σ : L2.St} {Q : VK} {n d : Int} (hd : d ≠ 0) (h : ∀ m : Int, m ≠ 0 → (m = n ∨ m = d) → Q (.int m) H) : ∃ k, TruV K (.int n) H k ∧ if k = true then Q (.int n) H else tC (.int d) σ H Q := by
  by_cases e : n = 0
  · exact ⟨false, by rw [e]; rfl, iteF (h d hd (.inr rfl))⟩
  · exact ⟨true, (show true = (n != 0) by simp [e]), iteT (h n e (.inl rfl))⟩
theorem kit_self {K : PySem.W.Frag} {C : Addr} : PySem.W.kitOne K (.ref C) (.ref C) = some true := by simp [PySem.W.kitOne]
def spNumber : Sp := fun vs H Q _ => ∃ n : Int, vs = [.int n] ∧ Q (.bl true) H
section
variable {P : Program} {w : World} {K : PySem.W.Frag} {mg : Str → Option Value} {base : Heap} {A : Ad}
theorem ok_l_bag (T : Txt K mg A) : FnOk P w K mg base CX0 1 A.l_bag A.fd_l_bag P_l_bag (spBag K) := by
  refine T.F_l_bag.ok sc_l_bag (fun vs H Q E h => ?_) (fun cdv Ar outer s H vs Q E hr h => ?_)
  · obtain ⟨a, ns, rfl, _⟩ := h
    rfl
  · obtain ⟨a, ns, rfl, hS, k⟩ := h
    refine ⟨_, (pss_one (ps_ret (pe_lst (pa_cons (pe_callTy call_list_of (by rfl) T.z_list (by decide +kernel) (pa_cons (pv 0) pa_nil)) (pa_cons pe_int (pa_cons pe_int (pa_cons pe_int (pa_cons pe_int pa_nil)))))))), ?_⟩
    refine ⟨_, rfl, a, _, rfl, .inl hS, fun l hl => ⟨by walk_at "fact", fun g hg => ?_⟩⟩
    have nlg : l ≠ g := fun z => by
      rw [z, upd_same] at hg
      cases hg
    have hg0 : H g = none := by
      rw [upd_ne nlg.symm] at hg
      exact hg
    exact k g l _ ((Same.new hl).trans (Same.new hg)) hg0 hl ⟨0, 0, 17, 0, ns, upd_same, by rw [upd_ne nlg]; exact upd_same, by decide⟩
theorem ok_l_divisor (T : Txt K mg A) : FnOk P w K mg base CX0 1 A.l_divisor A.fd_l_divisor P_l_divisor spGcd := by
  refine T.F_l_divisor.ok sc_l_divisor (fun vs H Q E h => ?_) (fun cdv Ar outer s H vs Q E hr h => ?_)
  · obtain ⟨a, b, rfl, _⟩ := h
    rfl
  · obtain ⟨a, b, rfl, ha, hb, k⟩ := h
    refine ⟨_, (pss_cons (ps_g (ps_while PassesOwn.never (pt_cmpR op_ne (pv 1) pe_int (nomark _)) (pss_cons (ps_set (i := 2) sc_l_divisor.nd rfl (Or.inl rfl) (pe_op op_mod (pe_callTy call_int1 (by rfl) T.z_int (by decide +kernel) (pa_cons (pv 0) pa_nil)) (pv 1)))
      (pss_cons (ps_set (i := 0) sc_l_divisor.nd rfl (Or.inl rfl) (pv 1))
      (pss_one (ps_set (i := 1) sc_l_divisor.nd rfl (Or.inl rfl) (pv 2)))))))
      (pss_one (ps_ret (pv 0)))), ?_⟩
    refine ⟨⟨fun m σ' H' => Wd (∃ (x y : Int) (v : Option V), σ' = [some (.int x), some (.int y), v] ∧ 0 ≤ x ∧ 0 ≤ y ∧ y.toNat = m ∧ Int.gcd x y = Int.gcd a b ∧ H' = H), ⟨_, ⟨a, b, none, rfl, ha, hb, rfl, rfl, rfl⟩⟩, ?_⟩⟩
    rintro m σ' H' ⟨x, y, v, rfl, hx, hy, hm, hg, rfl⟩
    walk_at "go"
    refine if_intN (fun e => ?_) (fun e => ?_)
    · refine ⟨fun σ2 H2 => Wd (σ2 = [some (.int y), some (.int (x % y)), some (.int (x % y))] ∧ H2 = H'), ?_, ?_⟩
      · rintro σ2 H2 ⟨rfl, rfl⟩
        have h1 : 0 ≤ x % y := Int.emod_nonneg _ e
        have h2 : x % y < y := Int.emod_lt_of_pos _ (by omega)
        refine ⟨(x % y).toNat, by omega, ⟨y, x % y, _, rfl, hy, h1, rfl, ?_, rfl⟩⟩
        rw [← hg]
        exact gcd_emod hx hy
      · walk_at "go"
        exact ⟨rfl, rfl⟩
    · subst e
      walk_at "go"
      have e : ((Int.gcd a b : Nat) : Int) = x := by
        rw [← hg, Int.gcd_zero_right]
        omega
      rw [e] at k
      exact k
theorem ok_l_lowest (T : Txt K mg A) : FnOk P w K mg base CX0 2 A.l_lowest A.fd_l_lowest P_l_lowest spLowest := by
  refine T.F_l_lowest.ok sc_l_lowest (fun vs H Q E h => ?_) (fun cdv Ar outer s H vs Q E hr h => ?_)
  · obtain ⟨t, b, rfl, _⟩ := h
    rfl
  · obtain ⟨t, b, rfl, hb0, hb, k⟩ := h
    refine ⟨_, (pss_cons (ps_set (i := 2) sc_l_lowest.nd rfl (Or.inl rfl) (pe_call (ok_l_divisor T) (hr.mono (by decide)) (by rfl) T.g__law_divisor T.F_l_divisor.kp T.b_l_divisor .nil pass0 (pa_cons (pe_callB call_abs (by rfl) T.z_abs (by decide +kernel) (pa_cons (pv 0) pa_nil)) (pa_cons (pe_callB call_abs (by rfl) T.z_abs (by decide +kernel) (pa_cons (pv 1) pa_nil)) pa_nil))))
      (pss_g (Evl.pss_cut (ps_if (pt_cmpR op_lt (pv 1) pe_int (nomark _)) (pss_one (ps_set (i := 2) sc_l_lowest.nd rfl (Or.inl rfl) (pe_un un_neg (pv 2)))) pss_nil)
      (pss_one (ps_ret (pe_tup (pa_cons (pe_op op_fdivZ (pv 0) (pv 2)) (pa_cons (pe_op op_fdivZ (pv 1) (pv 2)) pa_nil)))))))), ?_⟩
    walk_at "go"
    refine ⟨⟨fun σ' H' => Wd (σ' = [some (.int t), some (.int b), some (.int (if b < 0 then -((Int.gcd t b : Nat) : Int) else ((Int.gcd t b : Nat) : Int)))] ∧ H' = H), ?_, ?_⟩⟩
    · have eg := gcd_abs t b
      walk_at "go"
      refine if_dec (fun e1 => ?_) (fun e1 => ?_)
      · walk_at "go"
        refine ⟨?_, rfl⟩
        rw [eg, if_pos e1]
        rfl
      · refine ⟨?_, rfl⟩
        rw [eg, if_neg e1]
        rfl
    · rintro σ' H' ⟨rfl, rfl⟩
      obtain ⟨h0, h1, h2, h3⟩ := low_num (t := t) hb0 rfl
      generalize (if b < 0 then -((Int.gcd t b : Nat) : Int) else ((Int.gcd t b : Nat) : Int)) = s at *
      have hz : ∀ i, CDivZ i s := fun i => cdivz h0 h1 hb
      refine ⟨_, rfl, _, rfl, _, _, rfl, rfl, hz _, _, rfl, _, rfl, _, _, rfl, rfl, hz _, by walk_at "fact", fun p hp => ?_⟩
      dsimp only
      rw [h2, h3]
      exact k p hp
end

theorem Same.at_new {H H' : Hp} {D : Addr} {o : HO} (hD : H D = none) (s : Same H H') : Same H (upd H' D o) := fun b u e => by
  rw [upd_ne (ne_of_none e hD)]
  exact s b u e
/-- [.. for .. in a list], its parts keep what stands -/
theorem lc_same {K : PySem.W.Frag} {a : Addr} {xs : List V} {g : TG} {tt : TT} {te : TE} {vs : List Nat} {σ : L2.St} {H1 : Hp} {D : Addr} {Qd : Hp → Prop} (f : Nat → V) (hl : H1 a = some (.lst xs)) (hz : xs.length ≤ 1000) (hD : H1 D = none)
    (hs : ∀ i x H' (N : VK) (M : Hp → Prop), xs[i]? = some x → Same H1 H' → (∀ H4, Same H' H4 → N (f i) H4) → g x (wipe σ vs) H' fun σ2 H2 => wipe σ2 vs = wipe σ vs ∧ tt σ2 H2 fun b H3 => if b = true then te σ2 H3 N else M H3)
    (hd : ∀ H', Same H1 H' → H' D = some (.lst ((List.range xs.length).map f)) → Qd H') :
    ∃ W : Nat → Nat → Hp → Prop, (∃ m, W 0 m (upd H1 D (.lst []))) ∧ ∀ i m H, W i m H →
      ((Itl K a).stop i H ∧ Qd H) ∨ ((Itl K a).go i H ∧ ∃ Nx : Hp → Prop, (∀ H', Nx H' → ∃ m', m' < m ∧ W (i + 1) m' H') ∧ ∀ x H', (Itl K a).yld i H x H' → g x (wipe σ vs) H' fun σ2 H2 => wipe σ2 vs = wipe σ vs ∧ tt σ2 H2 fun b H3 =>
        if b = true then te σ2 H3 fun y H4 => ∃ acc, H4 D = some (.lst acc) ∧ acc.length < sizeLine ∧ Nx (upd H4 D (.lst (acc ++ [y]))) else Nx H3) := by
  refine lc_list (K := K) (a := a) (xs := xs) (fun i H' => Wd (Same H1 H' ∧ H' D = some (.lst ((List.range i).map f)))) ⟨Same.new hD, upd_same⟩ (fun i H' _ h => SqL.of (h.ok.1 _ _ hl)) ?_ (fun H' h => hd H' h.ok.1 h.ok.2)
  rintro i x H' hi ⟨s, hd'⟩
  refine hs i x H' _ _ hi s fun H4 s4 => ⟨_, s4 _ _ hd', ?_, Same.at_new hD (s.trans s4), ?_⟩
  · rw [List.length_map, List.length_range]
    have := (List.getElem?_eq_some_iff.mp hi).1
    exact Nat.lt_of_lt_of_le (Nat.lt_of_lt_of_le this hz) (by decide)
  · rw [upd_same, List.range_succ, List.map_append]
    rfl
theorem Same.none {H H' : Hp} {p : Addr} (s : Same H H') (h : H' p = none) : H p = none := by
  cases e : H p with
  | none => rfl
  | some o =>
    rw [s _ _ e] at h
    cases h

/-- what stands anywhere but at the list D is kept -/
theorem kp_of_same {D : Addr} {H H' : Hp} (s : Same H H') : Kp D H H' := fun b o e _ => s b o e
/-- [.. for .. in a list], its parts keep what stands; R tells of each item that is made -/
theorem lc_sameP {K : PySem.W.Frag} {a : Addr} {xs : List V} {g : TG} {tt : TT} {te : TE} {vs : List Nat} {σ : L2.St} {H1 : Hp} {D : Addr} {Qd : Hp → Prop} (R : Nat → V → Hp → Prop) (hl : H1 a = some (.lst xs)) (hz : xs.length ≤ 1000) (hD : H1 D = none)
    (mono : ∀ i y H H' acc, H D = some (.lst acc) → Kp D H H' → R i y H → R i y H')
    (hs : ∀ i x H' (N : VK) (M : Hp → Prop), xs[i]? = some x → Same H1 H' → (∀ y H4, Same H' H4 → R i y H4 → N y H4) → g x (wipe σ vs) H' fun σ2 H2 => wipe σ2 vs = wipe σ vs ∧ tt σ2 H2 fun b H3 => if b = true then te σ2 H3 N else M H3)
    (hd : ∀ ys H', Same H1 H' → ys.length = xs.length → (∀ i y, ys[i]? = some y → R i y H') → H' D = some (.lst ys) → Qd H') :
    ∃ W : Nat → Nat → Hp → Prop, (∃ m, W 0 m (upd H1 D (.lst []))) ∧ ∀ i m H, W i m H →
      ((Itl K a).stop i H ∧ Qd H) ∨ ((Itl K a).go i H ∧ ∃ Nx : Hp → Prop, (∀ H', Nx H' → ∃ m', m' < m ∧ W (i + 1) m' H') ∧ ∀ x H', (Itl K a).yld i H x H' → g x (wipe σ vs) H' fun σ2 H2 => wipe σ2 vs = wipe σ vs ∧ tt σ2 H2 fun b H3 =>
        if b = true then te σ2 H3 fun y H4 => ∃ acc, H4 D = some (.lst acc) ∧ acc.length < sizeLine ∧ Nx (upd H4 D (.lst (acc ++ [y]))) else Nx H3) := by
  refine lc_list (K := K) (a := a) (xs := xs) (fun i H' => Wd (∃ ys : List V, Same H1 H' ∧ ys.length = i ∧ H' D = some (.lst ys) ∧ ∀ j y, ys[j]? = some y → R j y H')) ⟨[], Same.new hD, rfl, upd_same, fun j y h => by cases h⟩ (fun i H' _ h => ?_) ?_ (fun H' h => ?_)
  · obtain ⟨ys, s, _⟩ := h.ok
    exact SqL.of (s _ _ hl)
  · rintro i x H' hi ⟨ys, s, hyl, hd', hR⟩
    refine hs i x H' _ _ hi s fun y H4 s4 r4 => ⟨_, s4 _ _ hd', ?_, ys ++ [y], Same.at_new hD (s.trans s4), ?_, upd_same, fun j z hz => ?_⟩
    · rw [hyl]
      have := (List.getElem?_eq_some_iff.mp hi).1
      exact Nat.lt_of_lt_of_le (Nat.lt_of_lt_of_le this hz) (by decide)
    · rw [List.length_append, hyl]
      rfl
    · have kp : Kp D H4 (upd H4 D (.lst (ys ++ [y]))) := (Kp.refl D H4).up
      rw [List.getElem?_append] at hz
      split at hz
      · exact mono _ _ _ _ _ (s4 _ _ hd') kp (mono _ _ _ _ _ hd' (kp_of_same s4) (hR j z hz))
      · have e : j - ys.length = 0 := by
          cases e : j - ys.length with
          | zero => rfl
          | succ n => rw [e] at hz; cases hz
        rw [e] at hz
        cases hz
        have : j = i := by omega
        subst this
        exact mono _ _ _ _ _ (s4 _ _ hd') kp r4
  · obtain ⟨ys, s, hyl, hd', hR⟩ := h.ok
    exact hd ys H' s hyl hR hd'
/-- an if by a question whose answer is p; the heap may grow -/
theorem tIf_of {t : TT} {a b : TS} {D : Ends} {σ : L2.St} {H : Hp} {p : Prop} (ht : ∀ Q : Bool → Hp → Prop, (∀ H', Same H H' → p → Q true H') → (∀ H', Same H H' → ¬ p → Q false H') → t σ H Q) (ha : ∀ H', Same H H' → p → a D σ H') (hb : ∀ H', Same H H' → ¬ p → b D σ H') : tIfS t a b D σ H :=
  ht _ (fun H' s hp => iteT (ha H' s hp)) (fun H' s hn => iteF (hb H' s hn))
theorem q_dec {p : Prop} [Decidable p] {Q : Bool → Hp → Prop} {H : Hp} (h1 : p → Q true H) (h2 : ¬ p → Q false H) : Q (decide p) H := by
  by_cases e : p
  · rw [decide_eq_true e]
    exact h1 e
  · rw [decide_eq_false e]
    exact h2 e

/-! ### the __init__ of the errors -/
/-- C.__init__(self, v, ..): the error gets its dict; fs: the fields, the last one first -/
def spExcF (C : Addr) (n : Nat) (fs : List V → List (Str × V)) : Sp := fun vs H Q _ => ∃ (a : Addr) (ws : List V), vs = .ref a :: ws ∧ ws.length = n ∧ H a = some (exo a C none) ∧
  ∀ (d : Addr) (H' : Hp), H d = none → d ≠ a → (∀ b o, H b = some o → b ≠ a → H' b = some o) → H' a = some (exo a C (some d)) → H' d = some (exd d (fs ws)) → Q .non H'
section
variable {P : Program} {w : World} {K : PySem.W.Frag} {mg : Str → Option Value} {base : Heap} {A : Ad}
def fs_BadName : List V → List (Str × V)
  | [v0] => [("name", v0)]
  | _ => []
theorem ok_m_BadName_init (T : Txt K mg A) : FnOk P w K mg base CX0 3 A.m_BadName_init A.fd_m_BadName_init P_m_BadName_init (spExcF A.BadName 1 fs_BadName) := by
  refine T.F_m_BadName_init.ok sc_m_BadName_init (fun vs H Q E h => ?_) (fun cdv Ar outer s H vs Q E hr h => ?_)
  · obtain ⟨a, ws, rfl, hl, _⟩ := h
    rw [List.length_cons, hl]
    rfl
  · obtain ⟨a, ws, rfl, hl, ha, k⟩ := h
    match ws, hl with
    | [v0], _ =>
      refine ⟨_, (pss_cons (ps_expr (pe_ceinit (by rfl) T.g_CostError T.rd_CostError T.cg_CostError T.vi_CostError (pa_cons (pv 0) (pa_cons pe_str pa_nil))))
      (pss_one (ps_ost (pv 0) (pv 1)))), ?_⟩
      refine ⟨_, rfl, a, A.BadName, _, rfl, by show 1 ≤ 1000; decide, T.ox_BadName, ha, ?_⟩
      refine ⟨_, rfl, _, rfl, a, A.BadName, rfl, T.ox_BadName, T.n_BadName_name, .inl ⟨ha, fun d hd nd => ?_⟩⟩
      have ea : upd (upd H d (exd d [("name", v0)])) a (exo a A.BadName (some d)) a = some (exo a A.BadName (some d)) := upd_same
      have ed : upd (upd H d (exd d [("name", v0)])) a (exo a A.BadName (some d)) d = some (exd d [("name", v0)]) := by rw [upd_ne nd, upd_same]
      exact k d _ hd nd (fun b o e n => by rw [upd_ne n, upd_ne (ne_of_none e hd)]; exact e) ea ed
def fs_NoPrice : List V → List (Str × V)
  | [v0] => [("name", v0)]
  | _ => []
theorem ok_m_NoPrice_init (T : Txt K mg A) : FnOk P w K mg base CX0 3 A.m_NoPrice_init A.fd_m_NoPrice_init P_m_NoPrice_init (spExcF A.NoPrice 1 fs_NoPrice) := by
  refine T.F_m_NoPrice_init.ok sc_m_NoPrice_init (fun vs H Q E h => ?_) (fun cdv Ar outer s H vs Q E hr h => ?_)
  · obtain ⟨a, ws, rfl, hl, _⟩ := h
    rw [List.length_cons, hl]
    rfl
  · obtain ⟨a, ws, rfl, hl, ha, k⟩ := h
    match ws, hl with
    | [v0], _ =>
      refine ⟨_, (pss_cons (ps_expr (pe_ceinit (by rfl) T.g_CostError T.rd_CostError T.cg_CostError T.vi_CostError (pa_cons (pv 0) (pa_cons pe_str pa_nil))))
      (pss_one (ps_ost (pv 0) (pv 1)))), ?_⟩
      refine ⟨_, rfl, a, A.NoPrice, _, rfl, by show 1 ≤ 1000; decide, T.ox_NoPrice, ha, ?_⟩
      refine ⟨_, rfl, _, rfl, a, A.NoPrice, rfl, T.ox_NoPrice, T.n_NoPrice_name, .inl ⟨ha, fun d hd nd => ?_⟩⟩
      have ea : upd (upd H d (exd d [("name", v0)])) a (exo a A.NoPrice (some d)) a = some (exo a A.NoPrice (some d)) := upd_same
      have ed : upd (upd H d (exd d [("name", v0)])) a (exo a A.NoPrice (some d)) d = some (exd d [("name", v0)]) := by rw [upd_ne nd, upd_same]
      exact k d _ hd nd (fun b o e n => by rw [upd_ne n, upd_ne (ne_of_none e hd)]; exact e) ea ed
def fs_Negative : List V → List (Str × V)
  | [v0] => [("name", v0)]
  | _ => []
theorem ok_m_Negative_init (T : Txt K mg A) : FnOk P w K mg base CX0 3 A.m_Negative_init A.fd_m_Negative_init P_m_Negative_init (spExcF A.Negative 1 fs_Negative) := by
  refine T.F_m_Negative_init.ok sc_m_Negative_init (fun vs H Q E h => ?_) (fun cdv Ar outer s H vs Q E hr h => ?_)
  · obtain ⟨a, ws, rfl, hl, _⟩ := h
    rw [List.length_cons, hl]
    rfl
  · obtain ⟨a, ws, rfl, hl, ha, k⟩ := h
    match ws, hl with
    | [v0], _ =>
      refine ⟨_, (pss_cons (ps_expr (pe_ceinit (by rfl) T.g_CostError T.rd_CostError T.cg_CostError T.vi_CostError (pa_cons (pv 0) (pa_cons pe_str pa_nil))))
      (pss_one (ps_ost (pv 0) (pv 1)))), ?_⟩
      refine ⟨_, rfl, a, A.Negative, _, rfl, by show 1 ≤ 1000; decide, T.ox_Negative, ha, ?_⟩
      refine ⟨_, rfl, _, rfl, a, A.Negative, rfl, T.ox_Negative, T.n_Negative_name, .inl ⟨ha, fun d hd nd => ?_⟩⟩
      have ea : upd (upd H d (exd d [("name", v0)])) a (exo a A.Negative (some d)) a = some (exo a A.Negative (some d)) := upd_same
      have ed : upd (upd H d (exd d [("name", v0)])) a (exo a A.Negative (some d)) d = some (exd d [("name", v0)]) := by rw [upd_ne nd, upd_same]
      exact k d _ hd nd (fun b o e n => by rw [upd_ne n, upd_ne (ne_of_none e hd)]; exact e) ea ed
end

theorem mk_excF {C : Addr} {n : Nat} {fs : List V → List (Str × V)} {H : Hp} {ws : List V} {Q : XK} (h : ∀ d H', Same H H' → H d = none → H' d = some (.xd (fs ws)) → Q (.ref C) (some d) H') {a : Addr} (ha : H a = none) (hl : ws.length = n := by rfl) :
    spExcF C n fs (.ref a :: ws) (upd H a (exo a C none)) (fun v H2 => v = .non ∧ ∃ (d : Addr) (fs : List (Str × V)), H2 a = some (exo a C (some d)) ∧ H2 d = some (exd d fs) ∧ H d = none ∧ Q (.ref C) (some d) (upd (del H2 a) d (.xd fs))) (fun _ _ _ => False) := by
  refine ⟨a, ws, rfl, hl, upd_same, fun d H' hd nd keep ea ed => ⟨rfl, d, _, ea, ed, ?_, ?_⟩⟩
  · rw [upd_ne nd] at hd
    exact hd
  · rw [upd_ne nd] at hd
    refine h d _ (fun b o e => ?_) hd upd_same
    have n1 := ne_of_none e ha
    have n2 := ne_of_none e hd
    rw [upd_ne n2, del_ne n1]
    exact keep b o (by rw [upd_ne n1]; exact e) n1

/-! ### ratios: halves, over -/
def Sz (n : Nat) (q : Rat) : Prop := q.num.natAbs < 2 ^ n ∧ q.den < 2 ^ n
theorem Sz.mono {a b : Nat} {q : Rat} (h : Sz a q) (hab : a ≤ b) : Sz b q := ⟨lt_pow h.1 hab, lt_pow h.2 hab⟩
theorem Sz.int {n : Nat} {i : Int} (h : i.natAbs < 2 ^ n) (hn : 0 < n) : Sz n (i : Rat) := ⟨h, by
  show 1 < 2 ^ n
  exact Nat.lt_of_lt_of_le (by decide) (pow_mono (a := 1) hn)⟩
theorem num_le {t b : Int} : (Rat.divInt t b).num.natAbs ≤ t.natAbs := by
  rw [Rat.num_divInt]
  by_cases hb : b = 0
  · subst hb
    simp
  · have h1 : (b.sign * t / ((b.gcd t : Nat) : Int)).natAbs ≤ (b.sign * t).natAbs := Int.natAbs_ediv_le_natAbs _ _
    rw [Int.natAbs_mul, Int.natAbs_sign_of_ne_zero hb, Nat.one_mul] at h1
    exact h1
theorem den_le {t b : Int} (hb : b ≠ 0) : (Rat.divInt t b).den ≤ b.natAbs := by
  rw [Rat.den_divInt, if_neg hb]
  exact Nat.div_le_self _ _
theorem Sz.div {n : Nat} {t b : Int} (ht : t.natAbs < 2 ^ n) (hb : b.natAbs < 2 ^ n) (h0 : b ≠ 0) : Sz n (Rat.divInt t b) := ⟨Nat.lt_of_le_of_lt num_le ht, Nat.lt_of_le_of_lt (den_le h0) hb⟩
theorem mulw {i j : Int} {a b : Nat} (hi : i.natAbs < 2 ^ a) (hj : j.natAbs < 2 ^ b) (h : a + b ≤ 900000) : CMulW i j :=
  wide_mul (a := a + 1) (b := b + 1) (lt_pow hi (by omega)) (lt_pow hj (by omega)) (by omega) (by omega) (by omega)
theorem mul_lt {i j : Int} {a b : Nat} (hi : i.natAbs < 2 ^ a) (hj : j.natAbs < 2 ^ b) : (i * j).natAbs < 2 ^ (a + b) := wide_lt hi hj
theorem quot_eq {q r : Rat} : Rat.divInt (q.num * (r.den : Int)) ((q.den : Int) * r.num) = q / r := by
  rw [Rat.div_def, Rat.inv_def, ← Rat.divInt_mul_divInt, Rat.num_divInt_den]
theorem same_make {H : Hp} {x dx C : Addr} {fs fs' : List (Str × V)} (hx : H x = none) (hd : H dx = none) : Same H (upd (upd (upd H dx (.own x)) x (.ins C dx fs)) x (.ins C dx fs')) := fun b o e => by
  rw [upd_ne (ne_of_none e hx), upd_ne (ne_of_none e hx), upd_ne (ne_of_none e hd)]
  exact e
theorem same_make1 {H : Hp} {x dx C : Addr} {fs : List (Str × V)} (hx : H x = none) (hd : H dx = none) : Same H (upd (upd H dx (.own x)) x (.ins C dx fs)) := fun b o e => by
  rw [upd_ne (ne_of_none e hx), upd_ne (ne_of_none e hd)]
  exact e
theorem mk_ratio {C CE x dx : Addr} {H : Hp} {t b : Int} {R : VK} {E : XK} (hx : H x = none) (hd : H dx = none) (hb : b.natAbs < 2 ^ 9000) (h0 : b = 0 → ∀ H', Same H H' → E (.ref CE) none H')
    (h1 : b ≠ 0 → ∀ H', Same H H' → IsR C H' (.ref x) (Rat.divInt t b) → R .non H') : spRatioInit C CE [.ref x, .int t, .int b] (upd (upd H dx (.own x)) x (.ins C dx [])) R E :=
  ⟨x, dx, t, b, rfl, upd_same, hb, fun e => h0 e _ (same_make1 hx hd), fun e => h1 e _ (same_make hx hd) ⟨x, dx, rfl, upd_same⟩⟩
def spHalves (C : Addr) : Sp := fun vs H Q _ => ∃ (v : V) (q : Rat), vs = [v] ∧ IsN C H v q ∧ ∀ p, H p = none → Q (.ref p) (upd H p (.tup [.int q.num, .int (q.den : Int)]))
def spOver (C CE : Addr) : Sp := fun vs H Q E => ∃ (v u : V) (q r : Rat) (a b : Nat), vs = [v, u] ∧ IsR C H v q ∧ IsN C H u r ∧ Sz a q ∧ Sz b r ∧ a + b ≤ 9000 ∧
  (r = 0 → ∀ H', Same H H' → E (.ref CE) none H') ∧ (r ≠ 0 → ∀ v' H', Same H H' → IsR C H' v' (q / r) → Q v' H')
section
variable {P : Program} {w : World} {K : PySem.W.Frag} {mg : Str → Option Value} {base : Heap} {A : Ad}
theorem ty_ratio (T : Txt K mg A) {H : Hp} {p dx : Addr} {fs : List (Str × V)} (h : H p = some (.ins A.Ratio dx fs)) : TyX K H (.ref p) (.ref A.Ratio) := .base (.ins h T.cl_Ratio T.tc_Ratio T.tn_Ratio T.tk_Ratio T.tm_Ratio)
theorem ok_f_halves (T : Txt K mg A) : FnOk P w K mg base CX0 1 A.f_halves A.fd_f_halves P_f_halves (spHalves A.Ratio) := by
  refine T.F_f_halves.ok sc_f_halves (fun vs H Q E h => ?_) (fun cdv Ar outer s H vs Q E hr h => ?_)
  · obtain ⟨v, q, rfl, _⟩ := h
    rfl
  · obtain ⟨v, q, rfl, hN, k⟩ := h
    refine ⟨_, (pss_cons (ps_if (pt_val (pe_callB call_isi (by rfl) T.z_isinstance (by decide +kernel) (pa_cons (pv 0) (pa_cons (pe_bltn (v := .ty "int") (by rfl) T.z_int (by decide +kernel) rfl) pa_nil)))) (pss_one (ps_ret (pe_tup (pa_cons (pv 0) (pa_cons pe_int pa_nil))))) pss_nil)
      (pss_one (ps_ret (pe_tup (pa_cons (pe_fld (pv 0) rfl) (pa_cons (pe_fld (pv 0) rfl) pa_nil)))))), ?_⟩
    rcases hN with ⟨p, dx, rfl, hp⟩ | ⟨n, rfl, rfl⟩
    · have n1 := T.n_Ratio_top
      have n2 := T.n_Ratio_bottom
      have n3 := T.cl_Ratio
      refine ⟨_, rfl, _, _, _, _, _, rfl, .ty "int", ty_ratio T hp, T.ki_Ratio, _, rfl, iteF ?_⟩
      exact ⟨_, rfl, p, _, dx, _, _, rfl, hp, n3, n1, rf_top _ _, _, rfl, p, _, dx, _, _, rfl, hp, n3, n2, rf_bottom _ _, by walk_at "fact", k⟩
    · refine ⟨_, rfl, _, _, _, _, _, rfl, .ty "int", .base (.int n), kit_ty (by decide +kernel), _, rfl, iteT ?_⟩
      exact ⟨_, rfl, by walk_at "fact", k⟩
end

/-! ### ratios: less, at_most, same, floor, nearest -/
def PairAt (H : Hp) (p : Addr) (q : Rat) : Prop := H p = some (.tup [.int q.num, .int (q.den : Int)])
theorem eqv_pair (q r : Rat) : PyData.eqv (.tuple [.int q.num, .int (q.den : Int)]) (.tuple [.int r.num, .int (r.den : Int)]) = decide (q = r) := by
  have e : (decide (q = r)) = ((q.num == r.num) && ((q.den : Int) == (r.den : Int))) := by
    by_cases h : q = r
    · subst h
      simp
    · rw [decide_eq_false h]
      symm
      rw [Bool.and_eq_false_iff]
      by_cases h1 : q.num = r.num
      · right
        rw [beq_eq_false_iff_ne]
        intro h2
        exact h (Rat.ext h1 (by omega))
      · left
        rw [beq_eq_false_iff_ne]
        exact h1
  simp [PyData.eqv, PyData.eqvAll, e]
theorem dp_pair {K : PySem.W.Frag} {H : Hp} {p : Addr} {q : Rat} (h : PairAt H p q) : Dp K H (.ref p) (.tuple [.int q.num, .int (q.den : Int)]) := .tup (SqT.of h) (.cons (.int _) (.cons (.int _) .nil))
theorem eqD_pair {K : PySem.W.Frag} {H : Hp} {p p' : Addr} {q r : Rat} {Q : VK} (hp : PairAt H p q) (hq : PairAt H p' r) (h : Q (.bl (decide (q = r))) H) : rEqD K (.ref p) (.ref p') H Q :=
  ⟨_, _, dp_pair hp, dp_pair hq, rfl, rfl, by rw [eqv_pair]; exact h⟩
theorem neD_pair {K : PySem.W.Frag} {H : Hp} {p p' : Addr} {q r : Rat} {Q : VK} (hp : PairAt H p q) (hq : PairAt H p' r) (h : Q (.bl (!decide (q = r))) H) : rNeD K (.ref p) (.ref p') H Q :=
  ⟨_, _, dp_pair hp, dp_pair hq, rfl, rfl, by rw [eqv_pair]; exact h⟩

def spCmp (C : Addr) (f : Rat → Rat → Bool) : Sp := fun vs H Q _ => ∃ (v u : V) (q r : Rat) (a b : Nat), vs = [v, u] ∧ IsR C H v q ∧ IsN C H u r ∧ Sz a q ∧ Sz b r ∧ a + b ≤ 9000 ∧ ∀ H', Same H H' → Q (.bl (f q r)) H'
def spFl (C : Addr) (f : Rat → Int) : Sp := fun vs H Q _ => ∃ (v : V) (q : Rat) (a : Nat), vs = [v] ∧ IsR C H v q ∧ Sz a q ∧ a ≤ 8000 ∧ Q (.int (f q)) H
def rfloor (q : Rat) : Int := q.num / (q.den : Int)
def rnear (q : Rat) : Int := (2 * q.num + (q.den : Int)) / (2 * (q.den : Int))
theorem and_to {A : Prop} {Q : VK} {H : Hp} {b b2 : Bool} (h : Q (.bl (b && b2)) H) (hA : Q (.bl b2) H → A) : ∃ c, V.bl b = .bl c ∧ if c = true then A else Q (.bl false) H := by
  cases b with
  | true => exact ⟨true, rfl, iteT (hA h)⟩
  | false => exact ⟨false, rfl, iteF h⟩
section
variable {P : Program} {w : World} {K : PySem.W.Frag} {mg : Str → Option Value} {base : Heap} {A : Ad}
theorem ok_m_Ratio_at_most (T : Txt K mg A) : FnOk P w K mg base CX0 2 A.m_Ratio_at_most A.fd_m_Ratio_at_most P_m_Ratio_at_most (spCmp A.Ratio fun q r => decide (q ≤ r)) := by
  refine T.F_m_Ratio_at_most.ok sc_m_Ratio_at_most (fun vs H Q E h => ?_) (fun cdv Ar outer s H vs Q E hr h => ?_)
  · obtain ⟨v, u, q, r, a, b, rfl, _⟩ := h
    rfl
  · obtain ⟨v, u, q, r, a, b, rfl, ⟨p, dx, rfl, hp⟩, hu, sq, sr, hab, kQ⟩ := h
    refine ⟨_, (pss_cons (ps_asg (pe_call (ok_f_halves T) (hr.mono (by decide)) (by rfl) T.g_halves T.F_f_halves.kp T.b_f_halves .nil pass0 (pa_cons (pv 1) pa_nil)) (pg_tup (n := 2) rfl (pgs_cons (pg_name (i := 2) sc_m_Ratio_at_most.nd rfl (Or.inl rfl)) (pgs_cons (pg_name (i := 3) sc_m_Ratio_at_most.nd rfl (Or.inl rfl)) pgs_nil))))
      (pss_one (ps_ret (pe_cmpR op_le (pe_op op_mulW (pe_fld (pv 0) rfl) (pv 3)) (pe_op op_mulW (pv 2) (pe_fld (pv 0) rfl)) (nomark _))))), ?_⟩
    refine ⟨_, rfl, u, r, rfl, hu, fun t ht => ?_⟩
    have hp' := Same.new (o := .tup [.int r.num, .int (r.den : Int)]) ht _ _ hp
    refine ⟨t, _, rfl, SqT.of upd_same, rfl, _, _, rfl, _, _, rfl, rfl, ?_⟩
    refine ⟨_, rfl, p, _, dx, _, _, rfl, hp', T.cl_Ratio, T.n_Ratio_top, rf_top _ _, _, rfl, _, _, rfl, rfl, mulw sq.1 sr.2 (by omega), _, rfl, _, rfl, p, _, dx, _, _, rfl, hp', T.cl_Ratio, T.n_Ratio_bottom, rf_bottom _ _, _, _, rfl, rfl, mulw sr.1 sq.2 (by omega), _, _, rfl, rfl, ?_⟩
    have e : decide (q ≤ r) = decide (q.num * (r.den : Int) ≤ r.num * (q.den : Int)) := by
      rw [decide_eq_decide]
      exact Rat.le_iff q r
    dsimp only
    rw [← e]
    exact kQ _ (Same.new ht)
theorem ok_m_Ratio_same (T : Txt K mg A) : FnOk P w K mg base CX0 2 A.m_Ratio_same A.fd_m_Ratio_same P_m_Ratio_same (spCmp A.Ratio fun q r => decide (q = r)) := by
  refine T.F_m_Ratio_same.ok sc_m_Ratio_same (fun vs H Q E h => ?_) (fun cdv Ar outer s H vs Q E hr h => ?_)
  · obtain ⟨v, u, q, r, a, b, rfl, _⟩ := h
    rfl
  · obtain ⟨v, u, q, r, a, b, rfl, ⟨p, dx, rfl, hp⟩, hu, sq, sr, hab, kQ⟩ := h
    refine ⟨_, (pss_one (ps_ret (pe_cmpR (op_eqD hr.units) (pe_call (ok_f_halves T) (hr.mono (by decide)) (by rfl) T.g_halves T.F_f_halves.kp T.b_f_halves .nil pass0 (pa_cons (pv 1) pa_nil)) (pe_tup (pa_cons (pe_fld (pv 0) rfl) (pa_cons (pe_fld (pv 0) rfl) pa_nil))) (nomark _)))), ?_⟩
    refine ⟨_, rfl, u, r, rfl, hu, fun t ht => ?_⟩
    have hp' := Same.new (o := .tup [.int r.num, .int (r.den : Int)]) ht _ _ hp
    refine ⟨_, rfl, p, _, dx, _, _, rfl, hp', T.cl_Ratio, T.n_Ratio_top, rf_top _ _, _, rfl, p, _, dx, _, _, rfl, hp', T.cl_Ratio, T.n_Ratio_bottom, rf_bottom _ _, by walk_at "fact", fun t2 ht2 => ?_⟩
    refine eqD_pair (q := r) (r := q) (Same.new ht2 _ _ upd_same) upd_same ?_
    have e : decide (q = r) = decide (r = q) := by
      rw [decide_eq_decide]
      exact eq_comm
    rw [← e]
    exact kQ _ ((Same.new ht).trans (Same.new ht2))
end

/-! ### ratios: the operators -/
theorem add_eq {q r : Rat} : Rat.divInt (q.num * (r.den : Int) + r.num * (q.den : Int)) ((q.den : Int) * (r.den : Int)) = q + r := by
  have h1 : (q.den : Int) ≠ 0 := by have := q.den_nz; omega
  have h2 : (r.den : Int) ≠ 0 := by have := r.den_nz; omega
  rw [← Rat.divInt_add_divInt _ _ h1 h2, Rat.num_divInt_den, Rat.num_divInt_den]
theorem sub_eq {q r : Rat} : Rat.divInt (q.num * (r.den : Int) - r.num * (q.den : Int)) ((q.den : Int) * (r.den : Int)) = q - r := by
  have h1 : (q.den : Int) ≠ 0 := by have := q.den_nz; omega
  have h2 : (r.den : Int) ≠ 0 := by have := r.den_nz; omega
  rw [← Rat.divInt_sub_divInt _ _ h1 h2, Rat.num_divInt_den, Rat.num_divInt_den]
theorem mul_eq {q r : Rat} : Rat.divInt (q.num * r.num) ((q.den : Int) * (r.den : Int)) = q * r := by
  rw [← Rat.divInt_mul_divInt, Rat.num_divInt_den, Rat.num_divInt_den]
theorem neg_eq {q : Rat} : Rat.divInt (-q.num) (q.den : Int) = -q := by
  rw [← Rat.neg_divInt, Rat.num_divInt_den]
def rabs (q : Rat) : Rat := Rat.divInt (if q.num < 0 then -q.num else q.num) (q.den : Int)
theorem natAbs_add_lt {a b n : Nat} {i j : Int} (hi : i.natAbs < 2 ^ a) (hj : j.natAbs < 2 ^ b) (ha : a ≤ n) (hb : b ≤ n) : (i + j).natAbs < 2 ^ (n + 1) := by
  have h1 := lt_pow hi ha
  have h2 := lt_pow hj hb
  rw [Nat.pow_succ]
  omega
theorem Sz.add {a b : Nat} {q r : Rat} (hq : Sz a q) (hr : Sz b r) : Sz (a + b + 1) (q + r) := by
  rw [← add_eq]
  have h1 : (q.den : Int) ≠ 0 := by have := q.den_nz; omega
  have h2 : (r.den : Int) ≠ 0 := by have := r.den_nz; omega
  exact Sz.div (natAbs_add_lt (mul_lt hq.1 hr.2) (mul_lt hr.1 hq.2) (Nat.le_refl _) (by omega)) (lt_pow (mul_lt hq.2 hr.2) (by omega)) (Int.mul_ne_zero h1 h2)
theorem Sz.neg {a : Nat} {q : Rat} (hq : Sz a q) : Sz a (-q) := ⟨by show (-q.num).natAbs < _; rw [Int.natAbs_neg]; exact hq.1, hq.2⟩
theorem Sz.sub {a b : Nat} {q r : Rat} (hq : Sz a q) (hr : Sz b r) : Sz (a + b + 1) (q - r) := by
  rw [Rat.sub_eq_add_neg]
  exact hq.add hr.neg
theorem Sz.mul {a b : Nat} {q r : Rat} (hq : Sz a q) (hr : Sz b r) : Sz (a + b) (q * r) := by
  rw [← mul_eq]
  have h1 : (q.den : Int) ≠ 0 := by have := q.den_nz; omega
  have h2 : (r.den : Int) ≠ 0 := by have := r.den_nz; omega
  exact Sz.div (mul_lt hq.1 hr.1) (mul_lt hq.2 hr.2) (Int.mul_ne_zero h1 h2)
def spBin (C : Addr) (f : Rat → Rat → Rat) : Sp := fun vs H Q _ => ∃ (v u : V) (q r : Rat) (a b : Nat), vs = [v, u] ∧ IsR C H v q ∧ IsN C H u r ∧ Sz a q ∧ Sz b r ∧ a + b ≤ 8990 ∧ ∀ v' H', Same H H' → IsR C H' v' (f q r) → Q v' H'
def spUn (C : Addr) (f : Rat → Rat) : Sp := fun vs H Q _ => ∃ (v : V) (q : Rat) (a : Nat), vs = [v] ∧ IsR C H v q ∧ Sz a q ∧ a ≤ 8990 ∧ ∀ v' H', Same H H' → IsR C H' v' (f q) → Q v' H'
theorem IsN.same {C : Addr} {H H' : Hp} {v : V} {q : Rat} (h : IsN C H v q) (s : Same H H') : IsN C H' v q := h.elim (fun z => .inl (z.same s)) .inr
/-- the reading of an operator with a ratio on the left -/
theorem r_own {C : Addr} {f : Rat → Rat → Rat} {H : Hp} {v u : V} {q r : Rat} {a b : Nat} {Q : VK} {E : XK} (hv : IsR C H v q) (hu : IsN C H u r) (sq : Sz a q) (sr : Sz b r) (hab : a + b ≤ 8990)
    (h : ∀ v' H', Same H H' → IsR C H' v' (f q r) → Q v' H') : rOwn C (spBin C f) E v u H Q := by
  obtain ⟨p, dx, rfl, hp⟩ := id hv
  refine ⟨p, dx, _, rfl, hp, ?_, _, _, q, r, a, b, rfl, hv, hu, sq, sr, hab, h⟩
  rcases hu with ⟨p2, dx2, e, h2⟩ | ⟨n, e, _⟩
  · exact .inr ⟨p2, dx2, _, e, h2⟩
  · exact .inl ⟨n, e⟩
theorem r_rown {C : Addr} {f : Rat → Rat → Rat} {H : Hp} {u : V} {n : Int} {q : Rat} {a b : Nat} {Q : VK} {E : XK} (hu : IsR C H u q) (sq : Sz a q) (sr : Sz b (n : Rat)) (hab : a + b ≤ 8990)
    (h : ∀ v' H', Same H H' → IsR C H' v' (f q (n : Rat)) → Q v' H') : rROwn C (spBin C f) E (.int n) u H Q := by
  obtain ⟨p, dx, rfl, hp⟩ := id hu
  exact ⟨n, p, dx, _, rfl, rfl, hp, _, _, q, (n : Rat), a, b, rfl, hu, .inr ⟨n, rfl, rfl⟩, sq, sr, hab, h⟩
theorem r_un {C : Addr} {f : Rat → Rat} {H : Hp} {v : V} {q : Rat} {a : Nat} {Q : VK} {E : XK} (hv : IsR C H v q) (sq : Sz a q) (ha : a ≤ 8990) (h : ∀ v' H', Same H H' → IsR C H' v' (f q) → Q v' H') :
    Wd (∃ a dx fs, v = .ref a ∧ H a = some (.ins C dx fs) ∧ spUn C f [v] H Q E) := by
  obtain ⟨p, dx, rfl, hp⟩ := id hv
  exact ⟨p, dx, _, rfl, hp, _, q, a, rfl, hv, sq, ha, h⟩
theorem r_abs {C : Addr} {f : Rat → Rat} {H : Hp} {v : V} {q : Rat} {a : Nat} {Q : VK} {E : XK} (hv : IsR C H v q) (sq : Sz a q) (ha : a ≤ 8990) (h : ∀ v' H', Same H H' → IsR C H' v' (f q) → Q v' H') :
    Wd (∃ a dx fs, [v] = [.ref a] ∧ H a = some (.ins C dx fs) ∧ spUn C f [.ref a] H Q E) := by
  obtain ⟨p, dx, rfl, hp⟩ := id hv
  exact ⟨p, dx, _, rfl, hp, _, q, a, rfl, hv, sq, ha, h⟩
section
variable {P : Program} {w : World} {K : PySem.W.Frag} {mg : Str → Option Value} {base : Heap} {A : Ad}
theorem oo_add (T : Txt K mg A) : OwnOp K A.Ratio A.m_Ratio_add A.m_Ratio_radd "add" := ⟨T.sf_Ratio, T.m_Ratio___add__.at_, T.m_Ratio___add__.fn, T.m_Ratio___radd__.at_, T.m_Ratio___radd__.fn, ⟨_, T.o1a_Ratio⟩, ⟨_, T.o2a_Ratio⟩, T.si_Ratio, T.sj_Ratio⟩
theorem oo_sub (T : Txt K mg A) : OwnOp K A.Ratio A.m_Ratio_sub A.m_Ratio_rsub "sub" := ⟨T.sf_Ratio, T.m_Ratio___sub__.at_, T.m_Ratio___sub__.fn, T.m_Ratio___rsub__.at_, T.m_Ratio___rsub__.fn, ⟨_, T.o1s_Ratio⟩, ⟨_, T.o2s_Ratio⟩, T.si_Ratio, T.sj_Ratio⟩
theorem oo_mul (T : Txt K mg A) : OwnOp K A.Ratio A.m_Ratio_mul A.m_Ratio_rmul "mul" := ⟨T.sf_Ratio, T.m_Ratio___mul__.at_, T.m_Ratio___mul__.fn, T.m_Ratio___rmul__.at_, T.m_Ratio___rmul__.fn, ⟨_, T.o1m_Ratio⟩, ⟨_, T.o2m_Ratio⟩, T.si_Ratio, T.sj_Ratio⟩
theorem ok_m_Ratio_add (T : Txt K mg A) : FnOk P w K mg base CX0 6 A.m_Ratio_add A.fd_m_Ratio_add P_m_Ratio_add (spBin A.Ratio (· + ·)) := by
  refine T.F_m_Ratio_add.ok sc_m_Ratio_add (fun vs H Q E h => ?_) (fun cdv Ar outer s H vs Q E hr h => ?_)
  · obtain ⟨v, u, q, r, a, b, rfl, _⟩ := h
    rfl
  · obtain ⟨v, u, q, r, a, b, rfl, ⟨p, dx, rfl, hp⟩, hu, sq, sr, hab, kQ⟩ := h
    refine ⟨_, (pss_cons (ps_asg (pe_call (ok_f_halves T) (hr.mono (by decide)) (by rfl) T.g_halves T.F_f_halves.kp T.b_f_halves .nil pass0 (pa_cons (pv 1) pa_nil)) (pg_tup (n := 2) rfl (pgs_cons (pg_name (i := 2) sc_m_Ratio_add.nd rfl (Or.inl rfl)) (pgs_cons (pg_name (i := 3) sc_m_Ratio_add.nd rfl (Or.inl rfl)) pgs_nil))))
      (pss_one (ps_ret (pe_make T.mk_Ratio (ok_m_Ratio_init T) (hr.mono (by decide)) (by rfl) T.g_Ratio T.b_m_Ratio_init .nil passL (pa_cons (pe_op op_add (pe_op op_mulW (pe_fld (pv 0) rfl) (pv 3)) (pe_op op_mulW (pv 2) (pe_fld (pv 0) rfl))) (pa_cons (pe_op op_mulW (pe_fld (pv 0) rfl) (pv 3)) pa_nil)))))), ?_⟩
    refine ⟨_, rfl, u, r, rfl, hu, fun t ht => ?_⟩
    have hp' := Same.new (o := .tup [.int r.num, .int (r.den : Int)]) ht _ _ hp
    refine ⟨t, _, rfl, SqT.of upd_same, rfl, _, _, rfl, _, _, rfl, rfl, ?_⟩
    refine ⟨_, rfl, p, _, dx, _, _, rfl, hp', T.cl_Ratio, T.n_Ratio_top, rf_top _ _, _, rfl, _, _, rfl, rfl, mulw sq.1 sr.2 (by omega), _, rfl, _, rfl, p, _, dx, _, _, rfl, hp', T.cl_Ratio, T.n_Ratio_bottom, rf_bottom _ _, _, _, rfl, rfl, mulw sr.1 sq.2 (by omega), _, _, rfl, rfl, ?_⟩
    refine ⟨_, rfl, p, _, dx, _, _, rfl, hp', T.cl_Ratio, T.n_Ratio_bottom, rf_bottom _ _, _, rfl, _, _, rfl, rfl, mulw sq.2 sr.2 (by omega), fun x dx' hx hd' _ => ?_⟩
    have h1 : (q.den : Int) ≠ 0 := by have := q.den_nz; omega
    have h2 : (r.den : Int) ≠ 0 := by have := r.den_nz; omega
    refine mk_ratio hx hd' (lt_pow (mul_lt sq.2 sr.2) (by omega)) (fun e => absurd e (Int.mul_ne_zero h1 h2)) (fun _ H' s i => ⟨rfl, ?_⟩)
    rw [add_eq] at i
    exact kQ _ H' ((Same.new ht).trans s) i
theorem ok_m_Ratio_sub (T : Txt K mg A) : FnOk P w K mg base CX0 6 A.m_Ratio_sub A.fd_m_Ratio_sub P_m_Ratio_sub (spBin A.Ratio (· - ·)) := by
  refine T.F_m_Ratio_sub.ok sc_m_Ratio_sub (fun vs H Q E h => ?_) (fun cdv Ar outer s H vs Q E hr h => ?_)
  · obtain ⟨v, u, q, r, a, b, rfl, _⟩ := h
    rfl
  · obtain ⟨v, u, q, r, a, b, rfl, ⟨p, dx, rfl, hp⟩, hu, sq, sr, hab, kQ⟩ := h
    refine ⟨_, (pss_cons (ps_asg (pe_call (ok_f_halves T) (hr.mono (by decide)) (by rfl) T.g_halves T.F_f_halves.kp T.b_f_halves .nil pass0 (pa_cons (pv 1) pa_nil)) (pg_tup (n := 2) rfl (pgs_cons (pg_name (i := 2) sc_m_Ratio_sub.nd rfl (Or.inl rfl)) (pgs_cons (pg_name (i := 3) sc_m_Ratio_sub.nd rfl (Or.inl rfl)) pgs_nil))))
      (pss_one (ps_ret (pe_make T.mk_Ratio (ok_m_Ratio_init T) (hr.mono (by decide)) (by rfl) T.g_Ratio T.b_m_Ratio_init .nil passL (pa_cons (pe_op op_sub (pe_op op_mulW (pe_fld (pv 0) rfl) (pv 3)) (pe_op op_mulW (pv 2) (pe_fld (pv 0) rfl))) (pa_cons (pe_op op_mulW (pe_fld (pv 0) rfl) (pv 3)) pa_nil)))))), ?_⟩
    refine ⟨_, rfl, u, r, rfl, hu, fun t ht => ?_⟩
    have hp' := Same.new (o := .tup [.int r.num, .int (r.den : Int)]) ht _ _ hp
    refine ⟨t, _, rfl, SqT.of upd_same, rfl, _, _, rfl, _, _, rfl, rfl, ?_⟩
    refine ⟨_, rfl, p, _, dx, _, _, rfl, hp', T.cl_Ratio, T.n_Ratio_top, rf_top _ _, _, rfl, _, _, rfl, rfl, mulw sq.1 sr.2 (by omega), _, rfl, _, rfl, p, _, dx, _, _, rfl, hp', T.cl_Ratio, T.n_Ratio_bottom, rf_bottom _ _, _, _, rfl, rfl, mulw sr.1 sq.2 (by omega), _, _, rfl, rfl, ?_⟩
    refine ⟨_, rfl, p, _, dx, _, _, rfl, hp', T.cl_Ratio, T.n_Ratio_bottom, rf_bottom _ _, _, rfl, _, _, rfl, rfl, mulw sq.2 sr.2 (by omega), fun x dx' hx hd' _ => ?_⟩
    have h1 : (q.den : Int) ≠ 0 := by have := q.den_nz; omega
    have h2 : (r.den : Int) ≠ 0 := by have := r.den_nz; omega
    refine mk_ratio hx hd' (lt_pow (mul_lt sq.2 sr.2) (by omega)) (fun e => absurd e (Int.mul_ne_zero h1 h2)) (fun _ H' s i => ⟨rfl, ?_⟩)
    rw [sub_eq] at i
    exact kQ _ H' ((Same.new ht).trans s) i
theorem ok_m_Ratio_mul (T : Txt K mg A) : FnOk P w K mg base CX0 6 A.m_Ratio_mul A.fd_m_Ratio_mul P_m_Ratio_mul (spBin A.Ratio (· * ·)) := by
  refine T.F_m_Ratio_mul.ok sc_m_Ratio_mul (fun vs H Q E h => ?_) (fun cdv Ar outer s H vs Q E hr h => ?_)
  · obtain ⟨v, u, q, r, a, b, rfl, _⟩ := h
    rfl
  · obtain ⟨v, u, q, r, a, b, rfl, ⟨p, dx, rfl, hp⟩, hu, sq, sr, hab, kQ⟩ := h
    refine ⟨_, (pss_cons (ps_asg (pe_call (ok_f_halves T) (hr.mono (by decide)) (by rfl) T.g_halves T.F_f_halves.kp T.b_f_halves .nil pass0 (pa_cons (pv 1) pa_nil)) (pg_tup (n := 2) rfl (pgs_cons (pg_name (i := 2) sc_m_Ratio_mul.nd rfl (Or.inl rfl)) (pgs_cons (pg_name (i := 3) sc_m_Ratio_mul.nd rfl (Or.inl rfl)) pgs_nil))))
      (pss_one (ps_ret (pe_make T.mk_Ratio (ok_m_Ratio_init T) (hr.mono (by decide)) (by rfl) T.g_Ratio T.b_m_Ratio_init .nil passL (pa_cons (pe_op op_mulW (pe_fld (pv 0) rfl) (pv 2)) (pa_cons (pe_op op_mulW (pe_fld (pv 0) rfl) (pv 3)) pa_nil)))))), ?_⟩
    refine ⟨_, rfl, u, r, rfl, hu, fun t ht => ?_⟩
    have hp' := Same.new (o := .tup [.int r.num, .int (r.den : Int)]) ht _ _ hp
    refine ⟨t, _, rfl, SqT.of upd_same, rfl, _, _, rfl, _, _, rfl, rfl, ?_⟩
    refine ⟨_, rfl, p, _, dx, _, _, rfl, hp', T.cl_Ratio, T.n_Ratio_top, rf_top _ _, _, rfl, _, _, rfl, rfl, mulw sq.1 sr.1 (by omega), ?_⟩
    refine ⟨_, rfl, p, _, dx, _, _, rfl, hp', T.cl_Ratio, T.n_Ratio_bottom, rf_bottom _ _, _, rfl, _, _, rfl, rfl, mulw sq.2 sr.2 (by omega), fun x dx' hx hd' _ => ?_⟩
    have h1 : (q.den : Int) ≠ 0 := by have := q.den_nz; omega
    have h2 : (r.den : Int) ≠ 0 := by have := r.den_nz; omega
    refine mk_ratio hx hd' (lt_pow (mul_lt sq.2 sr.2) (by omega)) (fun e => absurd e (Int.mul_ne_zero h1 h2)) (fun _ H' s i => ⟨rfl, ?_⟩)
    rw [mul_eq] at i
    exact kQ _ H' ((Same.new ht).trans s) i
theorem ok_m_Ratio_neg (T : Txt K mg A) : FnOk P w K mg base CX0 6 A.m_Ratio_neg A.fd_m_Ratio_neg P_m_Ratio_neg (spUn A.Ratio (- ·)) := by
  refine T.F_m_Ratio_neg.ok sc_m_Ratio_neg (fun vs H Q E h => ?_) (fun cdv Ar outer s H vs Q E hr h => ?_)
  · obtain ⟨v, q, a, rfl, _⟩ := h
    rfl
  · obtain ⟨v, q, a, rfl, ⟨p, dx, rfl, hp⟩, sq, ha, kQ⟩ := h
    refine ⟨_, (pss_one (ps_ret (pe_make T.mk_Ratio (ok_m_Ratio_init T) (hr.mono (by decide)) (by rfl) T.g_Ratio T.b_m_Ratio_init .nil passL (pa_cons (pe_un un_neg (pe_fld (pv 0) rfl)) (pa_cons (pe_fld (pv 0) rfl) pa_nil))))), ?_⟩
    refine ⟨_, rfl, p, _, dx, _, _, rfl, hp, T.cl_Ratio, T.n_Ratio_top, rf_top _ _, _, rfl, _, rfl, p, _, dx, _, _, rfl, hp, T.cl_Ratio, T.n_Ratio_bottom, rf_bottom _ _, fun x dx' hx hd' _ => ?_⟩
    have h1 : (q.den : Int) ≠ 0 := by have := q.den_nz; omega
    refine mk_ratio hx hd' (lt_pow (a := a) sq.2 (by omega)) (fun e => absurd e h1) (fun _ H' s i => ⟨rfl, ?_⟩)
    rw [neg_eq] at i
    exact kQ _ H' s i
theorem ok_m_Ratio_abs (T : Txt K mg A) : FnOk P w K mg base CX0 6 A.m_Ratio_abs A.fd_m_Ratio_abs P_m_Ratio_abs (spUn A.Ratio rabs) := by
  refine T.F_m_Ratio_abs.ok sc_m_Ratio_abs (fun vs H Q E h => ?_) (fun cdv Ar outer s H vs Q E hr h => ?_)
  · obtain ⟨v, q, a, rfl, _⟩ := h
    rfl
  · obtain ⟨v, q, a, rfl, ⟨p, dx, rfl, hp⟩, sq, ha, kQ⟩ := h
    refine ⟨_, (pss_one (ps_ret (pe_make T.mk_Ratio (ok_m_Ratio_init T) (hr.mono (by decide)) (by rfl) T.g_Ratio T.b_m_Ratio_init .nil passL (pa_cons (pe_callB call_abs (by rfl) T.z_abs (by decide +kernel) (pa_cons (pe_fld (pv 0) rfl) pa_nil)) (pa_cons (pe_fld (pv 0) rfl) pa_nil))))), ?_⟩
    refine ⟨_, rfl, p, _, dx, _, _, rfl, hp, T.cl_Ratio, T.n_Ratio_top, rf_top _ _, _, rfl, _, rfl, p, _, dx, _, _, rfl, hp, T.cl_Ratio, T.n_Ratio_bottom, rf_bottom _ _, fun x dx' hx hd' _ => ?_⟩
    have h1 : (q.den : Int) ≠ 0 := by have := q.den_nz; omega
    exact mk_ratio hx hd' (lt_pow (a := a) sq.2 (by omega)) (fun e => absurd e h1) (fun _ H' s i => ⟨rfl, kQ _ H' s i⟩)
theorem ok_m_Ratio_radd (T : Txt K mg A) : FnOk P w K mg base CX0 8 A.m_Ratio_radd A.fd_m_Ratio_radd P_m_Ratio_radd (spBin A.Ratio fun q r => q + r) := by
  refine T.F_m_Ratio_radd.ok sc_m_Ratio_radd (fun vs H Q E h => ?_) (fun cdv Ar outer s H vs Q E hr h => ?_)
  · obtain ⟨v, u, q, r, a, b, rfl, _⟩ := h
    rfl
  · obtain ⟨v, u, q, r, a, b, rfl, hv, hu, sq, sr, hab, kQ⟩ := h
    refine ⟨_, (pss_one (ps_ret (pe_op (op_own (E := E0) rfl (oo_add T) (ok_m_Ratio_add T) (hr.mono (by decide)) T.b_m_Ratio_add pass0) (pv 0) (pv 1)))), ?_⟩
    exact ⟨_, rfl, _, rfl, r_own hv hu sq sr hab kQ⟩
theorem ok_m_Ratio_rmul (T : Txt K mg A) : FnOk P w K mg base CX0 8 A.m_Ratio_rmul A.fd_m_Ratio_rmul P_m_Ratio_rmul (spBin A.Ratio fun q r => q * r) := by
  refine T.F_m_Ratio_rmul.ok sc_m_Ratio_rmul (fun vs H Q E h => ?_) (fun cdv Ar outer s H vs Q E hr h => ?_)
  · obtain ⟨v, u, q, r, a, b, rfl, _⟩ := h
    rfl
  · obtain ⟨v, u, q, r, a, b, rfl, hv, hu, sq, sr, hab, kQ⟩ := h
    refine ⟨_, (pss_one (ps_ret (pe_op (op_own (E := E0) rfl (oo_mul T) (ok_m_Ratio_mul T) (hr.mono (by decide)) T.b_m_Ratio_mul pass0) (pv 0) (pv 1)))), ?_⟩
    exact ⟨_, rfl, _, rfl, r_own hv hu sq sr hab kQ⟩
theorem ok_m_Ratio_rsub (T : Txt K mg A) : FnOk P w K mg base CX0 10 A.m_Ratio_rsub A.fd_m_Ratio_rsub P_m_Ratio_rsub (spBin A.Ratio fun q r => -q + r) := by
  refine T.F_m_Ratio_rsub.ok sc_m_Ratio_rsub (fun vs H Q E h => ?_) (fun cdv Ar outer s H vs Q E hr h => ?_)
  · obtain ⟨v, u, q, r, a, b, rfl, _⟩ := h
    rfl
  · obtain ⟨v, u, q, r, a, b, rfl, hv, hu, sq, sr, hab, kQ⟩ := h
    refine ⟨_, (pss_one (ps_ret (pe_op (op_own (E := E0) rfl (oo_add T) (ok_m_Ratio_add T) (hr.mono (by decide)) T.b_m_Ratio_add pass0) (pe_un (un_own (E := E0) T.m_Ratio___neg__.at_ T.m_Ratio___neg__.fn (ok_m_Ratio_neg T) (hr.mono (by decide)) T.b_m_Ratio_neg pass0) (pv 0)) (pv 1)))), ?_⟩
    refine ⟨_, rfl, r_un hv sq (by omega) fun v1 H1 s1 i1 => ?_⟩
    exact ⟨_, rfl, r_own i1 (hu.same s1) sq.neg sr hab fun v' H' s' i' => kQ v' H' (s1.trans s') i'⟩
end

/-! ### a list added up -/
def rsum (qs : List Rat) : Rat := qs.foldl (· + ·) 0
theorem rsum_more {qs : List Rat} {i : Nat} {q : Rat} (h : qs[i]? = some q) : rsum (qs.take (i + 1)) = rsum (qs.take i) + q := by
  unfold rsum
  rw [List.take_add_one, h, List.foldl_append]
  rfl
def spSum (C : Addr) : Sp := fun vs H Q _ => ∃ (l : Addr) (xs : List V) (qs : List Rat) (b : Nat), vs = [.ref l] ∧ H l = some (.lst xs) ∧ xs.length = qs.length ∧
  (∀ (i : Nat) x q, xs[i]? = some x → qs[i]? = some q → IsN C H x q ∧ Sz b q) ∧ 1 + (xs.length + 1) * (b + 1) ≤ 8990 ∧ ∀ v' H', Same H H' → IsR C H' v' (rsum qs) → Q v' H'
section
variable {P : Program} {w : World} {K : PySem.W.Frag} {mg : Str → Option Value} {base : Heap} {A : Ad}
theorem ok_m_Ratio_sum_of (T : Txt K mg A) : FnOk P w K mg base CX0 10 A.m_Ratio_sum_of A.fd_m_Ratio_sum_of P_m_Ratio_sum_of (spSum A.Ratio) := by
  refine T.F_m_Ratio_sum_of.ok sc_m_Ratio_sum_of (fun vs H Q E h => ?_) (fun cdv Ar outer s H vs Q E hr h => ?_)
  · obtain ⟨l, xs, qs, b, rfl, _⟩ := h
    rfl
  · obtain ⟨l, xs, qs, b, rfl, hl, hlen, hq, hb, k⟩ := h
    refine ⟨_, (pss_cons (ps_set (i := 1) sc_m_Ratio_sum_of.nd rfl (Or.inl rfl) (pe_make T.mk_Ratio (ok_m_Ratio_init T) (hr.mono (by decide)) (by rfl) T.g_Ratio T.b_m_Ratio_init_d1 T.dv_m_Ratio_init passL (pa_cons pe_int pa_nil)))
      (pss_cons (ps_g (ps_for PassesOwn.never rfl (pi_list (pv 0)) (pg_name (i := 2) sc_m_Ratio_sum_of.nd rfl (Or.inl rfl)) (pss_one (ps_set (i := 1) sc_m_Ratio_sum_of.nd rfl (Or.inl rfl) (pe_op (op_own (E := E0) rfl (oo_add T) (ok_m_Ratio_add T) (hr.mono (by decide)) T.b_m_Ratio_add pass0) (pv 1) (pv 2))))))
      (pss_one (ps_ret (pv 1))))), ?_⟩
    intro x dx hx hd _
    refine mk_ratio hx hd (lt_pow (a := 1) (by decide) (by decide)) (fun e => by cases e) (fun _ H1 s1 i1 => ⟨rfl, ?_⟩)
    have e0 : Rat.divInt 0 1 = (0 : Rat) := by decide +kernel
    rw [e0] at i1
    have hl1 := s1 _ _ hl
    refine ⟨⟨_, rfl, l, rfl, ⟨_, SqL.of hl1⟩, for_list (K := K) (a := l) (xs := xs) (fun i σ' H' => Wd (∃ (v : V) (o : Option V), σ' = [some (.ref l), some v, o] ∧ Same H H' ∧ IsR A.Ratio H' v (rsum (qs.take i)) ∧ Sz (1 + i * (b + 1)) (rsum (qs.take i))))
      ⟨_, none, rfl, s1, i1, ?_⟩ (fun i σ' H' _ ⟨_, _, _, s, _⟩ => SqL.of (s _ _ hl)) ?_ ?_⟩⟩
    · show Sz _ (0 : Rat)
      rw [Nat.zero_mul]
      exact ⟨by decide, by decide⟩
    · rintro i y σ' H' hi ⟨v, o, rfl, s, iv, sz⟩
      have hi1 : i < xs.length := (List.getElem?_eq_some_iff.mp hi).1
      have hi2 : i < qs.length := by omega
      have hqi : qs[i]? = some qs[i] := List.getElem?_eq_getElem hi2
      obtain ⟨hN, hS⟩ := hq i _ _ hi hqi
      have hm : 1 + i * (b + 1) + b ≤ 8990 := by
        have : i * (b + 1) ≤ xs.length * (b + 1) := Nat.mul_le_mul_right _ (by omega)
        have h2 : (xs.length + 1) * (b + 1) = xs.length * (b + 1) + (b + 1) := by rw [Nat.add_mul, Nat.one_mul]
        omega
      refine ⟨_, rfl, _, rfl, r_own iv (hN.same s) sz hS hm fun v' H2 s2 i2 => ?_⟩
      refine ⟨v', _, rfl, s.trans s2, ?_, ?_⟩
      · rw [rsum_more hqi]
        exact i2
      · rw [rsum_more hqi]
        have e : 1 + (i + 1) * (b + 1) = 1 + i * (b + 1) + b + 1 := by rw [Nat.add_mul, Nat.one_mul]; omega
        rw [e]
        exact sz.add hS
    · rintro σ' H' ⟨v, o, rfl, s, iv, sz⟩
      rw [hlen, List.take_length] at iv
      exact ⟨_, rfl, k v H' s iv⟩
end

/-! ### names that the law draws -/
section
open PySem.Spec PyProof.Rows
variable {X : Cx}
/-- a text times 0 or 1 -/
theorem op_mul01 : OpR X (binaryOp .Mult) (fun x y H Q => ∃ (z : Str) (n : Int), x = .str z ∧ y = .int n ∧ (n = 0 ∨ n = 1) ∧ Q (.str (if n = 0 then Str.empty else z)) H) := by
  intro pins s σ H x y v u Q I rx ry h
  obtain ⟨z, n, rfl, rfl, hn, q⟩ := h
  obtain ⟨t, rfl⟩ := rx
  obtain ⟨t', rfl⟩ := ry
  rcases hn with rfl | rfl
  · exact PySem.P.mul_str_none (by decide) (by decide) ⟨.str Str.empty, H, I.tok _, ⟨_, rfl⟩, q⟩
  · refine PySem.P.mul_str (by decide) (fun _ h => absurd h (by simp)) (fun _ h => absurd h (by simp)) ?_
    show (Made.val (.str z t)).post _ s
    exact ⟨.str z, H, I, ⟨_, rfl⟩, q⟩
end
/-- a name: a few small letters -/
def NmOk (n : List Nat) : Prop := 1 ≤ n.length ∧ n.length ≤ 12 ∧ ∀ c ∈ n, 97 ≤ c ∧ c < 123
def vS (l : List Nat) : V := .str (SX.S l)
/-- the k-th name -/
def nmAt (st : List Nat) (wh : Nat) (sh lo : Int) (k : Nat) : List Nat := st.take wh ++ [97 + ((sh + 7 * (k : Int)) % 26).toNat] ++ st.drop wh ++ (if (k : Int) % 3 = lo then [97 + sh.toNat] else [])
theorem nm_len {st : List Nat} {wh : Nat} {sh lo : Int} {k : Nat} : (nmAt st wh sh lo k).length = st.length + 1 + (if (k : Int) % 3 = lo then 1 else 0) := by
  unfold nmAt
  rw [List.length_append, List.length_append, List.length_append, List.length_take, List.length_drop, List.length_singleton]
  split
  · rw [List.length_singleton]
    omega
  · rw [List.length_nil]
    omega
theorem nm_at {st : List Nat} {wh : Nat} {sh lo : Int} {k : Nat} (hw : wh ≤ st.length) : (nmAt st wh sh lo k)[wh]? = some (97 + ((sh + 7 * (k : Int)) % 26).toNat) := by
  have h1 : (st.take wh).length = wh := by
    rw [List.length_take]
    omega
  unfold nmAt
  rw [List.append_assoc, List.append_assoc, List.getElem?_append_right (by omega), h1, Nat.sub_self]
  rfl
theorem nm_inj {st : List Nat} {wh : Nat} {sh lo : Int} {k j : Nat} (hw : wh ≤ st.length) (hk : k < 26) (hj : j < 26) (e : nmAt st wh sh lo k = nmAt st wh sh lo j) : k = j := by
  have h := nm_at (sh := sh) (lo := lo) (k := k) hw
  rw [e, nm_at hw] at h
  have h := Option.some.inj h
  omega
theorem nm_ok {st : List Nat} {wh : Nat} {sh lo : Int} {k : Nat} (hs : st.length ≤ 10) (hc : ∀ c ∈ st, 97 ≤ c ∧ c < 123) (h0 : 0 ≤ sh) (h1 : sh < 26) : NmOk (nmAt st wh sh lo k) := by
  refine ⟨by rw [nm_len]; omega, by rw [nm_len]; split <;> omega, fun c hm => ?_⟩
  unfold nmAt at hm
  simp only [List.mem_append, List.mem_singleton] at hm
  rcases hm with ((hm | hm) | hm) | hm
  · exact hc c (List.mem_of_mem_take hm)
  · omega
  · exact hc c (List.mem_of_mem_drop hm)
  · split at hm
    · rw [List.mem_singleton] at hm
      omega
    · cases hm
def lettersZ : Str := "abcdefghijklmnopqrstuvwxyz"
theorem letter_at {c : Int} (h0 : 0 ≤ c) (h1 : c < 26) : atI lettersZ.cps.toList c = some (97 + c.toNat) := by
  have : ∀ n : Fin 26, atI lettersZ.cps.toList ((n.val : Nat) : Int) = some (97 + n.val) := by decide +kernel
  have h := this ⟨c.toNat, by omega⟩
  rw [show ((c.toNat : Nat) : Int) = c by omega] at h
  exact h
def spNames : Sp := fun vs H Q _ => ∃ (g l q : Addr) (cnt : Int) (ws : List (List Nat)), vs = [.ref g, .int cnt, .ref q] ∧ Bag H g l ∧ q ≠ g ∧ 1 ≤ cnt ∧ cnt ≤ 26 ∧ H q = some (.lst (ws.map vS)) ∧ 1 ≤ ws.length ∧ ws.length ≤ 1000 ∧ (∀ w ∈ ws, w.length ≤ 1000) ∧
  ∀ (p : Addr) (ns : List (List Nat)) (H' : Hp), H p = none → H' p = some (.lst (ns.map vS)) → ns.length = cnt.toNat → ns.Nodup → (∀ n ∈ ns, NmOk n ∨ n ∈ ws) → Bag H' g l → Kp g H H' → Q (.ref p) H'
theorem len_at {c : Int} (h0 : 0 ≤ c) (h5 : c < 5) : ∃ z : Int, atI [V.int 0, .int 1, .int 2, .int 3, .int 10] c = some (.int z) ∧ 0 ≤ z ∧ z ≤ 10 := by
  have : c = 0 ∨ c = 1 ∨ c = 2 ∨ c = 3 ∨ c = 4 := by omega
  rcases this with rfl | rfl | rfl | rfl | rfl
  · exact ⟨0, rfl, by decide, by decide⟩
  · exact ⟨1, rfl, by decide, by decide⟩
  · exact ⟨2, rfl, by decide, by decide⟩
  · exact ⟨3, rfl, by decide, by decide⟩
  · exact ⟨10, rfl, by decide, by decide⟩
theorem kp_none {g p : Addr} {H H' : Hp} (k : Kp g H H') (h : H' p = none) (n : p ≠ g) : H p = none := by
  cases e : H p with
  | none => rfl
  | some o =>
    rw [k _ _ e n] at h
    cases h
theorem joinL_chars : ∀ cs : List Nat, TL.joinL [] (cs.map fun c => [c]) = cs
  | [] => rfl
  | [c] => rfl
  | c :: d :: cs => by
    have ih := joinL_chars (d :: cs)
    show [c] ++ ([] ++ TL.joinL [] ((d :: cs).map fun c => [c])) = _
    rw [ih]
    rfl
theorem join_chars (cs : List Nat) : Txt.join (Str.ofString "") (cs.map fun c => SX.S [c]) = SX.S cs := by
  have h := SX.join_S [] (cs.map fun c => [c])
  rw [List.map_map, joinL_chars] at h
  exact h
theorem cut_to {st : List Nat} {wh : Int} (h0 : 0 ≤ wh) (h1 : wh.toNat ≤ st.length) : cutS (SX.S st) none (some wh) = SX.S (st.take wh.toNat) := by
  have e : HT.sIx (SX.S st).length (SX.S st).length (some wh) = wh.toNat := by
    show (if wh < 0 then _ else min wh.toNat _) = _
    rw [if_neg (by omega), SX.S_len]
    omega
  unfold cutS
  rw [HT.sIx_none, e, Nat.sub_zero, List.drop_zero]
theorem cut_from {st : List Nat} {wh : Int} (h0 : 0 ≤ wh) (h1 : wh.toNat ≤ st.length) : cutS (SX.S st) (some wh) none = SX.S (st.drop wh.toNat) := by
  have e : HT.sIx (SX.S st).length 0 (some wh) = wh.toNat := by
    show (if wh < 0 then _ else min wh.toNat _) = _
    rw [if_neg (by omega), SX.S_len]
    omega
  unfold cutS
  rw [HT.sIx_none, e, SX.S_len, List.take_of_length_le (by rw [List.length_drop]; exact Nat.le_refl _)]
theorem nodup_set {α : Type} {l : List α} {j : Nat} {x : α} (h : l.Nodup) (hx : x ∉ l) : (l.set j x).Nodup := by
  unfold List.Nodup at *
  rw [List.pairwise_iff_getElem] at *
  intro a b ha hb hab
  rw [List.length_set] at ha hb
  rw [List.getElem_set, List.getElem_set]
  split
  · rw [if_neg (by omega)]
    exact fun e => hx (e ▸ List.getElem_mem _)
  · split
    · exact fun e => hx (e ▸ List.getElem_mem _)
    · exact h a b ha hb hab
theorem ixN_in {n : Nat} {i : Int} (h0 : 0 ≤ i) (h1 : i < (n : Int)) : ixN n i = some i.toNat := by
  unfold ixN
  rw [if_pos h0, if_pos h1]
theorem mem_set_of {α : Type} {l : List α} {j : Nat} {x y : α} (h : y ∈ l.set j x) : y = x ∨ y ∈ l := by
  rcases List.mem_or_eq_of_mem_set h with h | h
  · exact .inr h
  · exact .inl h
theorem inV_names {ns : List (List Nat)} {x : List Nat} : inV (vS x) (ns.map vS) = decide (x ∈ ns) := by
  unfold inV
  rw [List.any_map, Bool.eq_iff_iff, List.any_eq_true, decide_eq_true_iff]
  constructor
  · rintro ⟨y, hy, e⟩
    have e2 : (SX.S y == SX.S x) = true := e
    rw [SX.S_beq, beq_iff_eq] at e2
    exact e2 ▸ hy
  · intro h
    refine ⟨x, h, ?_⟩
    show (SX.S x == SX.S x) = true
    rw [SX.S_beq, beq_iff_eq]
theorem flat_names (ns : List (List Nat)) : (ns.map vS).all flatV = true := by
  rw [List.all_map, List.all_eq_true]
  intro x _
  rfl
/-- what the names are, once they stand -/
def NmsOk (ns ws : List (List Nat)) (cnt : Int) : Prop := ns.length = cnt.toNat ∧ ns.Nodup ∧ ∀ n ∈ ns, NmOk n ∨ n ∈ ws
theorem nms_set {ns ws : List (List Nat)} {cnt : Int} {j : Nat} {x : List Nat} (h : NmsOk ns ws cnt) (hx : x ∉ ns) (ok : NmOk x ∨ x ∈ ws) : NmsOk (ns.set j x) ws cnt :=
  ⟨by rw [List.length_set]; exact h.1, nodup_set h.2.1 hx, fun n hn => by
    rcases mem_set_of hn with rfl | hn
    · exact ok
    · exact h.2.2 n hn⟩
theorem nms_range {st : List Nat} {wh : Nat} {sh lo cnt : Int} {ws : List (List Nat)} (hw : wh ≤ st.length) (hs : st.length ≤ 10) (hc : ∀ c ∈ st, 97 ≤ c ∧ c < 123) (h0 : 0 ≤ sh) (h1 : sh < 26) (hcn : cnt ≤ 26) :
    NmsOk ((List.range cnt.toNat).map fun k => nmAt st wh sh lo k) ws cnt := by
  refine ⟨by rw [List.length_map, List.length_range], ?_, fun n hn => ?_⟩
  · unfold List.Nodup
    rw [List.pairwise_map]
    refine List.Pairwise.imp_of_mem ?_ List.nodup_range
    intro a b ha hb hab e
    rw [List.mem_range] at ha hb
    exact hab (nm_inj hw (by omega) (by omega) e)
  · obtain ⟨k, _, rfl⟩ := List.mem_map.mp hn
    exact .inl (nm_ok hs hc h0 h1)
section
variable {P : Program} {w : World} {K : PySem.W.Frag} {mg : Str → Option Value} {base : Heap} {A : Ad}
theorem ok_l_names (T : Txt K mg A) : FnOk P w K mg base CX0 2 A.l_names A.fd_l_names P_l_names spNames := by
  refine T.F_l_names.ok sc_l_names (fun vs H Q E h => ?_) (fun cdv Ar outer s H vs Q E hr h => ?_)
  · obtain ⟨g, l, q, cnt, ws, rfl, _⟩ := h
    rfl
  · obtain ⟨g, l, q, cnt, ws, rfl, hB, nqg, hc1, hc26, hq, hw1, hw2, hw3, k⟩ := h
    refine ⟨_, (pss_cons (ps_set (i := 3) sc_l_names.nd rfl (Or.inr rfl) pe_str)
      (pss_cons (ps_set (i := 4) sc_l_names.nd rfl (Or.inl rfl) (pe_ix ix_list (pe_lst (pa_cons pe_int (pa_cons pe_int (pa_cons pe_int (pa_cons pe_int (pa_cons pe_int pa_nil)))))) (pe_call (ok_l_draw T) (hr.mono (by decide)) (by rfl) T.g__law_draw T.F_l_draw.kp T.b_l_draw .nil pass0 (pa_cons (pv 0) (pa_cons pe_int pa_nil))) (fun _ _ => rfl)))
      (pss_cons (ps_set (i := 5) sc_l_names.nd rfl (Or.inl rfl) (pe_join pe_str (pe_g (pe_lcV (own := [("_law_k", 10)]) rfl sc_l_names.nd (pi_range1 rfl T.z_range (pa_cons (pv 4) pa_nil)) (blkOk_by (own := [("_law_k", 10)]) (N := N_l_names) (sc := defScope s_l_names) (by decide +kernel)) (fun _ _ _ _ _ => (pg_name (i := 10) sc_l_names.nd rfl (Or.inl rfl))) (fun _ _ _ _ _ => pts_nil) (fun _ _ _ _ _ => (pe_ix ix_str (pv 3) (pe_call (ok_l_draw T) (hr.mono (by decide)) (by rfl) T.g__law_draw T.F_l_draw.kp T.b_l_draw .nil pass0 (pa_cons (pv 0) (pa_cons pe_int pa_nil))) (fun _ _ => rfl))) (fun _ _ _ _ _ => rfl) (fun _ _ _ _ _ => rfl) (fun _ _ _ _ _ => rfl)))))
      (pss_cons (ps_set (i := 6) sc_l_names.nd rfl (Or.inl rfl) (pe_call (ok_l_draw T) (hr.mono (by decide)) (by rfl) T.g__law_draw T.F_l_draw.kp T.b_l_draw .nil pass0 (pa_cons (pv 0) (pa_cons (pe_op op_add (pv 4) pe_int) pa_nil))))
      (pss_cons (ps_set (i := 7) sc_l_names.nd rfl (Or.inl rfl) (pe_call (ok_l_draw T) (hr.mono (by decide)) (by rfl) T.g__law_draw T.F_l_draw.kp T.b_l_draw .nil pass0 (pa_cons (pv 0) (pa_cons pe_int pa_nil))))
      (pss_cons (ps_set (i := 8) sc_l_names.nd rfl (Or.inl rfl) (pe_call (ok_l_draw T) (hr.mono (by decide)) (by rfl) T.g__law_draw T.F_l_draw.kp T.b_l_draw .nil pass0 (pa_cons (pv 0) (pa_cons pe_int pa_nil))))
      (pss_cons (ps_set (i := 9) sc_l_names.nd rfl (Or.inl rfl) (pe_lst pa_nil))
      (pss_cons (ps_g (ps_for PassesOwn.never rfl (pi_range1 rfl T.z_range (pa_cons (pv 1) pa_nil)) (pg_name (i := 10) sc_l_names.nd rfl (Or.inl rfl)) (pss_cons (ps_set (i := 11) sc_l_names.nd rfl (Or.inl rfl) (pe_op op_add_str (pe_op op_add_str (pe_slice sl_str (pv 5) po_none (po_some (pv 6))) (pe_ix ix_str (pv 3) (pe_op op_mod (pe_callTy call_int1 (by rfl) T.z_int (by decide +kernel) (pa_cons (pe_op op_add (pv 7) (pe_op op_mul pe_int (pv 10))) pa_nil)) pe_int) (fun _ _ => rfl))) (pe_slice sl_str (pv 5) (po_some (pv 6)) po_none)))
      (pss_one (ps_expr (pe_bm PySem.F.plainAttrs_list PySem.F.slot_list_append PySem.F.type_list_append mt_append (pv 9) (pa_cons (pe_op op_add_str (pv 11) (pe_op op_mul01 (pe_ix ix_str (pv 3) (pv 7) (fun _ _ => rfl)) (pe_callTy call_int1 (by rfl) T.z_int (by decide +kernel) (pa_cons (pe_cmpR op_eq (pe_op op_mod (pe_callTy call_int1 (by rfl) T.z_int (by decide +kernel) (pa_cons (pv 10) pa_nil)) pe_int) (pv 8) (nomark _)) pa_nil)))) pa_nil)))))))
      (pss_g (Evl.pss_cut (ps_if (PW.pt (pw_and (pt_cmpR op_gt (pv 1) pe_int (nomark _)) (pw_and (pt_cmpR op_lt (pv 4) pe_int (nomark _)) (pw_and1 (pt_cmpR op_eq (pv 8) pe_int (nomark _)))))) (pss_one (ps_asg (pe_op op_add_str (pe_ix ix_list (pv 9) pe_int (fun _ _ => rfl)) (pe_ix ix_str (pv 3) (pe_call (ok_l_draw T) (hr.mono (by decide)) (by rfl) T.g__law_draw T.F_l_draw.kp T.b_l_draw .nil pass0 (pa_cons (pv 0) (pa_cons pe_int pa_nil))) (fun _ _ => rfl))) (pg_sub (pv 9) pe_int set_list))) pss_nil)
      (pss_cons (ps_set (i := 12) sc_l_names.nd rfl (Or.inl rfl) (pe_call (ok_l_draw T) (hr.mono (by decide)) (by rfl) T.g__law_draw T.F_l_draw.kp T.b_l_draw .nil pass0 (pa_cons (pv 0) (pa_cons (pe_op op_mul pe_int (pv 1)) pa_nil))))
      (pss_cons (ps_set (i := 13) sc_l_names.nd rfl (Or.inl rfl) (pe_ix ix_list (pv 2) (pe_call (ok_l_draw T) (hr.mono (by decide)) (by rfl) T.g__law_draw T.F_l_draw.kp T.b_l_draw .nil pass0 (pa_cons (pv 0) (pa_cons (pe_callB call_len_seq (by rfl) T.z_len (by decide +kernel) (pa_cons (pv 2) pa_nil)) pa_nil))) (fun _ _ => rfl)))
      (pss_g (Evl.pss_cut (ps_if (PW.pt (pw_and (pt_cmpR op_lt (pv 12) (pv 1) (nomark _)) (pw_and1 (pt_cmpR op_notIn_seq (pv 13) (pv 9) (by rfl))))) (pss_one (ps_asg (pv 13) (pg_sub (pv 9) (pv 12) set_list))) pss_nil)
      (pss_one (ps_ret (pv 9))))))))))))))))), ?_⟩
    walk_at "go"
    intro p1 hp1
    have B1 := hB.new (o := .lst [V.int 0, .int 1, .int 2, .int 3, .int 10]) hp1
    have nq1 := ne_of_none hq hp1
    have hq1 := Same.new (o := .lst [V.int 0, .int 1, .int 2, .int 3, .int 10]) hp1 _ _ hq
    walk_at "go"
    intro c0 H2 c00 c01 B2 K2
    obtain ⟨sz, hsz, hsz0, hsz1⟩ := len_at c00 c01
    have hl2 := K2 _ _ upd_same (hB.ne hp1).1
    have hq2 := K2 _ _ hq1 nqg
    have K02 : Kp g H H2 := (Kp.same (Same.new hp1)).trans K2
    refine ⟨p1, _, _, _, rfl, rfl, SqL.of hl2, hsz, ?_⟩
    refine ⟨⟨_, rfl⟩, ?_⟩
    refine ⟨⟨_, rfl, _, rfl, by omega, by omega, fun D hD => ?_⟩⟩
    have nD := (B2.ne hD).1
    have hD0 : H D = none := kp_none K02 hD nD
    refine lc_range (fun i H' => Wd (∃ cs : List Nat, cs.length = i ∧ (∀ c ∈ cs, 97 ≤ c ∧ c < 123) ∧ H' D = some (.lst (cs.map fun c => vS [c])) ∧ Bag H' g l ∧ Kp g H H')) ⟨[], rfl, fun c h => (by cases h), upd_same, B2.new hD, K02.new hD⟩ ?_ ?_
    · rintro i H3 hi ⟨cs, hcl, hcs, hD3, B3, K3⟩
      refine ⟨rfl, ⟨_, rfl, _, rfl, g, l, _, rfl, B3, by decide, by decide, fun n H4 n0 n1 B4 K4 => ?_⟩⟩
      refine ⟨_, _, _, rfl, rfl, (by decide : lettersZ.length ≤ sizeLine), letter_at n0 n1, _, K4 _ _ hD3 nD, ?_, ?_⟩
      · rw [List.length_map, hcl]
        exact Nat.lt_of_lt_of_le (by omega : i < 100) (by decide)
      · refine ⟨cs ++ [97 + n.toNat], by rw [List.length_append, hcl]; rfl, fun c hm => ?_, ?_, B4.put (B2.ne hD), (K3.trans K4).put hD0⟩
        · rcases List.mem_append.mp hm with hm | hm
          · exact hcs c hm
          · rw [List.mem_singleton] at hm
            omega
        · rw [upd_same, List.map_append]
          rfl
    · rintro H3 ⟨st, hsl, hst, hD3, B3, K3⟩
      have hq3 := K3 _ _ hq nqg
      refine ⟨_, D, st.map fun c => SX.S [c], rfl, rfl, .inl (SqL.of (by rw [List.map_map]; exact hD3)), ?_, ?_⟩
      · have e : ∀ cs : List Nat, ((cs.map fun c => SX.S [c]).map (·.length)).sum = cs.length := fun cs => by
          induction cs with
          | nil => rfl
          | cons c cs ih =>
            rw [List.map_cons, List.map_cons, List.sum_cons, ih, List.length_cons, Nat.add_comm]
            rfl
        rw [e, List.length_map, hsl]
        show sz.toNat + sz.toNat * 0 ≤ _
        omega
      · rw [join_chars]
        have hz9 : (sz + 1).natAbs < 2 ^ 9000 := lt_pow (a := 10) (by omega) (by decide)
        walk_at "go"
        intro wh H4 wh0 wh1 B4 K4
        walk_at "go"
        intro sh H5 sh0 sh1 B5 K5
        walk_at "go"
        intro lo H6 lo0 lo1 B6 K6
        walk_at "go"
        intro f hf
        have K36 := K4.trans (K5.trans K6)
        have K6' := K3.trans K36
        have nf := B6.ne hf
        have hf0 : H f = none := kp_none K6' hf nf.1
        have hq6 := K6' _ _ hq nqg
        have hwl : wh.toNat ≤ st.length := by omega
        have c1 : cutS (SX.S st) none (some wh) = SX.S (st.take wh.toNat) := cut_to wh0 hwl
        have c2 : cutS (SX.S st) (some wh) none = SX.S (st.drop wh.toNat) := cut_from wh0 hwl
        have sl : ∀ l : List Nat, l.length ≤ 1000 → (SX.S l).length ≤ sizeLine := fun l h => by
          rw [SX.S_len]
          exact Nat.le_trans h (by decide)
        refine ⟨⟨_, rfl, _, rfl, by omega, by omega, for_range (lo := 0) (n := cnt.toNat) (fun i σ' H' => Wd (∃ o10 o11 : Option V, σ' = [some (.ref g), some (.int cnt), some (.ref q), some (.str lettersZ), some (.int sz), some (vS st), some (.int wh), some (.int sh), some (.int lo), some (.ref f), o10, o11, none, none] ∧
          H' = upd H6 f (.lst ((List.range i).map fun k => vS (nmAt st wh.toNat sh lo k))))) ⟨none, none, rfl, rfl⟩ ?_ ?_⟩⟩
        · rintro i σ' H7 hi ⟨o10, o11, rfl, rfl⟩
          refine ⟨_, rfl, _, rfl, wh, rfl, _, rfl, sl st (by omega), ?_⟩
          rw [c1]
          have hi26 : (i : Int) < 26 := by omega
          refine ⟨_, rfl, _, rfl, _, rfl, _, _, rfl, rfl, .inl ⟨by decide, by decide⟩, _, _, rfl, rfl, .inl ⟨_, rfl, _, _, rfl, rfl, (show (0 : Int) < 26 by decide), _, _, _, rfl, rfl, (by decide : lettersZ.length ≤ sizeLine), letter_at (Int.emod_nonneg _ (by decide)) (Int.emod_lt_of_pos _ (by decide)), ?_⟩⟩
          have e1 : SX.S (st.take wh.toNat) ++ (⟨#[97 + ((sh + 7 * (0 + (i : Int))) % 26).toNat]⟩ : Str) = SX.S (st.take wh.toNat ++ [97 + ((sh + 7 * (i : Int)) % 26).toNat]) := by
            rw [Int.zero_add]
            exact SX.S_cat _ _
          have l1 : (st.take wh.toNat).length ≤ 10 := by
            rw [List.length_take]
            omega
          have l2 : (st.drop wh.toNat).length ≤ 10 := by
            rw [List.length_drop]
            omega
          refine ⟨_, _, rfl, rfl, ?_, ?_⟩
          · rw [SX.S_len]
            exact Nat.le_trans (by show _ + 1 ≤ 1000; omega) (by decide : 1000 ≤ sizeLine)
          rw [e1]
          refine ⟨_, rfl, _, rfl, wh, rfl, _, rfl, sl st (by omega), ?_⟩
          rw [c2]
          refine ⟨_, _, rfl, rfl, ?_, ?_⟩
          · rw [SX.S_len, SX.S_len, List.length_append]
            exact Nat.le_trans (by rw [List.length_singleton]; omega) (by decide : 1000 ≤ sizeLine)
          rw [SX.S_cat]
          refine ⟨_, rfl, .inl ⟨rfl, _, SqL.of upd_same⟩, _, rfl, _, rfl, _, rfl, _, _, _, rfl, rfl, (by decide : lettersZ.length ≤ sizeLine), letter_at sh0 sh1, ?_⟩
          refine ⟨_, rfl, .inl ⟨_, rfl, _, _, rfl, rfl, (show (0 : Int) < 3 by decide), _, rfl, rfl, .inr ⟨_, rfl, ?_⟩⟩⟩
          refine ⟨_, _, rfl, rfl, ?_, ?_⟩
          · split
            · exact .inr rfl
            · exact .inl rfl
          have e2 : SX.S (st.take wh.toNat ++ [97 + ((sh + 7 * (i : Int)) % 26).toNat] ++ st.drop wh.toNat) ++ (if (if (decide (V.int ((0 + (i : Int)) % 3) = V.int lo)) = true then (1 : Int) else 0) = 0 then Str.empty else (⟨#[97 + sh.toNat]⟩ : Str)) = SX.S (nmAt st wh.toNat sh lo i) := by
            unfold nmAt
            rw [Int.zero_add]
            by_cases e : (i : Int) % 3 = lo
            · rw [if_pos (decide_eq_true (congrArg V.int e)), if_neg (by decide), if_pos e]
              exact SX.S_cat _ _
            · rw [if_neg (fun z => e (V.int.inj (of_decide_eq_true z))), if_pos rfl, if_neg e]
              exact SX.S_cat _ []
          refine ⟨_, _, rfl, rfl, ?_, ?_⟩
          · rw [SX.S_len, List.length_append, List.length_append, List.length_singleton]
            refine Nat.le_trans (Nat.add_le_add_left (m := 1) ?_ _) (Nat.le_trans (by omega : _ ≤ 1000) (by decide : 1000 ≤ sizeLine))
            split
            · rw [if_neg (by decide)]
              exact Nat.le_refl 1
            · rw [if_pos rfl]
              exact Nat.zero_le 1
          rw [e2]
          refine ⟨f, _, _, rfl, rfl, upd_same, ?_, _, _, rfl, ?_⟩
          · rw [List.length_map, List.length_range]
            exact Nat.lt_of_lt_of_le (by omega : i < 1000) (by decide)
          · rw [upd_upd, List.range_succ, List.map_append]
            rfl
        · rintro σ' H7 ⟨o10, o11, rfl, rfl⟩
          have hnm := nms_range (st := st) (wh := wh.toNat) (sh := sh) (lo := lo) (cnt := cnt) (ws := ws) hwl (by omega) hst sh0 sh1 hc26
          have nfq : f ≠ q := fun e => by rw [e, hq6] at hf; cases hf
          refine ⟨⟨fun σ' H' => Wd (∃ (ns : List (List Nat)), σ' = [some (.ref g), some (.int cnt), some (.ref q), some (.str lettersZ), some (.int sz), some (vS st), some (.int wh), some (.int sh), some (.int lo), some (.ref f), o10, o11, none, none] ∧
            H' f = some (.lst (ns.map vS)) ∧ NmsOk ns ws cnt ∧ Bag H' g l ∧ Kp g H H'), ?_, ?_⟩⟩
          · have B7 := B6.new (o := .lst ((List.range cnt.toNat).map fun k => vS (nmAt st wh.toNat sh lo k))) hf
            have K7 : Kp g H (upd H6 f (.lst ((List.range cnt.toNat).map fun k => vS (nmAt st wh.toNat sh lo k)))) := K6'.put hf0
            have stay : Wd (∃ (ns : List (List Nat)), [some (.ref g), some (.int cnt), some (.ref q), some (.str lettersZ), some (.int sz), some (vS st), some (.int wh), some (.int sh), some (.int lo), some (.ref f), o10, o11, none, none] = [some (.ref g), some (.int cnt), some (.ref q), some (.str lettersZ), some (.int sz), some (vS st), some (.int wh), some (.int sh), some (.int lo), some (.ref f), o10, o11, none, none] ∧
              (upd H6 f (.lst ((List.range cnt.toNat).map fun k => vS (nmAt st wh.toNat sh lo k)))) f = some (.lst (ns.map vS)) ∧ NmsOk ns ws cnt ∧ Bag (upd H6 f (.lst ((List.range cnt.toNat).map fun k => vS (nmAt st wh.toNat sh lo k)))) g l ∧ Kp g H (upd H6 f (.lst ((List.range cnt.toNat).map fun k => vS (nmAt st wh.toNat sh lo k))))) :=
              ⟨_, rfl, by rw [upd_same, List.map_map]; rfl, hnm, B7, K7⟩
            walk_at "go"
            refine if_dec (fun e1 => ?_) (fun _ => stay)
            walk_at "go"
            refine if_dec (fun e2 => ?_) (fun _ => stay)
            walk_at "go"
            refine if_int (fun e3 => ?_) (fun _ => stay)
            subst e3
            obtain ⟨m, hm⟩ : ∃ m, cnt.toNat = m + 2 := ⟨cnt.toNat - 2, by omega⟩
            refine ⟨_, rfl, f, _, _, vS (nmAt st wh.toNat sh 3 0), rfl, rfl, SqL.of upd_same, ?_, _, rfl, _, rfl, g, l, _, rfl, B7, by decide, by decide, fun n H8 n0 n1 B8 K8 => ?_⟩
            · refine atI_nat (j := 0) ?_
              rw [List.getElem?_map, List.getElem?_range (by omega)]
              rfl
            have hf8 := K8 _ _ upd_same nf.1
            refine ⟨_, _, _, rfl, rfl, (by decide : lettersZ.length ≤ sizeLine), letter_at n0 n1, _, _, rfl, rfl, ?_, ?_⟩
            · show (SX.S _).length + 1 ≤ _
              rw [SX.S_len, nm_len]
              refine Nat.le_trans ?_ (by decide : 1000 ≤ sizeLine)
              split <;> omega
            have e4 : SX.S (nmAt st wh.toNat sh 3 0) ++ (⟨#[97 + n.toNat]⟩ : Str) = SX.S (nmAt st wh.toNat sh 3 0 ++ [97 + n.toNat]) := SX.S_cat _ _
            have n3 : ∀ k : Nat, ((k : Int) % 3 = 3) = False := fun k => by
              rw [eq_iff_iff]
              exact ⟨fun h => by omega, fun h => h.elim⟩
            have le : ∀ k, (nmAt st wh.toNat sh 3 k).length = st.length + 1 := fun k => by
              rw [nm_len, if_neg (by rw [n3]; exact fun h => h)]
            refine ⟨_, rfl, f, _, _, 1, rfl, rfl, hf8, ?_, ?_⟩
            · rw [List.length_map, List.length_range, hm]
              exact ixN_in (by decide) (by show (1 : Int) < ((m + 2 : Nat) : Int); omega)
            · refine ⟨((List.range cnt.toNat).map fun k => nmAt st wh.toNat sh 3 k).set 1 (nmAt st wh.toNat sh 3 0 ++ [97 + n.toNat]), rfl, ?_, nms_set hnm ?_ (.inl ?_), B8.put nf, (K7.trans K8).put hf0⟩
              · rw [upd_same, List.map_set, List.map_map]
                show some (HO.lst (List.set _ 1 (V.str (SX.S (nmAt st wh.toNat sh 3 0) ++ (⟨#[97 + n.toNat]⟩ : Str))))) = _
                rw [e4]
                rfl
              · intro hm
                obtain ⟨k, _, e⟩ := List.mem_map.mp hm
                have e5 := congrArg List.length e
                rw [List.length_append, le, le, List.length_singleton] at e5
                omega
              · have ok := nm_ok (st := st) (wh := wh.toNat) (sh := sh) (lo := 3) (k := 0) (by omega) hst sh0 sh1
                refine ⟨by rw [List.length_append, le]; omega, by rw [List.length_append, le, List.length_singleton]; omega, fun c hc => ?_⟩
                rcases List.mem_append.mp hc with hc | hc
                · exact ok.2.2 c hc
                · rw [List.mem_singleton] at hc
                  omega
          · rintro σ' H8 ⟨ns, rfl, hf8, hnm8, B8, K8⟩
            have hc9 : (4 * cnt).natAbs < 2 ^ 9000 := lt_pow (a := 10) (by omega) (by decide)
            walk_at "go"
            intro sp H9 sp0 sp1 B9 K9
            have hq9 := (K8.trans K9) _ _ hq nqg
            have hf9 := K9 _ _ hf8 nf.1
            have hw9 : ((ws.map vS).length : Int).natAbs < 2 ^ 9000 := lt_pow (a := 10) (by rw [List.length_map]; omega) (by decide)
            refine ⟨_, rfl, _, rfl, _, rfl, q, _, rfl, .inl (SqL.of hq9), g, l, _, rfl, B9, ?_, hw9, fun wi H10 wi0 wi1 B10 K10 => ?_⟩
            · rw [List.length_map]
              omega
            rw [List.length_map] at wi1
            obtain ⟨j, rfl⟩ := Int.eq_ofNat_of_zero_le wi0
            have hj : j < ws.length := by omega
            have hwj : (ws.map vS)[j]? = some (vS ws[j]) := by rw [List.getElem?_map, List.getElem?_eq_getElem hj]; rfl
            have hq10 := K10 _ _ hq9 nqg
            have hf10 := K10 _ _ hf9 nf.1
            have K10' := (K8.trans K9).trans K10
            refine ⟨q, _, _, _, rfl, rfl, SqL.of hq10, atI_nat hwj, ?_⟩
            refine ⟨⟨fun σ' H' => Wd (∃ (ns : List (List Nat)) (o : List (Option V)), σ' = [some (.ref g), some (.int cnt), some (.ref q), some (.str lettersZ), some (.int sz), some (vS st), some (.int wh), some (.int sh), some (.int lo), some (.ref f)] ++ o ∧
              H' f = some (.lst (ns.map vS)) ∧ NmsOk ns ws cnt ∧ Bag H' g l ∧ Kp g H H'), ?_, ?_⟩⟩
            · walk_at "go"
              refine if_dec (fun e1 => ?_) (fun _ => ⟨ns, [_, _, _, _], rfl, hf10, hnm8, B10, K10'⟩)
              refine ⟨_, rfl, _, rfl, f, _, rfl, .inl (SqL.of hf10), rfl, flat_names ns, _, rfl, ?_⟩
              show if (!inV (vS ws[j]) (ns.map vS)) = true then _ else _
              rw [inV_names]
              by_cases hm : ws[j] ∈ ns
              · rw [decide_eq_true hm]
                exact iteF ⟨ns, [_, _, _, _], rfl, hf10, hnm8, B10, K10'⟩
              · rw [decide_eq_false hm]
                refine iteT ⟨_, rfl, _, rfl, _, rfl, f, _, _, sp.toNat, rfl, rfl, hf10, ?_, ?_⟩
                · rw [List.length_map, hnm8.1]
                  exact ixN_in sp0 (by omega)
                · refine ⟨ns.set sp.toNat ws[j], [_, _, _, _], rfl, ?_, nms_set hnm8 hm (.inr (List.getElem_mem _)), B10.put nf, K10'.put hf0⟩
                  rw [upd_same, List.map_set]
            · rintro σ' H11 ⟨ns, o, rfl, hf11, hnm11, B11, K11⟩
              exact ⟨_, rfl, k f ns H11 hf0 hf11 hnm11.1 hnm11.2.1 hnm11.2.2 B11 K11⟩
end

/-! ### what is picked -/
def spPick : Sp := fun vs H Q _ => ∃ (g l q : Addr) (xs : List V), vs = [.ref g, .ref q] ∧ Bag H g l ∧ q ≠ g ∧ H q = some (.lst xs) ∧ 1 ≤ xs.length ∧ xs.length ≤ 1000 ∧ ∀ (v : V) (H' : Hp), v ∈ xs → Bag H' g l → Kp g H H' → Q v H'
section
variable {P : Program} {w : World} {K : PySem.W.Frag} {mg : Str → Option Value} {base : Heap} {A : Ad}
theorem ok_l_pick (T : Txt K mg A) : FnOk P w K mg base CX0 2 A.l_pick A.fd_l_pick P_l_pick spPick := by
  refine T.F_l_pick.ok sc_l_pick (fun vs H Q E h => ?_) (fun cdv Ar outer s H vs Q E hr h => ?_)
  · obtain ⟨g, l, q, xs, rfl, _⟩ := h
    rfl
  · obtain ⟨g, l, q, xs, rfl, B, nq, hq, h1, h2, k⟩ := h
    refine ⟨_, (pss_one (ps_ret (pe_ix ix_list (pv 1) (pe_call (ok_l_draw T) (hr.mono (by decide)) (by rfl) T.g__law_draw T.F_l_draw.kp T.b_l_draw .nil pass0 (pa_cons (pv 0) (pa_cons (pe_callB call_len_seq (by rfl) T.z_len (by decide +kernel) (pa_cons (pv 1) pa_nil)) pa_nil))) (fun _ _ => rfl)))), ?_⟩
    refine ⟨_, rfl, _, rfl, _, rfl, q, _, rfl, .inl (SqL.of hq), g, l, _, rfl, B, by omega, lt_pow (a := 10) (by omega) (by decide), fun c H1 c0 c1 B1 K1 => ?_⟩
    have hq1 := K1 _ _ hq nq
    obtain ⟨j, rfl⟩ := Int.eq_ofNat_of_zero_le c0
    have hj : j < xs.length := by omega
    exact ⟨q, _, _, _, rfl, rfl, SqL.of hq1, atI_nat (List.getElem?_eq_getElem hj), k _ H1 (List.getElem_mem hj) B1 K1⟩
end

/-! ### a drawn order -/
def spMixed : Sp := fun vs H Q _ => ∃ (g l q : Addr) (xs : List V), vs = [.ref g, .ref q] ∧ Bag H g l ∧ H q = some (.lst xs) ∧ xs.length ≤ 1000 ∧
  ∀ (p : Addr) (ys : List V) (H' : Hp), ys.Perm xs → H p = none → H' p = some (.lst ys) → Bag H' g l → Kp g H H' → Q (.ref p) H'
theorem perm_pop {α : Type} : ∀ {zs : List α} {k : Nat} {y : α}, zs[k]? = some y → (y :: zs.eraseIdx k).Perm zs
  | z :: zs, 0, y, h => by
    simp at h
    subst h
    exact .refl _
  | z :: zs, k + 1, y, h => by
    have ih := perm_pop (zs := zs) (k := k) (y := y) (by simpa using h)
    exact (List.Perm.swap z y _).trans (ih.cons z)
theorem seq_ix {i : Int} {n : Nat} (h0 : 0 ≤ i) (h1 : i < n) : seqIndex? i n = some i.toNat := by
  have e : (if i < 0 then i + (n : Int) else i) = i := if_neg (by omega)
  unfold seqIndex?
  simp only [e, h0, h1, decide_true, Bool.and_self, if_true]
section
variable {P : Program} {w : World} {K : PySem.W.Frag} {mg : Str → Option Value} {base : Heap} {A : Ad}
theorem ok_l_mixed (T : Txt K mg A) : FnOk P w K mg base CX0 2 A.l_mixed A.fd_l_mixed P_l_mixed spMixed := by
  refine T.F_l_mixed.ok sc_l_mixed (fun vs H Q E h => ?_) (fun cdv Ar outer s H vs Q E hr h => ?_)
  · obtain ⟨g, l, q, xs, rfl, _⟩ := h
    rfl
  · obtain ⟨g, l, q, xs, rfl, hB, hq, hlen, k⟩ := h
    refine ⟨_, (pss_cons (ps_set (i := 2) sc_l_mixed.nd rfl (Or.inl rfl) (pe_callTy call_list_of (by rfl) T.z_list (by decide +kernel) (pa_cons (pv 1) pa_nil)))
      (pss_cons (ps_set (i := 3) sc_l_mixed.nd rfl (Or.inl rfl) (pe_lst pa_nil))
      (pss_cons (ps_g (ps_for PassesOwn.never rfl (pi_range1 rfl T.z_range (pa_cons (pe_callB call_len_seq (by rfl) T.z_len (by decide +kernel) (pa_cons (pv 1) pa_nil)) pa_nil)) (pg_name (i := 4) sc_l_mixed.nd rfl (Or.inl rfl)) (pss_one (ps_expr (pe_bm PySem.F.plainAttrs_list PySem.F.slot_list_append PySem.F.type_list_append mt_append (pv 3) (pa_cons (pe_bm PySem.F.plainAttrs_list PySem.F.slot_list_pop PySem.F.type_list_pop mt_popAt (pv 2) (pa_cons (pe_call (ok_l_draw T) (hr.mono (by decide)) (by rfl) T.g__law_draw T.F_l_draw.kp T.b_l_draw .nil pass0 (pa_cons (pv 0) (pa_cons (pe_callB call_len_seq (by rfl) T.z_len (by decide +kernel) (pa_cons (pv 2) pa_nil)) pa_nil))) pa_nil)) pa_nil))))))
      (pss_one (ps_ret (pv 3)))))), ?_⟩
    refine ⟨_, rfl, q, xs, rfl, .inl (SqL.of hq), fun a ha => ⟨Nat.zero_le _, fun f hf => ?_⟩⟩
    have naf : a ≠ f := fun z => by
      rw [z, upd_same] at hf
      cases hf
    have hf0 : H f = none := by
      rw [upd_ne naf.symm] at hf
      exact hf
    have na := hB.ne ha
    have nf := hB.ne hf0
    have nqa := ne_of_none hq ha
    have nqf := ne_of_none hq hf0
    refine ⟨⟨_, rfl, q, xs, rfl, .inl (SqL.of (by rw [upd_ne nqf, upd_ne nqa]; exact hq)), _, rfl, by omega, by omega, for_range (lo := 0) (n := xs.length) (fun i σ' H' => Wd (∃ (ys zs : List V) (v : Option V),
      σ' = [some (.ref g), some (.ref q), some (.ref a), some (.ref f), v] ∧ H' a = some (.lst zs) ∧ H' f = some (.lst ys) ∧ (ys ++ zs).Perm xs ∧ zs.length + i = xs.length ∧ Bag H' g l ∧ Kp g H H'))
      ⟨[], xs, none, rfl, by rw [upd_ne naf, upd_same], upd_same, .refl _, rfl, (hB.put na).put nf, ((Kp.refl g H).put ha).put hf0⟩ ?_ ?_⟩⟩
    · rintro i σ' H' hi ⟨ys, zs, v, rfl, h1, h2, hp, hz, B1, K1⟩
      have z9 : ((zs.length : Nat) : Int).natAbs < 2 ^ 9000 := lt_pow (a := 10) (by omega) (by decide)
      have yl : ys.length ≤ 1000 := by
        have := hp.length_eq
        rw [List.length_append] at this
        omega
      refine ⟨_, rfl, .inl ⟨rfl, _, SqL.of h2⟩, _, rfl, .inl ⟨rfl, _, SqL.of h1⟩, _, rfl, _, rfl, a, zs, rfl, .inl (SqL.of h1), g, l, _, rfl, B1, by omega, z9, fun n H2 n0 n1 B2 K2 => ?_⟩
      have h1' := K2 _ _ h1 na.1
      have h2' := K2 _ _ h2 nf.1
      have hk : n.toNat < zs.length := by omega
      have hy : zs[n.toNat]? = some zs[n.toNat] := List.getElem?_eq_getElem hk
      refine ⟨a, zs, n, n.toNat, zs[n.toNat], rfl, rfl, h1', by omega, by omega, seq_ix n0 n1, hy, f, ys, _, rfl, rfl, (by rw [upd_ne naf.symm]; exact h2'), Nat.lt_of_le_of_lt yl (by decide), ?_⟩
      refine ⟨ys ++ [zs[n.toNat]], zs.eraseIdx n.toNat, _, rfl, by rw [upd_ne naf, upd_same], upd_same, ?_, ?_, (B2.put na).put nf, ((K1.trans K2).put ha).put hf0⟩
      · rw [List.append_assoc]
        exact ((perm_pop hy).append_left ys).trans hp
      · rw [List.length_eraseIdx, if_pos hk]
        omega
    · rintro σ' H' ⟨ys, zs, v, rfl, h1, h2, hp, hz, B1, K1⟩
      have e : zs = [] := List.eq_nil_of_length_eq_zero (by omega)
      subst e
      rw [List.append_nil] at hp
      exact ⟨_, rfl, k f ys H' hp hf0 h2 B1 K1⟩
end

/-! ### texts in order, dicts that hold numbers by names -/
section
open PySem.Spec PyProof.Rows
def leS (a b : Str) : Prop := ltCps b.cps.toList a.cps.toList = false
theorem leS_iff {a b : Str} : leS a b ↔ ¬ b.cps.toList < a.cps.toList := by
  unfold leS
  rw [ltCps_eq, decide_eq_false_iff_not]
theorem leS_anti {a b : Str} (h1 : leS a b) (h2 : leS b a) : a = b := by
  rw [leS_iff, List.not_lt] at h1 h2
  have e := List.le_antisymm h1 h2
  cases a
  cases b
  exact congrArg Str.mk (Array.toList_inj.mp e)
theorem leS_trans {a b c : Str} (h1 : leS a b) (h2 : leS b c) : leS a c := by
  rw [leS_iff, List.not_lt] at h1 h2 ⊢
  exact List.le_trans h1 h2
theorem rising_pw : ∀ (l : List Str) (p : Str), risingS p l = true → (p :: l).Pairwise leS
  | [], p, _ => by simp
  | x :: r, p, h => by
    have h : (!ltCps x.cps.toList p.cps.toList && risingS x r) = true := h
    rw [Bool.and_eq_true, Bool.not_eq_true'] at h
    have ih := rising_pw r x h.2
    refine List.pairwise_cons.mpr ⟨fun y hy => ?_, ih⟩
    rcases List.mem_cons.mp hy with rfl | hy
    · exact h.1
    · exact leS_trans h.1 ((List.pairwise_cons.mp ih).1 y hy)
theorem sortedS_pw {l : List Str} (h : sortedS l = true) : l.Pairwise leS := by
  cases l with
  | nil => exact .nil
  | cons x r => exact rising_pw r x h
end
structure Srt (ks : List Str) : Prop where
  s : ks.Pairwise leS
  nd : ks.Nodup
theorem Srt.uniq {a b : List Str} (ha : Srt a) (hb : Srt b) (h : ∀ n, n ∈ a ↔ n ∈ b) : a = b :=
  List.Perm.eq_of_pairwise (fun _ _ _ _ => leS_anti) ha.s hb.s ((List.perm_ext_iff_of_nodup ha.nd hb.nd).mpr h)
theorem Srt.filter {a : List Str} (ha : Srt a) (f : Str → Bool) : Srt (a.filter f) := ⟨ha.s.filter f, ha.nd.filter f⟩
theorem Srt.nil : Srt [] := ⟨.nil, List.nodup_nil⟩
/-- what may not change: instances and tuples -/
structure Fx (H H' : Hp) : Prop where
  ins : ∀ b C dx fs, H b = some (.ins C dx fs) → H' b = some (.ins C dx fs)
  tup : ∀ b xs, H b = some (.tup xs) → H' b = some (.tup xs)
theorem Fx.refl (H : Hp) : Fx H H := ⟨fun _ _ _ _ h => h, fun _ _ h => h⟩
theorem Fx.trans {H H1 H2 : Hp} (a : Fx H H1) (b : Fx H1 H2) : Fx H H2 := ⟨fun _ _ _ _ h => b.ins _ _ _ _ (a.ins _ _ _ _ h), fun _ _ h => b.tup _ _ (a.tup _ _ h)⟩
theorem Fx.same {H H' : Hp} (s : Same H H') : Fx H H' := ⟨fun _ _ _ _ h => s _ _ h, fun _ _ h => s _ _ h⟩
theorem Fx.kp {g : Addr} {H H' : Hp} {xs : List V} (k : Kp g H H') (hg : H g = some (.lst xs)) : Fx H H' :=
  ⟨fun _ _ _ _ h => k _ _ h (ne_of h hg (by intro z; cases z)), fun _ _ h => k _ _ h (ne_of h hg (by intro z; cases z))⟩
theorem Fx.bag {g l : Addr} {H H' : Hp} (k : Kp g H H') (B : Bag H g l) : Fx H H' := by
  obtain ⟨xs, hg⟩ := B.lst
  exact Fx.kp k hg
theorem Fx.put {H H' : Hp} {d : Addr} {o o' : HO} (k : Fx H H') (hd : H d = some o) (h1 : ∀ C dx fs, o ≠ .ins C dx fs) (h2 : ∀ xs, o ≠ .tup xs) : Fx H (L2.upd H' d o') :=
  ⟨fun b C dx fs h => by rw [upd_ne (fun e => by subst e; rw [h] at hd; exact h1 C dx fs (Option.some.inj hd).symm)]; exact k.ins _ _ _ _ h,
   fun b xs h => by rw [upd_ne (fun e => by subst e; rw [h] at hd; exact h2 xs (Option.some.inj hd).symm)]; exact k.tup _ _ h⟩
theorem Fx.updN {H H' : Hp} {d : Addr} {o' : HO} (k : Fx H H') (hd : H d = none) : Fx H (upd H' d o') :=
  ⟨fun b C dx fs h => by rw [upd_ne (ne_of_none h hd)]; exact k.ins _ _ _ _ h, fun b xs h => by rw [upd_ne (ne_of_none h hd)]; exact k.tup _ _ h⟩
theorem Fx.dk {H H' : Hp} {d : Addr} {kvs : List (Key × V)} {o' : HO} (k : Fx H H') (hd : H d = some (.dK kvs)) : Fx H (L2.upd H' d o') := k.put hd (fun _ _ _ z => by cases z) (fun _ z => by cases z)
/-- a number is told in the heap in some way -/
abbrev NR := Hp → V → Rat → Prop
def NR.Ok (R : NR) : Prop := ∀ H H' v q, Fx H H' → R H v q → R H' v q
/-- a pair of top and bottom -/
def IsP : NR := fun H v q => ∃ p, v = .ref p ∧ H p = some (.tup [.int q.num, .int (q.den : Int)])
theorem okR {C : Addr} : NR.Ok (IsR C) := fun H H' v q f ⟨p, dx, e, h⟩ => ⟨p, dx, e, f.ins _ _ _ _ h⟩
theorem okN {C : Addr} : NR.Ok (IsN C) := fun H H' v q f h => h.elim (fun h => .inl (okR _ _ _ _ f h)) .inr
theorem okP : NR.Ok IsP := fun H H' v q f ⟨p, e, h⟩ => ⟨p, e, f.tup _ _ h⟩
abbrev Fn := Str → Rat
/-- the pairs of a dict: its keys are the names ks in their order, and hold the numbers that f tells; f is 0 elsewhere -/
structure Tab (R : NR) (H : Hp) (kvs : List (Key × V)) (ks : List Str) (f : Fn) : Prop where
  keys : kvs.map (·.1) = ks.map Sum.inr
  nd : ks.Nodup
  yes : ∀ n, n ∈ ks → ∃ v, valV kvs (.inr n) = some v ∧ R H v (f n)
  no : ∀ n, n ∉ ks → valV kvs (.inr n) = none ∧ f n = 0
theorem Tab.len {R : NR} {H : Hp} {kvs : List (Key × V)} {ks : List Str} {f : Fn} (h : Tab R H kvs ks f) : kvs.length = ks.length := by
  have := congrArg List.length h.keys
  rw [List.length_map, List.length_map] at this
  exact this
theorem Tab.mono {R : NR} {H H' : Hp} {kvs : List (Key × V)} {ks : List Str} {f : Fn} (h : Tab R H kvs ks f) (o : R.Ok) (k : Fx H H') : Tab R H' kvs ks f :=
  ⟨h.keys, h.nd, fun n hn => let ⟨v, a, b⟩ := h.yes n hn; ⟨v, a, o _ _ _ _ k b⟩, h.no⟩
theorem Tab.nil {R : NR} {H : Hp} : Tab R H [] [] (fun _ => 0) := ⟨rfl, List.nodup_nil, (fun n hn => nomatch hn), fun n _ => ⟨rfl, rfl⟩⟩
/-- one more name, or the same name again -/
def insN (ks : List Str) (n : Str) : List Str := if n ∈ ks then ks else ks ++ [n]
def onN (ks : List Str) (f : Fn) : Fn := fun n => if n ∈ ks then f n else 0
theorem mem_insN {ks : List Str} {n m : Str} : m ∈ insN ks n ↔ m ∈ ks ∨ m = n := by
  unfold insN
  split
  · next h => exact ⟨.inl, fun z => z.elim id (fun e => e ▸ h)⟩
  · rw [List.mem_append, List.mem_singleton]
theorem insN_len {ks : List Str} {n : Str} : (insN ks n).length ≤ ks.length + 1 := by
  unfold insN
  split
  · omega
  · rw [List.length_append, List.length_singleton]; omega
theorem keys_put {kvs : List (Key × V)} {k : Key} {v : V} : (putK kvs k v).map (·.1) = if (valV kvs k).isSome = true then kvs.map (·.1) else kvs.map (·.1) ++ [k] := by
  unfold putK
  rw [valV_any]
  split
  · rw [List.map_map]
    refine List.map_congr_left fun p _ => ?_
    show (if p.1 = k then (p.1, v) else p).1 = p.1
    split <;> rfl
  · rw [List.map_append]
    rfl
/-- f at n, and g at the names that stand already -/
def atN (n : Str) (q : Rat) (g : Fn) : Fn := fun m => if m = n then q else g m
theorem Tab.put {R : NR} {H H' : Hp} {kvs : List (Key × V)} {ks : List Str} {f : Fn} {n : Str} {v : V} {q : Rat} (h : Tab R H kvs ks f) (o : R.Ok) (k : Fx H H') (hv : R H' v q) : Tab R H' (putK kvs (.inr n) v) (insN ks n) (atN n q f) := by
  have hm : (valV kvs (.inr n)).isSome = true ↔ n ∈ ks := by
    constructor
    · intro z
      apply Classical.byContradiction
      intro hn
      rw [(h.no n hn).1] at z
      cases z
    · intro hn
      obtain ⟨v, e, _⟩ := h.yes n hn
      rw [e]
      rfl
  refine ⟨?_, ?_, fun m hm' => ?_, fun m hm' => ?_⟩
  · rw [keys_put, h.keys]
    unfold insN
    by_cases hn : n ∈ ks
    · rw [if_pos (hm.mpr hn), if_pos hn]
    · rw [if_neg (fun z => hn (hm.mp z)), if_neg hn, List.map_append]
      rfl
  · unfold insN
    split
    · exact h.nd
    · next hn =>
      refine List.nodup_append.mpr ⟨h.nd, (by simp), fun a ha b hb => ?_⟩
      rw [List.mem_singleton] at hb
      exact fun e => hn (hb ▸ e ▸ ha)
  · rw [valV_put]
    unfold atN
    by_cases e : m = n
    · subst e
      rw [if_pos rfl, if_pos rfl]
      exact ⟨v, rfl, hv⟩
    · rw [if_neg (fun z => e (Sum.inr.inj z)), if_neg e]
      rcases mem_insN.mp hm' with h1 | h1
      · obtain ⟨u, a, b⟩ := h.yes m h1
        exact ⟨u, a, o _ _ _ _ k b⟩
      · exact absurd h1 e
  · rw [mem_insN] at hm'
    have e : ¬ m = n := fun e => hm' (.inr e)
    rw [valV_put, if_neg (fun z => e (Sum.inr.inj z))]
    unfold atN
    rw [if_neg e]
    exact h.no m fun z => hm' (.inl z)
theorem Tab.congr {R : NR} {H : Hp} {kvs : List (Key × V)} {ks : List Str} {f g : Fn} (h : Tab R H kvs ks f) (e : ∀ n, f n = g n) : Tab R H kvs ks g := (funext e : f = g) ▸ h
theorem on_step {ks : List Str} {n : Str} {f : Fn} : atN n (f n) (onN ks f) = onN (insN ks n) f := by
  funext m
  unfold atN onN
  by_cases e : m = n
  · subst e
    rw [if_pos rfl, if_pos (mem_insN.mpr (.inr rfl))]
  · rw [if_neg e]
    by_cases hm : m ∈ ks
    · rw [if_pos hm, if_pos (mem_insN.mpr (.inl hm))]
    · rw [if_neg hm, if_neg (fun z => (mem_insN.mp z).elim hm e)]
/-- all names of a list, each once -/
def ddN (xs : List Str) : List Str := xs.foldl insN []
theorem mem_fold {xs : List Str} : ∀ {ks : List Str} {n : Str}, n ∈ xs.foldl insN ks ↔ n ∈ ks ∨ n ∈ xs := by
  induction xs with
  | nil => intro ks n; simp
  | cons x xs ih =>
    intro ks n
    show n ∈ xs.foldl insN (insN ks x) ↔ _
    rw [ih, mem_insN, List.mem_cons]
    exact or_assoc
theorem mem_ddN {xs : List Str} {n : Str} : n ∈ ddN xs ↔ n ∈ xs := by
  unfold ddN
  rw [mem_fold]
  simp
theorem ddN_more {xs : List Str} {n : Str} : ddN (xs ++ [n]) = insN (ddN xs) n := by
  unfold ddN
  rw [List.foldl_append]
  rfl
theorem ddN_len1 {xs : List Str} : ∀ {ks : List Str}, (xs.foldl insN ks).length ≤ ks.length + xs.length := by
  induction xs with
  | nil => intro ks; exact Nat.le_refl _
  | cons x xs ih =>
    intro ks
    refine Nat.le_trans (ih (ks := insN ks x)) ?_
    have := insN_len (ks := ks) (n := x)
    rw [List.length_cons]
    omega
theorem ddN_len {xs : List Str} : (ddN xs).length ≤ xs.length := by
  have := ddN_len1 (xs := xs) (ks := [])
  rw [List.length_nil, Nat.zero_add] at this
  exact this
theorem onN_nil {f : Fn} : onN [] f = fun _ => 0 := funext fun n => if_neg (by simp)
/-- a dict, read -/
def DD (R : NR) (H : Hp) (d : Addr) (ks : List Str) (f : Fn) : Prop := ∃ kvs, Rd H d (.dK kvs) ∧ Tab R H kvs ks f
theorem DD.same {R : NR} {H H' : Hp} {d : Addr} {ks : List Str} {f : Fn} (h : DD R H d ks f) (o : R.Ok) (s : Same H H') : DD R H' d ks f := by
  obtain ⟨kvs, hd, t⟩ := h
  exact ⟨kvs, hd.elim (fun z => .inl (s _ _ z)) (fun ⟨u, z⟩ => .inr ⟨u, s _ _ z⟩), t.mono o (.same s)⟩
theorem DD.kp {R : NR} {g l : Addr} {H H' : Hp} {d : Addr} {ks : List Str} {f : Fn} (h : DD R H d ks f) (o : R.Ok) (B : Bag H g l) (k : Kp g H H') : DD R H' d ks f := by
  obtain ⟨xs, hg⟩ := B.lst
  obtain ⟨kvs, hd, t⟩ := h
  exact ⟨kvs, hd.elim (fun z => .inl (k _ _ z (ne_of z hg (by intro z; cases z)))) (fun ⟨u, z⟩ => .inr ⟨u, k _ _ z (ne_of z hg (by intro z; cases z))⟩), t.mono o (.kp k hg)⟩
/-- what d.get(n, 0) or d[n] finds -/
theorem DD.get {R : NR} {H : Hp} {d : Addr} {ks : List Str} {f : Fn} (h : DD R H d ks f) (n : Str) : ∃ o, DGet H d (.str n) o ∧ (n ∈ ks → ∃ v, o = some v ∧ R H v (f n)) ∧ (n ∉ ks → o = none ∧ f n = 0) := by
  obtain ⟨kvs, hd, t⟩ := h
  refine ⟨valV kvs (.inr n), .inl ⟨kvs, .inr n, hd, rfl, rfl⟩, fun hn => ?_, fun hn => t.no n hn⟩
  obtain ⟨v, a, b⟩ := t.yes n hn
  exact ⟨v, a, b⟩
theorem DD.isD {R : NR} {H : Hp} {d : Addr} {ks : List Str} {f : Fn} (h : DD R H d ks f) : IsD H d := by
  obtain ⟨kvs, hd, t⟩ := h
  exact .inl ⟨kvs, hd⟩
def validZ (z : Str) : Bool := decide (1 ≤ z.length) && (decide (z.length ≤ 12) && z.cps.toList.all fun c => decide (c ∈ lettersZ.cps.toList))
/-- a stock of good names -/
structure UOk (U : List Str) : Prop where
  good : ∀ n ∈ U, validZ n = true
  len : U.length < 30
/-- the form that f tells: its names in order, each with a number that is not 0 -/
structure FmOk (U ks : List Str) (f : Fn) : Prop where
  srt : Srt ks
  nz : ∀ n, n ∈ ks ↔ f n ≠ 0
  sub : ∀ n ∈ ks, n ∈ U
theorem FmOk.uniq {U U' a b : List Str} {f : Fn} (ha : FmOk U a f) (hb : FmOk U' b f) : a = b := ha.srt.uniq hb.srt fun n => (ha.nz n).trans (hb.nz n).symm
theorem FmOk.len {U a : List Str} {f : Fn} (ha : FmOk U a f) : a.length ≤ U.length := ha.srt.nd.length_le_of_subset fun n hn => ha.sub n hn
/-- .. with its dict at d -/
def IsFd (CF CR : Addr) (U : List Str) (H : Hp) (v : V) (d : Addr) (f : Fn) : Prop := ∃ p dx ks, v = .ref p ∧ H p = some (.ins CF dx [("shares", .ref d)]) ∧ DD (IsR CR) H d ks f ∧ FmOk U ks f
theorem IsFd.same {CF CR : Addr} {U : List Str} {H H' : Hp} {v : V} {d : Addr} {f : Fn} (h : IsFd CF CR U H v d f) (s : Same H H') : IsFd CF CR U H' v d f := by
  obtain ⟨p, dx, ks, e, hp, hd, o⟩ := h
  exact ⟨p, dx, ks, e, s _ _ hp, hd.same okR s, o⟩
theorem IsFd.kp {g l : Addr} {CF CR : Addr} {U : List Str} {H H' : Hp} {v : V} {d : Addr} {f : Fn} (h : IsFd CF CR U H v d f) (B : Bag H g l) (k : Kp g H H') : IsFd CF CR U H' v d f := by
  obtain ⟨p, dx, ks, e, hp, hd, o⟩ := h
  obtain ⟨xs, hg⟩ := B.lst
  exact ⟨p, dx, ks, e, k _ _ hp (ne_of hp hg (by intro z; cases z)), hd.kp okR B k, o⟩
theorem IsFd.putD {CF CR : Addr} {U : List Str} {H : Hp} {v : V} {d e : Addr} {f : Fn} {kvs : List (Key × V)} {o : HO} (h : IsFd CF CR U H v d f) (he : H e = some (.dK kvs)) (n : d ≠ e) : IsFd CF CR U (upd H e o) v d f := by
  obtain ⟨p, dx, ks, e1, hp, ⟨kv2, hd, t⟩, ok⟩ := h
  have fx : Fx H (upd H e o) := (Fx.refl H).dk he
  refine ⟨p, dx, ks, e1, fx.ins _ _ _ _ hp, ⟨kv2, ?_, t.mono okR fx⟩, ok⟩
  rcases hd with hd | ⟨u, hd⟩
  · exact .inl (by rw [upd_ne n]; exact hd)
  · exact .inr ⟨u, by rw [upd_ne n]; exact hd⟩
def IsF (CF CR : Addr) (U : List Str) (H : Hp) (v : V) (f : Fn) : Prop := ∃ p dx d ks, v = .ref p ∧ H p = some (.ins CF dx [("shares", .ref d)]) ∧ DD (IsR CR) H d ks f ∧ FmOk U ks f
theorem IsFd.isF {CF CR : Addr} {U : List Str} {H : Hp} {v : V} {d : Addr} {f : Fn} (h : IsFd CF CR U H v d f) : IsF CF CR U H v f := by
  obtain ⟨p, dx, ks, e, hp, hd, o⟩ := h
  exact ⟨p, dx, d, ks, e, hp, hd, o⟩
theorem IsF.same {CF CR : Addr} {U : List Str} {H H' : Hp} {v : V} {f : Fn} (h : IsF CF CR U H v f) (s : Same H H') : IsF CF CR U H' v f := by
  obtain ⟨p, dx, d, ks, e, hp, hd, o⟩ := h
  exact ⟨p, dx, d, ks, e, s _ _ hp, hd.same okR s, o⟩
theorem IsF.kp {g l : Addr} {CF CR : Addr} {U : List Str} {H H' : Hp} {v : V} {f : Fn} (h : IsF CF CR U H v f) (B : Bag H g l) (k : Kp g H H') : IsF CF CR U H' v f := by
  obtain ⟨p, dx, d, ks, e, hp, hd, o⟩ := h
  obtain ⟨xs, hg⟩ := B.lst
  exact ⟨p, dx, d, ks, e, k _ _ hp (ne_of hp hg (by intro z; cases z)), hd.kp okR B k, o⟩
def SzF (b : Nat) (f : Fn) : Prop := ∀ n, Sz b (f n)
def oneN (n : Str) : Fn := fun m => if m = n then 1 else 0
theorem szF_one {n : Str} : SzF 1 (oneN n) := fun m => by
  unfold oneN
  split
  · exact ⟨by decide, by decide⟩
  · exact ⟨by decide, by decide⟩

/-! ### dict comprehensions, dicts compared, walks over a dict under its lock -/
section
open PySem.Spec PyProof.Rows
variable {X : Cx}
theorem pe_dcV {kx vx tg iter : Expr} {ifs : List Expr} {scope : Scope} {own : List (Str × Nat)} {pos : Pos} {wi : TI} {g : Bk TG} {tt : Bk TT} {tk tv : Bk TE} (hc : X.calm = true) (hN : X.N.Nodup) (hi : PI X tg iter wi) (ok : BlkOk X.N X.env.scope scope own)
    (hg : ∀ s H C cl fp, PG (X.blk s H scope (compEnvC scope cl C X.env) fp) tg (g s H C cl fp)) (ht : ∀ s H C cl fp, PTs (X.blk s H scope (compEnvC scope cl C X.env) fp) ifs (tt s H C cl fp))
    (hk : ∀ s H C cl fp, PE (X.blk s H scope (compEnvC scope cl C X.env) fp) kx (tk s H C cl fp)) (he : ∀ s H C cl fp, PE (X.blk s H scope (compEnvC scope cl C X.env) fp) vx (tv s H C cl fp))
    (e1 : ∀ s H C cl fp, g s H C cl fp = g.at0 X) (e2 : ∀ s H C cl fp, tt s H C cl fp = tt.at0 X) (e3 : ∀ s H C cl fp, tk s H C cl fp = tk.at0 X) (e4 : ∀ s H C cl fp, tv s H C cl fp = tv.at0 X) (hs : ∀ x, foldedSetIterable iter X.env x = pure x := by intro _; rfl) :
    PE X (.DictComp kx vx [⟨tg, iter, ifs, 0⟩] scope pos) (tDc wi (g.at0 X) (tt.at0 X) (tk.at0 X) (tv.at0 X) (own.map (·.2))) :=
  pe_dc hc hN hi ok (fun s H C cl fp => by rw [← e1 s H C cl fp]; exact hg s H C cl fp) (fun s H C cl fp => by rw [← e2 s H C cl fp]; exact ht s H C cl fp) (fun s H C cl fp => by rw [← e3 s H C cl fp]; exact hk s H C cl fp) (fun s H C cl fp => by rw [← e4 s H C cl fp]; exact he s H C cl fp) hs
end
theorem dc_it {J : It} {n : Nat} {G : Hp → Prop} {Y : Nat → Hp → V → Hp → Prop} (w : Walk J n G Y) {g : TG} {tt : TT} {tk tv : TE} {vs : List Nat} {σ : L2.St} {H1 : Hp} {D : Addr} {Qd : Hp → Prop} (Pv : Nat → Hp → Prop) (h0 : Pv 0 (upd H1 D (.dK []))) (hG : ∀ i H, i ≤ n → Pv i H → G H)
    (hs : ∀ i x H H', i < n → Pv i H → Y i H x H' → g x (wipe σ vs) H' fun σ2 H2 => wipe σ2 vs = wipe σ vs ∧ tt σ2 H2 fun b H3 =>
      if b = true then tk σ2 H3 fun y H4 => tv σ2 H4 fun z H5 => ∃ kvs k, y = kV k ∧ H5 D = some (.dK kvs) ∧ kvs.length < sizeLine ∧ Pv (i + 1) (upd H5 D (.dK (putK kvs k z))) else Pv (i + 1) H3) (hd : ∀ H, Pv n H → Qd H) :
    ∃ W : Nat → Nat → Hp → Prop, (∃ m, W 0 m (upd H1 D (.dK []))) ∧ ∀ i m H, W i m H →
      (J.stop i H ∧ Qd H) ∨ (J.go i H ∧ ∃ Nx : Hp → Prop, (∀ H', Nx H' → ∃ m', m' < m ∧ W (i + 1) m' H') ∧ ∀ x H', J.yld i H x H' → g x (wipe σ vs) H' fun σ2 H2 => wipe σ2 vs = wipe σ vs ∧ tt σ2 H2 fun b H3 =>
        if b = true then tk σ2 H3 fun y H4 => tv σ2 H4 fun z H5 => ∃ kvs k, y = kV k ∧ H5 D = some (.dK kvs) ∧ kvs.length < sizeLine ∧ Nx (upd H5 D (.dK (putK kvs k z))) else Nx H3) := by
  refine ⟨fun i m H => m = n - i ∧ i ≤ n ∧ Pv i H, ⟨n, by simp, Nat.zero_le _, h0⟩, ?_⟩
  rintro i m H ⟨rfl, hi, p⟩
  have q := hG i H hi p
  by_cases hlt : i < n
  · refine .inr ⟨w.goes i H hlt q, Pv (i + 1), fun H' p' => ⟨n - (i + 1), by omega, rfl, hlt, p'⟩, fun x H' y => hs i x H H' hlt p (w.yields i H x H' hlt q y)⟩
  · have e : i = n := by omega
    subst e
    exact .inl ⟨w.stops H q, hd H p⟩
/-- unlocked again -/
theorem same_back {H H' : Hp} {d : Addr} {u : HO} {o : Obj} (h : H d = some u) (s : Same (upd H d (.frz o u)) H') : Same H (upd H' d u) := fun b x e => by
  by_cases hb : b = d
  · subst hb
    rw [upd_same, ← e, h]
  · rw [upd_ne hb]
    exact s b x (by rw [upd_ne hb]; exact e)
theorem kp_back {g : Addr} {H H' : Hp} {d : Addr} {u : HO} {o : Obj} (h : H d = some u) (s : Kp g (upd H d (.frz o u)) H') : Kp g H (upd H' d u) := fun b x e n => by
  by_cases hb : b = d
  · subst hb
    rw [upd_same, ← e, h]
  · rw [upd_ne hb]
    exact s b x (by rw [upd_ne hb]; exact e) n
theorem fx_lock {H : Hp} {d : Addr} {kvs : List (Key × V)} {o : HO} (h : H d = some (.dK kvs)) : Fx H (upd H d o) := (Fx.refl H).dk h
section
open PySem.Spec PyProof.Rows
variable {X : Cx}
theorem hits_same {κ : Type} [DecidableEq κ] {A : Around} {s : Shared} {kvs : List (κ × V)} {vb : List (κ × Value)} (rb : KV kvs vb) {ks : List (κ × V)} {va : List (κ × Value)} (ra : KV ks va) :
    (∀ p ∈ ks, valV kvs p.1 = some p.2 ∧ (flatB p.2 = true ∨ ∃ a, p.2 = .ref a)) → PySem.W.KeqHits A s vb va true := by
  unfold KV at ra
  induction ra with
  | nil => intro _; exact .nil
  | @cons p q ps qs h t ih =>
    intro hp
    obtain ⟨h1, h2⟩ := h
    obtain ⟨e, f⟩ := hp p List.mem_cons_self
    have rr : RelO (some p.2) (valueAt vb p.1) := by rw [← e]; exact rb.val p.1
    obtain ⟨y, hy, ry⟩ := rr.some_of
    obtain ⟨k, v⟩ := q
    have h1' : p.1 = k := h1
    rw [h1'] at hy
    show PySem.W.KeqHits A s vb ((k, v) :: qs) (true && true)
    refine .hit hy ?_ (ih fun p' hp' => hp p' (List.mem_cons_of_mem _ hp'))
    rcases f with f | ⟨a, ea⟩
    · exact eqAt_same h2 ry f
    · rw [ea] at h2 ry
      cases h2
      cases ry
      exact SeqAt.EqAt.same _
/-- a != b, two dicts of the same pairs -/
theorem op_neDS (hu : X.A.units < cLine) : OpR X (compareOp .NotEq) (fun x y H Q => Wd (∃ (a b : Addr) (ks : List (Key × V)), x = .ref a ∧ y = .ref b ∧ H a = some (.dK ks) ∧ H b = some (.dK ks) ∧ (ks.map (·.1)).Nodup ∧ (∀ p ∈ ks, flatB p.2 = true ∨ ∃ a, p.2 = .ref a) ∧ Q (.bl false) H)) := by
  intro pins s σ H x y v u Q I rx ry h
  obtain ⟨a, b, ks, rfl, rfl, ea, eb, nd, hp, q⟩ := h.ok
  obtain rfl : v = Value.ref a := rx
  obtain rfl : u = Value.ref b := ry
  obtain ⟨_, ya, va, ra, da⟩ := (show ObjOk X.prog X.w H s.heap a (.dK ks) from I.hok a _ ea)
  obtain ⟨_, yb, vb, rb, db⟩ := (show ObjOk X.prog X.w H s.heap b (.dK ks) from I.hok b _ eb)
  have hl : va.length = vb.length := by rw [← ra.length, ← rb.length]
  exact PySem.W.keq_ne (knd := mixKind X.prog X.w) (r := true) ya yb da db hu (fun _ => hits_same rb ra fun p h' => ⟨val_nodup nd p h', hp p h'⟩) (fin_bl I q (by simp [hl]))
end
theorem insN_new {ks : List Str} {n : Str} (h : n ∉ ks) : insN ks n = ks ++ [n] := if_neg h
theorem Tab.map {R R' : NR} {H H' : Hp} {kvs : List (Key × V)} {ks : List Str} {f : Fn} (h : Tab R H kvs ks f) (g : ∀ v q, R H v q → R' H' v q) : Tab R' H' kvs ks f :=
  ⟨h.keys, h.nd, fun n hn => let ⟨v, a, b⟩ := h.yes n hn; ⟨v, a, g _ _ b⟩, h.no⟩
theorem Tab.key {R : NR} {H : Hp} {kvs : List (Key × V)} {ks : List Str} {f : Fn} (h : Tab R H kvs ks f) {i : Nat} {k : Key} {v : V} (e : kvs[i]? = some (k, v)) : ∃ n, k = .inr n ∧ ks[i]? = some n := by
  have h1 : (kvs.map (·.1))[i]? = some k := by rw [List.getElem?_map, e]; rfl
  rw [h.keys, List.getElem?_map] at h1
  cases en : ks[i]? with
  | none => rw [en] at h1; cases h1
  | some n => rw [en] at h1; cases h1; exact ⟨n, rfl, rfl⟩
theorem onN_all {ks : List Str} {f : Fn} (h : ∀ n, n ∉ ks → f n = 0) : onN ks f = f := by
  funext n
  unfold onN
  by_cases hn : n ∈ ks
  · rw [if_pos hn]
  · rw [if_neg hn, h n hn]
theorem onN_congr {as bs : List Str} {f : Fn} (h : ∀ n, n ∈ as ↔ n ∈ bs) : onN as f = onN bs f := by
  funext n
  unfold onN
  by_cases hn : n ∈ as
  · rw [if_pos hn, if_pos ((h n).mp hn)]
  · rw [if_neg hn, if_neg (fun z => hn ((h n).mpr z))]
theorem names_at {ys : List Str} {i : Nat} {x : V} (h : (ys.map V.str)[i]? = some x) : ∃ n, ys[i]? = some n ∧ x = .str n := by
  rw [List.getElem?_map] at h
  cases en : ys[i]? with
  | none => rw [en] at h; cases h
  | some n => rw [en] at h; cases h; exact ⟨n, rfl, rfl⟩
/-- {name: .. for name in a list of names} -/
theorem dc_names {K : PySem.W.Frag} {R : NR} {a : Addr} {ys : List Str} {g : TG} {tt : TT} {tk tv : TE} {vs : List Nat} {σ : L2.St} {H1 : Hp} {D : Addr} {Qd : Hp → Prop} (f : Fn) (o : R.Ok) (hl : H1 a = some (.lst (ys.map V.str))) (hz : ys.length ≤ 1000) (hD : H1 D = none)
    (hs : ∀ (i : Nat) (n : Str) (H' : Hp) (N : V → VK) (M : Hp → Prop), ys[i]? = some n → Same H1 H' → (∀ v H4, Same H' H4 → R H4 v (f n) → N (.str n) v H4) → g (.str n) (wipe σ vs) H' fun σ2 H2 => wipe σ2 vs = wipe σ vs ∧ tt σ2 H2 fun b H3 => if b = true then tk σ2 H3 fun y H4 => tv σ2 H4 fun z H5 => N y z H5 else M H3)
    (hd : ∀ kvs H', Same H1 H' → H' D = some (.dK kvs) → Tab R H' kvs (ddN ys) (onN ys f) → Qd H') :
    ∃ W : Nat → Nat → Hp → Prop, (∃ m, W 0 m (upd H1 D (.dK []))) ∧ ∀ i m H, W i m H →
      ((Itl K a).stop i H ∧ Qd H) ∨ ((Itl K a).go i H ∧ ∃ Nx : Hp → Prop, (∀ H', Nx H' → ∃ m', m' < m ∧ W (i + 1) m' H') ∧ ∀ x H', (Itl K a).yld i H x H' → g x (wipe σ vs) H' fun σ2 H2 => wipe σ2 vs = wipe σ vs ∧ tt σ2 H2 fun b H3 =>
        if b = true then tk σ2 H3 fun y H4 => tv σ2 H4 fun z H5 => ∃ kvs k, y = kV k ∧ H5 D = some (.dK kvs) ∧ kvs.length < sizeLine ∧ Nx (upd H5 D (.dK (putK kvs k z))) else Nx H3) := by
  refine dc_it (walk_list (K := K) (a := a) (xs := ys.map V.str)) (fun i H' => Wd (∃ kvs, Same H1 H' ∧ H' D = some (.dK kvs) ∧ Tab R H' kvs (ddN (ys.take i)) (onN (ddN (ys.take i)) f)))
    ⟨[], Same.new hD, upd_same, by rw [List.take_zero]; show Tab R _ [] [] (onN [] f); rw [onN_nil]; exact Tab.nil⟩ (fun i H' _ h => ?_) ?_ ?_
  · obtain ⟨kvs, s, _⟩ := h.ok
    exact SqL.of (s _ _ hl)
  · rintro i x H' H'' hi ⟨kvs, s, hDk, t⟩ ⟨rfl, hx⟩
    obtain ⟨n, hn, rfl⟩ := names_at hx
    refine hs i n H'' (fun y z H5 => ∃ kvs k, y = kV k ∧ H5 D = some (.dK kvs) ∧ kvs.length < sizeLine ∧ Wd (∃ kvs', Same H1 (upd H5 D (.dK (putK kvs k z))) ∧ (upd H5 D (.dK (putK kvs k z))) D = some (.dK kvs') ∧ Tab R (upd H5 D (.dK (putK kvs k z))) kvs' (ddN (ys.take (i + 1))) (onN (ddN (ys.take (i + 1))) f))) _ hn s fun v H4 s4 hv => ?_
    have hD4 := s4 _ _ hDk
    refine ⟨kvs, .inr n, rfl, hD4, ?_, _, Same.at_new hD (s.trans s4), upd_same, ?_⟩
    · rw [t.len]
      have h1 := ddN_len (xs := ys.take i)
      rw [List.length_take] at h1
      exact Nat.lt_of_le_of_lt (by omega : _ ≤ 1000) (by decide)
    · rw [take_more hn, ddN_more, ← on_step]
      exact t.put o ((Fx.same s4).dk hDk) (o _ _ _ _ ((Fx.refl H4).dk hD4) hv)
  · rintro H' ⟨kvs, s, hDk, t⟩
    rw [List.length_map, List.take_length] at t
    refine hd kvs H' s hDk ?_
    rw [onN_congr (as := ys) (bs := ddN ys) fun n => mem_ddN.symm]
    exact t
theorem Sz.mul0 {a b : Nat} {q r : Rat} (hq : Sz a q) (hr : Sz b r) : Sz (a + b) (q * r) := by
  rw [← mul_eq]
  have h1 : (q.den : Int) ≠ 0 := by have := q.den_nz; omega
  have h2 : (r.den : Int) ≠ 0 := by have := r.den_nz; omega
  exact Sz.div (mul_lt hq.1 hr.1) (mul_lt hq.2 hr.2) (Int.mul_ne_zero h1 h2)

/-! ### lists as data -/
theorem depthAll_le {k : Nat} : ∀ {xs : List PyData}, (∀ x ∈ xs, x.depth ≤ k) → PyData.depthAll xs ≤ k
  | [], _ => by unfold PyData.depthAll; exact Nat.zero_le _
  | x :: xs, h => by
    unfold PyData.depthAll
    exact Nat.max_le.mpr ⟨h x List.mem_cons_self, depthAll_le fun y hy => h y (List.mem_cons_of_mem _ hy)⟩
theorem depth_list {k : Nat} {xs : List PyData} (h : ∀ x ∈ xs, x.depth ≤ k) : (PyData.list xs).depth ≤ k + 1 := by
  unfold PyData.depth
  exact Nat.succ_le_succ (depthAll_le h)
theorem plainAll_of : ∀ {xs : List PyData}, (∀ x ∈ xs, x.plain = true) → PyData.plainAll xs = true
  | [], _ => rfl
  | x :: xs, h => by
    unfold PyData.plainAll
    rw [h x List.mem_cons_self, plainAll_of fun y hy => h y (List.mem_cons_of_mem _ hy)]
    rfl
theorem dpAll_of {K : PySem.W.Frag} {H : Hp} {α : Type} {f : α → V} {g : α → PyData} : ∀ {l : List α}, (∀ x ∈ l, Dp K H (f x) (g x)) → DpAll K H (l.map f) (l.map g)
  | [], _ => .nil
  | x :: l, h => .cons (h x List.mem_cons_self) (dpAll_of fun y hy => h y (List.mem_cons_of_mem _ hy))
/-- a list whose items are data -/
structure DL (K : PySem.W.Frag) (H : Hp) (v : V) (d : PyData) (k : Nat) : Prop where
  dp : Dp K H v d
  pl : d.plain = true
  de : d.depth ≤ k
theorem dl_strs {K : PySem.W.Frag} {H : Hp} {p : Addr} {ns : List Str} (h : H p = some (.lst (ns.map V.str))) : DL K H (.ref p) (.list (ns.map PyData.str)) 1 :=
  ⟨.lst (SqL.of h) (dpAll_of fun x _ => .str x), by unfold PyData.plain; exact plainAll_of fun x hx => by obtain ⟨y, _, rfl⟩ := List.mem_map.mp hx; rfl, depth_list fun x hx => by obtain ⟨y, _, rfl⟩ := List.mem_map.mp hx; exact Nat.le_refl _⟩
def pairD (p : Int × Int) : PyData := .tuple [.int p.1, .int p.2]
theorem dpAll_pairs {K : PySem.W.Frag} {H : Hp} : ∀ {bs : List Addr} {ps : List (Int × Int)}, All2 (fun b q => H b = some (.tup [.int q.1, .int q.2])) bs ps → DpAll K H (bs.map V.ref) (ps.map pairD)
  | [], [], _ => .nil
  | [], _ :: _, h => by cases h.1
  | _ :: _, [], h => by cases h.1
  | b :: bs, p :: ps, h => .cons (.tup (SqT.of (h.2 0 b p rfl rfl)) (.cons (.int _) (.cons (.int _) .nil))) (dpAll_pairs ⟨by have := h.1; simpa using this, fun i x y hx hy => h.2 (i + 1) x y hx hy⟩)
theorem dl_pairs {K : PySem.W.Frag} {H : Hp} {p : Addr} {bs : List Addr} {ps : List (Int × Int)} (h : H p = some (.lst (bs.map V.ref))) (h2 : All2 (fun b q => H b = some (.tup [.int q.1, .int q.2])) bs ps) : DL K H (.ref p) (.list (ps.map pairD)) 2 :=
  ⟨.lst (SqL.of h) (dpAll_pairs h2), by unfold PyData.plain; exact plainAll_of fun x hx => by obtain ⟨y, _, rfl⟩ := List.mem_map.mp hx; rfl, depth_list fun x hx => by obtain ⟨y, _, rfl⟩ := List.mem_map.mp hx; exact Nat.le_of_ble_eq_true rfl⟩
theorem dl_list3 {K : PySem.W.Frag} {H : Hp} {p : Addr} {a b c : V} {da db dc : PyData} {k : Nat} (h : H p = some (.lst [a, b, c])) (ha : DL K H a da k) (hb : DL K H b db k) (hc : DL K H c dc k) : DL K H (.ref p) (.list [da, db, dc]) (k + 1) :=
  ⟨.lst (SqL.of h) (.cons ha.dp (.cons hb.dp (.cons hc.dp .nil))), by unfold PyData.plain PyData.plainAll PyData.plainAll PyData.plainAll PyData.plainAll; rw [ha.pl, hb.pl, hc.pl]; rfl, depth_list fun x hx => by
    simp only [List.mem_cons, List.not_mem_nil, or_false] at hx
    rcases hx with rfl | rfl | rfl
    · exact ha.de
    · exact hb.de
    · exact hc.de⟩
theorem ne_dl {K : PySem.W.Frag} {H : Hp} {x y : V} {d : PyData} {k : Nat} {Q : VK} (hx : DL K H x d k) (hy : DL K H y d k) (hk : k ≤ 64) (h : Q (.bl false) H) : rNeP K x y H Q := neP_same hx.dp hy.dp hx.pl (Nat.le_trans hx.de hk) h
theorem eq_dl {K : PySem.W.Frag} {H : Hp} {x y : V} {d : PyData} {k : Nat} {Q : VK} (hx : DL K H x d k) (hy : DL K H y d k) (hk : k ≤ 64) (h : Q (.bl true) H) : rEqP K x y H Q := eqP_same hx.dp hy.dp hx.pl (Nat.le_trans hx.de hk) h

/-! ### min of a list of texts -/
section
open PySem.Spec PyProof.Rows PySem.W
theorem minD_strs : ∀ (ns : List Str) (n : Str), ∃ m, minD (.str n) (ns.map PyData.str) = .str m ∧ m ∈ n :: ns ∧ ∀ y ∈ n :: ns, leS m y
  | [], n => ⟨n, rfl, List.mem_cons_self, fun y hy => by
      rw [List.mem_singleton] at hy
      subst hy
      rw [leS_iff]
      exact List.lt_irrefl _⟩
  | x :: ns, n => by
    by_cases h : x.cps.toList < n.cps.toList
    · obtain ⟨m, e, hm, hl⟩ := minD_strs ns x
      refine ⟨m, ?_, List.mem_cons_of_mem _ hm, fun y hy => ?_⟩
      · rw [← e]
        show (ns.map PyData.str).foldl _ (if dataLt (PyData.str x) (PyData.str n) = true then PyData.str x else PyData.str n) = _
        rw [dataLt_str, decide_eq_true h, if_pos rfl]
        rfl
      · rcases List.mem_cons.mp hy with rfl | hy
        · have h1 := hl x List.mem_cons_self
          refine leS_trans h1 ?_
          rw [leS_iff]
          exact fun z => List.lt_irrefl _ (List.lt_trans h z)
        · exact hl y hy
    · obtain ⟨m, e, hm, hl⟩ := minD_strs ns n
      refine ⟨m, ?_, ?_, fun y hy => ?_⟩
      · rw [← e]
        show (ns.map PyData.str).foldl _ (if dataLt (PyData.str x) (PyData.str n) = true then PyData.str x else PyData.str n) = _
        rw [dataLt_str, decide_eq_false h, if_neg (by decide)]
        rfl
      · rcases List.mem_cons.mp hm with rfl | hm
        · exact List.mem_cons_self
        · exact List.mem_cons_of_mem _ (List.mem_cons_of_mem _ hm)
      · rcases List.mem_cons.mp hy with rfl | hy
        · exact hl _ List.mem_cons_self
        · rcases List.mem_cons.mp hy with rfl | hy
          · refine leS_trans (hl n List.mem_cons_self) ?_
            rw [leS_iff]
            exact h
          · exact hl y (List.mem_cons_of_mem _ hy)
variable {X : Cx}
def rMinS (K : PySem.W.Frag) : List V → Hp → VK → Prop := fun vs H Q => ∃ (a : Addr) (n : Str) (ns : List Str), vs = [V.ref a] ∧ SqL K H a ((n :: ns).map V.str) ∧ ∀ m, m ∈ n :: ns → (∀ y ∈ n :: ns, leS m y) → Q (.str m) H
theorem cr_minS (hc : X.calm = true) (hu : X.A.units + 64 < cLine) : CallR X (.builtin "min") (rMinS X.K) := by
  intro pins s σ H vs us Q I r h
  obtain ⟨a, n, ns, rfl, hs, q⟩ := h
  obtain ⟨its, rv, hl, _⟩ := I.list hs
  rw [Vals.ref1 r]
  have hd : DpAll X.K H ((n :: ns).map V.str) ((n :: ns).map PyData.str) := dpAll_of fun x _ => .str x
  obtain ⟨as, ra⟩ := Dp.readsAll I _ _ _ hd rv
  obtain ⟨m, e, hm, hl2⟩ := minD_strs ns n
  have dep : PyData.depthAll ((n :: ns).map PyData.str) ≤ 1 := depthAll_le fun x hx => by
    obtain ⟨y, _, rfl⟩ := List.mem_map.mp hx
    exact Nat.zero_le _
  refine min_list_data (I.ok.hd hc) hl.isList (by simpa using ra) ⟨fun x hx y hy => ?_, fun x hx => ?_⟩ (Nat.lt_of_le_of_lt (Nat.add_le_add_left dep _) (by omega)) fun i v h' tk bs hv rd k => ?_
  · have hx' : x ∈ (n :: ns).map PyData.str := hx
    have hy' : y ∈ (n :: ns).map PyData.str := hy
    obtain ⟨x', _, rfl⟩ := List.mem_map.mp hx'
    obtain ⟨y', _, rfl⟩ := List.mem_map.mp hy'
    rfl
  · have hx' : x ∈ (n :: ns).map PyData.str := hx
    obtain ⟨x', _, rfl⟩ := List.mem_map.mp hx'
    exact fun z => nomatch z
  · rw [e] at rd
    cases rd
    exact ⟨.str m, H, I.kept (t' := tk) k, ⟨_, rfl⟩, q m hm hl2⟩
end

/-! ### valid_name -/
def spValid : Sp := fun vs H Q _ => ∃ z : Str, vs = [.str z] ∧ z.length ≤ 1000 ∧ ∀ H', Same H H' → Q (.bl (validZ z)) H'
section
variable {P : Program} {w : World} {K : PySem.W.Frag} {mg : Str → Option Value} {base : Heap} {A : Ad}
theorem ok_f_valid_name (T : Txt K mg A) : FnOk P w K mg base CX0 1 A.f_valid_name A.fd_f_valid_name P_f_valid_name spValid := by
  refine T.F_f_valid_name.ok sc_f_valid_name (fun vs H Q E h => ?_) (fun cdv Ar outer s H vs Q E hr h => ?_)
  · obtain ⟨z, rfl, _⟩ := h
    rfl
  · obtain ⟨z, rfl, hz, k⟩ := h
    refine ⟨_, (pss_one (ps_ret (pe_and (pe_callB call_isi (by rfl) T.z_isinstance (by decide +kernel) (pa_cons (pv 0) (pa_cons (pe_bltn (v := .ty "str") (by rfl) T.z_str (by decide +kernel) rfl) pa_nil))) (pe_and (pe_chain op_le op_le pe_int (pe_callB (call_len_str) (by rfl) T.z_len (by decide +kernel) (pa_cons (pv 0) pa_nil)) pe_int) (pe_one (pe_callB (cr_all rfl) (by rfl) T.z_all (by decide +kernel) (pa_cons (pe_g (pe_lcV (own := [("letter", 1)]) rfl sc_f_valid_name.nd (pi_str (pv 0)) (blkOk_by (own := [("letter", 1)]) (N := N_f_valid_name) (sc := defScope s_f_valid_name) (by decide +kernel)) (fun _ _ _ _ _ => (pg_name (i := 1) sc_f_valid_name.nd rfl (Or.inl rfl))) (fun _ _ _ _ _ => pts_nil) (fun _ _ _ _ _ => (pe_cmpR op_in_sign (pv 1) (pe_glob (v := .str "abcdefghijklmnopqrstuvwxyz") (by rfl) T.g_LETTERS.choose_spec ⟨_, rfl⟩) (by rfl))) (fun _ _ _ _ _ => rfl) (fun _ _ _ _ _ => rfl) (fun _ _ _ _ _ => rfl))) pa_nil))))))), ?_⟩
    have hzs : z.length ≤ sizeLine := Nat.le_trans hz (by decide)
    refine ⟨_, rfl, _, _, _, _, _, rfl, .ty "str", .base (.str z), kit_ty (b := "str") (r := true) (by decide +kernel), true, rfl, iteT ?_⟩
    have e : validZ z = (decide (1 ≤ z.length) && (decide (z.length ≤ 12) && z.cps.toList.all fun c => decide (c ∈ lettersZ.cps.toList))) := rfl
    have e1 : decide ((1 : Int) ≤ (z.length : Int)) = decide (1 ≤ z.length) := by
      rw [decide_eq_decide]
      omega
    have e2 : decide ((z.length : Int) ≤ 12) = decide (z.length ≤ 12) := by
      rw [decide_eq_decide]
      omega
    refine ⟨_, rfl, _, rfl, hzs, _, _, rfl, rfl, decide (1 ≤ z.length), congrArg V.bl e1, ?_⟩
    by_cases h1 : 1 ≤ z.length
    · rw [decide_eq_true h1]
      refine iteT ⟨_, _, rfl, rfl, decide (z.length ≤ 12), congrArg V.bl e2, ?_⟩
      by_cases h2 : z.length ≤ 12
      · rw [decide_eq_true h2]
        refine iteT ⟨⟨_, rfl, z, rfl, fun D hD => ?_⟩⟩
        refine lc_it walk_str (fun i H' => Wd (Same H H' ∧ H' D = some (.lst ((z.cps.toList.take i).map fun c => V.bl (decide (c ∈ lettersZ.cps.toList)))))) ⟨Same.new hD, upd_same⟩ (fun _ _ _ _ => trivial) ?_ ?_
        · rintro i x H1 H2 hi ⟨s1, h1'⟩ ⟨rfl, c, hc, rfl⟩
          have hi' : i < z.cps.toList.length := by simpa using hi
          have hc' : z.cps.toList[i]? = some c := by rw [Array.getElem?_toList]; exact hc
          refine ⟨rfl, _, rfl, c, _, rfl, rfl, _, h1', ?_, Same.at_new hD s1, ?_⟩
          · rw [List.length_map, List.length_take]
            exact Nat.lt_of_lt_of_le (by have : z.cps.toList.length = z.length := by simp [Str.length]
                                         omega : _ < 1000) (by decide)
          · rw [upd_same, take_more hc', List.map_append]
            rfl
        · rintro H1 ⟨s1, h1'⟩
          refine ⟨D, z.cps.toList.map fun c => decide (c ∈ lettersZ.cps.toList), rfl, SqL.of ?_, ?_⟩
          · rw [h1', List.take_of_length_le (by simp), List.map_map]
            rfl
          · have kk := k H1 s1
            rw [e, decide_eq_true h1, decide_eq_true h2, Bool.true_and, Bool.true_and] at kk
            rw [List.all_map]
            exact kk
      · rw [decide_eq_false h2]
        refine iteF ?_
        have kk := k H fun _ _ h => h
        rw [e, decide_eq_false h2, Bool.false_and, Bool.and_false] at kk
        exact kk
    · rw [decide_eq_false h1]
      refine iteF ⟨_, rfl, iteF ?_⟩
      have kk := k H fun _ _ h => h
      rw [e, decide_eq_false h1, Bool.false_and] at kk
      exact kk
end
theorem validZ_len {z : Str} (h : validZ z = true) : z.length ≤ 1000 := by
  unfold validZ at h
  rw [Bool.and_eq_true, Bool.and_eq_true, decide_eq_true_eq, decide_eq_true_eq] at h
  omega
theorem ddN_self {xs : List Str} (h : xs.Nodup) : ddN xs = xs := by
  have go : ∀ (xs ks : List Str), (ks ++ xs).Nodup → xs.foldl insN ks = ks ++ xs := by
    intro xs
    induction xs with
    | nil => intro ks _; exact (List.append_nil ks).symm
    | cons x xs ih =>
      intro ks hn
      have hx : x ∉ ks := fun hx => (List.nodup_append.mp hn).2.2 x hx x List.mem_cons_self rfl
      show xs.foldl insN (insN ks x) = _
      rw [insN_new hx, ih _ (by rw [List.append_assoc]; exact hn), List.append_assoc]
      rfl
  exact go xs [] h
theorem isR_ne {C CF x dx : Addr} {H : Hp} {o : HO} {v : V} {q : Rat} (hx : H x = some (.ins CF dx [])) (h : IsR C H v q) : IsR C (upd H x o) v q := by
  obtain ⟨p, d, e, hp⟩ := h
  refine ⟨p, d, e, ?_⟩
  rw [upd_ne (fun z => by rw [z, hx] at hp; cases hp)]
  exact hp
/-! ### Form.__init__ -/
/-- Form(shares): shares tells f, all its names are good -/
def spFormInit (CF CR : Addr) : Sp := fun vs H Q _ => ∃ (U : List Str) (x dx : Addr) (v : V) (ks : List Str) (f : Fn) (b : Nat), vs = [.ref x, v] ∧ H x = some (.ins CF dx []) ∧ ((v = .non ∧ ks = [] ∧ f = fun _ => 0) ∨ ∃ (d : Addr) (kvs : List (Key × V)), v = .ref d ∧ H d = some (.dK kvs) ∧ Tab (IsN CR) H kvs ks f) ∧
  UOk U ∧ (∀ n ∈ ks, n ∈ U) ∧ SzF b f ∧ b ≤ 8900 ∧
  ∀ (d' : Addr) (ks' : List Str) (H' : Hp), H d' = none → FmOk U ks' f → Kp x H H' → H' x = some (.ins CF dx [("shares", .ref d')]) → DD (IsR CR) H' d' ks' f → Q .non H'
theorem mk_formD {CF CR x dx : Addr} {H : Hp} {U : List Str} {d : Addr} {kvs : List (Key × V)} {ks : List Str} {f : Fn} {b : Nat} {R : VK} {E : XK} (hx : H x = none) (hd : H dx = none) (hv : H d = some (.dK kvs)) (t : Tab (IsN CR) H kvs ks f) (uok : UOk U) (hsub : ∀ n ∈ ks, n ∈ U) (hsz : SzF b f) (hb : b ≤ 8900)
    (hQ : ∀ H' d', Same H H' → H d' = none → IsFd CF CR U H' (.ref x) d' f → R .non H') : spFormInit CF CR [.ref x, .ref d] (upd (upd H dx (.own x)) x (.ins CF dx [])) R E := by
  have s0 : Same H (upd (upd H dx (.own x)) x (.ins CF dx [])) := same_make1 hx hd
  refine ⟨U, x, dx, .ref d, ks, f, b, rfl, upd_same, .inr ⟨d, kvs, rfl, s0 _ _ hv, t.mono okN (.same s0)⟩, uok, hsub, hsz, hb, fun d' ks' H' nd' ok kp hx' dd => hQ H' d' (fun c o e => ?_) (Same.none s0 nd') ⟨x, dx, ks', rfl, hx', dd, ok⟩⟩
  exact kp _ _ (s0 _ _ e) (ne_of_none e hx)
theorem mk_form {CF CR x dx : Addr} {H : Hp} {U : List Str} {d : Addr} {kvs : List (Key × V)} {ks : List Str} {f : Fn} {b : Nat} {R : VK} {E : XK} (hx : H x = none) (hd : H dx = none) (hv : H d = some (.dK kvs)) (t : Tab (IsN CR) H kvs ks f) (uok : UOk U) (hsub : ∀ n ∈ ks, n ∈ U) (hsz : SzF b f) (hb : b ≤ 8900)
    (hQ : ∀ H', Same H H' → IsF CF CR U H' (.ref x) f → R .non H') : spFormInit CF CR [.ref x, .ref d] (upd (upd H dx (.own x)) x (.ins CF dx [])) R E := mk_formD hx hd hv t uok hsub hsz hb fun H' d' s _ h => hQ H' s h.isF
section
variable {P : Program} {w : World} {K : PySem.W.Frag} {mg : Str → Option Value} {base : Heap} {A : Ad}
theorem ok_m_Form_init (T : Txt K mg A) : FnOk P w K mg base (L2.CX P w) 14 A.m_Form_init A.fd_m_Form_init P_m_Form_init (spFormInit A.Form A.Ratio) := by
  refine T.F_m_Form_init.ok sc_m_Form_init (fun vs H Q E h => ?_) (fun cdv Ar outer s H vs Q E hr h => ?_)
  · obtain ⟨U, x, dx, v, ks, f, b, rfl, _⟩ := h
    rfl
  · obtain ⟨U, x, dx, v, ks, f, b, rfl, hx, hv, uok, hsub, hsz, hb, k⟩ := h
    refine ⟨_, (pss_g (Evl.pss_cut (ps_set (i := 2) sc_m_Form_init.nd rfl (Or.inr rfl) (pe_ifExp (pt_cmpR op_isN (pv 1) pe_non (nomark _)) pe_dnewK (pv 1)))
      (pss_cons (ps_g (ps_for (passes_of rfl) rfl (pi_list (pe_callB (call_sortedD rfl) (by rfl) T.z_sorted (by decide +kernel) (pa_cons (pv 2) pa_nil))) (pg_name (i := 3) sc_m_Form_init.nd rfl (Or.inl rfl)) (pss_one (ps_if (pt_not (pt_val (pe_call (ok_f_valid_name T) (hr.mono (by decide)) (by rfl) T.g_valid_name T.F_f_valid_name.kp T.b_f_valid_name .nil pass0 (pa_cons (pv 3) pa_nil)))) (pss_one (ps_raise rfl (takes_of rfl rfl rfl rfl) (pmk_oex T.ox_BadName T.oi_BadName T.ot_BadName (ok_m_BadName_init T) (hr.mono (by decide)) T.b_m_BadName_init .nil pass0 (by rfl) T.g_BadName (pa_cons (pv 3) pa_nil)))) pss_nil))))
      (pss_cons (ps_set (i := 4) sc_m_Form_init.nd rfl (Or.inr rfl) (pe_g (pe_dcV (own := [("name", 3)]) rfl sc_m_Form_init.nd (pi_list (pe_callB (call_sortedD rfl) (by rfl) T.z_sorted (by decide +kernel) (pa_cons (pv 2) pa_nil))) (blkOk_by (own := [("name", 3)]) (N := N_m_Form_init) (sc := defScope s_m_Form_init) (by decide +kernel)) (fun _ _ _ _ _ => (pg_name (i := 3) sc_m_Form_init.nd rfl (Or.inl rfl))) (fun _ _ _ _ _ => pts_nil) (fun _ _ _ _ _ => (pv 3)) (fun _ _ _ _ _ => (pe_op (op_mix (op_own (E := E0) rfl (oo_add T) (ok_m_Ratio_add T) (hr.mono (by decide)) T.b_m_Ratio_add pass0) (op_rown (E := E0) rfl (oo_add T) PySem.F.fills_int_add PySem.F.slot_int_add PySem.F.entry_int_add PySem.F.args_int_add_2 rfl (ok_m_Ratio_radd T) (hr.mono (by decide)) T.b_m_Ratio_radd pass0)) (pe_dget (hu_of hr) (pv 2) (pv 3) (fun _ _ => rfl)) (pe_make T.mk_Ratio (ok_m_Ratio_init T) (hr.mono (by decide)) (by rfl) T.g_Ratio T.b_m_Ratio_init_d1 T.dv_m_Ratio_init passL (pa_cons pe_int pa_nil)))) (fun _ _ _ _ _ => rfl) (fun _ _ _ _ _ => rfl) (fun _ _ _ _ _ => rfl) (fun _ _ _ _ _ => rfl))))
      (pss_one (ps_fld (pv 0) (pe_g (pe_lock (pe_dcV (own := [("name", 3)]) rfl sc_m_Form_init.nd (pi_keys (pv 4)) (blkOk_by (own := [("name", 3)]) (N := N_m_Form_init) (sc := defScope s_m_Form_init) (by decide +kernel)) (fun _ _ _ _ _ => (pg_name (i := 3) sc_m_Form_init.nd rfl (Or.inl rfl))) (fun _ _ _ _ _ => (pts_one (pt_cmpR op_ne (pe_fld (pe_dget (hu_of hr) (pv 4) (pv 3) (fun _ _ => rfl)) rfl) pe_int (nomark _)))) (fun _ _ _ _ _ => (pv 3)) (fun _ _ _ _ _ => (pe_dget (hu_of hr) (pv 4) (pv 3) (fun _ _ => rfl))) (fun _ _ _ _ _ => rfl) (fun _ _ _ _ _ => rfl) (fun _ _ _ _ _ => rfl) (fun _ _ _ _ _ => rfl)))) rfl)))))), ?_⟩
    refine ⟨⟨fun σ' H' => Wd (∃ (d : Addr) (kvs : List (Key × V)), σ' = [some (.ref x), some v, some (.ref d), none, none] ∧ Same H H' ∧ H' d = some (.dK kvs) ∧ Tab (IsN A.Ratio) H' kvs ks f), ?_, ?_⟩⟩
    · rcases hv with ⟨rfl, rfl, rfl⟩ | ⟨d, kvs, rfl, hd, t⟩
      · refine ⟨_, rfl, rfl, _, rfl, iteT fun p hp => ?_⟩
        exact ⟨p, [], rfl, Same.new hp, upd_same, Tab.nil⟩
      · refine ⟨_, rfl, rfl, _, rfl, iteF ⟨_, rfl, ?_⟩⟩
        exact ⟨d, kvs, rfl, Same.refl _, hd, t⟩
    · rintro σ' H1 ⟨d, kvs, rfl, s1, hd, t⟩
      have hlen : ks.length < 60 := by
        have := t.nd.length_le_of_subset (l₂ := U) fun n hn => hsub n hn
        have := uok.len
        omega
      have hok : ∀ n ∈ ks, validZ n = true := fun n hn => uok.good n (hsub n hn)
      have hx1 := s1 _ _ hx
      refine ⟨⟨_, rfl, d, kvs, ks, rfl, .inl hd, t.keys, by omega, fun ys p hperm hsrt hp => ?_⟩⟩
      have sp := Same.new (o := .lst (ys.map V.str)) hp
      refine ⟨p, rfl, ⟨_, SqL.of upd_same⟩, for_list (xs := ys.map V.str) (fun i σ' H' => Wd (∃ (o3 : Option V), σ' = [some (.ref x), some v, some (.ref d), o3, none] ∧ Same (upd H1 p (.lst (ys.map V.str))) H')) ⟨none, rfl, Same.refl _⟩ ?_ ?_ ?_⟩
      · rintro i σ' H' _ ⟨o3, rfl, sx⟩
        exact SqL.of (sx _ _ upd_same)
      · rintro i y σ' H' hi ⟨o3, rfl, sx⟩
        obtain ⟨n, hn, rfl⟩ := names_at hi
        have hv := hok n (hperm.mem_iff.mp (List.mem_of_getElem? hn))
        refine ⟨_, rfl, n, rfl, validZ_len hv, fun H2 s2 => ⟨true, congrArg V.bl hv, iteF ?_⟩⟩
        exact ⟨_, rfl, sx.trans s2⟩
      · rintro σ' H2 ⟨o3, rfl, sx⟩
        have s12 := sp.trans sx
        clear sp sx hsrt hperm
        have hd2 := s12 _ _ hd
        have t2 := t.mono okN (.same s12)
        refine ⟨⟨_, rfl, d, kvs, ks, rfl, .inl hd2, t2.keys, by omega, fun ys p hperm hsrt hp => ?_⟩⟩
        have hnd : ys.Nodup := hperm.symm.nodup t.nd
        have hyl : ys.length = ks.length := hperm.length_eq
        have s23 := Same.new (o := .lst (ys.map V.str)) hp
        refine ⟨p, rfl, ⟨_, SqL.of upd_same⟩, fun D hD => dc_names (K := K) (R := IsR A.Ratio) f okR upd_same (by omega) hD ?_ ?_⟩
        · intro i n H3 N M hn s3 hN
          have hnk : n ∈ ks := hperm.mem_iff.mp (List.mem_of_getElem? hn)
          have s03 := s23.trans s3
          obtain ⟨o, hget, hy, _⟩ := DD.get (R := IsN A.Ratio) (H := H3) (d := d) ⟨kvs, .inl (s03 _ _ hd2), t2.mono okN (.same s03)⟩ n
          obtain ⟨w0, rfl, hw⟩ := hy hnk
          refine ⟨rfl, _, rfl, _, rfl, _, rfl, d, w0, rfl, hget, ?_⟩
          intro x1 dx1 hx1 hd1 _
          refine mk_ratio hx1 hd1 (lt_pow (a := 1) (by decide) (by decide)) (fun e => by cases e) (fun _ H4 s4 i4 => ⟨rfl, ?_⟩)
          have e0 : Rat.divInt 0 1 = (0 : Rat) := by decide +kernel
          rw [e0] at i4
          have z0 : Sz 1 (0 : Rat) := ⟨by decide, by decide⟩
          rcases hw with hw | ⟨m, rfl, em⟩
          · refine ⟨.inl (r_own (hw.same s4) (.inl i4) (hsz n) z0 (by omega) fun nv H5 s5 i5 => hN nv H5 (s4.trans s5) ?_)⟩
            rw [Rat.add_zero] at i5
            exact i5
          · refine ⟨.inr (r_rown i4 z0 (b := b) (by rw [← em]; exact hsz n) (by omega) fun nv H5 s5 i5 => hN nv H5 (s4.trans s5) ?_)⟩
            rw [em, ← Rat.zero_add ((m : Int) : Rat)]
            exact i5
        · intro kv4 H4 s4 hD4 t4
          rw [ddN_self hnd, onN_all (fun n hn => (t.no n fun z => hn (hperm.mem_iff.mpr z)).2)] at t4
          have s04 := s12.trans (s23.trans s4)
          have hD0 : H1 D = none := Same.none s12 (Same.none s23 hD)
          have hx4 := s04 _ _ hx1
          refine ⟨⟨D, .dK kv4, hD4, trivial, fun od => ⟨_, rfl, D, od, rfl, .inl ⟨kv4, upd_same, fun D2 hD2 => ?_⟩⟩⟩⟩
          have nD2 : D2 ≠ D := fun e => by rw [e, upd_same] at hD2; cases hD2
          have hD24 : H4 D2 = none := by rw [upd_ne nD2] at hD2; exact hD2
          have fL : Fx H4 (upd H4 D (.frz od (.dK kv4))) := fx_lock hD4
          have tL := t4.mono okR fL
          have hDL : (upd H4 D (.frz od (.dK kv4))) D = some (.frz od (.dK kv4)) := upd_same
          generalize hHL : upd H4 D (.frz od (.dK kv4)) = HL at *
          refine dc_it walk_keys (fun i H' => Wd (∃ kv5, Same HL H' ∧ H' D2 = some (.dK kv5) ∧ Tab (IsR A.Ratio) H' kv5 ((ys.take i).filter fun n => decide (f n ≠ 0)) (onN ((ys.take i).filter fun n => decide (f n ≠ 0)) f)))
            ⟨[], Same.new hD2, upd_same, by show Tab _ _ [] [] (onN [] f); rw [onN_nil]; exact Tab.nil⟩ (fun i H' _ h => ?_) ?_ ?_
          · obtain ⟨kv5, s5, _⟩ := h.ok
            exact s5 _ _ hDL
          · rintro i y H5 H6 hi ⟨kv5, s5, hD5, t5⟩ ⟨rfl, kk, vv, hkv, rfl⟩
            obtain ⟨n, rfl, hn⟩ := t4.key hkv
            obtain ⟨o, hget, hy, _⟩ := DD.get (R := IsR A.Ratio) (H := H6) (d := D) ⟨kv4, .inr ⟨od, s5 _ _ hDL⟩, tL.mono okR (.same s5)⟩ n
            obtain ⟨w0, rfl, hw⟩ := hy (List.mem_of_getElem? hn)
            obtain ⟨rp, rdx, rfl, hrp⟩ := id hw
            refine ⟨rfl, _, rfl, _, rfl, D, _, rfl, hget, rp, _, rdx, _, _, rfl, hrp, T.cl_Ratio, T.n_Ratio_top, rf_top _ _, rfl, _, rfl, if_intN (fun e => ?_) (fun e => ?_)⟩
            · have hf : f n ≠ 0 := fun z => e (by rw [z]; rfl)
              refine ⟨_, rfl, _, rfl, _, rfl, D, _, rfl, hget, kv5, .inr n, rfl, hD5, ?_, _, Same.at_new hD2 s5, upd_same, ?_⟩
              · rw [t5.len]
                exact Nat.lt_of_le_of_lt (Nat.le_trans (List.length_filter_le _ _) (by rw [List.length_take]; omega : _ ≤ 60)) (by decide)
              · have nin : n ∉ ((ys.take i).filter fun n => decide (f n ≠ 0)) := fun z => by
                  have z := (List.mem_filter.mp z).1
                  have hn2 := hnd
                  rw [← List.take_append_drop (i + 1) ys, take_more hn, List.append_assoc, List.nodup_append] at hn2
                  exact hn2.2.2 n z n (by simp) rfl
                have e2 : (ys.take (i + 1)).filter (fun n => decide (f n ≠ 0)) = insN ((ys.take i).filter fun n => decide (f n ≠ 0)) n := by
                  rw [take_more hn, List.filter_append, insN_new nin, List.filter_cons_of_pos (p := fun n => decide (f n ≠ 0)) (decide_eq_true hf)]
                  rfl
                rw [e2, ← on_step]
                exact t5.put okR ((Fx.refl _).dk hD5) (okR _ _ _ _ ((Fx.refl _).dk hD5) hw)
            · have hf : f n = 0 := Rat.num_eq_zero.mp e
              have e2 : (ys.take (i + 1)).filter (fun n => decide (f n ≠ 0)) = (ys.take i).filter fun n => decide (f n ≠ 0) := by
                rw [take_more hn, List.filter_append, List.filter_cons_of_neg (by rw [hf]; decide)]
                simp
              refine ⟨kv5, s5, hD5, ?_⟩
              rw [e2]
              exact t5
          · rintro H5 ⟨kv5, s5, hD5, t5⟩
            refine ⟨s5 _ _ hDL, ?_⟩
            have hl4 : kv4.length = ys.length := t4.len
            rw [hl4, List.take_length] at t5
            have hmem : ∀ n, n ∈ ys.filter (fun n => decide (f n ≠ 0)) ↔ f n ≠ 0 := fun n => by
              rw [List.mem_filter, decide_eq_true_eq]
              refine ⟨fun z => z.2, fun z => ⟨?_, z⟩⟩
              apply Classical.byContradiction
              intro hn
              exact z (t.no n fun y => hn (hperm.mem_iff.mpr y)).2
            rw [onN_all (fun n hn => Classical.byContradiction fun z => hn ((hmem n).mpr z))] at t5
            subst hHL
            have sB := same_back hD4 s5
            have hD6 : (upd H5 D (.dK kv4)) D2 = some (.dK kv5) := by rw [upd_ne nD2]; exact hD5
            have hx6 := sB _ _ hx4
            have t6 : Tab (IsR A.Ratio) (upd H5 D (.dK kv4)) kv5 (ys.filter fun n => decide (f n ≠ 0)) f := t5.mono okR ⟨fun b C dx fs h => ?_, fun b xs h => ?_⟩
            · refine ⟨_, rfl, x, _, dx, [], rfl, hx6, T.cl_Form, T.n_Form_shares, (by show 0 < 1000; decide), ?_⟩
              have s16 := s04.trans sB
              have nx : D2 ≠ x := fun z => by rw [z, hx4] at hD24; cases hD24
              refine k D2 (ys.filter fun n => decide (f n ≠ 0)) _ (Same.none s1 (Same.none s04 hD24)) ⟨Srt.filter ⟨sortedS_pw hsrt, hnd⟩ _, hmem, fun n hn => hsub n (hperm.mem_iff.mp (List.mem_filter.mp hn).1)⟩ (Kp.same (s1.trans s16)).up upd_same ?_
              refine ⟨kv5, .inl (by rw [upd_ne nx]; exact hD6), t6.map fun v q h => isR_ne hx6 h⟩
            · by_cases hb : b = D
              · subst hb
                rw [s5 _ _ hDL] at h
                cases h
              · rw [upd_ne hb]
                exact h
            · by_cases hb : b = D
              · subst hb
                rw [s5 _ _ hDL] at h
                cases h
              · rw [upd_ne hb]
                exact h
end

/-! ### Form.share, Form.names, the operators of forms -/
def spShare (CF CR : Addr) : Sp := fun vs H Q _ => ∃ (U : List Str) (v : V) (n : Str) (f : Fn), vs = [v, .str n] ∧ IsF CF CR U H v f ∧ ∀ v' H', Same H H' → IsR CR H' v' (f n) → Q v' H'
def spFNames (CF CR : Addr) : Sp := fun vs H Q _ => ∃ (U : List Str) (v : V) (f : Fn), vs = [v] ∧ IsF CF CR U H v f ∧ ∀ (ks : List Str) p, FmOk U ks f → H p = none → Q (.ref p) (upd H p (.lst (ks.map V.str)))
theorem kV_keys {kvs : List (Key × V)} {ks : List Str} (h : kvs.map (·.1) = ks.map Sum.inr) : (kvs.map fun kv => kV kv.1) = ks.map V.str := by
  have e : (kvs.map fun kv => kV kv.1) = (kvs.map (·.1)).map kV := by rw [List.map_map]; rfl
  rw [e, h, List.map_map]
  rfl
section
variable {P : Program} {w : World} {K : PySem.W.Frag} {mg : Str → Option Value} {base : Heap} {A : Ad}
theorem ok_m_Form_share (T : Txt K mg A) : FnOk P w K mg base CX0 6 A.m_Form_share A.fd_m_Form_share P_m_Form_share (spShare A.Form A.Ratio) := by
  refine T.F_m_Form_share.ok sc_m_Form_share (fun vs H Q E h => ?_) (fun cdv Ar outer s H vs Q E hr h => ?_)
  · obtain ⟨U, v, n, f, rfl, _⟩ := h
    rfl
  · obtain ⟨U, v, n, f, rfl, ⟨p, dx, d, ks, rfl, hp, hd, ok⟩, k⟩ := h
    refine ⟨_, (pss_one (ps_ret (pe_dget2 (hu_of hr) (pe_fld (pv 0) rfl) (pv 1) (pe_make T.mk_Ratio (ok_m_Ratio_init T) (hr.mono (by decide)) (by rfl) T.g_Ratio T.b_m_Ratio_init_d1 T.dv_m_Ratio_init passL (pa_cons pe_int pa_nil)) ⟨rfl, rfl, rfl, rfl⟩))), ?_⟩
    refine ⟨_, rfl, p, _, dx, _, _, rfl, hp, T.cl_Form, T.n_Form_shares, rfl, d, rfl, hd.isD, _, rfl, ?_⟩
    intro x1 dx1 hx1 hd1 _
    refine mk_ratio hx1 hd1 (lt_pow (a := 1) (by decide) (by decide)) (fun e => by cases e) (fun _ H4 s4 i4 => ⟨rfl, ?_⟩)
    have e0 : Rat.divInt 0 1 = (0 : Rat) := by decide +kernel
    rw [e0] at i4
    obtain ⟨o, hget, hy, hn⟩ := (hd.same okR s4).get n
    refine ⟨o, hget, ?_⟩
    by_cases h : n ∈ ks
    · obtain ⟨w0, rfl, hw⟩ := hy h
      exact k _ H4 s4 hw
    · obtain ⟨rfl, e⟩ := hn h
      refine k _ H4 s4 ?_
      rw [e]
      exact i4
theorem ok_m_Form_names (T : Txt K mg A) : FnOk P w K mg base CX0 1 A.m_Form_names A.fd_m_Form_names P_m_Form_names (spFNames A.Form A.Ratio) := by
  refine T.F_m_Form_names.ok sc_m_Form_names (fun vs H Q E h => ?_) (fun cdv Ar outer s H vs Q E hr h => ?_)
  · obtain ⟨U, v, f, rfl, _⟩ := h
    rfl
  · obtain ⟨U, v, f, rfl, ⟨p, dx, d, ks, rfl, hp, ⟨kvs, hd, t⟩, ok⟩, k⟩ := h
    refine ⟨_, (pss_one (ps_ret (pe_callTy (call_listD rfl) (by rfl) T.z_list (by decide +kernel) (pa_cons (pe_fld (pv 0) rfl) pa_nil)))), ?_⟩
    refine ⟨_, rfl, p, _, dx, _, _, rfl, hp, T.cl_Form, T.n_Form_shares, rfl, d, kvs, rfl, hd, fun q hq => ?_⟩
    rw [kV_keys t.keys]
    exact k ks q ok hq
end

/-! ### what the laws of forms draw -/
def spTopD : Sp := fun vs H Q _ => ∃ (g l : Addr), vs = [.ref g] ∧ Bag H g l ∧ ∀ (t : Int) (H' : Hp), t.natAbs < 2 ^ 67 → Bag H' g l → Kp g H H' → Q (.int t) H'
def spShareD : Sp := fun vs H Q _ => ∃ (g l : Addr), vs = [.ref g] ∧ Bag H g l ∧ ∀ (v : V) (q : Rat) (H' : Hp), Sz 67 q → IsP H' v q → Bag H' g l → Kp g H H' → Q v H'
/-- a dict of drawn shares -/
def spSharesD : Sp := fun vs H Q _ => ∃ (g l q : Addr) (ns : List Str), vs = [.ref g, .ref q] ∧ Bag H g l ∧ q ≠ g ∧ H q = some (.lst (ns.map V.str)) ∧ ns.Nodup ∧ ns.length ≤ 60 ∧
  ∀ (d : Addr) (kvs : List (Key × V)) (ks : List Str) (f : Fn) (H' : Hp), H d = none → H' d = some (.dK kvs) → Tab IsP H' kvs ks f → SzF 67 f → (∀ n ∈ ks, n ∈ ns) → Bag H' g l → Kp g H H' → Q (.ref d) H'
/-- the same as numbers, ratios or integers -/
def spHandedD (CR : Addr) : Sp := fun vs H Q _ => ∃ (g l d : Addr) (kvs : List (Key × V)) (ks : List Str) (f : Fn) (z : Nat), vs = [.ref g, .ref d] ∧ Bag H g l ∧ H d = some (.dK kvs) ∧ Tab IsP H kvs ks f ∧ SzF z f ∧ z ≤ 4000 ∧ ks.length ≤ 60 ∧
  ∀ (d' : Addr) (kvs' : List (Key × V)) (H' : Hp), H d' = none → H' d' = some (.dK kvs') → Tab (IsN CR) H' kvs' ks f → Bag H' g l → Kp g H H' → Q (.ref d') H'
theorem isP_kp {g l : Addr} {H H' : Hp} {v : V} {q : Rat} (h : IsP H v q) (B : Bag H g l) (k : Kp g H H') : IsP H' v q := okP _ _ _ _ (.bag k B) h
theorem szF_zero : SzF 67 (fun _ => 0) := fun _ => ⟨by show 0 < 2 ^ 67; decide, by show 1 < 2 ^ 67; decide⟩
theorem szF_at {b : Nat} {f : Fn} {n : Str} {q : Rat} (h : SzF b f) (hq : Sz b q) : SzF b (atN n q f) := fun m => by
  unfold atN
  split
  · exact hq
  · exact h m

section
variable {P : Program} {w : World} {K : PySem.W.Frag} {mg : Str → Option Value} {base : Heap} {A : Ad}
theorem ok_l_top (T : Txt K mg A) : FnOk P w K mg base CX0 2 A.l_top A.fd_l_top P_l_top spTopD := by
  refine T.F_l_top.ok sc_l_top (fun vs H Q E h => ?_) (fun cdv Ar outer s H vs Q E hr h => ?_)
  · obtain ⟨g, l, rfl, _⟩ := h
    rfl
  · obtain ⟨g, l, rfl, B, k⟩ := h
    refine ⟨_, (pss_cons (ps_set (i := 1) sc_l_top.nd rfl (Or.inl rfl) (pe_ix ix_list (pe_lst (pa_cons pe_int (pa_cons pe_int (pa_cons pe_int (pa_cons (pe_op op_pow pe_int pe_int) pa_nil))))) (pe_call (ok_l_draw T) (hr.mono (by decide)) (by rfl) T.g__law_draw T.F_l_draw.kp T.b_l_draw .nil pass0 (pa_cons (pv 0) (pa_cons pe_int pa_nil))) (fun _ _ => rfl)))
      (pss_one (ps_ret (pe_op op_sub (pe_call (ok_l_draw T) (hr.mono (by decide)) (by rfl) T.g__law_draw T.F_l_draw.kp T.b_l_draw .nil pass0 (pa_cons (pv 0) (pa_cons (pe_op op_add (pe_op op_mul pe_int (pv 1)) pe_int) pa_nil))) (pv 1))))), ?_⟩
    walk_at "go"
    intro p hp
    have B1 := B.new (o := .lst [V.int 3, V.int 12, V.int 1000, V.int (10 ^ (20 : Int).toNat)]) hp
    refine ⟨_, rfl, g, l, 4, rfl, B1, by decide, by decide, fun c H1 c0 c1 B2 K1 => ?_⟩
    have K01 : Kp g H H1 := ((Kp.refl g H).new (o := .lst _) hp).trans K1
    have hp1 := K1 _ _ upd_same (B.ne hp).1
    obtain ⟨z, hz, z0, z1⟩ : ∃ z : Int, atI [V.int 3, V.int 12, V.int 1000, V.int (10 ^ (20 : Int).toNat)] c = some (.int z) ∧ 0 < z ∧ z ≤ 100000000000000000000 := by
      have : c = 0 ∨ c = 1 ∨ c = 2 ∨ c = 3 := by omega
      rcases this with rfl | rfl | rfl | rfl
      · exact ⟨3, rfl, by decide, by decide⟩
      · exact ⟨12, rfl, by decide, by decide⟩
      · exact ⟨1000, rfl, by decide, by decide⟩
      · exact ⟨10 ^ (20 : Int).toNat, rfl, by decide, by decide⟩
    refine ⟨p, _, c, _, rfl, rfl, SqL.of hp1, hz, ?_⟩
    have e69 : (2 : Nat) ^ 69 = 590295810358705651712 := by decide
    have hz9 : (2 * z + 1).natAbs < 2 ^ 9000 := lt_pow (a := 69) (by omega) (by decide)
    refine ⟨_, rfl, _, rfl, _, _, rfl, rfl, cmul_l (by decide), _, _, rfl, rfl, g, l, 2 * z + 1, rfl, B2, by omega, hz9, fun n H2 n0 n1 B3 K3 => ?_⟩
    refine ⟨_, rfl, _, _, rfl, rfl, k _ H2 ?_ B3 (K01.trans K3)⟩
    have : (2 : Nat) ^ 67 = 147573952589676412928 := by decide
    show (n - z).natAbs < _
    omega
theorem ok_l_share (T : Txt K mg A) : FnOk P w K mg base CX0 3 A.l_share A.fd_l_share P_l_share spShareD := by
  refine T.F_l_share.ok sc_l_share (fun vs H Q E h => ?_) (fun cdv Ar outer s H vs Q E hr h => ?_)
  · obtain ⟨g, l, rfl, _⟩ := h
    rfl
  · obtain ⟨g, l, rfl, B, k⟩ := h
    refine ⟨_, (pss_cons (ps_if (pt_cmpR op_eq (pe_call (ok_l_draw T) (hr.mono (by decide)) (by rfl) T.g__law_draw T.F_l_draw.kp T.b_l_draw .nil pass0 (pa_cons (pv 0) (pa_cons pe_int pa_nil))) pe_int (nomark _)) (pss_one (ps_ret (pe_tup (pa_cons pe_int (pa_cons pe_int pa_nil))))) pss_nil)
      (pss_one (ps_ret (pe_call (ok_l_lowest T) (hr.mono (by decide)) (by rfl) T.g__law_lowest T.F_l_lowest.kp T.b_l_lowest .nil pass0 (pa_cons (pe_call (ok_l_top T) (hr.mono (by decide)) (by rfl) T.g__law_top T.F_l_top.kp T.b_l_top .nil pass0 (pa_cons (pv 0) pa_nil)) (pa_cons (pe_op op_add pe_int (pe_call (ok_l_draw T) (hr.mono (by decide)) (by rfl) T.g__law_draw T.F_l_draw.kp T.b_l_draw .nil pass0 (pa_cons (pv 0) (pa_cons (pe_ix ix_list (pe_lst (pa_cons pe_int (pa_cons pe_int (pa_cons pe_int (pa_cons pe_int pa_nil))))) (pe_call (ok_l_draw T) (hr.mono (by decide)) (by rfl) T.g__law_draw T.F_l_draw.kp T.b_l_draw .nil pass0 (pa_cons (pv 0) (pa_cons pe_int pa_nil))) (fun _ _ => rfl)) pa_nil)))) pa_nil)))))), ?_⟩
    walk_at "go"
    intro c H1 c0 c1 B1 K1
    refine ⟨rfl, _, rfl, if_int (fun e => ?_) (fun e => ?_)⟩
    · refine ⟨(by show 2 ≤ sizeLine; decide), fun p hp => ?_⟩
      exact k (.ref p) 0 _ ⟨by decide, by decide⟩ ⟨p, rfl, upd_same⟩ (B1.new hp) (K1.new hp)
    · refine ⟨_, rfl, g, l, rfl, B1, fun t H2 ht B2 K2 => ?_⟩
      walk_at "go"
      intro p hp
      have B3 := B2.new (o := .lst [V.int 1, V.int 6, V.int 12, V.int 1000]) hp
      refine ⟨_, rfl, g, l, 4, rfl, B3, by decide, by decide, fun c2 H4 d0 d1 B4 K4 => ?_⟩
      have hp4 := K4 _ _ upd_same (B2.ne hp).1
      have e20 : (2 : Nat) ^ 20 = 1048576 := by decide
      obtain ⟨z, hz, z0, z1⟩ : ∃ z : Int, atI [V.int 1, V.int 6, V.int 12, V.int 1000] c2 = some (.int z) ∧ 0 < z ∧ z ≤ 1000 := by
        have : c2 = 0 ∨ c2 = 1 ∨ c2 = 2 ∨ c2 = 3 := by omega
        rcases this with rfl | rfl | rfl | rfl
        · exact ⟨1, rfl, by decide, by decide⟩
        · exact ⟨6, rfl, by decide, by decide⟩
        · exact ⟨12, rfl, by decide, by decide⟩
        · exact ⟨1000, rfl, by decide, by decide⟩
      refine ⟨p, _, c2, _, rfl, rfl, SqL.of hp4, hz, g, l, z, rfl, B4, z0, lt_pow (a := 20) (by omega) (by decide), fun b H5 b0 b1 B5 K5 => ?_⟩
      have hb : (1 + b).natAbs < 2 ^ 20 := by omega
      refine ⟨_, _, rfl, rfl, t, 1 + b, rfl, by omega, lt_pow hb (by decide), fun r hr' => ?_⟩
      refine k (.ref r) (Rat.divInt t (1 + b)) _ (Sz.div ht (Nat.lt_of_lt_of_le hb (Nat.pow_le_pow_right (by decide) (by decide))) (by omega)) ⟨r, rfl, upd_same⟩ (B5.new hr') ?_
      exact (((K1.trans K2).new (o := .lst _) hp).trans (K4.trans K5)).new hr'
theorem take_nin {ys : List Str} {n : Str} {i : Nat} (hnd : ys.Nodup) (hn : ys[i]? = some n) : n ∉ ys.take i := fun z => by
  have hn2 := hnd
  rw [← List.take_append_drop (i + 1) ys, take_more hn, List.append_assoc, List.nodup_append] at hn2
  exact hn2.2.2 n z n (by simp) rfl
theorem ok_l_shares (T : Txt K mg A) : FnOk P w K mg base CX0 4 A.l_shares A.fd_l_shares P_l_shares spSharesD := by
  refine T.F_l_shares.ok sc_l_shares (fun vs H Q E h => ?_) (fun cdv Ar outer s H vs Q E hr h => ?_)
  · obtain ⟨g, l, q, ns, rfl, _⟩ := h
    rfl
  · obtain ⟨g, l, q, ns, rfl, B, nq, hq, hnd, hlen, k⟩ := h
    refine ⟨_, (pss_cons (ps_set (i := 2) sc_l_shares.nd rfl (Or.inl rfl) pe_dnewK)
      (pss_cons (ps_g (ps_for PassesOwn.never rfl (pi_list (pv 1)) (pg_name (i := 3) sc_l_shares.nd rfl (Or.inl rfl)) (pss_one (ps_if (pt_cmpR op_gt (pe_call (ok_l_draw T) (hr.mono (by decide)) (by rfl) T.g__law_draw T.F_l_draw.kp T.b_l_draw .nil pass0 (pa_cons (pv 0) (pa_cons pe_int pa_nil))) pe_int (nomark _)) (pss_one (ps_dput (hu_of hr) (pv 2) (pv 3) (pe_call (ok_l_share T) (hr.mono (by decide)) (by rfl) T.g__law_share T.F_l_share.kp T.b_l_share .nil pass0 (pa_cons (pv 0) pa_nil)) rfl)) pss_nil))))
      (pss_one (ps_ret (pv 2))))), ?_⟩
    refine fun D hD => ?_
    have nD := B.ne hD
    have nqD : q ≠ D := ne_of_none hq hD
    refine ⟨⟨_, rfl, q, rfl, ⟨_, SqL.of (by rw [upd_ne nqD]; exact hq)⟩, for_list (xs := ns.map V.str) (fun i σ' H' => Wd (∃ (kvs : List (Key × V)) (ks : List Str) (f : Fn) (o3 : Option V), σ' = [some (.ref g), some (.ref q), some (.ref D), o3] ∧ H' D = some (.dK kvs) ∧ Tab IsP H' kvs ks f ∧ SzF 67 f ∧ (∀ n ∈ ks, n ∈ ns) ∧ ks.length ≤ i ∧ Bag H' g l ∧ Kp g H H'))
      ⟨[], [], fun _ => 0, none, rfl, upd_same, Tab.nil, szF_zero, (fun n hn => nomatch hn), Nat.le_refl _, B.new hD, (Kp.refl g H).new hD⟩ ?_ ?_ ?_⟩⟩
    · rintro i σ' H' _ ⟨kvs, ks, f, o3, rfl, _, _, _, _, _, _, K'⟩
      exact SqL.of (K' _ _ hq nq)
    · rintro i y σ' H' hi ⟨kvs, ks, f, o3, rfl, hDk, t, sf, hsub, hl, B', K'⟩
      obtain ⟨n, hn, rfl⟩ := names_at hi
      have hil := (List.getElem?_eq_some_iff.mp hn).1
      refine ⟨_, rfl, g, l, 4, rfl, B', by decide, by decide, fun c H1 c0 c1 B1 K1 => ?_⟩
      have hD1 := K1 _ _ hDk nD.1
      have t1 := t.mono okP (.bag K1 B')
      refine ⟨_, _, rfl, rfl, _, rfl, if_dec (fun e => ?_) (fun e => ?_)⟩
      · refine ⟨_, rfl, g, l, rfl, B1, fun v r H2 sr iv B2 K2 => ?_⟩
        have hD2 := K2 _ _ hD1 nD.1
        have kl : kvs.length < sizeLine := by
          rw [t.len]
          exact Nat.lt_of_le_of_lt (by omega : _ ≤ 60) (by decide)
        refine ⟨_, rfl, _, rfl, D, _, rfl, DPut.k (k := .inr n) hD2 kl, ?_⟩
        refine ⟨_, insN ks n, atN n r f, _, rfl, upd_same, t1.put okP ((Fx.bag K2 B1).dk hD1) (okP _ _ _ _ ((Fx.refl H2).dk hD2) iv), szF_at sf sr, fun m hm => ?_, ?_, B2.put nD, ((K'.trans K1).trans K2).put hD⟩
        · rcases mem_insN.mp hm with z | rfl
          · exact hsub m z
          · exact List.mem_of_getElem? hn
        · have := insN_len (ks := ks) (n := n)
          omega
      · exact ⟨kvs, ks, f, _, rfl, hD1, t1, sf, hsub, by omega, B1, K'.trans K1⟩
    · rintro σ' H' ⟨kvs, ks, f, o3, rfl, hDk, t, sf, hsub, hl, B', K'⟩
      exact ⟨_, rfl, k D kvs ks f H' hD hDk t sf hsub B' K'⟩
end

theorem insN_idem {ks : List Str} {n : Str} : insN (insN ks n) n = insN ks n := if_pos (mem_insN.mpr (.inr rfl))
theorem atN_idem {n : Str} {q : Rat} {f : Fn} : atN n q (atN n q f) = atN n q f := by
  funext m
  unfold atN
  split
  · rfl
  · rfl
theorem rat_whole {q : Rat} (h : (q.den : Int) = 1) : q = ((q.num : Int) : Rat) := by
  have h : q.den = 1 := by omega
  exact Rat.ext rfl h
theorem kp_lock {g d D : Addr} {H : Hp} {kvs : List (Key × V)} {o o' : HO} (hd : H d = some (.dK kvs)) (hD : H D = none) : Kp g (upd H d o) (upd (upd H D o') d o) := fun b x e _ => by
  by_cases hb : b = d
  · subst hb
    rw [upd_same] at e ⊢
    exact e
  · rw [upd_ne hb] at e ⊢
    rw [upd_ne (ne_of_none e hD)]
    exact e
section
variable {P : Program} {w : World} {K : PySem.W.Frag} {mg : Str → Option Value} {base : Heap} {A : Ad}
theorem ok_l_handed (T : Txt K mg A) : FnOk P w K mg base CX0 6 A.l_handed A.fd_l_handed P_l_handed (spHandedD A.Ratio) := by
  refine T.F_l_handed.ok sc_l_handed (fun vs H Q E h => ?_) (fun cdv Ar outer s H vs Q E hr h => ?_)
  · obtain ⟨g, l, d, kvs, ks, f, z, rfl, _⟩ := h
    rfl
  · obtain ⟨g, l, d, kvs, ks, f, zz, rfl, B, hd, t, sf, hzz, hlen, k⟩ := h
    refine ⟨_, (pss_cons (ps_set (i := 2) sc_l_handed.nd rfl (Or.inl rfl) pe_dnewK)
      (pss_cons (ps_g (ps_lock (ps_for PassesOwn.never rfl (pi_keys (pv 1)) (pg_name (i := 3) sc_l_handed.nd rfl (Or.inl rfl)) (pss_cons (ps_asg (pe_dget (hu_of hr) (pv 1) (pv 3) (fun _ _ => rfl)) (pg_tup (n := 2) rfl (pgs_cons (pg_name (i := 4) sc_l_handed.nd rfl (Or.inl rfl)) (pgs_cons (pg_name (i := 5) sc_l_handed.nd rfl (Or.inl rfl)) pgs_nil))))
      (pss_cons (ps_dput (hu_of hr) (pv 2) (pv 3) (pe_make T.mk_Ratio (ok_m_Ratio_init T) (hr.mono (by decide)) (by rfl) T.g_Ratio T.b_m_Ratio_init .nil passL (pa_cons (pv 4) (pa_cons (pv 5) pa_nil))) rfl)
      (pss_one (ps_if (PW.pt (pw_and (pt_cmpR op_eq (pv 5) pe_int (nomark _)) (pw_and1 (pt_cmpR op_eq (pe_call (ok_l_draw T) (hr.mono (by decide)) (by rfl) T.g__law_draw T.F_l_draw.kp T.b_l_draw .nil pass0 (pa_cons (pv 0) (pa_cons pe_int pa_nil))) pe_int (nomark _))))) (pss_one (ps_dput (hu_of hr) (pv 2) (pv 3) (pv 4) rfl)) pss_nil)))))))
      (pss_one (ps_ret (pv 2))))), ?_⟩
    refine fun D hD => ?_
    have nD := B.ne hD
    have ndD : d ≠ D := ne_of_none hd hD
    have hgd : d ≠ g := fun z => by
      obtain ⟨xs, hg⟩ := B.lst
      rw [← z, hd] at hg
      cases hg
    have hld : d ≠ l := fun z => by
      obtain ⟨i, r, sd, c, ns, hg, hl, _⟩ := B.ex
      rw [← z, hd] at hl
      cases hl
    refine ⟨⟨d, .dK kvs, by rw [upd_ne ndD]; exact hd, trivial, fun od => ⟨_, rfl, d, od, rfl, .inl ⟨kvs, upd_same, ?_⟩⟩⟩⟩
    have hDL : (upd H d (.frz od (.dK kvs))) D = none := by rw [upd_ne ndD.symm]; exact hD
    have KL := kp_lock (g := g) (o := .frz od (.dK kvs)) (o' := .dK []) hd hD
    have tL : Tab IsP (upd H d (.frz od (.dK kvs))) kvs ks f := t.mono okP (fx_lock hd)
    have hdL : (upd H d (.frz od (.dK kvs))) d = some (.frz od (.dK kvs)) := upd_same
    have BL : Bag (upd H d (.frz od (.dK kvs))) g l := B.put ⟨hgd, hld⟩
    have hLD : (upd (upd H D (.dK [])) d (.frz od (.dK kvs))) D = some (.dK []) := by rw [upd_ne ndD.symm]; exact upd_same
    have B0 : Bag (upd (upd H D (.dK [])) d (.frz od (.dK kvs))) g l := (B.new hD).put ⟨hgd, hld⟩
    generalize hHL : upd H d (.frz od (.dK kvs)) = HL at *
    refine for_it walk_keys (fun i σ' H' => Wd (∃ (kv2 : List (Key × V)) (o3 o4 o5 : Option V), σ' = [some (.ref g), some (.ref d), some (.ref D), o3, o4, o5] ∧ H' D = some (.dK kv2) ∧ Tab (IsN A.Ratio) H' kv2 (ddN (ks.take i)) (onN (ddN (ks.take i)) f) ∧ Bag H' g l ∧ Kp g HL H'))
      ⟨[], none, none, none, rfl, hLD, by rw [List.take_zero]; show Tab _ _ [] [] (onN [] f); rw [onN_nil]; exact Tab.nil, B0, KL⟩ (fun i σ' H' _ h => ?_) ?_ ?_
    · obtain ⟨kv2, o3, o4, o5, rfl, _, _, _, K'⟩ := h.ok
      exact K' _ _ hdL hgd
    · rintro i y σ' H1 H2 hi ⟨kv2, o3, o4, o5, rfl, hD1, t1, B1, K1⟩ ⟨rfl, kk, vv, hkv, rfl⟩
      obtain ⟨n, rfl, hn⟩ := t.key hkv
      have fx : Fx HL H2 := Fx.bag K1 BL
      obtain ⟨o, hget, hy, _⟩ := DD.get (R := IsP) (H := H2) (d := d) ⟨kvs, .inr ⟨od, K1 _ _ hdL hgd⟩, tL.mono okP fx⟩ n
      obtain ⟨w0, rfl, hw⟩ := hy (List.mem_of_getElem? hn)
      obtain ⟨tp, rfl, htp⟩ := hw
      refine ⟨_, rfl, _, rfl, d, _, rfl, hget, tp, _, rfl, SqT.of htp, rfl, _, _, rfl, _, _, rfl, rfl, ?_⟩
      refine ⟨_, rfl, _, rfl, ?_⟩
      intro x1 dx1 hx1 hd1 _
      have hden : ((f n).den : Int) ≠ 0 := by have := (f n).den_nz; omega
      refine mk_ratio hx1 hd1 (lt_pow (sf n).2 (by omega)) (fun e => absurd e hden) (fun _ H4 s4 i4 => ⟨rfl, ?_⟩)
      rw [Rat.num_divInt_den] at i4
      have hD4 := s4 _ _ hD1
      have kl : kv2.length < sizeLine := by
        rw [t1.len]
        exact Nat.lt_of_le_of_lt (Nat.le_trans ddN_len (by rw [List.length_take]; omega : _ ≤ 60)) (by decide)
      refine ⟨_, rfl, _, rfl, D, _, rfl, DPut.k (k := .inr n) hD4 kl, ?_⟩
      have t5 : Tab (IsN A.Ratio) (upd H4 D (.dK (putK kv2 (.inr n) (.ref x1)))) (putK kv2 (.inr n) (.ref x1)) (insN (ddN (ks.take i)) n) (atN n (f n) (onN (ddN (ks.take i)) f)) := t1.put okN ((Fx.same s4).dk hD1) (okN _ _ _ _ ((Fx.refl H4).dk hD4) (.inl i4))
      have B5 : Bag (upd H4 D (.dK (putK kv2 (.inr n) (.ref x1)))) g l := (B1.keep s4).put nD
      have K5 : Kp g HL (upd H4 D (.dK (putK kv2 (.inr n) (.ref x1)))) := (K1.trans (Kp.same s4)).put hDL
      have hD5 : (upd H4 D (.dK (putK kv2 (.inr n) (.ref x1)))) D = some (.dK (putK kv2 (.inr n) (.ref x1))) := upd_same
      generalize upd H4 D (.dK (putK kv2 (.inr n) (.ref x1))) = H5 at *
      have e1 : ddN (ks.take (i + 1)) = insN (ddN (ks.take i)) n := by rw [take_more hn, ddN_more]
      have fin : ∀ (H6 : Hp) (kv6 : List (Key × V)) (o5 : Option V), H6 D = some (.dK kv6) → Tab (IsN A.Ratio) H6 kv6 (insN (ddN (ks.take i)) n) (atN n (f n) (onN (ddN (ks.take i)) f)) → Bag H6 g l → Kp g HL H6 → Wd (∃ (kv2 : List (Key × V)) (o3 o4 o5 : Option V), [some (.ref g), some (.ref d), some (.ref D), some (kV (.inr n)), some (.int (f n).num), some (.int ((f n).den : Int))] = [some (.ref g), some (.ref d), some (.ref D), o3, o4, o5] ∧ H6 D = some (.dK kv2) ∧ Tab (IsN A.Ratio) H6 kv2 (ddN (ks.take (i + 1))) (onN (ddN (ks.take (i + 1))) f) ∧ Bag H6 g l ∧ Kp g HL H6) := fun H6 kv6 _ h1 h2 h3 h4 => by
        rw [e1, ← on_step]
        exact ⟨kv6, _, _, _, rfl, h1, h2, h3, h4⟩
      refine ⟨_, rfl, rfl, _, rfl, if_int (fun e => ?_) (fun e => ?_)⟩
      · refine ⟨_, rfl, g, l, 2, rfl, B5, by decide, by decide, fun c H6 c0 c1 B6 K6 => ?_⟩
        have hD6 := K6 _ _ hD5 nD.1
        have t6 := t5.mono okN (.bag K6 B5)
        refine ⟨rfl, _, rfl, if_int (fun e2 => ?_) (fun e2 => ?_)⟩
        · have kl6 : (putK kv2 (.inr n) (.ref x1)).length < sizeLine := by
            rw [t5.len]
            have := insN_len (ks := ddN (ks.take i)) (n := n)
            have h2 := ddN_len (xs := ks.take i)
            rw [List.length_take] at h2
            exact Nat.lt_of_le_of_lt (by omega : _ ≤ 61) (by decide)
          refine ⟨_, rfl, _, rfl, _, rfl, D, _, rfl, DPut.k (k := .inr n) hD6 kl6, ?_⟩
          have t7 := t6.put (H' := upd H6 D (.dK (putK (putK kv2 (.inr n) (.ref x1)) (.inr n) (.int (f n).num)))) (n := n) (v := .int (f n).num) (q := f n) okN ((Fx.refl H6).dk hD6) (.inr ⟨_, rfl, rat_whole e⟩)
          rw [insN_idem, atN_idem] at t7
          exact fin _ _ none upd_same t7 (B6.put nD) ((K5.trans K6).put hDL)
        · exact fin H6 _ none hD6 t6 B6 (K5.trans K6)
      · exact fin H5 _ none hD5 t5 B5 K5
    · rintro σ' H1 ⟨kv2, o3, o4, o5, rfl, hD1, t1, B1, K1⟩
      refine ⟨K1 _ _ hdL hgd, _, rfl, ?_⟩
      rw [t.len, List.take_length, ddN_self t.nd, onN_all (fun n hn => (t.no n hn).2)] at t1
      subst hHL
      have hd1 := K1 _ _ hdL hgd
      refine k D kv2 _ hD (by rw [upd_ne ndD.symm]; exact hD1) (t1.mono okN ?_) (B1.put ⟨hgd, hld⟩) (kp_back hd K1)
      exact (Fx.refl H1).put hd1 (fun _ _ _ z => by cases z) (fun _ z => by cases z)
end

theorem get_pair {H : Hp} {d p : Addr} {ks : List Str} {f : Fn} (h : DD IsP H d ks f) (hp : H p = none) (n : Str) : ∃ o tq, DGet (upd H p (.tup [.int 0, .int 1])) d (.str n) o ∧ o.getD (.ref p) = .ref tq ∧ (upd H p (.tup [.int 0, .int 1])) tq = some (.tup [.int (f n).num, .int ((f n).den : Int)]) := by
  obtain ⟨o, hget, hy, hno⟩ := (h.same okP (Same.new (o := .tup [.int 0, .int 1]) hp)).get n
  by_cases hn : n ∈ ks
  · obtain ⟨w0, rfl, tp, rfl, htp⟩ := hy hn
    exact ⟨_, tp, hget, rfl, htp⟩
  · obtain ⟨rfl, e⟩ := hno hn
    refine ⟨_, p, hget, rfl, ?_⟩
    rw [e]
    exact upd_same
def sgnF (sg : Int) (f g : Fn) : Fn := fun n => if sg = 1 then f n + g n else f n - g n
theorem sgn_eq {sg : Int} (h : sg = 1 ∨ sg = -1) {f g : Fn} {n : Str} : Rat.divInt ((f n).num * ((g n).den : Int) + sg * (g n).num * ((f n).den : Int)) (((f n).den : Int) * ((g n).den : Int)) = sgnF sg f g n := by
  unfold sgnF
  rcases h with rfl | rfl
  · rw [if_pos rfl, Int.one_mul]
    exact add_eq
  · rw [if_neg (by decide), Int.neg_mul, Int.one_mul, Int.neg_mul, ← Int.sub_eq_add_neg]
    exact sub_eq
theorem sgn_zero {sg : Int} {f g : Fn} {n : Str} (h1 : f n = 0) (h2 : g n = 0) : sgnF sg f g n = 0 := by
  unfold sgnF
  rw [h1, h2]
  split <;> decide +kernel
theorem sgn_sz {sg : Int} {f g : Fn} {a b : Nat} (h1 : SzF a f) (h2 : SzF b g) : SzF (a + b + 1) (sgnF sg f g) := fun n => by
  unfold sgnF
  split
  · exact (h1 n).add (h2 n)
  · exact (h1 n).sub (h2 n)
/-- a pair of integers, in whatever terms -/
def IsQ (b : Nat) : NR := fun H v q => ∃ p t u, v = .ref p ∧ H p = some (.tup [.int t, .int u]) ∧ u ≠ 0 ∧ t.natAbs < 2 ^ b ∧ u.natAbs < 2 ^ b ∧ q = Rat.divInt t u
theorem okQ {b : Nat} : NR.Ok (IsQ b) := fun H H' v q f ⟨p, t, u, e, h, r⟩ => ⟨p, t, u, e, f.tup _ _ h, r⟩
theorem get_pairQ {b : Nat} {H : Hp} {d p : Addr} {ks : List Str} {f : Fn} (hb : 1 ≤ b) (h : DD (IsQ b) H d ks f) (hp : H p = none) (n : Str) : ∃ o tq t u, DGet (upd H p (.tup [.int 0, .int 1])) d (.str n) o ∧ o.getD (.ref p) = .ref tq ∧ (upd H p (.tup [.int 0, .int 1])) tq = some (.tup [.int t, .int u]) ∧ u ≠ 0 ∧ t.natAbs < 2 ^ b ∧ u.natAbs < 2 ^ b ∧ f n = Rat.divInt t u := by
  obtain ⟨o, hget, hy, hno⟩ := (h.same okQ (Same.new (o := .tup [.int 0, .int 1]) hp)).get n
  by_cases hn : n ∈ ks
  · obtain ⟨w0, rfl, tp, t, u, rfl, htp, r⟩ := hy hn
    exact ⟨_, tp, t, u, hget, rfl, htp, r⟩
  · obtain ⟨rfl, e⟩ := hno hn
    refine ⟨_, p, 0, 1, hget, rfl, upd_same, by decide, Nat.two_pow_pos b, Nat.lt_of_lt_of_le (by decide : (1 : Int).natAbs < 2 ^ 1) (pow_mono hb), ?_⟩
    rw [e]
    decide +kernel
theorem sgn_eqQ {sg : Int} (h : sg = 1 ∨ sg = -1) {f g : Fn} {n : Str} {t u : Int} (hu : u ≠ 0) (e : g n = Rat.divInt t u) : Rat.divInt ((f n).num * u + sg * t * ((f n).den : Int)) (((f n).den : Int) * u) = sgnF sg f g n := by
  have hd : ((f n).den : Int) ≠ 0 := by have := (f n).den_nz; omega
  unfold sgnF
  rw [e]
  rcases h with rfl | rfl
  · rw [if_pos rfl, Int.one_mul, ← Rat.divInt_add_divInt _ _ hd hu, Rat.num_divInt_den]
  · rw [if_neg (by decide), Int.neg_mul, Int.one_mul, Int.neg_mul, ← Int.sub_eq_add_neg, ← Rat.divInt_sub_divInt _ _ hd hu, Rat.num_divInt_den]
def spSumD : Sp := fun vs H Q _ => ∃ (d1 d2 : Addr) (sg : Int) (kv1 kv2 : List (Key × V)) (ks1 ks2 : List Str) (f g : Fn) (za zb : Nat), vs = [.ref d1, .ref d2, .int sg] ∧ (sg = 1 ∨ sg = -1) ∧ H d1 = some (.dK kv1) ∧ Tab IsP H kv1 ks1 f ∧ H d2 = some (.dK kv2) ∧ Tab (IsQ zb) H kv2 ks2 g ∧ SzF za f ∧ 1 ≤ zb ∧ za + zb ≤ 4000 ∧ ks1.length ≤ 30 ∧ ks2.length ≤ 30 ∧
  ∀ (d : Addr) (kvs : List (Key × V)) (ks : List Str) (H' : Hp), Same H H' → H d = none → H' d = some (.dK kvs) → Tab IsP H' kvs ks (sgnF sg f g) → ks.length ≤ 60 → (∀ n ∈ ks, n ∈ ks1 ∨ n ∈ ks2) → Q (.ref d) H'
def spTimesD : Sp := fun vs H Q _ => ∃ (d1 : Addr) (t b : Int) (kv1 : List (Key × V)) (ks1 : List Str) (f : Fn), vs = [.ref d1, .int t, .int b] ∧ b ≠ 0 ∧ H d1 = some (.dK kv1) ∧ Tab IsP H kv1 ks1 f ∧ SzF 67 f ∧ t.natAbs < 2 ^ 67 ∧ b.natAbs < 2 ^ 67 ∧ ks1.length ≤ 30 ∧
  ∀ (d : Addr) (kvs : List (Key × V)) (ks : List Str) (H' : Hp), Same H H' → H' d = some (.dK kvs) → Tab IsP H' kvs ks (fun n => f n * Rat.divInt t b) → ks.length ≤ 30 → Q (.ref d) H'
theorem DD.of {R : NR} {H : Hp} {d : Addr} {kvs : List (Key × V)} {ks : List Str} {f : Fn} (h : H d = some (.dK kvs)) (t : Tab R H kvs ks f) : DD R H d ks f := ⟨kvs, .inl h, t⟩
section
variable {P : Program} {w : World} {K : PySem.W.Frag} {mg : Str → Option Value} {base : Heap} {A : Ad}
theorem ok_l_sum (T : Txt K mg A) : FnOk P w K mg base CX0 3 A.l_sum A.fd_l_sum P_l_sum spSumD := by
  refine T.F_l_sum.ok sc_l_sum (fun vs H Q E h => ?_) (fun cdv Ar outer s H vs Q E hr h => ?_)
  · obtain ⟨d1, d2, sg, kv1, kv2, ks1, ks2, f, g, za, zb, rfl, _⟩ := h
    rfl
  · obtain ⟨d1, d2, sg, kv1, kv2, ks1, ks2, f, g, za, zb, rfl, hsg, h1, t1, h2, t2, sf, hzb, zab, l1, l2, k⟩ := h
    refine ⟨_, (pss_cons (ps_set (i := 3) sc_l_sum.nd rfl (Or.inl rfl) pe_dnewK)
      (pss_cons (ps_g (ps_for PassesOwn.never rfl (pi_list (pe_op op_cat (pe_callTy (call_listD rfl) (by rfl) T.z_list (by decide +kernel) (pa_cons (pv 0) pa_nil)) (pe_g (pe_lock (pe_lcV (own := [("_law_name", 4)]) rfl sc_l_sum.nd (pi_keys (pv 1)) (blkOk_by (own := [("_law_name", 4)]) (N := N_l_sum) (sc := defScope s_l_sum) (by decide +kernel)) (fun _ _ _ _ _ => (pg_name (i := 4) sc_l_sum.nd rfl (Or.inl rfl))) (fun _ _ _ _ _ => (pts_one (pt_cmp (pc_dnotin (hu_of hr) (pv 4) (pv 0))))) (fun _ _ _ _ _ => (pv 4)) (fun _ _ _ _ _ => rfl) (fun _ _ _ _ _ => rfl) (fun _ _ _ _ _ => rfl)))))) (pg_name (i := 4) sc_l_sum.nd rfl (Or.inl rfl)) (pss_cons (ps_asg (pe_dget2 (hu_of hr) (pv 0) (pv 4) (pe_tup (pa_cons pe_int (pa_cons pe_int pa_nil))) ⟨rfl, rfl, rfl, rfl⟩) (pg_tup (n := 2) rfl (pgs_cons (pg_name (i := 5) sc_l_sum.nd rfl (Or.inl rfl)) (pgs_cons (pg_name (i := 6) sc_l_sum.nd rfl (Or.inl rfl)) pgs_nil))))
      (pss_cons (ps_asg (pe_dget2 (hu_of hr) (pv 1) (pv 4) (pe_tup (pa_cons pe_int (pa_cons pe_int pa_nil))) ⟨rfl, rfl, rfl, rfl⟩) (pg_tup (n := 2) rfl (pgs_cons (pg_name (i := 7) sc_l_sum.nd rfl (Or.inl rfl)) (pgs_cons (pg_name (i := 8) sc_l_sum.nd rfl (Or.inl rfl)) pgs_nil))))
      (pss_one (ps_dput (hu_of hr) (pv 3) (pv 4) (pe_call (ok_l_lowest T) (hr.mono (by decide)) (by rfl) T.g__law_lowest T.F_l_lowest.kp T.b_l_lowest .nil pass0 (pa_cons (pe_op op_add (pe_op op_mulW (pv 5) (pv 8)) (pe_op op_mulW (pe_op op_mulW (pv 2) (pv 7)) (pv 6))) (pa_cons (pe_op op_mulW (pv 6) (pv 8)) pa_nil))) rfl))))))
      (pss_one (ps_ret (pv 3))))), ?_⟩
    refine fun D hD => ?_
    have s0 := Same.new (o := .dK []) hD
    have hD0 : (upd H D (.dK [])) D = some (.dK []) := upd_same
    generalize upd H D (.dK []) = H0 at *
    refine ⟨⟨_, rfl, d1, kv1, rfl, .inl (s0 _ _ h1), fun q1 hq1 => ?_⟩⟩
    rw [kV_keys t1.keys]
    have s1 := Same.new (o := .lst (ks1.map V.str)) hq1
    have s01 := s0.trans s1
    have h21 := s01 _ _ h2
    have hq11 : (upd H0 q1 (.lst (ks1.map V.str))) q1 = some (.lst (ks1.map V.str)) := upd_same
    generalize upd H0 q1 (.lst (ks1.map V.str)) = H1 at *
    refine ⟨⟨d2, .dK kv2, h21, trivial, fun od => ⟨_, rfl, d2, od, rfl, .inl ⟨kv2, upd_same, fun DL hDL => ?_⟩⟩⟩⟩
    have nDL : DL ≠ d2 := fun e => by rw [e, upd_same] at hDL; cases hDL
    have hDL1 : H1 DL = none := by rw [upd_ne nDL] at hDL; exact hDL
    refine lc_it walk_keys (fun i H' => Wd (Same (upd H1 d2 (.frz od (.dK kv2))) H' ∧ H' DL = some (.lst (((ks2.take i).filter fun n => decide (n ∉ ks1)).map V.str)))) ⟨Same.new hDL, upd_same⟩ (fun i H' _ h => h.ok.1 _ _ upd_same) ?_ ?_
    · rintro i y H2 H3 hi ⟨s2, hD2⟩ ⟨rfl, kk, vv, hkv, rfl⟩
      obtain ⟨n, rfl, hn⟩ := t2.key hkv
      have dd1 : DD IsP (upd H1 d2 (.frz od (.dK kv2))) d1 ks1 f := by
        by_cases e : d1 = d2
        · have ekv : kv1 = kv2 := by
            have z := s01 _ _ h1
            rw [e, h21] at z
            cases z
            rfl
          subst ekv
          refine ⟨kv1, .inr ⟨od, by rw [e]; exact upd_same⟩, ?_⟩
          exact (t1.mono okP (.same s01)).mono okP (fx_lock h21)
        · refine ⟨kv1, .inl (by rw [upd_ne e]; exact s01 _ _ h1), ?_⟩
          exact (t1.mono okP (.same s01)).mono okP (fx_lock h21)
      obtain ⟨o, hget, hy, hno⟩ := (dd1.same okP s2).get n
      refine ⟨rfl, _, rfl, _, rfl, d1, o, rfl, hget, _, rfl, ?_⟩
      by_cases hk : n ∈ ks1
      · obtain ⟨w0, rfl, _⟩ := hy hk
        refine iteF ⟨s2, ?_⟩
        rw [hD2, take_more hn, List.filter_append, List.filter_cons_of_neg (by rw [decide_eq_false (not_not_intro hk)]; decide)]
        simp
      · obtain ⟨rfl, _⟩ := hno hk
        refine iteT ⟨_, rfl, _, hD2, ?_, Same.at_new hDL s2, ?_⟩
        · rw [List.length_map]
          exact Nat.lt_of_le_of_lt (Nat.le_trans (List.length_filter_le _ _) (by rw [List.length_take]; omega : _ ≤ 30)) (by decide)
        · rw [upd_same, take_more hn, List.filter_append, List.filter_cons_of_pos (p := fun n => decide (n ∉ ks1)) (decide_eq_true hk), List.map_append]
          rfl
    · rintro H2 ⟨s2, hD2⟩
      refine ⟨s2 _ _ upd_same, ?_⟩
      rw [t2.len, List.take_length] at hD2
      have sB := same_back h21 s2
      have hDB : (upd H2 d2 (.dK kv2)) DL = some (.lst ((ks2.filter fun n => decide (n ∉ ks1)).map V.str)) := by rw [upd_ne nDL]; exact hD2
      generalize upd H2 d2 (.dK kv2) = H3 at *
      have fl := List.length_filter_le (fun n => decide (n ∉ ks1)) ks2
      refine ⟨q1, DL, _, _, rfl, rfl, sB _ _ hq11, hDB, ?_, fun q3 hq3 => ?_⟩
      · rw [List.length_map, List.length_map]
        exact Nat.le_trans (by omega : _ ≤ 60) (by decide)
      rw [← List.map_append]
      have yl : (ks1 ++ ks2.filter fun n => decide (n ∉ ks1)).length ≤ 60 := by rw [List.length_append]; omega
      have ym : ∀ n, n ∉ (ks1 ++ ks2.filter fun n => decide (n ∉ ks1)) → n ∉ ks1 ∧ n ∉ ks2 := fun n hn => by
        rw [List.mem_append, List.mem_filter, decide_eq_true_eq] at hn
        exact ⟨fun z => hn (.inl z), fun z => hn (.inr ⟨z, fun y => hn (.inl y)⟩)⟩
      have yi : ∀ n, n ∈ (ks1 ++ ks2.filter fun n => decide (n ∉ ks1)) → n ∈ ks1 ∨ n ∈ ks2 := fun n hn => (List.mem_append.mp hn).imp id fun z => (List.mem_filter.mp z).1
      generalize (ks1 ++ ks2.filter fun n => decide (n ∉ ks1)) = ys at *
      have s3 := Same.new (o := .lst (ys.map V.str)) hq3
      have s03 := s01.trans (sB.trans s3)
      have hD3 := (s1.trans (sB.trans s3)) _ _ hD0
      have hq33 : (upd H3 q3 (.lst (ys.map V.str))) q3 = some (.lst (ys.map V.str)) := upd_same
      generalize upd H3 q3 (.lst (ys.map V.str)) = H4 at *
      refine ⟨q3, rfl, ⟨_, SqL.of hq33⟩, for_list (xs := ys.map V.str) (fun i σ' H' => Wd (∃ (kv : List (Key × V)) (o : List (Option V)), o.length = 5 ∧ σ' = [some (.ref d1), some (.ref d2), some (.int sg), some (.ref D)] ++ o ∧ Same H H' ∧ H' q3 = some (.lst (ys.map V.str)) ∧ H' D = some (.dK kv) ∧ Tab IsP H' kv (ddN (ys.take i)) (onN (ddN (ys.take i)) (sgnF sg f g))))
        ⟨[], [none, none, none, none, none], rfl, rfl, s03, hq33, hD3, by rw [List.take_zero]; show Tab _ _ [] [] (onN [] _); rw [onN_nil]; exact Tab.nil⟩ ?_ ?_ ?_⟩
      · rintro i σ' H' _ ⟨kv, o, _, rfl, _, hq, _⟩
        exact SqL.of hq
      · rintro i y σ' H5 hi ⟨kv, o, hol, rfl, s5, hq5, hD5, t5⟩
        match o, hol with
        | [o4, o5, o6, o7, o8], _ =>
        obtain ⟨n, hn, rfl⟩ := names_at hi
        have dd1 : DD IsP H5 d1 ks1 f := (DD.of h1 t1).same okP s5
        have dd2 : DD (IsQ zb) H5 d2 ks2 g := (DD.of h2 t2).same okQ s5
        refine ⟨_, rfl, d1, rfl, dd1.isD, _, rfl, (by show 2 ≤ sizeLine; decide), fun p6 hp6 => ?_⟩
        obtain ⟨o, tq, hget, e, htq⟩ := get_pair dd1 hp6 n
        have s6 := Same.new (o := .tup [.int 0, .int 1]) hp6
        refine ⟨o, hget, tq, _, e, SqT.of htq, rfl, _, _, rfl, _, _, rfl, rfl, ?_⟩
        refine ⟨_, rfl, d2, rfl, (dd2.same okQ s6).isD, _, rfl, (by show 2 ≤ sizeLine; decide), fun p7 hp7 => ?_⟩
        obtain ⟨o2, tq2, t, u, hget2, e2, htq2, hd2, z3, z4, egn⟩ := get_pairQ hzb (dd2.same okQ s6) hp7 n
        have s7 := Same.new (o := .tup [.int 0, .int 1]) hp7
        refine ⟨o2, hget2, tq2, _, e2, SqT.of htq2, rfl, _, _, rfl, _, _, rfl, rfl, ?_⟩
        have z1 := (sf n).1
        have z2 := (sf n).2
        have zs : sg.natAbs < 2 ^ 1 := by rcases hsg with rfl | rfl <;> decide
        have hd1 : ((f n).den : Int) ≠ 0 := by have := (f n).den_nz; omega
        refine ⟨_, rfl, _, rfl, _, _, rfl, rfl, mulw z1 z4 (by omega), _, rfl, _, rfl, _, _, rfl, rfl, mulw zs z3 (by omega), _, rfl, _, _, rfl, rfl, mulw (mul_lt zs z3) z2 (by omega), _, _, rfl, rfl, _, rfl, _, rfl, _, _, rfl, rfl, mulw z2 z4 (by omega), _, _, rfl, Int.mul_ne_zero hd1 hd2, lt_pow (mul_lt z2 z4) (by omega), fun p8 hp8 => ?_⟩
        dsimp only
        rw [sgn_eqQ hsg hd2 egn]
        have s8 := Same.new (o := .tup [.int (sgnF sg f g n).num, .int ((sgnF sg f g n).den : Int)]) hp8
        have s58 := s6.trans (s7.trans s8)
        have hD8 := s58 _ _ hD5
        have hp88 := upd_same (H := upd (upd H5 p6 (.tup [.int 0, .int 1])) p7 (.tup [.int 0, .int 1])) (a := p8) (o := .tup [.int (sgnF sg f g n).num, .int ((sgnF sg f g n).den : Int)])
        generalize upd (upd (upd H5 p6 (.tup [.int 0, .int 1])) p7 (.tup [.int 0, .int 1])) p8 (.tup [.int (sgnF sg f g n).num, .int ((sgnF sg f g n).den : Int)]) = H8 at *
        have kl : kv.length < sizeLine := by
          rw [t5.len]
          exact Nat.lt_of_le_of_lt (Nat.le_trans ddN_len (by rw [List.length_take]; omega : _ ≤ 60)) (by decide)
        refine ⟨_, rfl, _, rfl, D, _, rfl, DPut.k (k := .inr n) hD8 kl, ?_⟩
        have nDq : q3 ≠ D := fun z => by rw [z, hD5] at hq5; cases hq5
        refine ⟨_, [_, _, _, _, _], rfl, rfl, Same.at_new hD (s5.trans s58), by rw [upd_ne nDq]; exact s58 _ _ hq5, upd_same, ?_⟩
        rw [take_more hn, ddN_more, ← on_step]
        exact t5.put okP ((Fx.same s58).dk hD5) (okP _ _ _ _ ((Fx.refl H8).dk hD8) ⟨p8, rfl, hp88⟩)
      · rintro σ' H5 ⟨kv, o, hol, rfl, s5, hq5, hD5, t5⟩
        match o, hol with
        | [o4, o5, o6, o7, o8], _ =>
        rw [List.length_map, List.take_length] at t5
        refine ⟨_, rfl, k D kv (ddN ys) H5 s5 hD hD5 ?_ (Nat.le_trans ddN_len yl) (fun n hn => yi n (mem_ddN.mp hn))⟩
        rw [onN_all (fun n hn => by
          have := ym n (fun z => hn (mem_ddN.mpr z))
          exact sgn_zero (t1.no n this.1).2 (t2.no n this.2).2)] at t5
        exact t5
end

/-! ### Form.at_most, Form.same -/
def spFCmp (CF CR : Addr) (ok : Fn → Fn → Prop) : Sp := fun vs H Q _ => ∃ (U : List Str) (v u : V) (f g : Fn) (a b : Nat), vs = [v, u] ∧ IsF CF CR U H v f ∧ IsF CF CR U H u g ∧ UOk U ∧ SzF a f ∧ SzF b g ∧ a + b ≤ 8800 ∧ ∀ (r : Bool) H', Same H H' → (r = true ↔ ok f g) → Q (.bl r) H'
section
variable {P : Program} {w : World} {K : PySem.W.Frag} {mg : Str → Option Value} {base : Heap} {A : Ad}
theorem ok_m_Form_at_most (T : Txt K mg A) : FnOk P w K mg base CX0 8 A.m_Form_at_most A.fd_m_Form_at_most P_m_Form_at_most (spFCmp A.Form A.Ratio fun f g => ∀ n, f n ≤ g n) := by
  refine T.F_m_Form_at_most.ok sc_m_Form_at_most (fun vs H Q E h => ?_) (fun cdv Ar outer s H vs Q E hr h => ?_)
  · obtain ⟨U, v, u, f, g, a, b, rfl, _⟩ := h
    rfl
  · obtain ⟨U, v, u, f, g, a, b, rfl, hF, hG, uok, sf, sg, hab, k⟩ := h
    refine ⟨_, (pss_one (ps_ret (pe_callB (cr_all rfl) (by rfl) T.z_all (by decide +kernel) (pa_cons (pe_g (pe_lcV (own := [("name", 2)]) rfl sc_m_Form_at_most.nd (pi_list (pe_op op_cat (pe_meth0 (pv 0) T.cl_Form T.m_Form_names (ok_m_Form_names T) (hr.mono (by decide)) T.b_m_Form_names .nil pass0) (pe_meth0 (pv 1) T.cl_Form T.m_Form_names (ok_m_Form_names T) (hr.mono (by decide)) T.b_m_Form_names .nil pass0))) (blkOk_by (own := [("name", 2)]) (N := N_m_Form_at_most) (sc := defScope s_m_Form_at_most) (by decide +kernel)) (fun _ _ _ _ _ => (pg_name (i := 2) sc_m_Form_at_most.nd rfl (Or.inl rfl))) (fun _ _ _ _ _ => pts_nil) (fun _ _ _ _ _ => (pe_meth (pe_meth (pv 0) T.cl_Form T.m_Form_share (ok_m_Form_share T) (hr.mono (by decide)) T.b_m_Form_share .nil pass0 (pa_cons (pv 2) pa_nil)) T.cl_Ratio T.m_Ratio_at_most (ok_m_Ratio_at_most T) (hr.mono (by decide)) T.b_m_Ratio_at_most .nil pass0 (pa_cons (pe_meth (pv 1) T.cl_Form T.m_Form_share (ok_m_Form_share T) (hr.mono (by decide)) T.b_m_Form_share .nil pass0 (pa_cons (pv 2) pa_nil)) pa_nil))) (fun _ _ _ _ _ => rfl) (fun _ _ _ _ _ => rfl) (fun _ _ _ _ _ => rfl))) pa_nil)))), ?_⟩
    obtain ⟨p, dx, d, ks, rfl, hp, hd, okf⟩ := id hF
    obtain ⟨p2, dx2, d2, ls, rfl, hp2, hd2, okg⟩ := id hG
    refine ⟨⟨_, rfl, p, dx, _, rfl, hp, rfl, U, _, f, rfl, hF, fun ks' q1 okf' hq1 => ?_⟩⟩
    obtain rfl := okf'.uniq okf
    have s1 := Same.new (o := .lst (ks'.map V.str)) hq1
    refine ⟨_, rfl, p2, dx2, _, rfl, s1 _ _ hp2, rfl, U, _, g, rfl, hG.same s1, fun ls' q2 okg' hq2 => ?_⟩
    obtain rfl := okg'.uniq okg
    have s2 := Same.new (o := .lst (ls'.map V.str)) hq2
    have l1 := okf.len
    have l2 := okg.len
    have ul := uok.len
    refine ⟨q1, q2, _, _, rfl, rfl, s2 _ _ upd_same, upd_same, ?_, fun q3 hq3 => ?_⟩
    · rw [List.length_map, List.length_map]
      exact Nat.le_trans (by omega : _ ≤ 60) (by decide)
    rw [← List.map_append]
    have s3 := Same.new (o := .lst ((ks' ++ ls').map V.str)) hq3
    have s03 := s1.trans (s2.trans s3)
    refine ⟨q3, rfl, ⟨_, SqL.of upd_same⟩, fun D hD => lc_same (K := K) (fun i => V.bl (decide (f ((ks' ++ ls').getD i "") ≤ g ((ks' ++ ls').getD i "")))) upd_same (by rw [List.length_map, List.length_append]; omega) hD ?_ ?_⟩
    · intro i y H4 N M hi s4 hN
      obtain ⟨n, hn, rfl⟩ := names_at hi
      have s04 := s03.trans s4
      have en : (ks' ++ ls').getD i "" = n := by rw [List.getD_eq_getElem?_getD, hn]; rfl
      rw [en] at hN
      refine ⟨rfl, _, rfl, p, dx, _, rfl, s04 _ _ hp, rfl, _, rfl, U, _, n, f, rfl, hF.same s04, fun v1 H5 s5 i5 => ?_⟩
      obtain ⟨rp, rdx, rfl, hrp⟩ := id i5
      have s05 := s04.trans s5
      refine ⟨rp, rdx, _, rfl, hrp, rf_no _ _ (by decide +kernel) (by decide +kernel), _, rfl, p2, dx2, _, rfl, s05 _ _ hp2, rfl, _, rfl, U, _, n, g, rfl, hG.same s05, fun v2 H6 s6 i6 => ?_⟩
      exact ⟨_, _, _, _, a, b, rfl, i5.same s6, .inl i6, sf n, sg n, by omega, fun H7 s7 => hN H7 (s5.trans (s6.trans s7))⟩
    · intro H4 s4 hD4
      rw [List.length_map] at hD4
      refine ⟨D, (List.range (ks' ++ ls').length).map fun i => decide (f ((ks' ++ ls').getD i "") ≤ g ((ks' ++ ls').getD i "")), rfl, SqL.of ?_, k _ H4 (s03.trans s4) ?_⟩
      · rw [hD4, List.map_map]
        rfl
      · rw [List.all_map, List.all_eq_true]
        refine ⟨fun z n => ?_, fun z i _ => decide_eq_true (z _)⟩
        by_cases hn : n ∈ ks' ++ ls'
        · obtain ⟨i, hi⟩ := List.mem_iff_getElem?.mp hn
          have := z i (List.mem_range.mpr (List.getElem?_eq_some_iff.mp hi).1)
          have e : (ks' ++ ls').getD i "" = n := by rw [List.getD_eq_getElem?_getD, hi]; rfl
          have this : decide (f ((ks' ++ ls').getD i "") ≤ g ((ks' ++ ls').getD i "")) = true := this
          rw [e] at this
          exact of_decide_eq_true this
        · rw [List.mem_append] at hn
          have e1 : f n = 0 := Classical.byContradiction fun z => hn (.inl ((okf.nz n).mpr z))
          have e2 : g n = 0 := Classical.byContradiction fun z => hn (.inr ((okg.nz n).mpr z))
          rw [e1, e2]
          exact Rat.le_refl
theorem ok_m_Form_same (T : Txt K mg A) : FnOk P w K mg base CX0 9 A.m_Form_same A.fd_m_Form_same P_m_Form_same (spFCmp A.Form A.Ratio fun f g => ∀ n, f n = g n) := by
  refine T.F_m_Form_same.ok sc_m_Form_same (fun vs H Q E h => ?_) (fun cdv Ar outer s H vs Q E hr h => ?_)
  · obtain ⟨U, v, u, f, g, a, b, rfl, _⟩ := h
    rfl
  · obtain ⟨U, v, u, f, g, a, b, rfl, hF, hG, uok, sf, sg, hab, k⟩ := h
    refine ⟨_, (pss_one (ps_ret (pe_and (pe_meth (pv 0) T.cl_Form T.m_Form_at_most (ok_m_Form_at_most T) (hr.mono (by decide)) T.b_m_Form_at_most .nil pass0 (pa_cons (pv 1) pa_nil)) (pe_one (pe_meth (pv 1) T.cl_Form T.m_Form_at_most (ok_m_Form_at_most T) (hr.mono (by decide)) T.b_m_Form_at_most .nil pass0 (pa_cons (pv 0) pa_nil)))))), ?_⟩
    obtain ⟨p, dx, d, ks, rfl, hp, hd, okf⟩ := id hF
    obtain ⟨p2, dx2, d2, ls, rfl, hp2, hd2, okg⟩ := id hG
    refine ⟨_, rfl, p, dx, _, rfl, hp, rfl, _, rfl, U, _, _, f, g, a, b, rfl, hF, hG, uok, sf, sg, hab, fun r1 H1 s1 h1 => ⟨r1, rfl, if_bl (fun e => ?_) (fun e => ?_)⟩⟩
    · refine ⟨_, rfl, p2, dx2, _, rfl, s1 _ _ hp2, rfl, _, rfl, U, _, _, g, f, b, a, rfl, hG.same s1, hF.same s1, uok, sg, sf, by omega, fun r2 H2 s2 h2 => k r2 H2 (s1.trans s2) (h2.trans ⟨fun z n => Rat.le_antisymm (h1.mp e n) (z n), fun z n => by rw [z n]; exact Rat.le_refl⟩)⟩
    · refine k false H1 s1 ⟨fun z => (nomatch z), fun z => ?_⟩
      rw [h1.mpr fun n => by rw [z n]; exact Rat.le_refl] at e
      cases e
end

/-! ### cls(..) in a class's own method -/
section
open PySem.Spec PyProof.Rows
variable {X : Cx} {CX : CXT} {k i : Nat} {f C : Addr} {fd : FuncData} {ps : List Str} {sp : Sp} {dvs : List V} {ds : List Value} {E : XK} {x : Str} {p pos : Pos} {e : Expr} {es : List Expr} {t : TA}
/-- the i-th slot holds the class C: an instance is made -/
def tMakeL (i : Nat) (C : Addr) (sp : Sp) (dvs : List V) (E : XK) (t : TA) : TE := fun σ H Q => σ[i]? = some (some (.ref C)) ∧ tMake C sp dvs E t σ H Q
theorem pe_makeL (M : Mk X.K C f) (F : FnOk X.prog X.w X.K X.mg X.base CX k f fd ps sp) (hr : Room (k + 1) X.A) (hN : X.N[i]? = some x) (hv : Vis X.env.scope x) (hb : Binds X.K fd ps ds) (hd : Vals dvs ds) (hx : Passes CX X E) (ha : PA X (e :: es) t)
    (hdb : (x == ("__debug__" : Str)) = false := by decide) (hcd : (x == ("__classdict__" : Str)) = false := by decide)
    (he : starEach (e :: es) X.env = (false, eval e X.env) :: starEach es X.env := by rfl) (hpl : (backTo pos (starEach es X.env)).any (·.1) = false := by rfl) : PE X (.Call (.Name x p) (e :: es) [] pos) (tMakeL i C sp dvs E t) := by
  refine ⟨fun pins s σ H Q I h => ?_⟩
  obtain ⟨hs, ht⟩ := h
  refine wpAny_Call_Name_kw (thn ((pe_var (pos := p) hN hv hdb hcd).run pins s σ H (fun v H1 => v = .ref C ∧ H1 = H) I ⟨.ref C, hs, rfl, rfl⟩) fun u s1 ⟨v, H1, I1, r1, q1⟩ => ?_)
  obtain ⟨rfl, rfl⟩ := q1
  cases r1
  refine PySem.W.callWith_K (h₀ := X.base) I.ok.mod.kin M.kp (thn (ha.run pos pins s1 σ _ _ I1 ht) fun us s2 ⟨vs, H2, I2, r, q⟩ => ⟨I2.kIn, ?_⟩) he hpl
  exact run_make M F hr hb hd hx I2 r q
end

/-! ### Form.__init__ of shares with names that are none -/
def spFormBad (CF CE : Addr) : Sp := fun vs H Q E => ∃ (x dx d : Addr) (kvs : List (Key × V)) (ks : List Str) (n0 : Str), vs = [.ref x, .ref d] ∧ H x = some (.ins CF dx []) ∧ H d = some (.dK kvs) ∧ kvs.map (·.1) = ks.map Sum.inr ∧ ks.length < 64 ∧ (∀ n ∈ ks, n.length ≤ 1000) ∧
  n0 ∈ ks ∧ validZ n0 = false ∧ (∀ n ∈ ks, validZ n = false → leS n0 n) ∧ ∀ dd H', Same H H' → H' dd = some (.xd [("name", .str n0)]) → E (.ref CE) (some dd) H'
theorem take_sub {α : Type} {l : List α} {i : Nat} {a : α} (h : a ∈ l.take i) : a ∈ l := List.mem_of_mem_take h
theorem get_le {ys : List Str} (hs : ys.Pairwise leS) {i j : Nat} {a b : Str} (ha : ys[i]? = some a) (hb : ys[j]? = some b) (h : i < j) : leS a b := by
  obtain ⟨h1, e1⟩ := List.getElem?_eq_some_iff.mp ha
  obtain ⟨h2, e2⟩ := List.getElem?_eq_some_iff.mp hb
  have := List.pairwise_iff_getElem.mp hs i j h1 h2 h
  rw [e1, e2] at this
  exact this
theorem mem_take_lt {ys : List Str} {i j : Nat} {a : Str} (ha : ys[j]? = some a) (h : j < i) : a ∈ ys.take i := by
  refine List.mem_of_getElem? (i := j) ?_
  rw [List.getElem?_take, if_pos h]
  exact ha
/-- the first in order of those that are wanted -/
theorem first_is {ys : List Str} (hs : ys.Pairwise leS) {p : Str → Prop} {i : Nat} {n n0 : Str} (hn : ys[i]? = some n) (pn : p n) (h0 : n0 ∈ ys) (p0 : p n0) (least : ∀ m ∈ ys, p m → leS n0 m) (before : ∀ m ∈ ys.take i, ¬ p m) : n = n0 := by
  obtain ⟨j, hj⟩ := List.mem_iff_getElem?.mp h0
  have h1 := least n (List.mem_of_getElem? hn) pn
  rcases Nat.lt_trichotomy j i with h | h | h
  · exact absurd p0 (before n0 (mem_take_lt hj h))
  · subst h
    rw [hn] at hj
    exact Option.some.inj hj
  · exact leS_anti (get_le hs hn hj h) h1
section
variable {P : Program} {w : World} {K : PySem.W.Frag} {mg : Str → Option Value} {base : Heap} {A : Ad}
theorem okb_m_Form_init (T : Txt K mg A) : FnOk P w K mg base (L2.CX P w) 14 A.m_Form_init A.fd_m_Form_init P_m_Form_init (spFormBad A.Form A.BadName) := by
  refine T.F_m_Form_init.ok sc_m_Form_init (fun vs H Q E h => ?_) (fun cdv Ar outer s H vs Q E hr h => ?_)
  · obtain ⟨x, dx, d, kvs, ks, n0, rfl, _⟩ := h
    rfl
  · obtain ⟨x, dx, d, kvs, ks, n0, rfl, hx, hd, hkeys, hlen, hshort, h0, v0, least, k⟩ := h
    refine ⟨_, (pss_g (Evl.pss_cut (ps_set (i := 2) sc_m_Form_init.nd rfl (Or.inr rfl) (pe_ifExp (pt_cmpR op_isN (pv 1) pe_non (nomark _)) pe_dnewK (pv 1)))
      (pss_cons (ps_g (ps_for (passes_of rfl) rfl (pi_list (pe_callB (call_sortedD rfl) (by rfl) T.z_sorted (by decide +kernel) (pa_cons (pv 2) pa_nil))) (pg_name (i := 3) sc_m_Form_init.nd rfl (Or.inl rfl)) (pss_one (ps_if (pt_not (pt_val (pe_call (ok_f_valid_name T) (hr.mono (by decide)) (by rfl) T.g_valid_name T.F_f_valid_name.kp T.b_f_valid_name .nil pass0 (pa_cons (pv 3) pa_nil)))) (pss_one (ps_raise rfl (takes_of rfl rfl rfl rfl) (pmk_oex T.ox_BadName T.oi_BadName T.ot_BadName (ok_m_BadName_init T) (hr.mono (by decide)) T.b_m_BadName_init .nil pass0 (by rfl) T.g_BadName (pa_cons (pv 3) pa_nil)))) pss_nil))))
      (pss_cons (ps_set (i := 4) sc_m_Form_init.nd rfl (Or.inr rfl) (pe_g (pe_dcV (own := [("name", 3)]) rfl sc_m_Form_init.nd (pi_list (pe_callB (call_sortedD rfl) (by rfl) T.z_sorted (by decide +kernel) (pa_cons (pv 2) pa_nil))) (blkOk_by (own := [("name", 3)]) (N := N_m_Form_init) (sc := defScope s_m_Form_init) (by decide +kernel)) (fun _ _ _ _ _ => (pg_name (i := 3) sc_m_Form_init.nd rfl (Or.inl rfl))) (fun _ _ _ _ _ => pts_nil) (fun _ _ _ _ _ => (pv 3)) (fun _ _ _ _ _ => (pe_op (op_mix (op_own (E := E0) rfl (oo_add T) (ok_m_Ratio_add T) (hr.mono (by decide)) T.b_m_Ratio_add pass0) (op_rown (E := E0) rfl (oo_add T) PySem.F.fills_int_add PySem.F.slot_int_add PySem.F.entry_int_add PySem.F.args_int_add_2 rfl (ok_m_Ratio_radd T) (hr.mono (by decide)) T.b_m_Ratio_radd pass0)) (pe_dget (hu_of hr) (pv 2) (pv 3) (fun _ _ => rfl)) (pe_make T.mk_Ratio (ok_m_Ratio_init T) (hr.mono (by decide)) (by rfl) T.g_Ratio T.b_m_Ratio_init_d1 T.dv_m_Ratio_init passL (pa_cons pe_int pa_nil)))) (fun _ _ _ _ _ => rfl) (fun _ _ _ _ _ => rfl) (fun _ _ _ _ _ => rfl) (fun _ _ _ _ _ => rfl))))
      (pss_one (ps_fld (pv 0) (pe_g (pe_lock (pe_dcV (own := [("name", 3)]) rfl sc_m_Form_init.nd (pi_keys (pv 4)) (blkOk_by (own := [("name", 3)]) (N := N_m_Form_init) (sc := defScope s_m_Form_init) (by decide +kernel)) (fun _ _ _ _ _ => (pg_name (i := 3) sc_m_Form_init.nd rfl (Or.inl rfl))) (fun _ _ _ _ _ => (pts_one (pt_cmpR op_ne (pe_fld (pe_dget (hu_of hr) (pv 4) (pv 3) (fun _ _ => rfl)) rfl) pe_int (nomark _)))) (fun _ _ _ _ _ => (pv 3)) (fun _ _ _ _ _ => (pe_dget (hu_of hr) (pv 4) (pv 3) (fun _ _ => rfl))) (fun _ _ _ _ _ => rfl) (fun _ _ _ _ _ => rfl) (fun _ _ _ _ _ => rfl) (fun _ _ _ _ _ => rfl)))) rfl)))))), ?_⟩
    refine ⟨⟨fun σ' H' => Wd (σ' = [some (.ref x), some (.ref d), some (.ref d), none, none] ∧ H' = H), ?_, ?_⟩⟩
    · exact ⟨_, rfl, rfl, _, rfl, iteF ⟨_, rfl, rfl, rfl⟩⟩
    · rintro σ' H' ⟨rfl, rfl⟩
      refine ⟨⟨_, rfl, d, kvs, ks, rfl, .inl hd, hkeys, hlen, fun ys p hperm hsrt hp => ?_⟩⟩
      have sp := Same.new (o := .lst (ys.map V.str)) hp
      refine ⟨p, rfl, ⟨_, SqL.of upd_same⟩, for_list (xs := ys.map V.str) (fun i σ' H2 => Wd (∃ (o3 : Option V), σ' = [some (.ref x), some (.ref d), some (.ref d), o3, none] ∧ Same (upd H' p (.lst (ys.map V.str))) H2 ∧ ∀ m ∈ ys.take i, ¬ validZ m = false)) ⟨none, rfl, Same.refl _, fun m hm => by simp at hm⟩ ?_ ?_ ?_⟩
      · rintro i σ' H2 _ ⟨o3, rfl, sx, _⟩
        exact SqL.of (sx _ _ upd_same)
      · rintro i y σ' H2 hi ⟨o3, rfl, sx, hbef⟩
        obtain ⟨n, hn, rfl⟩ := names_at hi
        have hnk := hperm.mem_iff.mp (List.mem_of_getElem? hn)
        refine ⟨_, rfl, n, rfl, hshort n hnk, fun H3 s3 => ⟨_, rfl, ?_⟩⟩
        cases hv : validZ n with
        | true =>
          refine iteF ⟨_, rfl, sx.trans s3, fun m hm => ?_⟩
          rw [take_more hn, List.mem_append, List.mem_singleton] at hm
          rcases hm with hm | rfl
          · exact hbef m hm
          · rw [hv]; decide
        | false =>
          have e := first_is (sortedS_pw hsrt) (p := fun m => validZ m = false) hn hv (hperm.mem_iff.mpr h0) v0 (fun m hm => least m (hperm.mem_iff.mp hm)) hbef
          subst e
          refine iteT ⟨_, rfl, (by show 1 ≤ 1000; decide), fun a ha => mk_excF (C := A.BadName) (n := 1) (fs := fs_BadName) (H := H3) (ws := [.str n]) (Q := E) (fun q H4 s4 _ h4 => k q H4 (sp.trans (sx.trans (s3.trans s4))) h4) ha⟩
      · rintro σ' H2 ⟨o3, rfl, sx, hbef⟩
        rw [List.length_map, List.take_length] at hbef
        exact absurd v0 (hbef n0 (hperm.mem_iff.mpr h0))
/-- Form.of(name), the name none -/
def spFOfBad (CF CE : Addr) : Sp := fun vs H Q E => ∃ (n0 : Str), vs = [.ref CF, .str n0] ∧ validZ n0 = false ∧ n0.length ≤ 1000 ∧ ∀ dd H', Same H H' → H' dd = some (.xd [("name", .str n0)]) → E (.ref CE) (some dd) H'
theorem mk_formBad {CF CE x dx : Addr} {H : Hp} {d : Addr} {kvs : List (Key × V)} {ks : List Str} {n0 : Str} {R : VK} {E : XK} (hx : H x = none) (hd : H dx = none) (hv : H d = some (.dK kvs)) (hk : kvs.map (·.1) = ks.map Sum.inr) (hl : ks.length < 64) (hs : ∀ n ∈ ks, n.length ≤ 1000)
    (h0 : n0 ∈ ks) (v0 : validZ n0 = false) (least : ∀ n ∈ ks, validZ n = false → leS n0 n) (hE : ∀ dd H', Same H H' → H' dd = some (.xd [("name", .str n0)]) → E (.ref CE) (some dd) H') : spFormBad CF CE [.ref x, .ref d] (upd (upd H dx (.own x)) x (.ins CF dx [])) R E := by
  have s0 : Same H (upd (upd H dx (.own x)) x (.ins CF dx [])) := same_make1 hx hd
  exact ⟨x, dx, d, kvs, ks, n0, rfl, upd_same, s0 _ _ hv, hk, hl, hs, h0, v0, least, fun dd H' s h => hE dd H' (s0.trans s) h⟩
theorem leS_refl {n : Str} : leS n n := by
  rw [leS_iff]
  exact List.lt_irrefl _
theorem okb_m_Form_of (T : Txt K mg A) : FnOk P w K mg base (L2.CX P w) 16 A.m_Form_of A.fd_m_Form_of P_m_Form_of (spFOfBad A.Form A.BadName) := by
  refine T.F_m_Form_of.okX sc_m_Form_of (fun vs H Q E h => ?_) (fun cdv Ar outer s H vs Q E hr h => ?_)
  · obtain ⟨n0, rfl, _⟩ := h
    rfl
  · obtain ⟨n0, rfl, v0, l0, k⟩ := h
    refine ⟨_, (pss_one (ps_ret (pe_makeL (E := E) (i := 0) T.mk_Form (okb_m_Form_init T) (hr.mono (by decide)) rfl (Or.inl rfl) T.b_m_Form_init .nil (passes_call (takes_of rfl rfl rfl rfl) (fun _ _ _ _ h => h)) (pa_cons (pe_disp (pps_cons (pv 1) pe_int pps_nil) (by rfl) (by rfl) (fun z => by cases z) (by decide)) pa_nil)))), ?_⟩
    refine ⟨rfl, fun p hp => ⟨_, rfl, upd_same, [(.inr n0, .int 1)], rfl, Nat.le_of_ble_eq_true rfl, ?_⟩⟩
    rw [upd_upd]
    have s1 := Same.new (o := .dK [(Sum.inr n0, V.int 1)]) hp
    intro x1 dx1 hx1 hdx1 _
    exact mk_formBad (kvs := [(Sum.inr n0, V.int 1)]) (ks := [n0]) hx1 hdx1 upd_same rfl (by show 1 < 64; decide) (fun n hn => by rw [List.mem_singleton] at hn; subst hn; exact l0) List.mem_cons_self v0 (fun n hn _ => by rw [List.mem_singleton] at hn; subst hn; exact leS_refl) fun dd H' s h => k dd H' (s1.trans s) h
end

/-! ### Form.at -/
def spAt (CF CR CN CG : Addr) : Sp := fun vs H Q E => ∃ (U : List Str) (v : V) (d : Addr) (kv : List (Key × V)) (ks : List Str) (f p : Fn) (a b : Nat), vs = [v, .ref d] ∧ IsF CF CR U H v f ∧ H d = some (.dK kv) ∧ Tab (IsN CR) H kv ks p ∧ UOk U ∧ SzF a f ∧ SzF b p ∧ 1 + 31 * (a + b + 1) ≤ 8990 ∧
  (∀ n0, f n0 ≠ 0 → n0 ∉ ks → (∀ n, f n ≠ 0 → n ∉ ks → leS n0 n) → ∀ dd H', Same H H' → H' dd = some (.xd [("name", .str n0)]) → E (.ref CN) (some dd) H') ∧
  (∀ n0, (∀ n, f n ≠ 0 → n ∈ ks) → f n0 ≠ 0 → p n0 < 0 → (∀ n, f n ≠ 0 → p n < 0 → leS n0 n) → ∀ dd H', Same H H' → H' dd = some (.xd [("name", .str n0)]) → E (.ref CG) (some dd) H') ∧
  ((∀ n, f n ≠ 0 → n ∈ ks) → (∀ n, f n ≠ 0 → 0 ≤ p n) → ∀ ns v' H', FmOk U ns f → Same H H' → IsR CR H' v' (rsum (ns.map fun n => f n * p n)) → Q v' H')
theorem num_neg {q : Rat} : decide (q.num < 0) = decide (q < 0) := by
  rw [decide_eq_decide, Rat.lt_iff]
  show _ ↔ q.num * 1 < 0 * (q.den : Int)
  rw [Int.zero_mul, Int.mul_one]
/-- the first of the names that is wanted -/
theorem first_le {ns : List Str} (hs : ns.Pairwise leS) {p : Str → Prop} {i : Nat} {n : Str} (hn : ns[i]? = some n) (before : ∀ m ∈ ns.take i, ¬ p m) : ∀ m ∈ ns, p m → leS n m := by
  intro m hm pm
  obtain ⟨j, hj⟩ := List.mem_iff_getElem?.mp hm
  rcases Nat.lt_trichotomy j i with h | h | h
  · exact absurd pm (before m (mem_take_lt hj h))
  · subst h
    rw [hn] at hj
    cases hj
    exact leS_refl
  · exact get_le hs hn hj h
section
variable {P : Program} {w : World} {K : PySem.W.Frag} {mg : Str → Option Value} {base : Heap} {A : Ad}
theorem ok_m_Form_at (T : Txt K mg A) : FnOk P w K mg base (L2.CX P w) 14 A.m_Form_at A.fd_m_Form_at P_m_Form_at (spAt A.Form A.Ratio A.NoPrice A.Negative) := by
  refine T.F_m_Form_at.okX sc_m_Form_at (fun vs H Q E h => ?_) (fun cdv Ar outer s H vs Q E hr h => ?_)
  · obtain ⟨U, v, d, kv, ks, f, p, a, b, rfl, _⟩ := h
    rfl
  · obtain ⟨U, v, d, kv, ks, f, p, a, b, rfl, hF, hd, t, uok, sf, sp, hab, kN, kG, kQ⟩ := h
    refine ⟨_, (pss_cons (ps_g (ps_for (passes_of rfl) rfl (pi_list (pe_meth0 (pv 0) T.cl_Form T.m_Form_names (ok_m_Form_names T) (hr.mono (by decide)) T.b_m_Form_names .nil pass0)) (pg_name (i := 2) sc_m_Form_at.nd rfl (Or.inl rfl)) (pss_one (ps_if (pt_cmp (pc_dnotin (hu_of hr) (pv 2) (pv 1))) (pss_one (ps_raise rfl (takes_of rfl rfl rfl rfl) (pmk_oex T.ox_NoPrice T.oi_NoPrice T.ot_NoPrice (ok_m_NoPrice_init T) (hr.mono (by decide)) T.b_m_NoPrice_init .nil pass0 (by rfl) T.g_NoPrice (pa_cons (pv 2) pa_nil)))) pss_nil))))
      (pss_cons (ps_g (ps_for (passes_of rfl) rfl (pi_list (pe_meth0 (pv 0) T.cl_Form T.m_Form_names (ok_m_Form_names T) (hr.mono (by decide)) T.b_m_Form_names .nil pass0)) (pg_name (i := 2) sc_m_Form_at.nd rfl (Or.inl rfl)) (pss_one (ps_if (pt_cmpR op_lt (pe_fld (pe_op (op_mix (op_own (E := E0) rfl (oo_add T) (ok_m_Ratio_add T) (hr.mono (by decide)) T.b_m_Ratio_add pass0) (op_rown (E := E0) rfl (oo_add T) PySem.F.fills_int_add PySem.F.slot_int_add PySem.F.entry_int_add PySem.F.args_int_add_2 rfl (ok_m_Ratio_radd T) (hr.mono (by decide)) T.b_m_Ratio_radd pass0)) (pe_dget (hu_of hr) (pv 1) (pv 2) (fun _ _ => rfl)) (pe_make T.mk_Ratio (ok_m_Ratio_init T) (hr.mono (by decide)) (by rfl) T.g_Ratio T.b_m_Ratio_init_d1 T.dv_m_Ratio_init (E := E) (passes_call (takes_of rfl rfl rfl rfl) (fun _ _ _ _ h => h)) (pa_cons pe_int pa_nil))) rfl) pe_int (nomark _)) (pss_one (ps_raise rfl (takes_of rfl rfl rfl rfl) (pmk_oex T.ox_Negative T.oi_Negative T.ot_Negative (ok_m_Negative_init T) (hr.mono (by decide)) T.b_m_Negative_init .nil pass0 (by rfl) T.g_Negative (pa_cons (pv 2) pa_nil)))) pss_nil))))
      (pss_one (ps_ret (pe_smeth (pe_glob (v := .ref A.Ratio) (by rfl) T.g_Ratio rfl) T.sm_Ratio_sum_of (ok_m_Ratio_sum_of T) (hr.mono (by decide)) T.b_m_Ratio_sum_of pass0 (pa_cons (pe_g (pe_lcV (own := [("name", 2)]) rfl sc_m_Form_at.nd (pi_list (pe_meth0 (pv 0) T.cl_Form T.m_Form_names (ok_m_Form_names T) (hr.mono (by decide)) T.b_m_Form_names .nil pass0)) (blkOk_by (own := [("name", 2)]) (N := N_m_Form_at) (sc := defScope s_m_Form_at) (by decide +kernel)) (fun _ _ _ _ _ => (pg_name (i := 2) sc_m_Form_at.nd rfl (Or.inl rfl))) (fun _ _ _ _ _ => pts_nil) (fun _ _ _ _ _ => (pe_op (op_own (E := E0) rfl (oo_mul T) (ok_m_Ratio_mul T) (hr.mono (by decide)) T.b_m_Ratio_mul pass0) (pe_meth (pv 0) T.cl_Form T.m_Form_share (ok_m_Form_share T) (hr.mono (by decide)) T.b_m_Form_share .nil pass0 (pa_cons (pv 2) pa_nil)) (pe_dget (hu_of hr) (pv 1) (pv 2) (fun _ _ => rfl)))) (fun _ _ _ _ _ => rfl) (fun _ _ _ _ _ => rfl) (fun _ _ _ _ _ => rfl))) pa_nil)))))), ?_⟩
    obtain ⟨p0, dx0, d0, ns, rfl, hp0, hd0, okf⟩ := id hF
    have hl := okf.len
    have ul := uok.len
    refine ⟨⟨_, rfl, p0, dx0, _, rfl, hp0, rfl, U, _, f, rfl, hF, fun ns' q1 okf' hq1 => ?_⟩⟩
    obtain rfl := okf'.uniq okf
    have s1 := Same.new (o := .lst (ns'.map V.str)) hq1
    refine ⟨q1, rfl, ⟨_, SqL.of upd_same⟩, for_list (xs := ns'.map V.str) (fun i σ' H2 => Wd (∃ (o : Option V), σ' = [some (.ref p0), some (.ref d), o] ∧ Same (upd H q1 (.lst (ns'.map V.str))) H2 ∧ ∀ m ∈ ns'.take i, ¬ m ∉ ks)) ⟨none, rfl, Same.refl _, fun m hm => by simp at hm⟩ ?_ ?_ ?_⟩
    · rintro i σ' H2 _ ⟨o, rfl, sx, _⟩
      exact SqL.of (sx _ _ upd_same)
    · rintro i y σ' H2 hi ⟨o, rfl, sx, hbef⟩
      obtain ⟨n, hn, rfl⟩ := names_at hi
      have s12 := s1.trans sx
      have fn : f n ≠ 0 := (okf.nz n).mp (List.mem_of_getElem? hn)
      obtain ⟨o, hget, hy, hno⟩ := DD.get (R := IsN A.Ratio) (H := H2) (d := d) ⟨kv, .inl (s12 _ _ hd), t.mono okN (.same s12)⟩ n
      refine ⟨_, rfl, _, rfl, d, o, rfl, hget, _, rfl, ?_⟩
      by_cases hk : n ∈ ks
      · obtain ⟨w0, rfl, _⟩ := hy hk
        refine iteF ⟨_, rfl, sx, fun m hm => ?_⟩
        rw [take_more hn, List.mem_append, List.mem_singleton] at hm
        rcases hm with hm | rfl
        · exact hbef m hm
        · exact not_not_intro hk
      · obtain ⟨rfl, _⟩ := hno hk
        refine iteT ⟨_, rfl, (by show 1 ≤ 1000; decide), fun x hx => mk_excF (C := A.NoPrice) (n := 1) (fs := fs_NoPrice) (H := H2) (ws := [.str n]) (Q := E) (fun q H4 s4 _ h4 => kN n fn hk (fun m hm hm2 => ?_) q H4 (s12.trans s4) h4) hx⟩
        exact first_le okf.srt.s (p := fun m => m ∉ ks) hn hbef m ((okf.nz m).mpr hm) hm2
    · rintro σ' H2 ⟨o, rfl, sx, hbef⟩
      rw [List.length_map, List.take_length] at hbef
      have all1 : ∀ n, f n ≠ 0 → n ∈ ks := fun n hn => Classical.not_not.mp (hbef n ((okf.nz n).mpr hn))
      clear hbef
      have s12 := s1.trans sx
      refine ⟨⟨_, rfl, p0, dx0, _, rfl, s12 _ _ hp0, rfl, U, _, f, rfl, hF.same s12, fun ns2 q2 okf2 hq2 => ?_⟩⟩
      obtain rfl := okf2.uniq okf
      have s3 := Same.new (o := .lst (ns2.map V.str)) hq2
      have s13 := s12.trans s3
      have hq22 := upd_same (H := H2) (a := q2) (o := .lst (ns2.map V.str))
      generalize upd H2 q2 (.lst (ns2.map V.str)) = H3 at *
      refine ⟨q2, rfl, ⟨_, SqL.of hq22⟩, for_list (xs := ns2.map V.str) (fun i σ' H4 => Wd (∃ (o : Option V), σ' = [some (.ref p0), some (.ref d), o] ∧ Same H3 H4 ∧ ∀ m ∈ ns2.take i, ¬ p m < 0)) ⟨_, rfl, Same.refl _, fun m hm => by simp at hm⟩ ?_ ?_ ?_⟩
      · rintro i σ' H4 _ ⟨o, rfl, sy, _⟩
        exact SqL.of (sy _ _ hq22)
      · rintro i y σ' H4 hi ⟨o, rfl, sy, hbef⟩
        obtain ⟨n, hn, rfl⟩ := names_at hi
        have s14 := s13.trans sy
        have fn : f n ≠ 0 := (okf.nz n).mp (List.mem_of_getElem? hn)
        obtain ⟨o, hget, hy, _⟩ := DD.get (R := IsN A.Ratio) (H := H4) (d := d) ⟨kv, .inl (s14 _ _ hd), t.mono okN (.same s14)⟩ n
        obtain ⟨w0, rfl, hw⟩ := hy (all1 n fn)
        refine ⟨_, rfl, _, rfl, d, w0, rfl, hget, ?_⟩
        intro x1 dx1 hx1 hd1 _
        refine mk_ratio hx1 hd1 (lt_pow (a := 1) (by decide) (by decide)) (fun e => by cases e) (fun _ H5 s5 i5 => ⟨rfl, ?_⟩)
        have e0 : Rat.divInt 0 1 = (0 : Rat) := by decide +kernel
        rw [e0] at i5
        have z0 : Sz 1 (0 : Rat) := ⟨by decide, by decide⟩
        rcases hw with hw | ⟨m, rfl, em⟩
        · refine ⟨.inl (r_own (hw.same s5) (.inl i5) (sp n) z0 (by omega) fun nv H6 s6 i6 => ?_)⟩
          rw [Rat.add_zero] at i6
          obtain ⟨rp, rdx, rfl, hrp⟩ := id i6
          have s16 := s14.trans (s5.trans s6)
          refine ⟨rp, _, rdx, _, _, rfl, hrp, T.cl_Ratio, T.n_Ratio_top, rf_top _ _, _, _, rfl, rfl, _, rfl, ?_⟩
          show if decide ((p n).num < 0) = true then _ else _
          rw [num_neg]
          refine if_dec (fun e => ?_) (fun e => ?_)
          · refine ⟨_, rfl, (by show 1 ≤ 1000; decide), fun x hx => mk_excF (C := A.Negative) (n := 1) (fs := fs_Negative) (H := H6) (ws := [.str n]) (Q := E) (fun q H7 s7 _ h7 => kG n all1 fn e (fun m hm hm2 => ?_) q H7 (s16.trans s7) h7) hx⟩
            exact first_le okf.srt.s (p := fun m => p m < 0) hn hbef m ((okf.nz m).mpr hm) hm2
          · refine ⟨_, rfl, sy.trans (s5.trans s6), fun m hm => ?_⟩
            rw [take_more hn, List.mem_append, List.mem_singleton] at hm
            rcases hm with hm | rfl
            · exact hbef m hm
            · exact e
        · refine ⟨.inr (r_rown i5 z0 (b := b) (by rw [← em]; exact sp n) (by omega) fun nv H6 s6 i6 => ?_)⟩
          rw [Rat.zero_add, ← em] at i6
          obtain ⟨rp, rdx, rfl, hrp⟩ := id i6
          have s16 := s14.trans (s5.trans s6)
          refine ⟨rp, _, rdx, _, _, rfl, hrp, T.cl_Ratio, T.n_Ratio_top, rf_top _ _, _, _, rfl, rfl, _, rfl, ?_⟩
          show if decide ((p n).num < 0) = true then _ else _
          rw [num_neg]
          refine if_dec (fun e => ?_) (fun e => ?_)
          · refine ⟨_, rfl, (by show 1 ≤ 1000; decide), fun x hx => mk_excF (C := A.Negative) (n := 1) (fs := fs_Negative) (H := H6) (ws := [.str n]) (Q := E) (fun q H7 s7 _ h7 => kG n all1 fn e (fun m hm hm2 => ?_) q H7 (s16.trans s7) h7) hx⟩
            exact first_le okf.srt.s (p := fun m => p m < 0) hn hbef m ((okf.nz m).mpr hm) hm2
          · refine ⟨_, rfl, sy.trans (s5.trans s6), fun m hm => ?_⟩
            rw [take_more hn, List.mem_append, List.mem_singleton] at hm
            rcases hm with hm | rfl
            · exact hbef m hm
            · exact e
      · rintro σ' H4 ⟨o, rfl, sy, hbef⟩
        rw [List.length_map, List.take_length] at hbef
        have all2 : ∀ n, f n ≠ 0 → 0 ≤ p n := fun n hn => Rat.not_lt.mp (hbef n ((okf.nz n).mpr hn))
        clear hbef
        have s14 := s13.trans sy
        refine ⟨rfl, ⟨_, rfl, p0, dx0, _, rfl, s14 _ _ hp0, rfl, U, _, f, rfl, hF.same s14, fun ns3 q3 okf3 hq3 => ?_⟩⟩
        obtain rfl := okf3.uniq okf
        have s5 := Same.new (o := .lst (ns3.map V.str)) hq3
        have s15 := s14.trans s5
        have hq33 := upd_same (H := H4) (a := q3) (o := .lst (ns3.map V.str))
        generalize upd H4 q3 (.lst (ns3.map V.str)) = H5 at *
        refine ⟨q3, rfl, ⟨_, SqL.of hq33⟩, fun D hD => ?_⟩
        refine lc_sameP (fun i y H' => ∃ n, ns3[i]? = some n ∧ IsR A.Ratio H' y (f n * p n)) hq33 (by rw [List.length_map]; omega) hD (fun i y G G' acc hDl kp ⟨l, e1, e2⟩ => ⟨l, e1, e2.kp hDl kp⟩) ?_ ?_
        · intro i x H6 N M hxi s6 hN
          obtain ⟨n, hn, rfl⟩ := names_at hxi
          have s16 := s15.trans s6
          have fn : f n ≠ 0 := (okf.nz n).mp (List.mem_of_getElem? hn)
          refine ⟨rfl, _, rfl, p0, dx0, _, rfl, s16 _ _ hp0, rfl, _, rfl, U, _, n, f, rfl, hF.same s16, fun v1 H7 s7 i7 => ?_⟩
          have s17 := s16.trans s7
          obtain ⟨o, hget, hy, _⟩ := DD.get (R := IsN A.Ratio) (H := H7) (d := d) ⟨kv, .inl (s17 _ _ hd), t.mono okN (.same s17)⟩ n
          obtain ⟨w0, rfl, hw⟩ := hy (all1 n fn)
          refine ⟨_, rfl, _, rfl, d, w0, rfl, hget, ?_⟩
          refine r_own i7 hw (sf n) (sp n) (by omega) fun v3 H8 s8 i8 => hN v3 H8 (s7.trans s8) ⟨n, hn, i8⟩
        · intro ys H6 s6 hyl hR hD6
          have hl3 : ns3.length ≤ 29 := by omega
          refine ⟨D, ys, ns3.map (fun n => f n * p n), a + b, rfl, hD6, by rw [hyl, List.length_map, List.length_map], fun i y w hy hw => ?_, ?_, fun v' H7 s7 i7 => kQ all1 all2 ns3 v' H7 okf (s15.trans (s6.trans s7)) i7⟩
          · obtain ⟨n, hn, hi⟩ := hR i y hy
            rw [List.getElem?_map, hn] at hw
            cases hw
            exact ⟨.inl hi, Sz.mul0 (sf n) (sp n)⟩
          · rw [hyl, List.length_map]
            have := Nat.mul_le_mul_right (a + b + 1) (by omega : ns3.length + 1 ≤ 31)
            omega
end

/-! ### the law's own: _law_refusal -/
/-- what a refusal tells: a word, a name, True -/
def spRefusal (CF CR : Addr) : Sp := fun vs H Q _ => ∃ (U : List Str) (v : V) (d : Addr) (kv : List (Key × V)) (ks : List Str) (f p : Fn) (a b : Nat), vs = [v, .ref d] ∧ IsF CF CR U H v f ∧ H d = some (.dK kv) ∧ Tab (IsN CR) H kv ks p ∧ UOk U ∧ SzF a f ∧ SzF b p ∧ 1 + 31 * (a + b + 1) ≤ 8990 ∧
  (∀ n0, f n0 ≠ 0 → n0 ∉ ks → (∀ n, f n ≠ 0 → n ∉ ks → leS n0 n) → ∀ q H', Same H H' → H' q = some (.tup [.str "none", .str n0, .bl true]) → Q (.ref q) H') ∧
  (∀ n0, (∀ n, f n ≠ 0 → n ∈ ks) → f n0 ≠ 0 → p n0 < 0 → (∀ n, f n ≠ 0 → p n < 0 → leS n0 n) → ∀ q H', Same H H' → H' q = some (.tup [.str "below", .str n0, .bl true]) → Q (.ref q) H') ∧
  ((∀ n, f n ≠ 0 → n ∈ ks) → (∀ n, f n ≠ 0 → 0 ≤ p n) → ∀ H', Same H H' → Q .non H')
section
variable {P : Program} {w : World} {K : PySem.W.Frag} {mg : Str → Option Value} {base : Heap} {A : Ad}
theorem xf_NoPrice (T : Txt K mg A) : XfC K A.NoPrice := ⟨T.xg_NoPrice, T.xk_NoPrice, T.eb_NoPrice, T.eh_NoPrice⟩
theorem excC_NoPrice (T : Txt K mg A) : ExcC K A.NoPrice := ⟨T.xg_NoPrice, T.xk_NoPrice, T.eb_NoPrice, T.eh_NoPrice, T.xa_NoPrice, T.xn_NoPrice, T.xt_NoPrice, T.xm_NoPrice⟩
theorem exm_NoPrice (T : Txt K mg A) : PySem.W.exmOne K (.ref A.NoPrice) (.ref A.NoPrice) = some true := PySem.W.exm_ref T.eb_NoPrice T.eh_NoPrice T.et_NoPrice T.es_NoPrice
theorem xf_Negative (T : Txt K mg A) : XfC K A.Negative := ⟨T.xg_Negative, T.xk_Negative, T.eb_Negative, T.eh_Negative⟩
theorem excC_Negative (T : Txt K mg A) : ExcC K A.Negative := ⟨T.xg_Negative, T.xk_Negative, T.eb_Negative, T.eh_Negative, T.xa_Negative, T.xn_Negative, T.xt_Negative, T.xm_Negative⟩
theorem exm_Negative (T : Txt K mg A) : PySem.W.exmOne K (.ref A.Negative) (.ref A.Negative) = some true := PySem.W.exm_ref T.eb_Negative T.eh_Negative T.et_Negative T.es_Negative
theorem xf_BadName (T : Txt K mg A) : XfC K A.BadName := ⟨T.xg_BadName, T.xk_BadName, T.eb_BadName, T.eh_BadName⟩
theorem excC_BadName (T : Txt K mg A) : ExcC K A.BadName := ⟨T.xg_BadName, T.xk_BadName, T.eb_BadName, T.eh_BadName, T.xa_BadName, T.xn_BadName, T.xt_BadName, T.xm_BadName⟩
theorem exm_BadName (T : Txt K mg A) : PySem.W.exmOne K (.ref A.BadName) (.ref A.BadName) = some true := PySem.W.exm_ref T.eb_BadName T.eh_BadName T.et_BadName T.es_BadName
theorem ok_l_refusal (T : Txt K mg A) : FnOk P w K mg base CX0 15 A.l_refusal A.fd_l_refusal P_l_refusal (spRefusal A.Form A.Ratio) := by
  refine T.F_l_refusal.ok sc_l_refusal (fun vs H Q E h => ?_) (fun cdv Ar outer s H vs Q E hr h => ?_)
  · obtain ⟨U, v, d, kv, ks, f, p, a, b, rfl, _⟩ := h
    rfl
  · obtain ⟨U, v, d, kv, ks, f, p, a, b, rfl, hF, hd, t, uok, sf, sp, hab, k1, k2, k3⟩ := h
    refine ⟨_, (pss_cons (ps_set (i := 2) sc_l_refusal.nd rfl (Or.inl rfl) pe_non)
      (pss_cons (ps_try2V (i := 3) rfl rfl sc_l_refusal.nd rfl rfl ⟨by rfl, by decide, .inl T.g_NoPrice⟩ ⟨by rfl, by decide, .inl T.g_Negative⟩ takes0 (fun W pn xe tk _ => (pss_one (ps_set (i := 2) sc_l_refusal.nd rfl (Or.inl rfl) (pe_methA (pv 0) T.cl_Form T.m_Form_at (ok_m_Form_at T) (hr.mono (by decide)) T.b_m_Form_at (fun σ => passAt tk σ) (pa_cons (pv 1) pa_nil))))) (fun a oe cls d pn hz hf => (pss_one (ps_ret (pe_tup (pa_cons pe_str (pa_cons (pe_xf (xf_NoPrice T) T.n_NoPrice_name hz hf (pv 3)) (pa_cons (pe_and (pe_callB (call_isEW hz hf) (by rfl) T.z_isinstance (by decide +kernel) (pa_cons (pv 3) (pa_cons (pe_glob (v := .ref A.CostError) (by rfl) T.g_CostError rfl) pa_nil))) (pe_one (pe_cmpR op_isN (pv 2) pe_non (nomark _)))) pa_nil))))))) (fun a oe cls d pn hz hf => (pss_one (ps_ret (pe_tup (pa_cons pe_str (pa_cons (pe_xf (xf_Negative T) T.n_Negative_name hz hf (pv 3)) (pa_cons (pe_and (pe_callB (call_isEW hz hf) (by rfl) T.z_isinstance (by decide +kernel) (pa_cons (pv 3) (pa_cons (pe_glob (v := .ref A.CostError) (by rfl) T.g_CostError rfl) pa_nil))) (pe_one (pe_cmpR op_isN (pv 2) pe_non (nomark _)))) pa_nil))))))) (fun _ _ _ => rfl) (fun _ _ _ _ _ => rfl) (fun _ _ _ _ _ => rfl))
      (pss_one (ps_ret pe_non)))), ?_⟩
    obtain ⟨p0, dx0, d0, ns, rfl, hp0, hd0, okf⟩ := id hF
    refine ⟨_, rfl, p0, dx0, _, rfl, hp0, rfl, _, rfl, U, _, d, kv, ks, f, p, a, b, rfl, hF, hd, t, uok, sf, sp, hab, fun n0 h1 h2 h3 dd H1 s1 hx => ?_, fun n0 h0 h1 h2 h3 dd H1 s1 hx => ?_, fun h1 h2 ns' v' H1 okn s1 iv => ?_⟩
    · refine ⟨true, exm_NoPrice T, fun e he _ => ?_, fun q => nomatch q⟩
      exact ⟨_, rfl, rfl, rfl, dd, _, _, rfl, hx, rfl, _, rfl, A.NoPrice, dd, _, _, _, _, rfl, rfl, hx, excC_NoPrice T, rfl, fun _ r => r, T.xc_NoPrice, true, rfl, iteT ⟨_, rfl, rfl, (by show 3 ≤ sizeLine; decide), fun q hq => k1 n0 h1 h2 h3 q _ (s1.trans (Same.new hq)) upd_same⟩⟩
    · refine ⟨false, T.nn_Negative, fun q => (nomatch q), fun _ => ⟨true, exm_Negative T, fun e he _ => ?_, fun q => nomatch q⟩⟩
      exact ⟨_, rfl, rfl, rfl, dd, _, _, rfl, hx, rfl, _, rfl, A.Negative, dd, _, _, _, _, rfl, rfl, hx, excC_Negative T, rfl, fun _ r => r, T.xc_Negative, true, rfl, iteT ⟨_, rfl, rfl, (by show 3 ≤ sizeLine; decide), fun q hq => k2 n0 h0 h1 h2 h3 q _ (s1.trans (Same.new hq)) upd_same⟩⟩
    · exact k3 h1 h2 H1 s1
end

/-! ### comparing and evaluating by the law's own -/
def spNever : Sp := fun vs H Q _ => ∃ (d1 d2 q : Addr) (kv1 kv2 : List (Key × V)) (ks1 ks2 ns : List Str) (f g : Fn) (za zb : Nat), vs = [.ref d1, .ref d2, .ref q] ∧ H d1 = some (.dK kv1) ∧ Tab IsP H kv1 ks1 f ∧ H d2 = some (.dK kv2) ∧ Tab IsP H kv2 ks2 g ∧ H q = some (.lst (ns.map V.str)) ∧ SzF za f ∧ SzF zb g ∧ za + zb ≤ 4000 ∧ ns.length ≤ 60 ∧
  ∀ (r : Bool) H', Same H H' → (r = true ↔ ∀ n ∈ ns, f n ≤ g n) → Q (.bl r) H'
def spValue : Sp := fun vs H Q _ => ∃ (d1 d2 : Addr) (kv1 kv2 : List (Key × V)) (ks1 ks2 : List Str) (f p : Fn) (za zb : Nat), vs = [.ref d1, .ref d2] ∧ H d1 = some (.dK kv1) ∧ Tab IsP H kv1 ks1 f ∧ H d2 = some (.dK kv2) ∧ Tab IsP H kv2 ks2 p ∧ (∀ n ∈ ks1, n ∈ ks2) ∧ SzF za f ∧ SzF zb p ∧ 1 + 31 * (za + zb + 1) ≤ 8000 ∧ ks1.length ≤ 30 ∧
  ∀ q H', Same H H' → H' q = some (.tup [.int (rsum (ks1.map fun n => f n * p n)).num, .int ((rsum (ks1.map fun n => f n * p n)).den : Int)]) → Q (.ref q) H'
def spPriceD : Sp := fun vs H Q _ => ∃ (g l : Addr), vs = [.ref g] ∧ Bag H g l ∧ ∀ (v : V) (q : Rat) (H' : Hp), Sz 67 q → 0 ≤ q → IsP H' v q → Bag H' g l → Kp g H H' → Q v H'
theorem rat_le {q r : Rat} : decide (r.num * (q.den : Int) < q.num * (r.den : Int)) = decide (¬ q ≤ r) := by
  rw [decide_eq_decide, Rat.not_le, Rat.lt_iff]
section
variable {P : Program} {w : World} {K : PySem.W.Frag} {mg : Str → Option Value} {base : Heap} {A : Ad}
theorem ok_l_never_greater (T : Txt K mg A) : FnOk P w K mg base CX0 1 A.l_never_greater A.fd_l_never_greater P_l_never_greater spNever := by
  refine T.F_l_never_greater.ok sc_l_never_greater (fun vs H Q E h => ?_) (fun cdv Ar outer s H vs Q E hr h => ?_)
  · obtain ⟨d1, d2, q, kv1, kv2, ks1, ks2, ns, f, g, za, zb, rfl, _⟩ := h
    rfl
  · obtain ⟨d1, d2, q, kv1, kv2, ks1, ks2, ns, f, g, za, zb, rfl, h1, t1, h2, t2, hq, sf, sg, hz, hl, k⟩ := h
    refine ⟨_, (pss_cons (ps_g (ps_for PassesOwn.never rfl (pi_list (pv 2)) (pg_name (i := 3) sc_l_never_greater.nd rfl (Or.inl rfl)) (pss_cons (ps_set (i := 4) sc_l_never_greater.nd rfl (Or.inl rfl) (pe_dget2 (hu_of hr) (pv 0) (pv 3) (pe_tup (pa_cons pe_int (pa_cons pe_int pa_nil))) ⟨rfl, rfl, rfl, rfl⟩))
      (pss_cons (ps_set (i := 5) sc_l_never_greater.nd rfl (Or.inl rfl) (pe_dget2 (hu_of hr) (pv 1) (pv 3) (pe_tup (pa_cons pe_int (pa_cons pe_int pa_nil))) ⟨rfl, rfl, rfl, rfl⟩))
      (pss_one (ps_if (pt_cmpR op_gt (pe_op op_mulW (pe_ix ix_tup (pv 4) pe_int (fun _ _ => rfl)) (pe_ix ix_tup (pv 5) pe_int (fun _ _ => rfl))) (pe_op op_mulW (pe_ix ix_tup (pv 5) pe_int (fun _ _ => rfl)) (pe_ix ix_tup (pv 4) pe_int (fun _ _ => rfl))) (nomark _)) (pss_one (ps_ret pe_bl)) pss_nil))))))
      (pss_one (ps_ret pe_bl))), ?_⟩
    refine ⟨⟨_, rfl, q, rfl, ⟨_, SqL.of hq⟩, for_list (xs := ns.map V.str) (fun i σ' H' => Wd (∃ (o3 o4 o5 : Option V), σ' = [some (.ref d1), some (.ref d2), some (.ref q), o3, o4, o5] ∧ Same H H' ∧ ∀ n ∈ ns.take i, f n ≤ g n)) ⟨none, none, none, rfl, Same.refl _, fun m hm => by simp at hm⟩ ?_ ?_ ?_⟩⟩
    · rintro i σ' H' _ ⟨o3, o4, o5, rfl, s', _⟩
      exact SqL.of (s' _ _ hq)
    · rintro i y σ' H2 hi ⟨o3, o4, o5, rfl, s2, hbef⟩
      obtain ⟨n, hn, rfl⟩ := names_at hi
      have dd1 : DD IsP H2 d1 ks1 f := (DD.of h1 t1).same okP s2
      have dd2 : DD IsP H2 d2 ks2 g := (DD.of h2 t2).same okP s2
      refine ⟨_, rfl, d1, rfl, dd1.isD, _, rfl, (by show 2 ≤ sizeLine; decide), fun p6 hp6 => ?_⟩
      obtain ⟨o, tq, hget, e, htq⟩ := get_pair dd1 hp6 n
      have s6 := Same.new (o := .tup [.int 0, .int 1]) hp6
      refine ⟨o, hget, ?_⟩
      rw [e]
      refine ⟨_, rfl, d2, rfl, (dd2.same okP s6).isD, _, rfl, (by show 2 ≤ sizeLine; decide), fun p7 hp7 => ?_⟩
      obtain ⟨o2, tq2, hget2, e2, htq2⟩ := get_pair (dd2.same okP s6) hp7 n
      have s7 := Same.new (o := .tup [.int 0, .int 1]) hp7
      refine ⟨o2, hget2, ?_⟩
      rw [e2]
      have htq7 := s7 _ _ htq
      have z1 := (sf n).1
      have z2 := (sf n).2
      have z3 := (sg n).1
      have z4 := (sg n).2
      refine ⟨_, rfl, tq, _, _, _, rfl, rfl, SqT.of htq7, rfl, _, rfl, tq2, _, _, _, rfl, rfl, SqT.of htq2, rfl, _, _, rfl, rfl, mulw z1 z4 (by omega), _, rfl, tq2, _, _, _, rfl, rfl, SqT.of htq2, rfl, _, rfl, tq, _, _, _, rfl, rfl, SqT.of htq7, rfl, _, _, rfl, rfl, mulw z3 z2 (by omega), _, _, rfl, rfl, _, rfl, ?_⟩
      show if decide ((g n).num * ((f n).den : Int) < (f n).num * ((g n).den : Int)) = true then _ else _
      rw [rat_le]
      refine if_dec (fun e => ?_) (fun e => ?_)
      · exact k false _ (s2.trans (s6.trans s7)) ⟨fun z => (nomatch z), fun z => absurd (z n (List.mem_of_getElem? hn)) e⟩
      · refine ⟨_, _, _, rfl, s2.trans (s6.trans s7), fun m hm => ?_⟩
        rw [take_more hn, List.mem_append, List.mem_singleton] at hm
        rcases hm with hm | rfl
        · exact hbef m hm
        · exact Classical.not_not.mp e
    · rintro σ' H2 ⟨o3, o4, o5, rfl, s2, hbef⟩
      rw [List.length_map, List.take_length] at hbef
      exact k true H2 s2 ⟨fun _ => hbef, fun _ => rfl⟩
theorem add_more {x u v : Rat} : Rat.divInt (x.num * ((u.den : Int) * (v.den : Int)) + u.num * v.num * (x.den : Int)) ((x.den : Int) * ((u.den : Int) * (v.den : Int))) = x + u * v := by
  have h0 : (x.den : Int) ≠ 0 := by have := x.den_nz; omega
  have h1 : (u.den : Int) ≠ 0 := by have := u.den_nz; omega
  have h2 : (v.den : Int) ≠ 0 := by have := v.den_nz; omega
  rw [← Rat.divInt_add_divInt _ _ h0 (Int.mul_ne_zero h1 h2), ← Rat.divInt_mul_divInt, Rat.num_divInt_den, Rat.num_divInt_den, Rat.num_divInt_den]
theorem ok_l_value (T : Txt K mg A) : FnOk P w K mg base CX0 3 A.l_value A.fd_l_value P_l_value spValue := by
  refine T.F_l_value.ok sc_l_value (fun vs H Q E h => ?_) (fun cdv Ar outer s H vs Q E hr h => ?_)
  · obtain ⟨d1, d2, kv1, kv2, ks1, ks2, f, p, za, zb, rfl, _⟩ := h
    rfl
  · obtain ⟨d1, d2, kv1, kv2, ks1, ks2, f, p, za, zb, rfl, h1, t1, h2, t2, hsub, sf, sp, hz, hl, k⟩ := h
    refine ⟨_, (pss_cons (ps_set (i := 2) sc_l_value.nd rfl (Or.inl rfl) pe_int)
      (pss_cons (ps_set (i := 3) sc_l_value.nd rfl (Or.inl rfl) pe_int)
      (pss_cons (ps_g (ps_lock (ps_for PassesOwn.never rfl (pi_keys (pv 0)) (pg_name (i := 4) sc_l_value.nd rfl (Or.inl rfl)) (pss_cons (ps_set (i := 5) sc_l_value.nd rfl (Or.inl rfl) (pe_op op_mulW (pe_ix ix_tup (pe_dget (hu_of hr) (pv 0) (pv 4) (fun _ _ => rfl)) pe_int (fun _ _ => rfl)) (pe_ix ix_tup (pe_dget (hu_of hr) (pv 1) (pv 4) (fun _ _ => rfl)) pe_int (fun _ _ => rfl))))
      (pss_cons (ps_set (i := 6) sc_l_value.nd rfl (Or.inl rfl) (pe_op op_mulW (pe_ix ix_tup (pe_dget (hu_of hr) (pv 0) (pv 4) (fun _ _ => rfl)) pe_int (fun _ _ => rfl)) (pe_ix ix_tup (pe_dget (hu_of hr) (pv 1) (pv 4) (fun _ _ => rfl)) pe_int (fun _ _ => rfl))))
      (pss_one (ps_asg (pe_call (ok_l_lowest T) (hr.mono (by decide)) (by rfl) T.g__law_lowest T.F_l_lowest.kp T.b_l_lowest .nil pass0 (pa_cons (pe_op op_add (pe_op op_mulW (pv 2) (pv 6)) (pe_op op_mulW (pv 5) (pv 3))) (pa_cons (pe_op op_mulW (pv 3) (pv 6)) pa_nil))) (pg_tup (n := 2) rfl (pgs_cons (pg_name (i := 2) sc_l_value.nd rfl (Or.inl rfl)) (pgs_cons (pg_name (i := 3) sc_l_value.nd rfl (Or.inl rfl)) pgs_nil))))))))))
      (pss_one (ps_ret (pe_tup (pa_cons (pv 2) (pa_cons (pv 3) pa_nil)))))))), ?_⟩
    refine ⟨⟨d1, .dK kv1, h1, trivial, fun od => ⟨_, rfl, d1, od, rfl, .inl ⟨kv1, upd_same, ?_⟩⟩⟩⟩
    have hdL : (upd H d1 (.frz od (.dK kv1))) d1 = some (.frz od (.dK kv1)) := upd_same
    have tL : Tab IsP (upd H d1 (.frz od (.dK kv1))) kv1 ks1 f := t1.mono okP (fx_lock h1)
    have tM : Tab IsP (upd H d1 (.frz od (.dK kv1))) kv2 ks2 p := t2.mono okP (fx_lock h1)
    have h2L : Rd (upd H d1 (.frz od (.dK kv1))) d2 (.dK kv2) := by
      by_cases e : d2 = d1
      · subst e
        rw [h1] at h2
        cases h2
        exact .inr ⟨od, hdL⟩
      · exact .inl (by rw [upd_ne e]; exact h2)
    generalize hHL : upd H d1 (.frz od (.dK kv1)) = HL at *
    refine for_it walk_keys (fun i σ' H' => Wd (∃ (o4 o5 o6 : Option V), σ' = [some (.ref d1), some (.ref d2), some (.int (rsum ((ks1.map fun n => f n * p n).take i)).num), some (.int ((rsum ((ks1.map fun n => f n * p n).take i)).den : Int)), o4, o5, o6] ∧ Same HL H' ∧ Sz (1 + i * (za + zb + 1)) (rsum ((ks1.map fun n => f n * p n).take i))))
      ⟨none, none, none, rfl, Same.refl _, by rw [Nat.zero_mul]; show Sz 1 (0 : Rat); exact ⟨by decide, by decide⟩⟩ (fun i σ' H' _ h => ?_) ?_ ?_
    · obtain ⟨o4, o5, o6, rfl, s', _⟩ := h.ok
      exact s' _ _ hdL
    · rintro i y σ' H2 H3 hi ⟨o4, o5, o6, rfl, s2, sx⟩ ⟨rfl, kk, vv, hkv, rfl⟩
      obtain ⟨n, rfl, hn⟩ := t1.key hkv
      have hnk := List.mem_of_getElem? hn
      obtain ⟨o, hget, hy, _⟩ := DD.get (R := IsP) (H := H3) (d := d1) ⟨kv1, .inr ⟨od, s2 _ _ hdL⟩, tL.mono okP (.same s2)⟩ n
      obtain ⟨w0, rfl, tp, rfl, htp⟩ := hy hnk
      obtain ⟨o2, hget2, hy2, _⟩ := DD.get (R := IsP) (H := H3) (d := d2) ⟨kv2, h2L.elim (fun z => .inl (s2 _ _ z)) (fun ⟨u, z⟩ => .inr ⟨u, s2 _ _ z⟩), tM.mono okP (.same s2)⟩ n
      obtain ⟨w2, rfl, tp2, rfl, htp2⟩ := hy2 (hsub n hnk)
      have z1 := (sf n).1
      have z2 := (sf n).2
      have z3 := (sp n).1
      have z4 := (sp n).2
      have hil : i < ks1.length := (List.getElem?_eq_some_iff.mp hn).1
      have hb : 1 + i * (za + zb + 1) + (za + zb + 1) ≤ 8000 := by
        have := Nat.mul_le_mul_right (za + zb + 1) (by omega : i + 1 ≤ 31)
        rw [Nat.add_mul, Nat.one_mul] at this
        omega
      have hd1 : ((f n).den : Int) ≠ 0 := by have := (f n).den_nz; omega
      have hd2 : ((p n).den : Int) ≠ 0 := by have := (p n).den_nz; omega
      have hd3 : ((rsum ((ks1.map fun n => f n * p n).take i)).den : Int) ≠ 0 := by have := (rsum ((ks1.map fun n => f n * p n).take i)).den_nz; omega
      have hat : (ks1.map fun n => f n * p n)[i]? = some (f n * p n) := by rw [List.getElem?_map, hn]; rfl
      refine ⟨_, rfl, _, rfl, d1, _, rfl, hget, tp, _, _, _, rfl, rfl, SqT.of htp, rfl, _, rfl, _, rfl, d2, _, rfl, hget2, tp2, _, _, _, rfl, rfl, SqT.of htp2, rfl, _, _, rfl, rfl, mulw z1 z3 (by omega), ?_⟩
      refine ⟨_, rfl, _, rfl, d1, _, rfl, hget, tp, _, _, _, rfl, rfl, SqT.of htp, rfl, _, rfl, _, rfl, d2, _, rfl, hget2, tp2, _, _, _, rfl, rfl, SqT.of htp2, rfl, _, _, rfl, rfl, mulw z2 z4 (by omega), ?_⟩
      refine ⟨_, rfl, _, rfl, _, _, rfl, rfl, mulw sx.1 (mul_lt z2 z4) (by omega), _, rfl, _, rfl, _, _, rfl, rfl, mulw (mul_lt z1 z3) sx.2 (by omega), _, _, rfl, rfl, _, rfl, _, rfl, _, _, rfl, rfl, mulw sx.2 (mul_lt z2 z4) (by omega), _, _, rfl, Int.mul_ne_zero hd3 (Int.mul_ne_zero hd1 hd2), lt_pow (mul_lt sx.2 (mul_lt z2 z4)) (by omega), fun p8 hp8 => ?_⟩
      dsimp only
      rw [add_more, ← rsum_more hat]
      refine ⟨p8, _, rfl, SqT.of upd_same, rfl, _, _, rfl, _, _, rfl, rfl, ?_⟩
      refine ⟨_, _, _, rfl, s2.trans (Same.new hp8), ?_⟩
      rw [rsum_more hat]
      exact (sx.add (Sz.mul0 (sf n) (sp n))).mono (by rw [Nat.add_mul, Nat.one_mul]; omega)
    · rintro σ' H2 ⟨o4, o5, o6, rfl, s2, sx⟩
      refine ⟨s2 _ _ hdL, ?_⟩
      have el : kv1.length = (ks1.map fun n => f n * p n).length := by rw [List.length_map]; exact t1.len
      rw [el, List.take_length]
      subst hHL
      have sB := same_back h1 s2
      refine ⟨_, rfl, _, rfl, (by show 2 ≤ sizeLine; decide), fun q hq => ?_⟩
      exact k q _ (sB.trans (Same.new hq)) upd_same
theorem ok_l_price (T : Txt K mg A) : FnOk P w K mg base CX0 3 A.l_price A.fd_l_price P_l_price spPriceD := by
  refine T.F_l_price.ok sc_l_price (fun vs H Q E h => ?_) (fun cdv Ar outer s H vs Q E hr h => ?_)
  · obtain ⟨g, l, rfl, _⟩ := h
    rfl
  · obtain ⟨g, l, rfl, B, k⟩ := h
    refine ⟨_, (pss_cons (ps_set (i := 1) sc_l_price.nd rfl (Or.inl rfl) (pe_call (ok_l_draw T) (hr.mono (by decide)) (by rfl) T.g__law_draw T.F_l_draw.kp T.b_l_draw .nil pass0 (pa_cons (pv 0) (pa_cons (pe_ix ix_list (pe_lst (pa_cons pe_int (pa_cons pe_int (pa_cons (pe_op op_pow pe_int pe_int) pa_nil)))) (pe_call (ok_l_draw T) (hr.mono (by decide)) (by rfl) T.g__law_draw T.F_l_draw.kp T.b_l_draw .nil pass0 (pa_cons (pv 0) (pa_cons pe_int pa_nil))) (fun _ _ => rfl)) pa_nil))))
      (pss_one (ps_ret (pe_call (ok_l_lowest T) (hr.mono (by decide)) (by rfl) T.g__law_lowest T.F_l_lowest.kp T.b_l_lowest .nil pass0 (pa_cons (pv 1) (pa_cons (pe_op op_add pe_int (pe_call (ok_l_draw T) (hr.mono (by decide)) (by rfl) T.g__law_draw T.F_l_draw.kp T.b_l_draw .nil pass0 (pa_cons (pv 0) (pa_cons (pe_ix ix_list (pe_lst (pa_cons pe_int (pa_cons pe_int pa_nil))) (pe_call (ok_l_draw T) (hr.mono (by decide)) (by rfl) T.g__law_draw T.F_l_draw.kp T.b_l_draw .nil pass0 (pa_cons (pv 0) (pa_cons pe_int pa_nil))) (fun _ _ => rfl)) pa_nil)))) pa_nil)))))), ?_⟩
    walk_at "go"
    intro p hp
    have B1 := B.new (o := .lst [V.int 2, V.int 9, V.int (10 ^ (20 : Int).toNat)]) hp
    refine ⟨_, rfl, g, l, 3, rfl, B1, by decide, by decide, fun c H1 c0 c1 B2 K1 => ?_⟩
    have K01 : Kp g H H1 := ((Kp.refl g H).new (o := .lst _) hp).trans K1
    have hp1 := K1 _ _ upd_same (B.ne hp).1
    obtain ⟨z, hz, z0, z1⟩ : ∃ z : Int, atI [V.int 2, V.int 9, V.int (10 ^ (20 : Int).toNat)] c = some (.int z) ∧ 0 < z ∧ z ≤ 100000000000000000000 := by
      have : c = 0 ∨ c = 1 ∨ c = 2 := by omega
      rcases this with rfl | rfl | rfl
      · exact ⟨2, rfl, by decide, by decide⟩
      · exact ⟨9, rfl, by decide, by decide⟩
      · exact ⟨10 ^ (20 : Int).toNat, rfl, by decide, by decide⟩
    have e67 : (2 : Nat) ^ 67 = 147573952589676412928 := by decide
    refine ⟨p, _, c, _, rfl, rfl, SqL.of hp1, hz, g, l, z, rfl, B2, z0, lt_pow (a := 67) (by omega) (by decide), fun tt H2 n0 n1 B3 K3 => ?_⟩
    walk_at "go"
    intro p2 hp2
    have B4 := B3.new (o := .lst [V.int 1, V.int 7]) hp2
    refine ⟨_, rfl, g, l, 2, rfl, B4, by decide, by decide, fun c2 H4 d0 d1 B5 K5 => ?_⟩
    have hp5 := K5 _ _ upd_same (B3.ne hp2).1
    obtain ⟨z', hz', z0', z1'⟩ : ∃ z : Int, atI [V.int 1, V.int 7] c2 = some (.int z) ∧ 0 < z ∧ z ≤ 7 := by
      have : c2 = 0 ∨ c2 = 1 := by omega
      rcases this with rfl | rfl
      · exact ⟨1, rfl, by decide, by decide⟩
      · exact ⟨7, rfl, by decide, by decide⟩
    refine ⟨p2, _, c2, _, rfl, rfl, SqL.of hp5, hz', g, l, z', rfl, B5, z0', lt_pow (a := 67) (by omega) (by decide), fun b H6 b0 b1 B6 K6 => ?_⟩
    refine ⟨_, _, rfl, rfl, tt, 1 + b, rfl, by omega, lt_pow (a := 67) (by omega) (by decide), fun r hr' => ?_⟩
    refine k (.ref r) (Rat.divInt tt (1 + b)) _ (Sz.div (by omega) (by omega) (by omega)) ?_ ⟨r, rfl, upd_same⟩ (B6.new hr') ?_
    · rw [Rat.divInt_nonneg_iff_of_pos_right (by omega)]
      exact n0
    · exact ((K01.trans K3).trans (((Kp.refl g H2).new (o := .lst _) hp2).trans (K5.trans K6))).new hr'
end

/-! ### _law_order_right -/
def spOrder (CF CR : Addr) : Sp := fun vs H Q _ => ∃ (U : List Str) (v u : V) (d1 d2 q : Addr) (kv1 kv2 : List (Key × V)) (ks1 ks2 : List Str) (f g : Fn) (za zb : Nat), vs = [v, u, .ref d1, .ref d2, .ref q] ∧ IsF CF CR U H v f ∧ IsF CF CR U H u g ∧ UOk U ∧ H d1 = some (.dK kv1) ∧ Tab IsP H kv1 ks1 f ∧ H d2 = some (.dK kv2) ∧ Tab IsP H kv2 ks2 g ∧ H q = some (.lst (U.map V.str)) ∧ SzF za f ∧ SzF zb g ∧ za + zb ≤ 2000 ∧ (∀ n, n ∉ U → f n = 0 ∧ g n = 0) ∧
  ∀ H', Same H H' → Q (.bl true) H'
theorem dl_bls {K : PySem.W.Frag} {H : Hp} {p : Addr} {bs : List Bool} (h : H p = some (.lst (bs.map V.bl))) : DL K H (.ref p) (.list (bs.map PyData.bool)) 1 :=
  ⟨.lst (SqL.of h) (dpAll_of fun x _ => .bl x), by unfold PyData.plain; exact plainAll_of fun x hx => by obtain ⟨y, _, rfl⟩ := List.mem_map.mp hx; rfl, depth_list fun x hx => by obtain ⟨y, _, rfl⟩ := List.mem_map.mp hx; exact Nat.le_refl _⟩
theorem bool_iff {a b : Bool} {p : Prop} (h1 : a = true ↔ p) (h2 : b = true ↔ p) : a = b := Bool.eq_iff_iff.mpr (h1.trans h2.symm)
section
variable {P : Program} {w : World} {K : PySem.W.Frag} {mg : Str → Option Value} {base : Heap} {A : Ad}
theorem ok_l_order_right (T : Txt K mg A) : FnOk P w K mg base CX0 10 A.l_order_right A.fd_l_order_right P_l_order_right (spOrder A.Form A.Ratio) := by
  refine T.F_l_order_right.ok sc_l_order_right (fun vs H Q E h => ?_) (fun cdv Ar outer s H vs Q E hr h => ?_)
  · obtain ⟨U, v, u, d1, d2, q, kv1, kv2, ks1, ks2, f, g, za, zb, rfl, _⟩ := h
    rfl
  · obtain ⟨U, v, u, d1, d2, q, kv1, kv2, ks1, ks2, f, g, za, zb, rfl, hF, hG, uok, h1, t1, h2, t2, hq, sf, sg, hz, hout, k⟩ := h
    refine ⟨_, (pss_cons (ps_set (i := 5) sc_l_order_right.nd rfl (Or.inl rfl) (pe_call (ok_l_never_greater T) (hr.mono (by decide)) (by rfl) T.g__law_never_greater T.F_l_never_greater.kp T.b_l_never_greater .nil pass0 (pa_cons (pv 2) (pa_cons (pv 3) (pa_cons (pv 4) pa_nil)))))
      (pss_cons (ps_set (i := 6) sc_l_order_right.nd rfl (Or.inl rfl) (pe_call (ok_l_never_greater T) (hr.mono (by decide)) (by rfl) T.g__law_never_greater T.F_l_never_greater.kp T.b_l_never_greater .nil pass0 (pa_cons (pv 3) (pa_cons (pv 2) (pa_cons (pv 4) pa_nil)))))
      (pss_cons (ps_if (pt_cmpR (op_neP hr.units) (pe_lst (pa_cons (pe_meth (pv 0) T.cl_Form T.m_Form_at_most (ok_m_Form_at_most T) (hr.mono (by decide)) T.b_m_Form_at_most .nil pass0 (pa_cons (pv 1) pa_nil)) (pa_cons (pe_meth (pv 1) T.cl_Form T.m_Form_at_most (ok_m_Form_at_most T) (hr.mono (by decide)) T.b_m_Form_at_most .nil pass0 (pa_cons (pv 0) pa_nil)) pa_nil))) (pe_lst (pa_cons (pv 5) (pa_cons (pv 6) pa_nil))) (nomark _)) (pss_one (ps_ret pe_bl)) pss_nil)
      (pss_one (ps_ret (pe_cmpR (op_eqP hr.units) (pe_lst (pa_cons (pe_meth (pv 0) T.cl_Form T.m_Form_same (ok_m_Form_same T) (hr.mono (by decide)) T.b_m_Form_same .nil pass0 (pa_cons (pv 1) pa_nil)) (pa_cons (pe_meth (pv 0) T.cl_Form T.m_Form_same (ok_m_Form_same T) (hr.mono (by decide)) T.b_m_Form_same .nil pass0 (pa_cons (pv 0) pa_nil)) (pa_cons (pe_meth (pv 0) T.cl_Form T.m_Form_at_most (ok_m_Form_at_most T) (hr.mono (by decide)) T.b_m_Form_at_most .nil pass0 (pa_cons (pv 0) pa_nil)) pa_nil)))) (pe_lst (pa_cons (pe_and (pv 5) (pe_one (pv 6))) (pa_cons pe_bl (pa_cons pe_bl pa_nil)))) (nomark _))))))), ?_⟩
    obtain ⟨p, dx, dd, ns, rfl, hp, _⟩ := id hF
    obtain ⟨p2, dx2, dd2, ns2, rfl, hp2, _⟩ := id hG
    have ul := uok.len
    have all : ∀ {a b : Fn}, (∀ n, n ∉ U → a n = 0 ∧ b n = 0) → ((∀ n ∈ U, a n ≤ b n) ↔ ∀ n, a n ≤ b n) := fun {a b} ho => ⟨fun z n => by
      by_cases hn : n ∈ U
      · exact z n hn
      · rw [(ho n hn).1, (ho n hn).2]
        exact Rat.le_refl, fun z n _ => z n⟩
    refine ⟨_, rfl, _, rfl, _, rfl, d1, d2, q, kv1, kv2, ks1, ks2, U, f, g, za, zb, rfl, h1, t1, h2, t2, hq, sf, sg, by omega, by omega, fun b1 H1 s1 e1 => ?_⟩
    refine ⟨_, rfl, _, rfl, _, rfl, d2, d1, q, kv2, kv1, ks2, ks1, U, g, f, zb, za, rfl, s1 _ _ h2, t2.mono okP (.same s1), s1 _ _ h1, t1.mono okP (.same s1), s1 _ _ hq, sg, sf, by omega, by omega, fun b2 H2 s2 e2 => ?_⟩
    have s12 := s1.trans s2
    refine ⟨_, rfl, p, dx, _, rfl, s12 _ _ hp, rfl, _, rfl, U, _, _, f, g, za, zb, rfl, hF.same s12, hG.same s12, uok, sf, sg, by omega, fun r1 H3 s3 i1 => ?_⟩
    have s13 := s12.trans s3
    refine ⟨_, rfl, p2, dx2, _, rfl, s13 _ _ hp2, rfl, _, rfl, U, _, _, g, f, zb, za, rfl, hG.same s13, hF.same s13, uok, sg, sf, by omega, fun r2 H4 s4 i2 => ?_⟩
    have s14 := s13.trans s4
    rw [all hout] at e1
    rw [all fun n hn => (hout n hn).symm] at e2
    obtain rfl := bool_iff i1 e1
    obtain rfl := bool_iff i2 e2
    refine ⟨(by show 2 ≤ sizeLine; decide), fun l1 hl1 => ?_⟩
    have s5 := Same.new (o := .lst [V.bl r1, .bl r2]) hl1
    refine ⟨_, rfl, _, rfl, (by show 2 ≤ sizeLine; decide), fun l2 hl2 => ?_⟩
    have s6 := Same.new (o := .lst [V.bl r1, .bl r2]) hl2
    refine ne_dl (dl_bls (bs := [r1, r2]) (s6 _ _ upd_same)) (dl_bls (bs := [r1, r2]) upd_same) (by decide) ⟨_, rfl, iteF ?_⟩
    have s16 := s14.trans (s5.trans s6)
    generalize upd (upd H4 l1 _) l2 _ = H6 at *
    refine ⟨_, rfl, p, dx, _, rfl, s16 _ _ hp, rfl, _, rfl, U, _, _, f, g, za, zb, rfl, hF.same s16, hG.same s16, uok, sf, sg, by omega, fun r3 H7 s7 i3 => ?_⟩
    have s17 := s16.trans s7
    refine ⟨_, rfl, p, dx, _, rfl, s17 _ _ hp, rfl, _, rfl, U, _, _, f, f, za, za, rfl, hF.same s17, hF.same s17, uok, sf, sf, by omega, fun r4 H8 s8 i4 => ?_⟩
    have s18 := s17.trans s8
    refine ⟨_, rfl, p, dx, _, rfl, s18 _ _ hp, rfl, _, rfl, U, _, _, f, f, za, za, rfl, hF.same s18, hF.same s18, uok, sf, sf, by omega, fun r5 H9 s9 i5 => ?_⟩
    have s19 := s18.trans s9
    obtain rfl : r4 = true := i4.mpr fun _ => rfl
    obtain rfl : r5 = true := i5.mpr fun _ => Rat.le_refl
    obtain rfl : (r1 && r2) = r3 := Bool.eq_iff_iff.mpr (by
      rw [Bool.and_eq_true, i1, i2, i3]
      exact ⟨fun z n => Rat.le_antisymm (z.1 n) (z.2 n), fun z => ⟨fun n => by rw [z n]; exact Rat.le_refl, fun n => by rw [z n]; exact Rat.le_refl⟩⟩)
    refine ⟨(by show 3 ≤ sizeLine; decide), fun l3 hl3 => ?_⟩
    have s10 := Same.new (o := .lst [V.bl (r1 && r2), .bl true, .bl true]) hl3
    refine ⟨_, rfl, r1, rfl, ?_⟩
    have fin : ∀ l4, (upd H9 l3 (.lst [V.bl (r1 && r2), .bl true, .bl true])) l4 = none → rEqP K (.ref l3) (.ref l4) (upd (upd H9 l3 (.lst [V.bl (r1 && r2), .bl true, .bl true])) l4 (.lst [V.bl (r1 && r2), .bl true, .bl true])) Q := fun l4 hl4 => by
      have s11 := Same.new (o := .lst [V.bl (r1 && r2), .bl true, .bl true]) hl4
      exact eq_dl (dl_bls (bs := [r1 && r2, true, true]) (s11 _ _ upd_same)) (dl_bls (bs := [r1 && r2, true, true]) upd_same) (by decide) (k _ (s19.trans (s10.trans s11)))
    cases r1 with
    | true =>
      refine iteT ⟨_, rfl, (by show 3 ≤ sizeLine; decide), fun l4 hl4 => fin l4 hl4⟩
    | false =>
      refine iteF ⟨(by show 3 ≤ sizeLine; decide), fun l4 hl4 => fin l4 hl4⟩
end

/-! ### defs called within an except suite: what ends an iterator is raised beside the handled error -/
section
open PySem.Spec PyProof.Rows
variable {prog : Program} {w : World} {A : Around} {E : Value → Shared → Prop} {s : Shared}
theorem hot_ne {x1 it : Addr} {h : Heap} {o o1 : Obj} {vs1 : Array Value} {a b : Value} (h1 : h.get? x1 = some o1) (d1 : o1.data = .fields vs1) (c1 : vs1[2]? = some .none) (ho : h.get? it = some o) (hd : o.data = .fields #[a, b]) : x1 ≠ it := fun e => by
  subst e
  rw [h1] at ho
  cases ho
  rw [d1] at hd
  cases hd
  cases c1
theorem next_list_endH {it l x1 : Addr} {i : Nat} {items : Array Value} {Q : Option Value → Shared → Prop} (hot : HotX.HotAt A x1 s.heap) (hit : s.heap.IsListIter it l i) (hl : s.heap.IsList l items) (hx : items[i]? = none)
    (hQ : ∀ h', Heap.ExtBut it s.heap h' → Q none { s with heap := h' }) : wpAny (model prog w) A (pyNext (.ref it)) Q E s := by
  obtain ⟨o, ho, hc, hd⟩ := id hit
  obtain ⟨ol, hol, _, nl, hdl⟩ := hl
  obtain ⟨hh, o1, vs1, h1, d1, c1⟩ := hot
  have hne := hot_ne h1 d1 c1 ho hd
  unfold pyNext
  refine wpAny_bind (wpAny_attempt (wpAny_callSpecial?_slot (name := Str.ofString "__next__") hit.typeIs slot_listiter_next (wpAny_call_entry slot_listiter_next hit.typeIs entry_listiter_next ?_ (args_listiter_next _))))
  show wpAny _ _ (field (.ref it) 0 >>= _) _ _ s
  refine wpAny_bind (wpAny_field ho hd (x := .ref l) rfl ?_)
  show wpAny _ _ (if (Value.ref l == Value.none) = true then _ else _) _ _ s
  rw [if_neg (show ¬ ((Value.ref l == Value.none) = true) from Bool.false_ne_true)]
  show wpAny _ _ (field (.ref it) 1 >>= _) _ _ s
  refine wpAny_bind (wpAny_field ho hd (x := .int i 0) rfl ?_)
  show wpAny _ _ (seqItems? (.ref l) >>= _) _ _ s
  refine wpAny_bind (wpAny_seqItems hol hdl ?_)
  simp only [Int.toNat_natCast, hx]
  refine wpAny_bind (wpAny_rule (wpAny_bind (wpAny_setField ho hd (by simp) ?_)))
  show wpAny _ _ (newExc (.type "StopIteration") [] >>= _) _ _ _
  refine wpAny_bind ?_
  simp only [newExc, newTuple]
  refine wpAny_bind (wpAny_newObj_type ?_ (by size_fits))
  refine wpAny_bind (m := firstArgMember _ _) (wpAny_of_eq (a := Value.none) (by first | rfl | (simp only [firstArgMember]; rfl)) ?_)
  refine wpAny_newObj_type ?_ (by size_fits)
  have h1' := (Heap.get?_update_other s.heap (Obj.mapFields (·.setIfInBounds 0 .none)) (Ne.symm hne)).trans h1
  refine HotX.raiseNew_hot ⟨hh, o1, vs1, Heap.get?_push_of_some _ (Heap.get?_push_of_some _ h1'), d1, c1⟩ (Nat.ne_of_lt (Heap.lt_size (Heap.get?_push_of_some _ h1'))) (Heap.get?_push_size _ rfl) rfl (by first | (simp; done) | (simp; omega) | (simp only [Array.size_append]; simp; omega)) ?_
  refine wpAny_bind (wpAny_isInstance (T := "StopIteration") (b := true) ⟨_, Heap.get?_update_self _ (Heap.get?_push_size _ rfl) rfl, rfl⟩ isSubtype_stop ?_)
  refine wpAny_pure (hQ _ fun b o hb e => ?_)
  have e1 := (Heap.get?_update_other s.heap (Obj.mapFields (·.setIfInBounds 0 .none)) (Ne.symm hb)).trans e
  rw [Heap.get?_update_other _ _ (Nat.ne_of_gt (Heap.lt_size (Heap.get?_push_of_some _ e1)))]
  exact Heap.get?_push_of_some _ (Heap.get?_push_of_some _ e1)
theorem next_tuple_endH {it t x1 : Addr} {i : Nat} {items : Array Value} {Q : Option Value → Shared → Prop} (hot : HotX.HotAt A x1 s.heap) (hit : IsTupIter s.heap it t i) (ht : IsTup s.heap t items) (hx : items[i]? = none)
    (hQ : ∀ h', Heap.ExtBut it s.heap h' → Q none { s with heap := h' }) : wpAny (model prog w) A (pyNext (.ref it)) Q E s := by
  obtain ⟨o, ho, hc, hd⟩ := id hit
  obtain ⟨ol, hol, _, nl, hdl⟩ := ht
  obtain ⟨hh, o1, vs1, h1, d1, c1⟩ := hot
  have hne := hot_ne h1 d1 c1 ho hd
  unfold pyNext
  refine wpAny_bind (wpAny_attempt (wpAny_callSpecial?_slot (name := Str.ofString "__next__") hit.typeIs slot_tupleiter_next (wpAny_call_entry slot_tupleiter_next hit.typeIs entry_tupleiter_next ?_ (args_tupleiter_next _))))
  show wpAny _ _ (field (.ref it) 0 >>= _) _ _ s
  refine wpAny_bind (wpAny_field ho hd (x := .ref t) rfl ?_)
  show wpAny _ _ (if (Value.ref t == Value.none) = true then _ else _) _ _ s
  rw [if_neg (show ¬ ((Value.ref t == Value.none) = true) from Bool.false_ne_true)]
  show wpAny _ _ (field (.ref it) 1 >>= _) _ _ s
  refine wpAny_bind (wpAny_field ho hd (x := .int i 0) rfl ?_)
  show wpAny _ _ (seqItems? (.ref t) >>= _) _ _ s
  refine wpAny_bind (wpAny_seqItems hol hdl ?_)
  simp only [Int.toNat_natCast, hx]
  refine wpAny_bind (wpAny_rule (wpAny_bind (wpAny_setField ho hd (by simp) ?_)))
  show wpAny _ _ (newExc (.type "StopIteration") [] >>= _) _ _ _
  refine wpAny_bind ?_
  simp only [newExc, newTuple]
  refine wpAny_bind (wpAny_newObj_type ?_ (by size_fits))
  refine wpAny_bind (m := firstArgMember _ _) (wpAny_of_eq (a := Value.none) (by first | rfl | (simp only [firstArgMember]; rfl)) ?_)
  refine wpAny_newObj_type ?_ (by size_fits)
  have h1' := (Heap.get?_update_other s.heap (Obj.mapFields (·.setIfInBounds 0 .none)) (Ne.symm hne)).trans h1
  refine HotX.raiseNew_hot ⟨hh, o1, vs1, Heap.get?_push_of_some _ (Heap.get?_push_of_some _ h1'), d1, c1⟩ (Nat.ne_of_lt (Heap.lt_size (Heap.get?_push_of_some _ h1'))) (Heap.get?_push_size _ rfl) rfl (by first | (simp; done) | (simp; omega) | (simp only [Array.size_append]; simp; omega)) ?_
  refine wpAny_bind (wpAny_isInstance (T := "StopIteration") (b := true) ⟨_, Heap.get?_update_self _ (Heap.get?_push_size _ rfl) rfl, rfl⟩ isSubtype_stop ?_)
  refine wpAny_pure (hQ _ fun b o hb e => ?_)
  have e1 := (Heap.get?_update_other s.heap (Obj.mapFields (·.setIfInBounds 0 .none)) (Ne.symm hb)).trans e
  rw [Heap.get?_update_other _ _ (Nat.ne_of_gt (Heap.lt_size (Heap.get?_push_of_some _ e1)))]
  exact Heap.get?_push_of_some _ (Heap.get?_push_of_some _ e1)
theorem HotAt.keep {x1 : Addr} {h h' : Heap} (hot : HotX.HotAt A x1 h) (k : ∀ o, h.get? x1 = some o → h'.get? x1 = some o) : HotX.HotAt A x1 h' := by
  obtain ⟨hh, o1, vs1, h1, d1, c1⟩ := hot
  exact ⟨hh, o1, vs1, k _ h1, d1, c1⟩
theorem unpackItemsH {t x1 : Addr} {items : Array Value} {Q : List Value → Shared → Prop} (hot : HotX.HotAt A x1 s.heap) (ht : IsTup s.heap t items)
    (hQ : ∀ h', Heap.ExtBut s.heap.objs.size s.heap h' → Q items.toList { s with heap := h' }) : wpAny (model prog w) A (unpackItems (.ref t) items.size none) Q E s := by
  have hlt : t ≠ s.heap.objs.size := by obtain ⟨o, ho, _⟩ := ht; exact Nat.ne_of_lt (Heap.lt_size ho)
  have hx1 : x1 ≠ s.heap.objs.size := by obtain ⟨_, o1, vs1, h1, _, _⟩ := hot; exact Nat.ne_of_lt (Heap.lt_size h1)
  unfold unpackItems
  refine wpAny_bind ?_
  unfold notIterableAtAll
  refine wpAny_bind (wpAny_specialOf ht.typeIs slot_tuple_iter.lookup ?_)
  refine wpAny_pure ?_
  simp only [Bool.false_eq_true, if_false]
  refine wpAny_bind (wpAny_holding (iter_tuple ht ?_))
  refine wpAny_bind (wpAny_holding (draw_tuple hlt items.size 0 _ _ ⟨_, Heap.get?_push_size _ rfl, rfl, rfl⟩ (ht.push _) (by omega) fun h₁ hit₁ hs₁ => ?_))
  have hall : List.take items.size (List.drop 0 items.toList) = items.toList := by
    rw [List.drop_zero]; exact List.take_of_length_le (by simp)
  rw [hall]
  rw [if_neg (by simp)]
  have ht₁ : IsTup h₁ t items := (ht.push _).extBut hs₁.extBut hlt
  have hot₁ : HotX.HotAt A x1 h₁ := HotAt.keep hot fun o e => hs₁.extBut x1 o hx1 (Heap.get?_push_of_some _ e)
  refine wpAny_bind (wpAny_holding (next_tuple_endH hot₁ hit₁ ht₁ (by simp) fun h₂ he₂ => ?_))
  simp only [Option.isSome_none, Bool.false_eq_true, if_false]
  refine wpAny_pure (hQ h₂ fun b o hb e => he₂ b o hb (hs₁.extBut b o hb (Heap.get?_push_of_some _ e)))
end
section
open PySem.Spec PyProof.Rows L2H
variable {X : Cx} {pos : Pos}
theorem _root_.L2H.RoomH.units {k : Nat} {A : Around} (r : L2H.RoomH k A) : A.units + 64 < cLine := by have := r.un; omega
theorem roomH_mark {j k : Nat} {A : Around} {v : Option Value} (r : Room k A) (h : j ≤ k) : L2H.RoomH j (A.mark v) := (L2H.RoomH.mk (A := A.mark v) r.dp r.un).mono h
/-- a statement that is never reached -/
theorem ps_never {st : Stmt} : PS X st (fun _ _ _ => False) := ⟨fun _ _ _ _ _ _ h => h.elim⟩
theorem h_tup {es : List Expr} {k : Nat} {t : TGs} {n : Nat} (hc : HotC X) (h : PGs X es t) (hn : (assignEach es X.env).length = n := by rfl) (hst : (assignEach es X.env).findIdx? (·.1) = none := by rfl) : PG X (.Tuple es k pos) (gTup X.K n t) := by
  refine ⟨fun pins s σ H v u Q I r hw => ?_⟩
  obtain ⟨a, xs, e1, hq, hl, hw⟩ := hw
  subst e1
  cases r
  obtain ⟨its, rv, ht, hz⟩ := I.tuple hq
  obtain ⟨x1, hot⟩ := hc.at I
  rw [assign_Tuple]
  refine wpAny_bind (wpAny_standAt ?_)
  unfold unpack
  rw [show (assignEach es X.env).length = its.toArray.size by simp [hn, ← hl, rv.length], hst]
  refine wpAny_bind (wpAny_holding (unpackItemsH hot ht fun h' hx => ?_))
  have I1 : Inv X pins σ H { s with heap := h' } := I.kept (t' := s.toks) fun b o e => hx b o (Nat.ne_of_lt (Heap.lt_size e)) e
  exact h.run pins _ σ H xs _ Q I1 (by simpa using rv) hw
theorem h_par {i j : Nat} {x y : Str} {a b : Expr} {ta : TA} {px py pt : Pos} {kt k2 pt2} (hc : HotC X) (hN : X.N.Nodup) (hi : X.N[i]? = some x) (hj : X.N[j]? = some y) (hij : i ≠ j)
    (hx : X.env.scope.names.lookup x = some .local) (hy : X.env.scope.names.lookup y = some .local) (ha : PA X [a, b] ta)
    (hw : swappedStores [.Tuple [.Name x px, .Name y py] kt pt] (.Tuple [a, b] k2 pt2) X.env = pure (some [x, y]))
    (hs : swapsWithSole [.Tuple [.Name x px, .Name y py] kt pt] (.Tuple [a, b] k2 pt2) pos.line X.env = pure false := by rfl) :
    PS X (.Assign [.Tuple [.Name x px, .Name y py] kt pt] (.Tuple [a, b] k2 pt2) pos) (tPar i j ta) := by
  refine ⟨fun pins s σ H D I h => ?_⟩
  rw [exec_Assign_arm]
  refine wpAny_bind (wpAny_standAt ?_)
  rw [hs]
  refine wpAny_bind (wpAny_pure ?_)
  rw [if_neg (by decide)]
  refine wpAny_bind (Tuple_ (thn (ha.run _ pins s σ H _ I h) fun us s1 ⟨vs, H1, I1, r1, q1⟩ => ?_))
  obtain ⟨v, w, e1, q1⟩ := q1
  subst e1
  obtain ⟨u1, u2, rfl, rv, rw'⟩ : ∃ u1 u2, us = [u1, u2] ∧ RelV v u1 ∧ RelV w u2 := by
    cases r1 with
    | cons p q =>
      cases q with
      | cons p' q' =>
        cases q'
        exact ⟨_, _, rfl, p, p'⟩
  refine wpAny_newObj_type ?_ (by show 2 ≤ sizeLine; decide)
  have I2 : Inv X pins σ H1 { s1 with heap := s1.heap.push { cls := .type "tuple", data := .seq [u1, u2].toArray } } := I1.kept (t' := s1.toks) fun b o e => Heap.get?_push_of_some _ e
  rw [hw]
  refine wpAny_bind (wpAny_pure ?_)
  show wpAny (model X.prog X.w) X.A (do rule "assign.swapped-stores"; let items ← unpackItems (.ref s1.heap.objs.size) 2 none; assignInOrder [fun v => bindName X.env y v, fun v => bindName X.env x v] items.reverse; pure Flow.next) _ _ _
  obtain ⟨x1, hot⟩ := hc.at I2
  refine wpAny_bind (wpAny_rule (wpAny_bind (unpackItemsH (items := #[u1, u2]) hot (IsTup.new s1.heap _) fun h' hx' => ?_)))
  have I3 := I2.kept (h' := h') (t' := s1.toks) fun b o e => hx' b o (Nat.ne_of_lt (Heap.lt_size e)) e
  show wpAny _ _ (assignInOrder [fun v => bindName X.env y v, fun v => bindName X.env x v] [u2, u1] >>= fun _ => pure Flow.next) _ _ _
  refine wpAny_bind (assignInOrder_cons (wpAny_bindName (store_ok I3 hN hj (.inl hy) rw' (fun s2 I4 => ?_) (.inr hy))))
  refine assignInOrder_cons (wpAny_bindName (store_ok I4 hN hi (.inl hx) rv (fun s3 I5 => assignInOrder_nil (wpAny_pure ?_)) (.inr hx)))
  rw [List.set_comm _ _ (Ne.symm hij)] at I5
  exact ⟨_, H1, I5, q1⟩
theorem h_turn {P : Program} {w : World} {K : PySem.W.Frag} {tg : Expr} (a it : Addr) : TurnH P w K tg (Itl K a) [it] it (fun i h => h.IsListIter it a i) where
  mem := by simp
  obj := (turn_list (P := P) (w := w) (K := K) (tg := tg) a it).obj
  keep := (turn_list (P := P) (w := w) (K := K) (tg := tg) a it).keep
  item := by
    intro X hP hw hK hc i pins s σ H E I hf st hg
    subst hP hw hK
    obtain ⟨xs, x, hq, hx⟩ := hg
    obtain ⟨its, rv, p, hz⟩ := I.list hq
    obtain ⟨u, hu, ru⟩ := rv.get hx
    obtain ⟨f0, f1, f2, f3, f4, f5⟩ := hf it (by simp)
    refine wpAny_pyNext_list_item st p.isList (x := u) (by simpa using hu) fun h' st' sb => ?_
    have I1 : Inv X pins σ H { s with heap := h' } := I.turned (t' := s.toks) (fun b o hb e => (sb.2 b hb).trans e) f0 f1 f3 f4 f5
    obtain ⟨o, e, c, d⟩ := id st'
    exact ⟨u, rfl, go_of (s := { s with heap := h' }) e c d (by decide) ⟨x, H, I1, ru, ⟨rfl, fun ys hy => by rw [I.list_inj hy hq]; exact hx⟩, st', fun b hb => (hf b hb).1⟩⟩
  done := by
    intro X hP hw hK hc i pins s σ H E I hf st hg
    subst hP hw hK
    obtain ⟨xs, hq, hx⟩ := hg
    obtain ⟨its, rv, p, hz⟩ := I.list hq
    obtain ⟨f0, f1, f2, f3, f4, f5⟩ := hf it (by simp)
    have hl := rv.length
    obtain ⟨x1, hot⟩ := hc.at I
    exact next_list_endH hot st p.isList (by simp; omega) fun h' eb => ⟨rfl, I.turned (t' := s.toks) (fun b o hb e => eb b o hb e) f0 f1 f3 f4 f5⟩
  self := fun _ _ _ _ _ st h => wpAny_pyIter_listiter st h
theorem h_list {tg l : Expr} {tl : TE} (hl : PE X l tl) : PIH X tg l (iList X.K tl) := by
  refine ⟨fun pins s σ H R I h => ?_⟩
  refine thn (hl.run pins s σ H _ I h) fun v s1 ⟨x, H1, I1, r1, q1⟩ => ?_
  obtain ⟨a, e, ⟨xs, hq⟩, q⟩ := q1
  subst e
  cases r1
  obtain ⟨its, rv, p, hz⟩ := I1.list hq
  refine wpAny_pyIter_list p.isList ?_
  refine ⟨s1.heap.objs.size, [s1.heap.objs.size], _, _, H1, rfl, I1.kept (t' := s1.toks) fun b o e => Heap.get?_push_of_some _ e, h_turn a _, ⟨_, Heap.get?_push_size _ rfl, rfl, rfl⟩, fun b hb => ?_, q⟩
  have e : b = s1.heap.objs.size := by simpa using hb
  subst e
  exact I1.fpOk (Nat.le_refl _) (I1.hok.fresh (Nat.le_refl _))
end
section
open PySem.Spec PyProof.Rows L2H
variable {X : Cx} {CX : CXT} {k : Nat} {f r C : Addr} {fd : FuncData} {ps : List Str} {sp : Sp} {E : XK} {dvs : List V} {ds : List Value} {nm : String} {op : Operator} {x m : Str} {p pos apos : Pos} {e o : Expr} {es : List Expr} {ta : TE} {t : TA}
theorem hpin_of {pins : List (Addr × Obj)} {σ : L2.St} {H : Hp} {s : Shared} {q : Addr × Obj} (I : Inv X pins σ H s) (hp : q ∈ X.pn) : PinOk X.stack H s q := by
  have P1 := I.pin q (List.mem_append_left _ hp)
  exact ⟨P1.1, P1.2.1, fun hm => (List.mem_cons.mp (I.stkSub q.1 hm)).elim P1.2.2.1 P1.2.2.2.1, P1.2.2.2.2⟩
theorem h_run {pins : List (Addr × Obj)} {σ : L2.St} {H : Hp} {s : Shared} {Q : VK} {us : List Value} {vs : List V} (F : FnH X.prog X.w X.K X.mg X.base CX k f fd ps sp) (hr : RoomH k X.A) (hc : HotC X) (hb : Binds X.K fd ps ds) (hd : Vals dvs ds) (hx : Passes CX X E)
    (I : Inv X pins σ H s) (r : Vals vs us) (h : sp (vs ++ dvs) H Q E) : wpAny (model X.prog X.w) X.A (call (.ref f) us) (EP X pins σ Q) X.xe s := by
  obtain ⟨q, hot, hp⟩ := hc
  have r2 : Vals (vs ++ dvs) (us ++ ds) := r.append hd
  have hl : (us ++ ds).length = ps.length := by rw [← r2.length]; exact F.len _ _ _ _ h
  refine wpAny_call (codeAny_mono (F.run X.A X.stack s H ⟨us, []⟩ (us ++ ds) (vs ++ dvs) Q E q hr hot (hpin_of I hp) I.env0 (hb s us I.kIn hl) r2 h) fun r s' hq => ?_)
  cases r with
  | error e => exact hx pins σ H s e s' I hq
  | ok fl =>
    cases fl with
    | ret u => exact I.after hq
    | next => exact False.elim hq
    | brk => exact False.elim hq
    | cont => exact False.elim hq
theorem h_call (F : FnH X.prog X.w X.K X.mg X.base CX k f fd ps sp) (hr : RoomH k X.A) (hc : HotC X) (hg : Gl X x) (hm : X.mg x = some (.ref f)) (hk : PySem.W.keepIn X.K (.ref f) = true) (hb : Binds X.K fd ps ds) (hd : Vals dvs ds) (hx : Passes CX X E)
    (ha : PA X (e :: es) t) (hdb : (x == ("__debug__" : Str)) = false := by decide) (he : starEach (e :: es) X.env = (false, eval e X.env) :: starEach es X.env := by rfl) (hpl : (backTo pos (starEach es X.env)).any (·.1) = false := by rfl) :
    PE X (.Call (.Name x p) (e :: es) [] pos) (tCall sp dvs E t) := by
  refine ⟨fun pins s σ H Q I h => ?_⟩
  refine wpAny_Call_Name_kw (ld_glob I hg hm ?_ hdb)
  refine PySem.W.callWith_K (h₀ := X.base) I.ok.mod.kin hk (thn (ha.run pos pins s σ H _ I h) fun us s1 ⟨vs, H1, I1, r, q⟩ => ⟨I1.kIn, ?_⟩) he hpl
  exact h_run F hr hc hb hd hx I1 r q
theorem h_meth {pl : Sem Bool} (he : PE X o ta) (c : Cls X.K C) (hm : Meth X.K C m f) (F : FnH X.prog X.w X.K X.mg X.base CX k f fd ps sp) (hr : RoomH k X.A) (hc : HotC X) (hb : Binds X.K fd ps ds) (hd : Vals dvs ds) (hx : Passes CX X E) (ha : PA X (e :: es) t)
    (hst : starEach (e :: es) X.env = (false, eval e X.env) :: starEach es X.env := by rfl) (hpl : (backTo pos (starEach es X.env)).any (·.1) = false := by rfl)
    (ht : eval (.Call (.Attribute o m apos) (e :: es) [] pos) X.env = (eval o X.env >>= fun ov => standAt apos.atName >>= fun _ => holding [ov] (getMethod ov m pl) >>= fun (f, first) =>
      callWith pos f first (backTo pos (starEach (e :: es) X.env)) (backToKw pos (keywordEach [] X.env))) := by rfl) :
    PE X (.Call (.Attribute o m apos) (e :: es) [] pos) (tMeth C m sp dvs E ta t) := by
  refine ⟨fun pins s σ H Q I h => ?_⟩
  refine PySem.W.methodCall_KW (pl := pl) (thn (he.run pins s σ H _ I h) fun u s1 ⟨x, H1, I1, rx, a, dx, fs, ex, ea, l, q⟩ => ?_) ht
  subst ex
  obtain rfl : u = Value.ref a := rx
  refine getmeth_ok I1 ea c hm l ?_
  refine PySem.W.callWith_K (first := [.ref a]) (h₀ := X.base) I.ok.mod.kin hm.kp (thn (ha.run pos pins s1 σ H1 _ I1 q) fun us s2 ⟨vs, H2, I2, r, q2⟩ => ⟨I2.kIn, ?_⟩) hst hpl
  exact h_run (us := .ref a :: us) (vs := .ref a :: vs) F hr hc hb hd hx I2 (.cons rfl r) q2
theorem roomH_make {k : Nat} {A : Around} (r : RoomH (k + 1) A) (C : Addr) (us : List Value) (kw : List (Str × Value)) : RoomH k (A.under (.builtin "type.__call__" ⟨.ref C :: us, kw⟩)) :=
  ⟨by have := r.dp; rw [make_depth]; omega, by have := r.un; rw [make_units]; omega⟩
theorem h_make (M : Mk X.K C f) (F : FnH X.prog X.w X.K X.mg X.base CX k f fd ps sp) (hr : RoomH (k + 1) X.A) (hc : HotC X) (hg : Gl X x) (hm : X.mg x = some (.ref C)) (hb : Binds X.K fd ps ds) (hd : Vals dvs ds) (hx : Passes CX X E)
    (ha : PA X (e :: es) t) (hdb : (x == ("__debug__" : Str)) = false := by decide) (he : starEach (e :: es) X.env = (false, eval e X.env) :: starEach es X.env := by rfl) (hpl : (backTo pos (starEach es X.env)).any (·.1) = false := by rfl) :
    PE X (.Call (.Name x p) (e :: es) [] pos) (tMake C sp dvs E t) := by
  refine ⟨fun pins s σ H Q I h => ?_⟩
  refine wpAny_Call_Name_kw (ld_glob I hg hm ?_ hdb)
  refine PySem.W.callWith_K (h₀ := X.base) I.ok.mod.kin M.kp (thn (ha.run pos pins s σ H _ I h) fun us s ⟨vs, H, I, r, h⟩ => ⟨I.kIn, ?_⟩) he hpl
  obtain ⟨q, hot, hp⟩ := hc
  have hq := h (s.heap.objs.size + 1) s.heap.objs.size (I.hok.fresh (Nat.le_succ _)) (I.hok.fresh (Nat.le_refl _)) (Nat.ne_of_lt (Nat.lt_succ_self _))
  have I2 := Inv.made (C := C) I
  have r2 : Vals (V.ref (s.heap.objs.size + 1) :: (vs ++ dvs)) (Value.ref (s.heap.objs.size + 1) :: (us ++ ds)) := .cons rfl (r.append hd)
  have hl : (Value.ref (s.heap.objs.size + 1) :: us ++ ds).length = ps.length := by
    have e := r2.length
    rw [F.len _ _ _ _ hq] at e
    exact e.symm
  refine wpAny_call (make_map (f := f) I.kIn M.makes M.init (beq_iff_eq.mp M.fn) (codeAny_mono (F.run _ X.stack _ _ ⟨Value.ref (s.heap.objs.size + 1) :: us, []⟩ (Value.ref (s.heap.objs.size + 1) :: (us ++ ds)) _ _ E q (roomH_make hr C us []) hot (hpin_of I2 hp)
    (I2.env0.make C us []) (hb _ (Value.ref (s.heap.objs.size + 1) :: us) I2.kIn hl) r2 hq) fun r s' hq' => ?_))
  cases r with
  | error e => exact hx pins σ _ _ e s' I2 hq'
  | ok fl =>
    cases fl with
    | ret u =>
      obtain ⟨v, H', I3, rv, ev, q3⟩ := I2.after hq'
      subst ev
      exact ⟨rv, ⟨V.ref (s.heap.objs.size + 1), H', I3, rfl, q3⟩⟩
    | next => exact False.elim hq'
    | brk => exact False.elim hq'
    | cont => exact False.elim hq'
theorem h_own (hop : op.info.2 = nm) (O : OwnOp X.K C f r nm) (F : FnH X.prog X.w X.K X.mg X.base CX k f fd ps sp) (hrm : RoomH k X.A) (hc : HotC X) (hb : Binds X.K fd ps []) (hx : Passes CX X E) : OpR X (binaryOp op) (rOwn C sp E) := by
  intro pins s σ H x y v u Q I rx ry h
  have one : wpAny (model X.prog X.w) X.A (binaryOp1 nm v u) (fun o s' => ∃ z, o = some z ∧ EP X pins σ Q z s') X.xe s := by
    obtain ⟨a, dx, fs, rfl, ha, hy, h⟩ := h.ok
    obtain rfl : v = Value.ref a := rx
    obtain ⟨mA, O1, _⟩ := ins_get I.hok ha
    obtain ⟨od, J, _⟩ := O1.look
    have fin : wpAny (model X.prog X.w) X.A (call (.ref f) [.ref a, u]) (PySem.W.CmpBack (EP X pins σ Q)) X.xe s :=
      thn (h_run (us := [.ref a, u]) (vs := [.ref a, y]) F hrm hc hb .nil hx I (.cons rfl (.cons ry .nil)) h) fun _ _ z => back_of z
    rcases hy with ⟨i, rfl⟩ | ⟨b, dy, gs, rfl, hb2⟩
    · obtain ⟨t, rfl⟩ := ry
      obtain ⟨fo, h1⟩ := O.h1
      obtain ⟨ro, h2⟩ := O.h2
      exact b1_int I.kIn J O.hc O.hs O.hf O.hr (.inr ⟨r, rfl⟩) h1 h2 O.sub fin
    · obtain rfl : u = Value.ref b := ry
      obtain ⟨mB, O2, _⟩ := ins_get I.hok hb2
      obtain ⟨od2, J2, _⟩ := O2.look
      exact b1_same I.kIn J J2.type O.hc O.hs O.hf fin
  rcases hi : op.info with ⟨sym, nm'⟩
  rw [hi] at hop
  cases hop
  simp only [binaryOp, hi]
  refine wpAny_holding (wpAny_bind (wpAny_mono one (fun o s' ho => ?_) fun _ _ e => e))
  obtain ⟨z, rfl, q⟩ := ho
  exact wpAny_pure q
theorem h_rown {id : String} {bi : Builtin} {nm2 : String} {g : Int → Int → Sem PySem.Fin} (hop : op.info.2 = nm) (O : OwnOp X.K C f r nm) (hfi : fillsNumberSlot (.type "int") nm = pure true) (slot : Slot "int" (PySem.dunder nm) id) (entry : entryFor table id = some bi)
    (args : ∀ p q, argsOk id ⟨[p, q], []⟩) (hbi : bi = Builtin.Int.intBinary nm2 g false) (F : FnH X.prog X.w X.K X.mg X.base CX k r fd ps sp) (hrm : RoomH k X.A) (hc : HotC X) (hb : Binds X.K fd ps []) (hx : Passes CX X E) : OpR X (binaryOp op) (rROwn C sp E) := by
  intro pins s σ H x y v u Q I rx ry h
  obtain ⟨i, b, dy, gs, rfl, rfl, hb2, h⟩ := h.ok
  obtain ⟨t, rfl⟩ := rx
  obtain rfl : u = Value.ref b := ry
  obtain ⟨mB, O2, _⟩ := ins_get I.hok hb2
  obtain ⟨od2, J2, _⟩ := O2.look
  have fin : wpAny (model X.prog X.w) X.A (call (.ref r) [.ref b, .int i t]) (PySem.W.CmpBack (EP X pins σ Q)) X.xe s :=
    thn (h_run (us := [.ref b, .int i t]) (vs := [.ref b, .int i]) F hrm hc hb .nil hx I (.cons rfl (.cons ⟨t, rfl⟩ .nil)) h) fun _ _ z => back_of z
  rcases hi : op.info with ⟨sym, nm'⟩
  rw [hi] at hop
  cases hop
  subst hbi
  have one := b1_rint (prog := X.prog) (w := X.w) (A := X.A) (E := X.xe) (Q := EP X pins σ Q) I.kIn J2 O.hc O.hs O.hr O.hg hfi O.sub2 slot entry (args _ _) (int_declines J2.at_) fin
  simp only [binaryOp, hi]
  refine wpAny_holding (wpAny_bind (wpAny_mono one (fun o s' ho => ?_) fun _ _ e => e))
  obtain ⟨z, rfl, q⟩ := ho
  exact wpAny_pure q
theorem h_un (hs : PySem.W.findIn X.K (.ref C) "__neg__" = some (some (.ref f))) (hf : PySem.W.isFn X.K (.ref f) = true) (F : FnH X.prog X.w X.K X.mg X.base CX k f fd ps sp) (hrm : RoomH k X.A) (hc : HotC X) (hb : Binds X.K fd ps []) (hx : Passes CX X E) :
    UnR X (unaryOp .USub) (fun x H Q => Wd (∃ a dx fs, x = .ref a ∧ H a = some (.ins C dx fs) ∧ sp [x] H Q E)) := by
  intro pins s σ H x v Q I rx h
  obtain ⟨a, dx, fs, rfl, ha, h⟩ := h.ok
  obtain rfl : v = Value.ref a := rx
  obtain ⟨mA, O1, _⟩ := ins_get I.hok ha
  obtain ⟨od, J, _⟩ := O1.look
  obtain ⟨m, fr⟩ := I.fr
  exact PySem.W.ksp_neg fr I.mod.kin J hs hf (h_run (us := [.ref a]) (vs := [.ref a]) F hrm hc hb .nil hx I (.cons rfl .nil) h)
end
section
open PySem.Spec PyProof.Rows L2H
variable {P : Program} {w : World} {K : PySem.W.Frag} {mg : Str → Option Value} {base : Heap}
theorem h_fun {x qual : Str} {st : Stmt} {f : Addr} {fd : FuncData} {N ps : List Str} {k : Nat} {sp : Sp} (F : Fun K x qual st f fd) (S : FnScope N ps (defScope st)) (len : ∀ vs H Q E, sp vs H Q E → vs.length = ps.length)
    (hbody : ∀ (cdv : Value) (A : Around) (outer : List Env) (s : Shared) (H : Hp) (vs : List V) (Q : VK) (E : XK) (p : Addr × Obj), HotC (cxH CX0 P w K mg base N qual (defScope st) f cdv A outer s H E p).nox → RoomH k (A.deeper (envOfC qual (defScope st) s.heap.objs.size f cdv)) → sp vs H Q E →
      ∃ t, PSs (cxH CX0 P w K mg base N qual (defScope st) f cdv A outer s H E p).nox (defBody st) t ∧ t { nx := fun _ H' => Q .non H', rt := Q } (start N vs) H) : FnH P w K mg base CX0 (k + 1) f fd ps sp := by
  obtain ⟨oc, od, kV, doc, pm, an, cdv, ct, osl, rfl, lk, hcd⟩ := F.ex
  refine fn_ofH lk hcd S len fun A outer s H vs Q E p hot hr hsp => ?_
  obtain ⟨t, h, q⟩ := hbody cdv A outer s H vs Q E p ⟨p, hot, List.mem_singleton.mpr rfl⟩ hr hsp
  exact ⟨t, h.nox, q⟩
theorem h_funD {x qual : Str} {params : Arguments} {body : List Stmt} {scope : Scope} {dvs : List V} {kws : List (Str × V)} {f : Addr} {fd : FuncData} {N ps : List Str} {k : Nat} {sp : Sp} (F : FunD K x qual params body scope dvs kws f fd) (S : FnScope N ps scope) (len : ∀ vs H Q E, sp vs H Q E → vs.length = ps.length)
    (hbody : ∀ (cdv : Value) (A : Around) (outer : List Env) (s : Shared) (H : Hp) (vs : List V) (Q : VK) (E : XK) (p : Addr × Obj), HotC (cxH CX0 P w K mg base N qual scope f cdv A outer s H E p).nox → RoomH k (A.deeper (envOfC qual scope s.heap.objs.size f cdv)) → sp vs H Q E →
      ∃ t, PSs (cxH CX0 P w K mg base N qual scope f cdv A outer s H E p).nox body t ∧ t { nx := fun _ H' => Q .non H', rt := Q } (start N vs) H) : FnH P w K mg base CX0 (k + 1) f fd ps sp := by
  obtain ⟨oc, od, dV, kV, doc, pm, an, cdv, ct, osl, rfl, lk, hcd, _, _⟩ := F.ex
  refine fn_ofH lk hcd S len fun A outer s H vs Q E p hot hr hsp => ?_
  obtain ⟨t, h, q⟩ := hbody cdv A outer s H vs Q E p ⟨p, hot, List.mem_singleton.mpr rfl⟩ hr hsp
  exact ⟨t, h.nox, q⟩
end

/-! ### errors whose context is known to be None: makes, defs, a try whose suite calls -/
section
open PySem.Spec PyProof.Rows
variable {X : Cx} {p pos : Pos} {e : Expr} {es : List Expr} {ta : TA}
theorem n_oex {CX : CXT} {x : Str} {C fI : Addr} {k : Nat} {fd : FuncData} {ps : List Str} {sp : Sp} {ds : List Value} {dvs : List V} (T : OexC X.K C) (iC : PySem.W.findIn X.K (.ref C) "__init__" = some (some (.ref fI))) (tI : PySem.W.typeIn X.K (.ref fI) = some (.type "function"))
    (F1 : FnOk X.prog X.w X.K X.mg X.base CX k fI fd ps sp) (hr : Room (k + 1) X.A) (hb : Binds X.K fd ps ds) (hd : Vals dvs ds) (hx : Passes CX X (fun _ _ _ => False)) (hg : Gl X x) (hm : X.mg x = some (.ref C)) (ha : PA X (e :: es) ta)
    (hdb : (x == ("__debug__" : Str)) = false := by decide) (he : starEach (e :: es) X.env = (false, eval e X.env) :: starEach es X.env := by rfl) (hpl : (backTo pos (starEach es X.env)).any (·.1) = false := by rfl) :
    L2N.PMk X (.Call (.Name x p) (e :: es) [] pos) (tMkO C sp dvs ta) := by
  intro pins s σ H Q I h
  obtain ⟨nm, q, N, bs, bm, sn, sub, ab, col, dd, k0, k1, k2, k3, k5, hC, hbm⟩ := T.cls
  refine wpAny_Call_Name_kw (ld_glob I hg hm ?_ hdb)
  refine PySem.W.callWith_K (h₀ := X.base) I.ok.mod.kin T.kC (thn (ha.run pos pins s σ H _ I h) fun us s1 ⟨vs, H1, I1, r1, hz, q1⟩ => ⟨I1.kIn, ?_⟩) he hpl
  show wpAny _ _ (call (.ref C) us) _ _ _
  obtain ⟨hp, g, dr, tk, os⟩ := s1
  have hsz : hp.objs.size ≤ hp.objs.size + 1 := Nat.le_succ _
  have hn : H1 (hp.objs.size + 1) = none := I1.hok.fresh hsz
  have hq := q1 (hp.objs.size + 1) hn
  have kk : ∀ b o, hp.get? b = some o → ((hp.push (PySem.W.kdv_tup us)).push (PySem.HandSPX.excO C hp.objs.size)).get? b = some o := fun b o e => Heap.get?_push_of_some _ (Heap.get?_push_of_some _ e)
  have hget : ((hp.push (PySem.W.kdv_tup us)).push (PySem.HandSPX.excO C hp.objs.size)).get? (hp.objs.size + 1) = some (PySem.HandSPX.excO C hp.objs.size) := by heap_get
  have I2 : Inv X pins σ (upd H1 (hp.objs.size + 1) (exo (hp.objs.size + 1) C none)) ⟨(hp.push (PySem.W.kdv_tup us)).push (PySem.HandSPX.excO C hp.objs.size), g, dr, tk, os⟩ :=
    I1.laid (t' := tk) (a := hp.objs.size + 1) (o := exo (hp.objs.size + 1) C none) (h' := (hp.push (PySem.W.kdv_tup us)).push (PySem.HandSPX.excO C hp.objs.size)) kk hsz (exo_ok hget)
  have r2 : Vals (V.ref (hp.objs.size + 1) :: (vs ++ dvs)) (Value.ref (hp.objs.size + 1) :: (us ++ ds)) := .cons rfl (r1.append hd)
  have hl : (Value.ref (hp.objs.size + 1) :: us ++ ds).length = ps.length := by
    have e := r2.length
    rw [F1.len _ _ _ _ hq] at e
    exact e.symm
  have hus : us.length ≤ sizeLine := by
    rw [← Paired.length r1, sizeLine_eq]
    omega
  refine wpAny_call (PySem.HandSPX.call_own PySem.F.excBase_ValueError (fun Y => PySem.HandSPX.refsVE_contains Y bm hbm) (I1.kIn _ _ hC) (PySem.W.looks_findIn I1.kIn iC) (fun self => PySem.W.bind_fn I1.kIn self tI) hus
    (codeAny_mono (F1.run _ X.stack _ _ ⟨Value.ref (hp.objs.size + 1) :: us, []⟩ (Value.ref (hp.objs.size + 1) :: (us ++ ds)) _ _ (fun _ _ _ => False) (hr.make C us []) (I2.env0.make C us []) (hb _ (Value.ref (hp.objs.size + 1) :: us) I2.kIn hl) r2 hq) fun r s' hq' => ?_))
  cases r with
  | error er => exact hx pins σ _ _ er s' I2 hq'
  | ok fl =>
    cases fl with
    | ret u =>
      obtain ⟨v, H2, os2, bare2, un2, hok2, rv, ev, d, fs, ea, ed, hd1, q2⟩ := hq'
      subst ev
      obtain ⟨h2, g2, d2, t2, os'⟩ := s'
      obtain ⟨t0, G, J, kG, ge, hoe, na⟩ := mk_end0 (d2 := d2) (t2 := t2) I1 hsz kk un2 hok2 os2 bare2 ea ed hd1
      refine ⟨rv, ⟨hp.objs.size + 1, _, _, ⟨G, g2, d2, t2, os'⟩, _, .ref C, some d, rfl, J, kG, ge, hoe, ⟨rfl, rfl, fun vs hv => ?_⟩, rfl, rfl, na, rfl, bare2, raises_own T.exC T.tyC, q2⟩⟩
      cases hv
      rfl
    | next => exact False.elim hq'
    | brk => exact False.elim hq'
    | cont => exact False.elim hq'
theorem n_takes0 {X : Cx} : L2N.Takes X (fun _ _ _ _ => False) := fun _ _ x => by
  obtain ⟨_, _, _, _, _, _, _, _, _, _, _, _, _, _, _, _, z⟩ := x
  exact z.elim
variable {x n : Str} {c : Value} {i : Nat} {body suite : List Stmt} {b0 : Stmt} {np pos' : Pos} {Wout : WX}
  {tb : WX → List (Addr × Obj) → (Value → Shared → Prop) → TS} {ts : Addr → Obj → Value → Option Addr → List (Addr × Obj) → TS}
theorem n_try (hs : X.stack = X.env :: X.outer) (hf : X.env.frame = some X.env.locals) (hN : X.N.Nodup) (hi : X.N[i]? = some n) (hln : X.env.kindOf n = some .local) (hc : Names X x c) (tk : L2N.Takes X Wout)
    (hb : ∀ (W : WX) (pn : List (Addr × Obj)) (xe : Value → Shared → Prop), L2N.Takes (X.tr pn xe) W → PassesOwn (model X.prog X.w) X.A X.env xe → PSs (X.tr pn xe) body (tb W pn xe))
    (hsu : ∀ (a : Addr) (oe : Obj) (cls : Value) (d : Option Addr) (pn : List (Addr × Obj)), Zc cls d oe → (∃ vs, oe.data = .fields vs) → L2H.HotC (X.suite a ((a, oe) :: pn)) → PSs (X.suite a ((a, oe) :: pn)) (b0 :: suite) (ts a oe cls d pn))
    (e1 : ∀ W pn xe, tb W pn xe = tb W [] (fun _ _ => False)) (e2 : ∀ a oe cls d pn, ts a oe cls d pn = ts a oe0 cls d []) :
    PS X (.Try body [.ExceptHandler (some (.Name x np)) (some n) (b0 :: suite) pos'] [] [] pos) (fun D σ H => tb (wAs X.K c i (fun a cls d => ts a oe0 cls d []) Wout D) [] (fun _ _ => False) D σ H) :=
  L2N.ps_try_as (tb := fun W => tb W [] (fun _ _ => False)) (ts := fun a cls d => ts a oe0 cls d []) hs hf hN hi hln hc tk (fun W pn xe k po => by rw [← e1 W pn xe]; exact hb W pn xe k po)
    (fun a oe cls d pn z f => by
      rw [← e2 a oe cls d pn]
      obtain ⟨vs, hvs⟩ := f
      exact hsu a oe cls d pn z.zc ⟨vs, hvs⟩ ⟨(a, oe), ⟨rfl, vs, hvs, z.2.2 vs hvs⟩, List.mem_cons_self⟩)
variable {P : Program} {w : World} {K : PySem.W.Frag} {mg : Str → Option Value} {base : Heap}
theorem n_fun {x qual : Str} {st : Stmt} {f : Addr} {fd : FuncData} {N ps : List Str} {k : Nat} {sp : Sp} (F : Fun K x qual st f fd) (S : FnScope N ps (defScope st)) (len : ∀ vs H Q E, sp vs H Q E → vs.length = ps.length)
    (hbody : ∀ (cdv : Value) (A : Around) (outer : List Env) (s : Shared) (H : Hp) (vs : List V) (Q : VK) (E : XK), Room k (A.deeper (envOfC qual (defScope st) s.heap.objs.size f cdv)) → sp vs H Q E →
      ∃ t, PSs (cxOf (L2N.CX P w) P w K mg base N qual (defScope st) f cdv A outer s H E) (defBody st) t ∧ t { nx := fun _ H' => Q .non H', rt := Q } (start N vs) H) : FnOk P w K mg base (L2N.CX P w) (k + 1) f fd ps sp := by
  obtain ⟨oc, od, kV, doc, pm, an, cdv, ct, osl, rfl, lk, hcd⟩ := F.ex
  exact fn_of lk hcd S len fun A outer s H vs Q E hr hsp => hbody cdv A outer s H vs Q E hr hsp
end

/-! ### [e for x in xs if ..] within an except suite -/
section
open PySem.Spec PyProof.Rows L2H
structure TurnZ (P : Program) (w : World) (K : PySem.W.Frag) (tg : Expr) (J : It) (fp : List Addr) (it : Addr) (tn : Nat → Heap → Prop) : Prop where
  obj : ∀ i h, tn i h → ∀ b ∈ fp, ∃ o, h.get? b = some o ∧ ∀ v, o.data ≠ .cell v
  keep : ∀ i h h', tn i h → (∀ b ∈ fp, ∀ o, h.get? b = some o → h'.get? b = some o) → tn i h'
  item : ∀ (Y : Cx), Y.prog = P → Y.w = w → Y.K = K → ∀ (i : Nat) (pins : List (Addr × Obj)) (s : Shared) (σ : L2.St) (H : Hp) (E : Value → Shared → Prop), Inv Y pins σ H s → (∀ b ∈ fp, FpOk Y pins H b) → tn i s.heap → J.go i H →
    wpAny (model P w) Y.A (pyNext (.ref it)) (fun r t => ∃ u, r = some u ∧ wpAny (model P w) Y.A (letOwnedTupleGo tg (.ref it) u) (fun _ t2 => ∃ x H', Inv Y pins σ H' t2 ∧ RelV x u ∧ J.yld i H x H' ∧ tn (i + 1) t2.heap ∧ ∀ b ∈ fp, H' b = none) E t) E s
  done : ∀ (Y : Cx), Y.prog = P → Y.w = w → Y.K = K → ∀ (x1 : Addr) (i : Nat) (pins : List (Addr × Obj)) (s : Shared) (σ : L2.St) (H : Hp) (E : Value → Shared → Prop), HotX.HotAt Y.A x1 s.heap → Inv Y pins σ H s → (∀ b ∈ fp, FpOk Y pins H b) → tn i s.heap → J.stop i H →
    wpAny (model P w) Y.A (pyNext (.ref it)) (fun r t => r = none ∧ Inv Y pins σ H t) E s
  self : ∀ (A : Around) (i : Nat) (s : Shared) (Q : Value → Shared → Prop) (E : Value → Shared → Prop), tn i s.heap → Q (.ref it) s → wpAny (model P w) A (pyIter (.ref it)) Q E s
theorem z_turn {P : Program} {w : World} {K : PySem.W.Frag} {tg : Expr} (a it : Addr) : TurnZ P w K tg (Itl K a) [it] it (fun i h => h.IsListIter it a i) where
  obj := (turn_list (P := P) (w := w) (K := K) (tg := tg) a it).obj
  keep := (turn_list (P := P) (w := w) (K := K) (tg := tg) a it).keep
  item := by
    intro Y hP hw hK i pins s σ H E I hf st hg
    subst hP hw hK
    obtain ⟨xs, x, hq, hx⟩ := hg
    obtain ⟨its, rv, p, hz⟩ := I.list hq
    obtain ⟨u, hu, ru⟩ := rv.get hx
    obtain ⟨f0, f1, f2, f3, f4, f5⟩ := hf it (by simp)
    refine wpAny_pyNext_list_item st p.isList (x := u) (by simpa using hu) fun h' st' sb => ?_
    have I1 : Inv Y pins σ H { s with heap := h' } := I.turned (t' := s.toks) (fun b o hb e => (sb.2 b hb).trans e) f0 f1 f3 f4 f5
    obtain ⟨o, e, c, d⟩ := id st'
    exact ⟨u, rfl, go_of (s := { s with heap := h' }) e c d (by decide) ⟨x, H, I1, ru, ⟨rfl, fun ys hy => by rw [I.list_inj hy hq]; exact hx⟩, st', fun b hb => (hf b hb).1⟩⟩
  done := by
    intro Y hP hw hK x1 i pins s σ H E hot I hf st hg
    subst hP hw hK
    obtain ⟨xs, hq, hx⟩ := hg
    obtain ⟨its, rv, p, hz⟩ := I.list hq
    obtain ⟨f0, f1, f2, f3, f4, f5⟩ := hf it (by simp)
    have hl := rv.length
    exact next_list_endH hot st p.isList (by simp; omega) fun h' eb => ⟨rfl, I.turned (t' := s.toks) (fun b o hb e => eb b o hb e) f0 f1 f3 f4 f5⟩
  self := fun _ _ _ _ _ st h => wpAny_pyIter_listiter st h
variable {X : Cx}
theorem hlc_go {pins : List (Addr × Obj)} {s : Shared} {σ : L2.St} {H : Hp} {Q : VK} {el tg l : Expr} {ifs : List Expr} {sc : Scope} {mine : List (PySem.Str × Nat)} {pos p1 : Pos} {tl : TE} {g : TG} {tt : TT} {te : TE} {Qf : Value → Shared → Prop}
    (hot : HotC X) (nd : X.N.Nodup) (I : Inv X pins σ H s) (hl : PE X l tl) (ok : BlkOk X.N X.env.scope sc mine) (hg : ∀ t h C cl fp, PG (X.blk t h sc (compEnvC sc cl C X.env) fp) tg g) (ht : ∀ t h C cl fp, PTs (X.blk t h sc (compEnvC sc cl C X.env) fp) ifs tt)
    (he : ∀ t h C cl fp, PE (X.blk t h sc (compEnvC sc cl C X.env) fp) el te) (hs : ∀ x, foldedSetIterable l X.env x = pure x) (rd : tLc (iList X.K tl) g tt te (mine.map (·.2)) σ H Q)
    (last : ∀ D C t m H', Inv X pins σ H' t → Q (.ref D) H' → t.heap.Ns C m → FpOk X pins H' C → compPost (model X.prog X.w) X.A X.xe none Qf (.ref D) C (.ok .next) t) :
    wpAny (model X.prog X.w) X.A (comprehension (.ListComp el [⟨tg, l, ifs, 0⟩] sc pos) sc X.env p1 (newList []) false (eval l X.env) none) Qf X.xe s := by
  have bound : ∀ y ∈ sc.names, y.2 = .free → ∃ c, X.env.cells.lookup y.1 = some c := fun y hy e => (ok.free y hy e).elim (fun k => I.ok.has _ (.inl k)) fun k => I.ok.has _ (.inr k)
  obtain ⟨px, ⟨hh, v1, ev1, cv1⟩, pin⟩ := hot
  refine wpAny_comprehension_free (use := none) rfl hs (closure_ok bound) ok.kind (fun y hy e => by rw [ok.uniq y hy, e]) (thn (hl.run pins s σ H _ I rd) fun v sa ha => ?_)
  obtain ⟨x, Ha, Ia, rx, a, rfl, ⟨xs, hxs⟩, go⟩ := ha
  cases rx
  obtain ⟨its, rv, pl, _⟩ := Ia.list hxs
  refine wpAny_pyIter_list pl.isList ?_
  have I0 : Inv X pins σ Ha { sa with heap := sa.heap.push { cls := .type "list_iterator", data := .fields #[.ref a, .int 0 0] } } := Ia.kept (t' := sa.toks) fun b o e => Heap.get?_push_of_some _ e
  have st0 : (sa.heap.push { cls := .type "list_iterator", data := .fields #[.ref a, .int 0 0] }).IsListIter sa.heap.objs.size a 0 := ⟨_, Heap.get?_push_size _ rfl, rfl, rfl⟩
  have f0 : FpOk X pins Ha sa.heap.objs.size := Ia.fpOk (Nat.le_refl _) (Ia.hok.fresh (Nat.le_refl _))
  have T := z_turn (P := X.prog) (w := X.w) (K := X.K) (tg := tg) a sa.heap.objs.size
  have fp0 : ∀ b ∈ [sa.heap.objs.size], FpOk X pins Ha b := fun b hb => by rw [List.mem_singleton] at hb; subst hb; exact f0
  generalize eit : sa.heap.objs.size = it at *
  generalize esb : ({ sa with heap := sa.heap.push { cls := .type "list_iterator", data := .fields #[.ref a, .int 0 0] } } : Shared) = sb at I0 ⊢
  have ebh : sa.heap.push { cls := .type "list_iterator", data := .fields #[.ref a, .int 0 0] } = sb.heap := by rw [← esb]
  rw [ebh] at st0
  refine wpAny_newObj_type (newEnv_comp ?_) (by show 0 ≤ sizeLine; decide)
  have lts : ∀ b ∈ [it], b < sb.heap.objs.size := fun b hb => by
    obtain ⟨o, e, _⟩ := T.obj _ _ st0 b hb
    exact Heap.lt_size e
  have Dn : Ha sb.heap.objs.size = none := I0.hok.fresh (Nat.le_refl _)
  obtain ⟨W, ⟨m0, w0⟩, turn⟩ := go _ Dn
  have grows : ∀ b o, sb.heap.get? b = some o → (sb.heap.push { cls := .type "list", data := .seq ([] : List Value).toArray }).get? b = some o := fun b o e => Heap.get?_push_of_some _ e
  have Ic : Inv X pins σ (upd Ha sb.heap.objs.size (.lst [])) { sb with heap := sb.heap.push { cls := .type "list", data := .seq ([] : List Value).toArray } } := I0.laid (t' := sb.toks) grows (Nat.le_refl _) ⟨Nat.zero_le _, [], 0, .nil, Heap.get?_push_size _ rfl⟩
  have stc : (sb.heap.push { cls := .type "list", data := .seq ([] : List Value).toArray }).IsListIter it a 0 := T.keep 0 _ _ st0 fun b _ o e => grows b o e
  have fc : ∀ b ∈ [it], FpOk X pins (upd Ha sb.heap.objs.size (.lst [])) b ∧ b < (sb.heap.push { cls := .type "list", data := .seq ([] : List Value).toArray }).objs.size := fun b hb => by
    refine ⟨⟨?_, (fp0 b hb).2⟩, by rw [Heap.size_push]; exact Nat.lt_succ_of_lt (lts b hb)⟩
    rw [upd_ne (Nat.ne_of_lt (lts b hb))]; exact (fp0 b hb).1
  generalize sb.heap.objs.size = D at *
  generalize esc : ({ sb with heap := sb.heap.push { cls := .type "list", data := .seq ([] : List Value).toArray } } : Shared) = s3 at Ic ⊢
  have ech : sb.heap.push { cls := .type "list", data := .seq ([] : List Value).toArray } = s3.heap := by rw [← esc]
  rw [ech] at stc fc
  have Id := block_start Ic ok nd fc
  have nfp : ∀ b ∈ [it], (upd Ha D (.lst [])) b = none := fun b hb => (fc b hb).1.1
  have pinned := Ic.pin px (List.mem_append_left _ pin)
  have pnofs : px.1 ∉ frs X.stack := fun hm => (List.mem_cons.mp (Ic.stkSub px.1 hm)).elim pinned.2.2.1 pinned.2.2.2.1
  have pnfp : px.1 ∉ [it] := fun hm => (fc px.1 hm).1.2.2.2.2.2 px (List.mem_append_left _ pin) rfl
  generalize ekl : cellsFrom (s3.heap.objs.size + 1) sc.names (cloFrom X.env.cells sc.names []) = kl at Id
  have pg := hg s3 (upd Ha D (.lst [])) s3.heap.objs.size kl [it]
  have pt := ht s3 (upd Ha D (.lst [])) s3.heap.objs.size kl [it]
  have pe := he s3 (upd Ha D (.lst [])) s3.heap.objs.size kl [it]
  have fin : codeAny (model X.prog X.w) X.A (.compStart (.ListComp el [⟨tg, l, ifs, 0⟩] sc pos) 0 (.ref it) (.ref D) (compEnvC sc kl s3.heap.objs.size X.env)) (compPost (model X.prog X.w) X.A X.xe none Qf (.ref D) s3.heap.objs.size) { s3 with heap := pushCells (s3.heap.push { cls := .type "dict", data := .dict #[] }) sc.names } := by
    have loc : (compEnvC sc kl s3.heap.objs.size X.env).locals = s3.heap.objs.size := rfl
    generalize compEnvC sc kl s3.heap.objs.size X.env = ce at Id pg pt pe loc ⊢
    generalize upd Ha D (.lst []) = Hb at Ic Id pg pt pe w0 nfp fc pinned
    generalize est : ({ s3 with heap := pushCells (s3.heap.push { cls := .type "dict", data := .dict #[] }) sc.names } : Shared) = t0 at Id ⊢
    have stt : t0.heap.IsListIter it a 0 := T.keep 0 _ _ stc fun b _ o e => by rw [← est]; exact pushCells_keeps _ _ _ _ (Heap.get?_push_of_some _ e)
    have still : ∀ {τ : L2.St} {G : Hp} {t : Shared}, Inv (X.blk s3 Hb sc ce [it]) [] τ G t → (∀ b ∈ [it], G b = none) → ∀ b ∈ [it], FpOk (X.blk s3 Hb sc ce [it]) [] G b := fun {τ G t} J1 hn b hb =>
      ⟨hn b hb, (J1.ok.exf b hb).1, J1.ok.exfs b hb, .inl hb, fun x c e => (J1.ok.exf b hb).2 x c e, fun p hp => by cases (show p ∈ ([] : List (Addr × Obj)) from hp)⟩
    have hotT : ∀ {τ : L2.St} {G : Hp} {t : Shared}, Inv (X.blk s3 Hb sc ce [it]) [] τ G t → HotX.HotAt X.A px.1 t.heap := fun {τ G t} J1 => ⟨hh, px.2, v1, J1.base.keep px.1 px.2 pinned.1 pinned.2.1 pnofs pnfp, ev1, cv1⟩
    have loop : codeAny (model X.prog X.w) X.A (.compLoop (.ListComp el [⟨tg, l, ifs, 0⟩] sc pos) 0 (.ref it) (.ref D) ce) (compPost (model X.prog X.w) X.A X.xe none Qf (.ref D) s3.heap.objs.size) t0 := by
      refine compLoop_any (fun n t => ∃ i G, Inv (X.blk s3 Hb sc ce [it]) [] (wipe σ (mine.map (·.2))) G t ∧ t.heap.IsListIter it a i ∧ (∀ b ∈ [it], G b = none) ∧ W i n G) ?_ m0 ⟨0, Hb, Id, stt, nfp, w0⟩
      rintro n t1 ⟨i, G1, J1, st1, n1, w1⟩
      rcases turn i n G1 w1 with ⟨stop, qq⟩ | ⟨more, Nx, less, step⟩
      · refine thnF (T.done (X.blk s3 Hb sc ce [it]) rfl rfl rfl px.1 i [] t1 _ G1 (fun _ _ => False) (hotT J1) J1 (still J1 n1) st1 stop) fun r t2 ⟨er, J2⟩ => ?_
        subst er
        have back : Inv X pins σ G1 t2 := Ic.call' (ch := [it]) J2.os J2.base J2.hok J2.bare fun b hb => ⟨(fc b hb).1.2.2.2.1, (fc b hb).1.2.1, (fc b hb).1.2.2.2.2.1, (fc b hb).1.2.2.2.2.2⟩
        have none1 : G1 ce.locals = none := J2.free
        obtain ⟨m, ns, _⟩ := J2.loc
        have ns1 : t2.heap.Ns ce.locals m := ns
        rw [loc] at none1 ns1
        exact last D _ t2 m G1 back qq ns1 (Ic.fpOk (Nat.le_refl _) none1)
      · refine thnF (T.item (X.blk s3 Hb sc ce [it]) rfl rfl rfl i [] t1 _ G1 (fun _ _ => False) J1 (still J1 n1) st1 more) fun r t2 ⟨u, er, h2⟩ => ?_
        subst er
        refine thnF h2 fun _ t3 ⟨x, G3, J3, r3, y3, st3, n3⟩ => ?_
        have J3p := J3.pinned (still J3 n3) (T.obj _ _ st3)
        refine thnF (pg.run _ t3 _ G3 x u _ J3p r3 (step x G3 y3)) fun _ t4 ⟨τ4, G4, J4, e4, q4⟩ => ?_
        refine thnF (pt.run _ t4 τ4 G4 _ J4 q4) fun b t5 ⟨G5, J5, q5⟩ => ?_
        have next : ∀ {t : Shared} {G : Hp}, Inv (X.blk s3 Hb sc ce [it]) ([] ++ pinsAt [it] t3.heap) τ4 G t → Nx G → ∃ m, m < n ∧ ∃ i G, Inv (X.blk s3 Hb sc ce [it]) [] (wipe σ (mine.map (·.2))) G t ∧ t.heap.IsListIter it a i ∧ (∀ b ∈ [it], G b = none) ∧ W i m G := fun {t G} J nx => by
          obtain ⟨m', lt, w'⟩ := less G nx
          have held : ∀ b ∈ [it], ∀ o, t3.heap.get? b = some o → t.heap.get? b = some o ∧ G b = none := fun b hb o e => by
            have z := J.pin (b, o) (List.mem_append_right _ (List.mem_append_right _ (mem_pinsAt hb e)))
            exact ⟨z.1, z.2.1⟩
          refine ⟨m', lt, i + 1, G, (J.unpinned (pins := [])).weak (by rw [← e4, wipe_length]) (fun j v e => by rw [← e4] at e; exact (wipe_some e).1), T.keep (i + 1) _ _ st3 fun b hb o e => (held b hb o e).1, fun b hb => ?_, w'⟩
          obtain ⟨o, e, _⟩ := T.obj _ _ st3 b hb
          exact (held b hb o e).2
        cases b with
        | false => exact next J5 (by simpa using q5)
        | true =>
          have q5 : te τ4 G5 fun y H4 => ∃ acc, H4 D = some (.lst acc) ∧ acc.length < sizeLine ∧ Nx (upd H4 D (.lst (acc ++ [y]))) := by simpa using q5
          refine thnF (pe.run _ t5 τ4 G5 _ J5 q5) fun u6 t6 ⟨yv, G6, J6, r6, acc, hD6, hz, nx⟩ => ?_
          exact app_ok (X := X.blk s3 Hb sc ce [it]) J6 hD6 hz r6 fun t7 J7 => next J7 nx
    exact codeAny_compStart_list loop (T.self X.A 0 _ _ _ stt loop)
  subst esc
  subst esb
  exact fin
/-- [e for x in xs if ..] within an except suite -/
theorem h_lc {el tg l : Expr} {ifs : List Expr} {sc : Scope} {own : List (PySem.Str × Nat)} {pos : Pos} {tl : TE} {g : Bk TG} {tt : Bk TT} {te : Bk TE} (hot : HotC X) (nd : X.N.Nodup) (hl : PE X l tl) (ok : BlkOk X.N X.env.scope sc own)
    (hg : ∀ t h C cl fp, PG (X.blk t h sc (compEnvC sc cl C X.env) fp) tg (g t h C cl fp)) (ht : ∀ t h C cl fp, PTs (X.blk t h sc (compEnvC sc cl C X.env) fp) ifs (tt t h C cl fp)) (he : ∀ t h C cl fp, PE (X.blk t h sc (compEnvC sc cl C X.env) fp) el (te t h C cl fp))
    (e1 : ∀ t h C cl fp, g t h C cl fp = g.at0 X) (e2 : ∀ t h C cl fp, tt t h C cl fp = tt.at0 X) (e3 : ∀ t h C cl fp, te t h C cl fp = te.at0 X) (hs : ∀ x, foldedSetIterable l X.env x = pure x := by intro _; rfl) :
    PE X (.ListComp el [⟨tg, l, ifs, 0⟩] sc pos) (tLc (iList X.K tl) (g.at0 X) (tt.at0 X) (te.at0 X) (own.map (·.2))) := by
  refine ⟨fun pins s σ H Q I rd => ?_⟩
  rw [eval_ListComp]
  refine hlc_go hot nd I hl ok (fun t h C cl fp => by rw [← e1 t h C cl fp]; exact hg t h C cl fp) (fun t h C cl fp => by rw [← e2 t h C cl fp]; exact ht t h C cl fp) (fun t h C cl fp => by rw [← e3 t h C cl fp]; exact he t h C cl fp) hs rd fun D C t m H' J q ns f => ⟨m, ns, fun h2 sb => ?_⟩
  obtain ⟨f0, f1, f2, f3, f4, f5⟩ := f
  exact ⟨.ref D, H', J.turned (t' := t.toks) (fun b o hb e => (sb.2 b hb).trans e) f0 f1 f3 f4 f5, rfl, q⟩
end

/-! ### min of a list of texts within an except suite -/
section
open PySem.Spec PyProof.Rows L2H PySem.W
variable {prog : Program} {w : World} {A : Around} {s : Shared}
theorem h_walks {x1 : Addr} (I l : Addr) (n1 : l ≠ I) (n2 : x1 ≠ I) (vs : Array Value) : WalksS prog w A I [I, l, x1] [I] (fun a b => b = a) vs.size (fun i v => vs[i]? = some v) (fun i t => t.heap.IsListIter I l i ∧ t.heap.IsList l vs ∧ HotX.HotAt A x1 t.heap) where
  sub := fun b hb => by simp at hb; simp [hb]
  grefl := fun _ => rfl
  gtrans := fun _ _ _ h1 h2 => h2.trans h1
  frame := fun i t h' tk st _ hk => ⟨st.1.at fun o e => hk I (by simp) o e, st.2.1.at fun o e => hk l (by simp) o e, by
    obtain ⟨hh, o, v1, e, d, c⟩ := st.2.2
    exact ⟨hh, o, v1, hk x1 (by simp) o e, d, c⟩⟩
  item := fun i t Q E hi st hQ => by
    refine wpAny_pyNext_list_item st.1 st.2.1 (x := vs[i]) (by simp [hi]) fun h' hit' hs' => ?_
    obtain ⟨hh, o, v1, e, d, c⟩ := st.2.2
    exact hQ _ { t with heap := h' } (by simp [hi]) ⟨hit', st.2.1.extBut hs'.extBut n1, hh, o, v1, hs'.extBut x1 o n2 e, d, c⟩ ⟨fun b o hb e => hs'.extBut b o (fun z => hb (by simp [z])) e, rfl, rfl, rfl, Nat.le_refl _⟩
  done := fun t Q E st hQ => next_list_endH st.2.2 st.1 st.2.1 (by simp) fun h' he' => hQ { t with heap := h' } ⟨fun b o hb e => he' b o (fun z => hb (by simp [z])) e, rfl, rfl, rfl, Nat.le_refl _⟩
  self := fun _ _ _ _ st hQ => wpAny_pyIter_listiter st.1 hQ
variable {E : Value → Shared → Prop}
theorem h_min {x1 l : Addr} {vs : Array Value} {x : PyData} {xs : List PyData} {as : List Addr} {Q : Value → Shared → Prop} (hot : HotX.HotAt A x1 s.heap) (hl : s.heap.IsList l vs) (hr : ReadsAll s.heap vs.toList (x :: xs) as) (ha : AlikeAll (x :: xs)) (hu : A.units + 1 + PyData.depthAll (x :: xs) < cLine)
    (h : ∀ (v : Value) (h' : Heap) (tk : Nat) (bs : List Addr), Reads h' v (minD x xs) bs → (∀ b o, s.heap.get? b = some o → h'.get? b = some o) → Q v { s with heap := h', toks := tk }) : wpAny (model prog w) A (call (.builtin "min") [.ref l]) Q E s := by
  have hn : vs.size = xs.length + 1 := readsAll_len hr
  have lt : l < s.heap.objs.size := by obtain ⟨_, e, _⟩ := hl; exact Heap.lt_size e
  have lx : x1 < s.heap.objs.size := by obtain ⟨_, _, _, e, _⟩ := hot; exact Heap.lt_size e
  have old : ∀ b o, s.heap.get? b = some o → (s.heap.push { cls := .type "list_iterator", data := .fields #[.ref l, .int 0 0] }).get? b = some o := fun b o e => Heap.get?_push_of_some _ e
  obtain ⟨hh, o1, v1, e1, d1, c1⟩ := hot
  refine call_min_walkH (wpAny_pyIter_list hl ⟨_, [s.heap.objs.size, l, x1], [s.heap.objs.size], _, _, _, _, s.heap, _, rfl, h_walks (x1 := x1) _ l (Nat.ne_of_lt lt) (Nat.ne_of_lt lx) vs, ⟨⟨_, Heap.get?_push_size _ rfl, rfl, rfl⟩, hl.push _, hh, o1, v1, old _ _ e1, d1, c1⟩, fun b hb => ?_, by omega, fun b o e hb => ?_, old, cmpIn_lt (A := A.in1) hr ha (by show A.units + 1 + _ < _; exact hu), fun v t hP m => ?_⟩)
  · show b < (s.heap.push _).objs.size
    rw [Heap.size_push]
    simp only [List.mem_cons, List.not_mem_nil, or_false] at hb
    rcases hb with e | e | e
    · rw [e]; exact Nat.lt_succ_self _
    · rw [e]; exact Nat.lt_succ_of_lt lt
    · rw [e]; exact Nat.lt_succ_of_lt lx
  · exact absurd (Heap.lt_size e) ((List.mem_singleton.mp hb) ▸ Nat.lt_irrefl _)
  · obtain ⟨h', tk, rfl, hk⟩ := moved_old rfl rfl m
    obtain ⟨bs, r, _, _, _⟩ := readsAll_atA hr _ v hP
    have e1 : vs.size - 1 = xs.length := by omega
    have e2 := (argBest_fold dataLt PyData.none x xs xs.length (Nat.le_refl _)).2
    rw [List.take_length] at e2
    rw [e1] at r
    exact h v h' tk bs (reads_keeps hk (by unfold minD; rw [← e2]; exact r)) hk
variable {X : Cx}
theorem hr_minS (hot : HotC X) (hu : X.A.units + 64 < cLine) : CallR X (.builtin "min") (rMinS X.K) := by
  intro pins s σ H vs us Q I r h
  obtain ⟨a, n, ns, rfl, hs, q⟩ := h
  obtain ⟨its, rv, hl, _⟩ := I.list hs
  rw [Vals.ref1 r]
  have hd : DpAll X.K H ((n :: ns).map V.str) ((n :: ns).map PyData.str) := dpAll_of fun x _ => .str x
  obtain ⟨as, ra⟩ := Dp.readsAll I _ _ _ hd rv
  obtain ⟨m, e, hm, hl2⟩ := minD_strs ns n
  have dep : PyData.depthAll ((n :: ns).map PyData.str) ≤ 1 := depthAll_le fun x hx => by
    obtain ⟨y, _, rfl⟩ := List.mem_map.mp hx
    exact Nat.zero_le _
  obtain ⟨x1, hx⟩ := hot.at I
  refine h_min hx hl.isList (by simpa using ra) ⟨fun x hx y hy => ?_, fun x hx => ?_⟩ (Nat.lt_of_le_of_lt (Nat.add_le_add_left dep _) (by omega)) fun v h' tk bs rd k => ?_
  · obtain ⟨x', _, rfl⟩ := List.mem_map.mp (show x ∈ (n :: ns).map PyData.str from hx)
    obtain ⟨y', _, rfl⟩ := List.mem_map.mp (show y ∈ (n :: ns).map PyData.str from hy)
    rfl
  · obtain ⟨x', _, rfl⟩ := List.mem_map.mp (show x ∈ (n :: ns).map PyData.str from hx)
    exact fun z => nomatch z
  · rw [e] at rd
    cases rd
    exact ⟨.str m, H, I.kept (t' := tk) k, ⟨_, rfl⟩, q m hm hl2⟩
end

/-! ### a class method called in the body of a try -/
section
open PySem.Spec PyProof.Rows ClX
variable {X : Cx} {CX : CXT} {k : Nat} {C p g : Addr} {mc : Value} {sp : Sp} {E : L2.St → XK} {o e : Expr} {es : List Expr} {m : Str} {pos apos : Pos} {ta : TE} {t : TA} {pl : Sem Bool}
theorem run_cmS {q : Addr} {Q : VK} {us : List Value} {vs : List V} {pins : List (Addr × Obj)} {σ : L2.St} {H : Hp} {s : Shared} (F : FnR X.prog X.w X.K X.mg X.base CX k g sp) (hr : Room k X.A) (hx : PassesAt CX X σ (E σ)) (I : Inv X ((q, PySem.W.methodObj (.ref g) (.ref C)) :: pins) σ H s)
    (r : Vals vs us) (h : sp (.ref C :: vs) H Q (E σ)) : wpAny (model X.prog X.w) X.A (call (.ref q) us) (EP X pins σ Q) X.xe s := by
  have z : wpAny (model X.prog X.w) X.A (call (.ref q) us) (EP X ((q, PySem.W.methodObj (.ref g) (.ref C)) :: pins) σ Q) X.xe s := by
    refine wpAny_call (PySem.W.method_call (pin_at I) ?_)
    refine codeAny_mono (F X.A X.stack s H (.ref C :: us) (.ref C :: vs) Q (E σ) hr I.env0 (.cons rfl r) h) fun r s' hq => ?_
    cases r with
    | error e => exact hx _ H s e s' I hq
    | ok fl =>
      cases fl with
      | ret u => exact I.after hq
      | next => exact False.elim hq
      | brk => exact False.elim hq
      | cont => exact False.elim hq
  exact thn z fun _ _ y => unpinE y
def tCMethS (C : Addr) (sp : Sp) (E : L2.St → XK) (ta : TE) (t : TA) : TE := fun σ H Q => ta σ H fun x H1 => x = .ref C ∧ t σ H1 fun vs H2 => sp (.ref C :: vs) H2 Q (E σ)
theorem pe_cmethS (he : PE X o ta) (r : CRead X.K C mc) (c : CMet X.K C mc m p g) (F : FnR X.prog X.w X.K X.mg X.base CX k g sp) (hr : Room k X.A) (hx : ∀ σ, PassesAt CX X σ (E σ)) (ha : PA X (e :: es) t)
    (hst : starEach (e :: es) X.env = (false, eval e X.env) :: starEach es X.env := by rfl) (hpl : (backTo pos (starEach es X.env)).any (·.1) = false := by rfl)
    (ht : eval (.Call (.Attribute o m apos) (e :: es) [] pos) X.env = (eval o X.env >>= fun ov => standAt apos.atName >>= fun _ => holding [ov] (getMethod ov m pl) >>= fun (f, first) => callWith pos f first (backTo pos (starEach (e :: es) X.env)) (backToKw pos (keywordEach [] X.env))) := by rfl) :
    PE X (.Call (.Attribute o m apos) (e :: es) [] pos) (tCMethS C sp E ta t) := by
  refine ⟨fun pins s σ H Q I h => ?_⟩
  refine PySem.W.methodCall_KW (pl := pl) (thn (he.run pins s σ H _ I h) fun u s1 ⟨x, H1, I1, rx, ex, q⟩ => ?_) ht
  subst ex; obtain rfl : u = Value.ref C := rx
  refine getmethcm_ok I1 r c fun s2 I2 => ?_
  refine callwith_cm I2 (base_none I1 (Nat.le_refl _)) c.fi (thn (ha.run pos _ s2 σ H1 _ I2 q) fun us s3 z => ?_) hst hpl
  obtain ⟨vs, H2, I3, rv, q2⟩ := z
  exact ⟨⟨pin_at I3, I3.kIn⟩, run_cmS F hr (hx σ) I3 rv q2⟩
end

/-! ### _law_bad_names -/
theorem cutV_take {xs : List V} {k : Nat} (h : k ≤ xs.length) : cutV xs none (some (k : Int)) = xs.take k := by
  unfold cutV
  rw [HT.sIx_nat, HT.sIx_none, List.drop_zero, Nat.min_eq_left h, Nat.sub_zero]
theorem cutV_drop {xs : List V} {k : Nat} (h : k ≤ xs.length) : cutV xs (some (k : Int)) none = xs.drop k := by
  unfold cutV
  rw [HT.sIx_nat, HT.sIx_none, Nat.min_eq_left h]
  exact List.take_of_length_le (by rw [List.length_drop]; exact Nat.le_refl _)

def spBadNames : Sp := fun vs H Q _ => ∃ (g l q : Addr) (ns : List Str), vs = [.ref g, .ref q] ∧ Bag H g l ∧ q ≠ g ∧ H q = some (.lst (ns.map V.str)) ∧ ns.Nodup ∧ ns.length < 30 ∧ (∀ n ∈ ns, validZ n = true) ∧ ∀ H', Q (.bl true) H'
def pool9 : List Str := ["A", "a1", "", "abcdefghijklm", "a b", "-", "{", "a_b", "bbbbbbbbbbbbc"]
theorem pool_bad : ∀ n ∈ pool9, validZ n = false ∧ n.length ≤ 1000 := by decide +kernel
theorem perm_strs {ys : List V} {ns : List Str} (h : ys.Perm (ns.map V.str)) : ∃ zs : List Str, ys = zs.map V.str ∧ zs.Perm ns := by
  refine ⟨ys.map fun v => match v with | .str z => z | _ => "", ?_, ?_⟩
  · rw [List.map_map]
    refine (List.map_id ys).symm.trans (List.map_congr_left fun y hy => ?_)
    obtain ⟨z, _, rfl⟩ := List.mem_map.mp (h.mem_iff.mp hy)
    rfl
  · have := h.map fun v => match v with | .str z => z | _ => ""
    rw [List.map_map] at this
    refine this.trans ?_
    rw [show ((fun v => match v with | .str z => z | _ => "") ∘ V.str : Str → Str) = id from rfl, List.map_id]
theorem valV_out {kvs : List (Key × V)} {k : Key} (h : k ∉ kvs.map (·.1)) : valV kvs k = none := by
  cases e : valV kvs k with
  | none => rfl
  | some v =>
    unfold valV at e
    obtain ⟨q, hq, _⟩ := Option.map_eq_some_iff.mp e
    have e1 := List.find?_some hq
    exact absurd (List.mem_map.mpr ⟨q, List.mem_of_find?_eq_some hq, of_decide_eq_true e1⟩) h
theorem range_getD (os : List Str) : (List.range os.length).map (fun i => V.str (os.getD i "")) = os.map V.str := by
  refine List.ext_getElem? fun i => ?_
  rw [List.getElem?_map, List.getElem?_map]
  by_cases h : i < os.length
  · rw [List.getElem?_range h, List.getElem?_eq_getElem h]
    simp [h]
  · rw [List.getElem?_eq_none (by simpa using h), List.getElem?_eq_none (by simpa using h)]
    rfl
theorem pool_nodup : pool9.Nodup := by decide +kernel
section
open PySem.Spec PyProof.Rows
variable {X : Cx}
/-- 'b' * 12 -/
theorem op_mulb : OpR X (binaryOp .Mult) (fun x y H Q => x = .str "b" ∧ y = .int 12 ∧ Q (.str "bbbbbbbbbbbb") H) := by
  intro pins s σ H x y v u Q I rx ry h
  obtain ⟨rfl, rfl, q⟩ := h
  obtain ⟨t, rfl⟩ := rx
  obtain ⟨t', rfl⟩ := ry
  exact PySem.P.mul_str (by decide) (fun _ _ => by decide) (fun _ _ => by decide) ⟨by decide, .str "bbbbbbbbbbbb", H, I.tok _, ⟨_, rfl⟩, q⟩
end
section
variable {P : Program} {w : World} {K : PySem.W.Frag} {mg : Str → Option Value} {base : Heap} {A : Ad}
theorem oknb_m_Form_init (T : Txt K mg A) : FnOk P w K mg base (L2N.CX P w) 14 A.m_Form_init A.fd_m_Form_init P_m_Form_init (spFormBad A.Form A.BadName) := by
  refine T.F_m_Form_init.ok sc_m_Form_init (fun vs H Q E h => ?_) (fun cdv Ar outer s H vs Q E hr h => ?_)
  · obtain ⟨x, dx, d, kvs, ks, n0, rfl, _⟩ := h
    rfl
  · obtain ⟨x, dx, d, kvs, ks, n0, rfl, hx, hd, hkeys, hlen, hshort, h0, v0, least, k⟩ := h
    refine ⟨_, (pss_g (Evl.pss_cut (ps_set (i := 2) sc_m_Form_init.nd rfl (Or.inr rfl) (pe_ifExp (pt_cmpR op_isN (pv 1) pe_non (nomark _)) pe_dnewK (pv 1)))
      (pss_cons (ps_g (ps_for (passes_of rfl) rfl (pi_list (pe_callB (call_sortedD rfl) (by rfl) T.z_sorted (by decide +kernel) (pa_cons (pv 2) pa_nil))) (pg_name (i := 3) sc_m_Form_init.nd rfl (Or.inl rfl)) (pss_one (ps_if (pt_not (pt_val (pe_call (ok_f_valid_name T) (hr.mono (by decide)) (by rfl) T.g_valid_name T.F_f_valid_name.kp T.b_f_valid_name .nil pass0 (pa_cons (pv 3) pa_nil)))) (pss_one (L2N.ps_raise rfl (L2N.takes_of rfl rfl rfl rfl) (n_oex T.ox_BadName T.oi_BadName T.ot_BadName (ok_m_BadName_init T) (hr.mono (by decide)) T.b_m_BadName_init .nil pass0 (by rfl) T.g_BadName (pa_cons (pv 3) pa_nil)))) pss_nil))))
      (pss_cons (ps_set (i := 4) sc_m_Form_init.nd rfl (Or.inr rfl) (pe_g (pe_dcV (own := [("name", 3)]) rfl sc_m_Form_init.nd (pi_list (pe_callB (call_sortedD rfl) (by rfl) T.z_sorted (by decide +kernel) (pa_cons (pv 2) pa_nil))) (blkOk_by (own := [("name", 3)]) (N := N_m_Form_init) (sc := defScope s_m_Form_init) (by decide +kernel)) (fun _ _ _ _ _ => (pg_name (i := 3) sc_m_Form_init.nd rfl (Or.inl rfl))) (fun _ _ _ _ _ => pts_nil) (fun _ _ _ _ _ => (pv 3)) (fun _ _ _ _ _ => (pe_op (op_mix (op_own (E := E0) rfl (oo_add T) (ok_m_Ratio_add T) (hr.mono (by decide)) T.b_m_Ratio_add pass0) (op_rown (E := E0) rfl (oo_add T) PySem.F.fills_int_add PySem.F.slot_int_add PySem.F.entry_int_add PySem.F.args_int_add_2 rfl (ok_m_Ratio_radd T) (hr.mono (by decide)) T.b_m_Ratio_radd pass0)) (pe_dget (hu_of hr) (pv 2) (pv 3) (fun _ _ => rfl)) (pe_make T.mk_Ratio (ok_m_Ratio_init T) (hr.mono (by decide)) (by rfl) T.g_Ratio T.b_m_Ratio_init_d1 T.dv_m_Ratio_init passL (pa_cons pe_int pa_nil)))) (fun _ _ _ _ _ => rfl) (fun _ _ _ _ _ => rfl) (fun _ _ _ _ _ => rfl) (fun _ _ _ _ _ => rfl))))
      (pss_one (ps_fld (pv 0) (pe_g (pe_lock (pe_dcV (own := [("name", 3)]) rfl sc_m_Form_init.nd (pi_keys (pv 4)) (blkOk_by (own := [("name", 3)]) (N := N_m_Form_init) (sc := defScope s_m_Form_init) (by decide +kernel)) (fun _ _ _ _ _ => (pg_name (i := 3) sc_m_Form_init.nd rfl (Or.inl rfl))) (fun _ _ _ _ _ => (pts_one (pt_cmpR op_ne (pe_fld (pe_dget (hu_of hr) (pv 4) (pv 3) (fun _ _ => rfl)) rfl) pe_int (nomark _)))) (fun _ _ _ _ _ => (pv 3)) (fun _ _ _ _ _ => (pe_dget (hu_of hr) (pv 4) (pv 3) (fun _ _ => rfl))) (fun _ _ _ _ _ => rfl) (fun _ _ _ _ _ => rfl) (fun _ _ _ _ _ => rfl) (fun _ _ _ _ _ => rfl)))) rfl)))))), ?_⟩
    refine ⟨⟨fun σ' H' => Wd (σ' = [some (.ref x), some (.ref d), some (.ref d), none, none] ∧ H' = H), ?_, ?_⟩⟩
    · exact ⟨_, rfl, rfl, _, rfl, iteF ⟨_, rfl, rfl, rfl⟩⟩
    · rintro σ' H' ⟨rfl, rfl⟩
      refine ⟨⟨_, rfl, d, kvs, ks, rfl, .inl hd, hkeys, hlen, fun ys p hperm hsrt hp => ?_⟩⟩
      have sp := Same.new (o := .lst (ys.map V.str)) hp
      refine ⟨p, rfl, ⟨_, SqL.of upd_same⟩, for_list (xs := ys.map V.str) (fun i σ' H2 => Wd (∃ (o3 : Option V), σ' = [some (.ref x), some (.ref d), some (.ref d), o3, none] ∧ Same (upd H' p (.lst (ys.map V.str))) H2 ∧ ∀ m ∈ ys.take i, ¬ validZ m = false)) ⟨none, rfl, Same.refl _, fun m hm => by simp at hm⟩ ?_ ?_ ?_⟩
      · rintro i σ' H2 _ ⟨o3, rfl, sx, _⟩
        exact SqL.of (sx _ _ upd_same)
      · rintro i y σ' H2 hi ⟨o3, rfl, sx, hbef⟩
        obtain ⟨n, hn, rfl⟩ := names_at hi
        have hnk := hperm.mem_iff.mp (List.mem_of_getElem? hn)
        refine ⟨_, rfl, n, rfl, hshort n hnk, fun H3 s3 => ⟨_, rfl, ?_⟩⟩
        cases hv : validZ n with
        | true =>
          refine iteF ⟨_, rfl, sx.trans s3, fun m hm => ?_⟩
          rw [take_more hn, List.mem_append, List.mem_singleton] at hm
          rcases hm with hm | rfl
          · exact hbef m hm
          · rw [hv]; decide
        | false =>
          have e := first_is (sortedS_pw hsrt) (p := fun m => validZ m = false) hn hv (hperm.mem_iff.mpr h0) v0 (fun m hm => least m (hperm.mem_iff.mp hm)) hbef
          subst e
          refine iteT ⟨_, rfl, (by show 1 ≤ 1000; decide), fun a ha => mk_excF (C := A.BadName) (n := 1) (fs := fs_BadName) (H := H3) (ws := [.str n]) (Q := E) (fun q H4 s4 _ h4 => k q H4 (sp.trans (sx.trans (s3.trans s4))) h4) ha⟩
      · rintro σ' H2 ⟨o3, rfl, sx, hbef⟩
        rw [List.length_map, List.take_length] at hbef
        exact absurd v0 (hbef n0 (hperm.mem_iff.mpr h0))
theorem oknb_m_Form_of (T : Txt K mg A) : FnOk P w K mg base (L2N.CX P w) 16 A.m_Form_of A.fd_m_Form_of P_m_Form_of (spFOfBad A.Form A.BadName) := by
  refine n_fun T.F_m_Form_of sc_m_Form_of (fun vs H Q E h => ?_) (fun cdv Ar outer s H vs Q E hr h => ?_)
  · obtain ⟨n0, rfl, _⟩ := h
    rfl
  · obtain ⟨n0, rfl, v0, l0, k⟩ := h
    refine ⟨_, (pss_one (ps_ret (pe_makeL (E := E) (i := 0) T.mk_Form (oknb_m_Form_init T) (hr.mono (by decide)) rfl (Or.inl rfl) T.b_m_Form_init .nil (L2N.passes_call (L2N.takes_of rfl rfl rfl rfl) (fun _ _ _ _ h => h)) (pa_cons (pe_disp (pps_cons (pv 1) pe_int pps_nil) (by rfl) (by rfl) (fun z => by cases z) (by decide)) pa_nil)))), ?_⟩
    refine ⟨rfl, fun p hp => ⟨_, rfl, upd_same, [(.inr n0, .int 1)], rfl, Nat.le_of_ble_eq_true rfl, ?_⟩⟩
    rw [upd_upd]
    have s1 := Same.new (o := .dK [(Sum.inr n0, V.int 1)]) hp
    intro x1 dx1 hx1 hdx1 _
    exact mk_formBad (kvs := [(Sum.inr n0, V.int 1)]) (ks := [n0]) hx1 hdx1 upd_same rfl (by show 1 < 64; decide) (fun n hn => by rw [List.mem_singleton] at hn; subst hn; exact l0) List.mem_cons_self v0 (fun n hn _ => by rw [List.mem_singleton] at hn; subst hn; exact leS_refl) fun dd H' s h => k dd H' (s1.trans s) h
theorem ok_l_bad_names (T : Txt K mg A) : FnOk P w K mg base CX0 20 A.l_bad_names A.fd_l_bad_names P_l_bad_names spBadNames := by
  refine T.F_l_bad_names.ok sc_l_bad_names (fun vs H Q E h => ?_) (fun cdv Ar outer s H vs Q E hr h => ?_)
  · obtain ⟨g, l, q, ns, rfl, _⟩ := h
    rfl
  · obtain ⟨g, l, q, ns, rfl, B, nq, hq, nd, nl, hval, k⟩ := h
    refine ⟨_, (pss_cons (ps_set (i := 2) sc_l_bad_names.nd rfl (Or.inl rfl) (pe_lst (pa_cons pe_str (pa_cons pe_str (pa_cons pe_str (pa_cons pe_str (pa_cons pe_str (pa_cons pe_str (pa_cons pe_str (pa_cons pe_str (pa_cons (pe_op op_add_str (pe_op op_mulb pe_str pe_int) pe_str) pa_nil)))))))))))
      (pss_cons (ps_set (i := 3) sc_l_bad_names.nd rfl (Or.inl rfl) (pe_slice sl_list (pe_call (ok_l_mixed T) (hr.mono (by decide)) (by rfl) T.g__law_mixed T.F_l_mixed.kp T.b_l_mixed .nil pass0 (pa_cons (pv 0) (pa_cons (pv 2) pa_nil))) po_none (po_some (pe_ix ix_list (pe_lst (pa_cons pe_int (pa_cons pe_int (pa_cons pe_int (pa_cons pe_int pa_nil))))) (pe_call (ok_l_draw T) (hr.mono (by decide)) (by rfl) T.g__law_draw T.F_l_draw.kp T.b_l_draw .nil pass0 (pa_cons (pv 0) (pa_cons pe_int pa_nil))) (fun _ _ => rfl)))))
      (pss_cons (ps_set (i := 4) sc_l_bad_names.nd rfl (Or.inl rfl) pe_dnewK)
      (pss_cons (ps_g (ps_for PassesOwn.never rfl (pi_list (pe_call (ok_l_mixed T) (hr.mono (by decide)) (by rfl) T.g__law_mixed T.F_l_mixed.kp T.b_l_mixed .nil pass0 (pa_cons (pv 0) (pa_cons (pe_op op_cat (pv 1) (pv 3)) pa_nil)))) (pg_name (i := 5) sc_l_bad_names.nd rfl (Or.inl rfl)) (pss_one (ps_dput (hu_of hr) (pv 4) (pv 5) (pe_ix ix_list (pe_lst (pa_cons pe_int (pa_cons pe_int (pa_cons (pe_make T.mk_Ratio (ok_m_Ratio_init T) (hr.mono (by decide)) (by rfl) T.g_Ratio T.b_m_Ratio_init_d1 T.dv_m_Ratio_init passL (pa_cons pe_int pa_nil)) (pa_cons (pe_un un_neg pe_int) pa_nil))))) (pe_call (ok_l_draw T) (hr.mono (by decide)) (by rfl) T.g__law_draw T.F_l_draw.kp T.b_l_draw .nil pass0 (pa_cons (pv 0) (pa_cons pe_int pa_nil))) (fun _ _ => rfl)) rfl))))
      (pss_cons (ps_set (i := 6) sc_l_bad_names.nd rfl (Or.inl rfl) pe_non)
      (pss_cons (n_try (i := 7) rfl rfl sc_l_bad_names.nd rfl rfl ⟨by rfl, by decide, .inl T.g_BadName⟩ n_takes0 (fun W pn xe tk _ => (pss_cons (ps_expr (pe_cmethS (mc := .type "type") (pe_glob (v := .ref A.Form) (by rfl) T.g_Form rfl) T.cm_Form_of.1 T.cm_Form_of.2 ((oknb_m_Form_of T).raw T.b_m_Form_of .nil) (hr.mono (by decide)) (fun σ => L2N.passAt tk σ) (pa_cons (pe_ix ix_list (pv 3) pe_int (fun _ _ => rfl)) pa_nil)))
      (pss_one (ps_ret pe_bl)))) (fun a oe cls d pn hz hf hc => (pss_one (ps_if (pt_cmpR op_ne (pe_xf (xf_BadName T) T.n_BadName_name hz hf (pv 7)) (pe_ix ix_list (pv 3) pe_int (fun _ _ => rfl)) (nomark _)) (pss_one (ps_ret pe_bl)) pss_nil))) (fun _ _ _ => rfl) (fun _ _ _ _ _ => rfl))
      (pss_cons (n_try (i := 7) rfl rfl sc_l_bad_names.nd rfl rfl ⟨by rfl, by decide, .inl T.g_BadName⟩ n_takes0 (fun W pn xe tk _ => (pss_one (ps_set (i := 6) sc_l_bad_names.nd rfl (Or.inl rfl) (pe_makeS T.mk_Form (oknb_m_Form_init T) (hr.mono (by decide)) (by rfl) T.g_Form T.b_m_Form_init .nil (fun σ => L2N.passAt tk σ) (pa_cons (pv 4) pa_nil))))) (fun a oe cls d pn hz hf hc => (pss_one (ps_ret (pe_and (pe_cmpR op_eq (pe_xf (xf_BadName T) T.n_BadName_name hz hf (pv 7)) (pe_callB (hr_minS hc hr.units) (by rfl) T.z_min (by decide +kernel) (pa_cons (pe_g (h_lc (own := [("_law_name", 5)]) hc sc_l_bad_names.nd (pv 3) (blkOk_by (own := [("_law_name", 5)]) (N := N_l_bad_names) (sc := defScope s_l_bad_names) (by decide +kernel)) (fun _ _ _ _ _ => (pg_name (i := 5) sc_l_bad_names.nd rfl (Or.inl rfl))) (fun _ _ _ _ _ => pts_nil) (fun _ _ _ _ _ => (pe_callTy SkE.call_str_str (by rfl) T.z_str (by decide +kernel) (pa_cons (pv 5) pa_nil))) (fun _ _ _ _ _ => rfl) (fun _ _ _ _ _ => rfl) (fun _ _ _ _ _ => rfl))) pa_nil)) (nomark _)) (pe_and (pe_callB (call_isEW hz hf) (by rfl) T.z_isinstance (by decide +kernel) (pa_cons (pv 7) (pa_cons (pe_glob (v := .ref A.CostError) (by rfl) T.g_CostError rfl) pa_nil))) (pe_one (pe_cmpR op_isN (pv 6) pe_non (nomark _)))))))) (fun _ _ _ => rfl) (fun _ _ _ _ _ => rfl))
      (pss_one (ps_ret pe_bl))))))))), ?_⟩
    refine ⟨rfl, rfl, _, _, rfl, rfl, (by decide), (by show 9 ≤ sizeLine; decide), fun pl hpl => ?_⟩
    have epool : [V.str "A", V.str "a1", V.str "", V.str "abcdefghijklm", V.str "a b", V.str "-", V.str "{", V.str "a_b", V.str ("bbbbbbbbbbbb" ++ "c")] = pool9.map V.str := by
      rw [show (("bbbbbbbbbbbb" : Str) ++ "c") = "bbbbbbbbbbbbc" by decide +kernel]
      rfl
    rw [epool]
    have s1 := Same.new (o := .lst (pool9.map V.str)) hpl
    have B1 := B.new (o := .lst (pool9.map V.str)) hpl
    have hq1 := s1 _ _ hq
    have hpl1 := upd_same (H := H) (a := pl) (o := .lst (pool9.map V.str))
    generalize upd H pl (.lst (pool9.map V.str)) = H1 at *
    refine ⟨_, rfl, _, rfl, g, l, pl, _, rfl, B1, hpl1, by decide, fun mp ys H2 hperm hmn hmp B2 K2 => ?_⟩
    have hq2 := K2 _ _ hq1 nq
    obtain ⟨zs, rfl, zperm⟩ := perm_strs hperm
    refine ⟨(by show 4 ≤ sizeLine; decide), fun kl hkl => ?_⟩
    have s3 := Same.new (o := .lst [V.int 1, .int 1, .int 2, .int 5]) hkl
    have B3 := B2.new (o := .lst [V.int 1, .int 1, .int 2, .int 5]) hkl
    refine ⟨_, rfl, g, l, 4, rfl, B3, by decide, by decide, fun c H4 c0 c1 B4 K4 => ?_⟩
    have hkl4 := K4 _ _ (upd_same (H := H2) (a := kl) (o := .lst [V.int 1, .int 1, .int 2, .int 5])) (B2.ne hkl).1
    have nmp : mp ≠ g := (B1.ne hmn).1
    have hmp4 := K4 _ _ (s3 _ _ hmp) nmp
    have hq4 := K4 _ _ (s3 _ _ hq2) nq
    obtain ⟨z, hz, z0, z1⟩ : ∃ z : Nat, atI [V.int 1, .int 1, .int 2, .int 5] c = some (.int (z : Int)) ∧ 1 ≤ z ∧ z ≤ 5 := by
      have : c = 0 ∨ c = 1 ∨ c = 2 ∨ c = 3 := by omega
      rcases this with rfl | rfl | rfl | rfl
      · exact ⟨1, rfl, by decide, by decide⟩
      · exact ⟨1, rfl, by decide, by decide⟩
      · exact ⟨2, rfl, by decide, by decide⟩
      · exact ⟨5, rfl, by decide, by decide⟩
    have zl : zs.length = 9 := zperm.length_eq
    refine ⟨kl, _, c, _, rfl, rfl, SqL.of hkl4, hz, (z : Int), rfl, mp, _, rfl, SqL.of hmp4, fun od hod => ?_⟩
    have ect : cutV (zs.map V.str) none (some (z : Int)) = (zs.take z).map V.str := by
      rw [cutV_take (by rw [List.length_map]; omega), List.map_take]
    rw [ect]
    have obad : ∀ n ∈ zs.take z, validZ n = false ∧ n.length ≤ 1000 := fun n hn => pool_bad n (zperm.mem_iff.mp (List.mem_of_mem_take hn))
    have ond : (zs.take z).Nodup := (zperm.symm.nodup pool_nodup).sublist (List.take_sublist _ _)
    have ol : (zs.take z).length = z := by rw [List.length_take]; omega
    generalize zs.take z = os at *
    have s5 := Same.new (o := .lst (os.map V.str)) hod
    have B5 := B4.new (o := .lst (os.map V.str)) hod
    have nod := (B4.ne hod)
    have hod5 := upd_same (H := H4) (a := od) (o := .lst (os.map V.str))
    have hq5 := s5 _ _ hq4
    generalize upd H4 od (.lst (os.map V.str)) = H5 at *
    refine fun D hD => ?_
    have nD := B5.ne hD
    have s6 := Same.new (o := .dK []) hD
    have B6 := B5.new (o := .dK []) hD
    have hod6 := s6 _ _ hod5
    have hq6 := s6 _ _ hq5
    have hD6 := upd_same (H := H5) (a := D) (o := .dK [])
    generalize upd H5 D (.dK []) = H6 at *
    have nDod : od ≠ D := fun e => by rw [e, hD6] at hod6; cases hod6
    have nl30 : (ns ++ os).length ≤ 60 := by rw [List.length_append]; omega
    refine ⟨⟨_, rfl, _, rfl, _, rfl, q, od, _, _, rfl, rfl, hq6, hod6, ?_, fun cq hcq => ?_⟩⟩
    · rw [List.length_map, List.length_map, ← List.length_append]
      exact Nat.le_trans nl30 (by decide)
    rw [← List.map_append]
    have s7 := Same.new (o := .lst ((ns ++ os).map V.str)) hcq
    have B7 := B6.new (o := .lst ((ns ++ os).map V.str)) hcq
    have hcq7 := upd_same (H := H6) (a := cq) (o := .lst ((ns ++ os).map V.str))
    refine ⟨g, l, cq, _, rfl, B7, hcq7, by rw [List.length_map]; omega, fun mq ys2 H8 hperm2 hmqn hmq B8 K8 => ?_⟩
    obtain ⟨ws, rfl, wperm⟩ := perm_strs hperm2
    have nmq : mq ≠ g := (B7.ne hmqn).1
    have hod8 := K8 _ _ (s7 _ _ hod6) nod.1
    have hD8 := K8 _ _ (s7 _ _ hD6) nD.1
    have hnd : (ns ++ os).Nodup := List.nodup_append.mpr ⟨nd, ond, fun a ha b hb e => by
      subst e
      have := hval a ha
      rw [(obad a hb).1] at this
      cases this⟩
    have wnd : ws.Nodup := wperm.symm.nodup hnd
    have wl : ws.length ≤ 60 := by rw [wperm.length_eq]; exact nl30
    have nmD : mq ≠ D := fun e => by rw [e, hD8] at hmq; cases hmq
    clear hperm hperm2 hcq hcq7 s7 B7
    refine ⟨mq, rfl, ⟨_, SqL.of hmq⟩, for_list (xs := ws.map V.str) (fun i σ' H' => Wd (∃ (kvs : List (Key × V)) (o5 : Option V), σ' = [some (.ref g), some (.ref q), some (.ref pl), some (.ref od), some (.ref D), o5, none, none] ∧ H' D = some (.dK kvs) ∧ kvs.map (·.1) = (ws.take i).map Sum.inr ∧ Bag H' g l ∧ H' mq = some (.lst (ws.map V.str)) ∧ H' od = some (.lst (os.map V.str)))) ⟨[], none, rfl, hD8, rfl, B8, hmq, hod8⟩ ?_ ?_ ?_⟩
    · rintro i σ' H' _ ⟨kvs, o5, rfl, _, _, _, h, _⟩
      exact SqL.of h
    · rintro i y σ' H' hi ⟨kvs, o5, rfl, hDk, hkeys, B9, hmq9, hod9⟩
      obtain ⟨n, hn, rfl⟩ := names_at hi
      have hkl : kvs.length ≤ 60 := by
        have := congrArg List.length hkeys
        rw [List.length_map, List.length_map, List.length_take] at this
        omega
      intro x dx hx hdx _
      refine mk_ratio hx hdx (lt_pow (a := 1) (by decide) (by decide)) (fun e => by cases e) (fun _ H10 s10 _ => ⟨rfl, ?_⟩)
      refine ⟨_, rfl, (by show 4 ≤ sizeLine; decide), fun vl hvl => ?_⟩
      have s11 := Same.new (o := .lst [V.int 0, .int 1, .ref x, .int (-2)]) hvl
      have B11 := (B9.keep s10).new (o := .lst [V.int 0, .int 1, .ref x, .int (-2)]) hvl
      refine ⟨_, rfl, g, l, 4, rfl, B11, by decide, by decide, fun c9 H12 d0 d1 B12 K12 => ?_⟩
      have hvl12 := K12 _ _ (upd_same (H := H10) (a := vl) (o := .lst [V.int 0, .int 1, .ref x, .int (-2)])) ((B9.keep s10).ne hvl).1
      obtain ⟨v, hv⟩ : ∃ v, atI [V.int 0, .int 1, .ref x, .int (-2)] c9 = some v := by
        have : c9 = 0 ∨ c9 = 1 ∨ c9 = 2 ∨ c9 = 3 := by omega
        rcases this with rfl | rfl | rfl | rfl <;> exact ⟨_, rfl⟩
      have hD12 := K12 _ _ (s11 _ _ (s10 _ _ hDk)) nD.1
      refine ⟨vl, _, c9, v, rfl, rfl, SqL.of hvl12, hv, _, rfl, _, rfl, D, _, rfl, DPut.k (k := .inr n) hD12 (Nat.lt_of_le_of_lt hkl (by decide)), ?_⟩
      refine ⟨_, _, rfl, upd_same, ?_, B12.put nD, by rw [upd_ne nmD]; exact K12 _ _ (s11 _ _ (s10 _ _ hmq9)) nmq, by rw [upd_ne nDod]; exact K12 _ _ (s11 _ _ (s10 _ _ hod9)) nod.1⟩
      have hout : (Sum.inr n : Key) ∉ kvs.map (·.1) := by
        rw [hkeys]
        intro z
        obtain ⟨m, hm, e⟩ := List.mem_map.mp z
        cases e
        exact take_nin wnd hn hm
      rw [keys_put, valV_out hout, if_neg (by decide), hkeys, take_more hn, List.map_append]
      rfl
    · rintro σ' H' ⟨kvs, o5, rfl, hDk, hkeys, B9, hmq9, hod9⟩
      rw [List.length_map, List.take_length] at hkeys
      obtain ⟨n1, os', rfl⟩ : ∃ n1 os', os = n1 :: os' := by
        cases os with
        | nil => rw [List.length_nil] at ol; omega
        | cons n1 os' => exact ⟨n1, os', rfl⟩
      have hat : atI ((n1 :: os').map V.str) 0 = some (.str n1) := atI_nat (j := 0) rfl
      have b1 := obad n1 List.mem_cons_self
      refine ⟨rfl, _, rfl, od, _, _, _, rfl, rfl, SqL.of hod9, hat, n1, rfl, b1.1, b1.2, fun dd H10 s10 hx => ⟨true, exm_BadName T, fun _ e he => ?_, fun q => nomatch q⟩⟩
      refine ⟨_, rfl, rfl, rfl, dd, _, _, rfl, hx, rfl, _, rfl, od, _, _, _, rfl, rfl, SqL.of (s10 _ _ hod9), hat, rfl, _, rfl, ifNT rfl ?_⟩
      obtain ⟨m0, _, hm0, hle0⟩ := minD_strs os' n1
      have hshort : ∀ n ∈ ws, n.length ≤ 1000 := fun n hn => by
        rcases List.mem_append.mp (wperm.mem_iff.mp hn) with h | h
        · exact validZ_len (hval n h)
        · exact (obad n h).2
      have least : ∀ n ∈ ws, validZ n = false → leS m0 n := fun n hn hb => by
        rcases List.mem_append.mp (wperm.mem_iff.mp hn) with h | h
        · rw [hval n h] at hb
          cases hb
        · exact hle0 n h
      refine ⟨_, rfl, fun x dx hx2 hdx _ => mk_formBad (n0 := m0) hx2 hdx (s10 _ _ hDk) hkeys (by omega) hshort (wperm.mem_iff.mpr (List.mem_append_right _ hm0)) (obad m0 hm0).1 least fun d2 H12 s12 hx3 => ⟨true, exm_BadName T, fun _ e2 he2 => ?_, fun q => nomatch q⟩⟩
      have hod12 := s12 _ _ (s10 _ _ hod9)
      refine ⟨_, rfl, rfl, rfl, d2, _, _, rfl, hx3, rfl, ⟨⟨_, rfl, od, rfl, ⟨_, SqL.of hod12⟩, fun D5 hD5 => lc_same (K := K) (fun i => V.str ((n1 :: os').getD i "")) hod12 (by rw [List.length_map]; omega) hD5 ?_ ?_⟩⟩⟩
      · intro i y H13 N M hi s13 hN
        obtain ⟨n, hn, rfl⟩ := names_at hi
        have en : (n1 :: os').getD i "" = n := by rw [List.getD_eq_getElem?_getD, hn]; rfl
        rw [en] at hN
        exact ⟨rfl, _, rfl, n, rfl, hN _ (Same.refl _)⟩
      · intro H13 s13 hD13
        rw [List.length_map, range_getD] at hD13
        refine ⟨D5, n1, os', rfl, SqL.of hD13, fun m hm hle => ⟨rfl, true, congrArg V.bl (decide_eq_true ?_), iteT ?_⟩⟩
        · exact congrArg V.str (leS_anti (hle0 m hm) (hle m0 hm0))
        · exact ⟨_, rfl, A.BadName, d2, _, _, _, _, rfl, rfl, s13 _ _ hx3, excC_BadName T, rfl, fun _ r => r, T.xc_BadName, true, rfl, iteT ⟨_, rfl, rfl, k _⟩⟩
end

/-! ### _law_refused_right -/
theorem valV_dropN {kvs : List (Key × V)} {n m : Str} : valV (dropK kvs (.inr n)) (.inr m) = if m = n then none else valV kvs (.inr m) := by
  unfold valV dropK
  rw [List.find?_filter]
  by_cases e : m = n
  · subst e
    rw [if_pos rfl, Option.map_eq_none_iff, List.find?_eq_none]
    intro p _ h
    simp at h
  · rw [if_neg e]
    congr 1
    refine congrFun (congrArg List.find? (funext fun p => ?_)) kvs
    by_cases h : p.1 = .inr m
    · simp [h, e]
    · simp [h]
theorem Tab.drop {R : NR} {H H' : Hp} {kvs : List (Key × V)} {ks : List Str} {f : Fn} (h : Tab R H kvs ks f) (o : R.Ok) (k : Fx H H') (n : Str) : Tab R H' (dropK kvs (.inr n)) (ks.filter fun m => decide (m ≠ n)) (atN n 0 f) := by
  refine ⟨?_, h.nd.sublist (List.filter_sublist), fun m hm => ?_, fun m hm => ?_⟩
  · unfold dropK
    have e1 : (kvs.filter fun kv => decide (kv.1 ≠ .inr n)).map (·.1) = (kvs.map (·.1)).filter fun x => decide (x ≠ .inr n) := by rw [List.filter_map]; rfl
    rw [e1, h.keys, List.filter_map]
    congr 1
    refine List.filter_congr fun m _ => ?_
    simp
  · rw [List.mem_filter, decide_eq_true_eq] at hm
    obtain ⟨v, a, b⟩ := h.yes m hm.1
    refine ⟨v, ?_, ?_⟩
    · rw [valV_dropN, if_neg hm.2]
      exact a
    · unfold atN
      rw [if_neg hm.2]
      exact o _ _ _ _ k b
  · rw [List.mem_filter, decide_eq_true_eq] at hm
    rw [valV_dropN]
    unfold atN
    by_cases e : m = n
    · rw [if_pos e, if_pos e]
      exact ⟨rfl, rfl⟩
    · rw [if_neg e, if_neg e]
      exact h.no m fun z => hm ⟨z, e⟩
/-- all but g and d is kept -/
def Ko (g d : Addr) (H H' : Hp) : Prop := ∀ b o, H b = some o → b ≠ g → b ≠ d → H' b = some o
theorem Ko.trans {g d : Addr} {H H1 H2 : Hp} (a : Ko g d H H1) (b : Ko g d H1 H2) : Ko g d H H2 := fun c o h n m => b c o (a c o h n m) n m
theorem Ko.kp {g d : Addr} {H H' : Hp} (k : Kp g H H') : Ko g d H H' := fun b o e n _ => k b o e n
theorem Ko.same {g d : Addr} {H H' : Hp} (k : Same H H') : Ko g d H H' := fun b o e _ _ => k b o e
theorem Ko.put {g d : Addr} {H : Hp} {o : HO} : Ko g d H (upd H d o) := fun b u e _ m => by rw [upd_ne m]; exact e
theorem neg_q {c : Int} (h : 0 ≤ c) : Rat.divInt (-1) (1 + c) < 0 := Rat.not_le.mp fun z => absurd ((Rat.divInt_nonneg_iff_of_pos_right (by omega)).mp z) (by decide)
theorem drop_at {α : Type} {l : List α} {j i : Nat} {x : α} (h : (l.drop j)[i]? = some x) : l[j + i]? = some x := by
  rw [List.getElem?_drop] at h
  exact h
theorem nd_at {l : List Str} (h : l.Nodup) {i j : Nat} {x : Str} (hi : l[i]? = some x) (hj : l[j]? = some x) : i = j := by
  obtain ⟨h1, e1⟩ := List.getElem?_eq_some_iff.mp hi
  obtain ⟨h2, e2⟩ := List.getElem?_eq_some_iff.mp hj
  exact (List.getElem_inj h).mp (e1.trans e2.symm)
def spRefR (CF CR : Addr) : Sp := fun vs H Q _ => ∃ (g l : Addr) (U : List Str) (v : V) (d d0 : Addr) (kv : List (Key × V)) (ks : List Str) (f p : Fn), vs = [.ref g, v, .ref d] ∧ Bag H g l ∧ IsFd CF CR U H v d0 f ∧ d0 ≠ d ∧ H d = some (.dK kv) ∧ Tab (IsN CR) H kv ks p ∧ UOk U ∧ SzF 67 f ∧ SzF 67 p ∧ (∀ n, f n ≠ 0 → n ∈ ks ∧ 0 ≤ p n) ∧ ks.length ≤ 60 ∧
  ∀ H', Bag H' g l → (∀ b o, H b = some o → b ≠ g → b ≠ d → H' b = some o) → Q (.bl true) H'
theorem dl_tel {K : PySem.W.Frag} {H : Hp} {q : Addr} {a n : Str} (h : H q = some (.tup [.str a, .str n, .bl true])) : DL K H (.ref q) (.tuple [.str a, .str n, .bool true]) 1 :=
  ⟨.tup (SqT.of h) (.cons (.str a) (.cons (.str n) (.cons (.bl true) .nil))), rfl, by
    unfold PyData.depth
    refine Nat.succ_le_succ (depthAll_le fun x hx => ?_)
    simp only [List.mem_cons, List.not_mem_nil, or_false] at hx
    rcases hx with rfl | rfl | rfl <;> exact Nat.le_refl _⟩
section
variable {P : Program} {w : World} {K : PySem.W.Frag} {mg : Str → Option Value} {base : Heap} {A : Ad}
theorem ok_l_refused_right (T : Txt K mg A) : FnOk P w K mg base CX0 20 A.l_refused_right A.fd_l_refused_right P_l_refused_right (spRefR A.Form A.Ratio) := by
  refine T.F_l_refused_right.ok sc_l_refused_right (fun vs H Q E h => ?_) (fun cdv Ar outer s H vs Q E hr h => ?_)
  · obtain ⟨g, l, U, v, d, d0, kv, ks, f, p, rfl, _⟩ := h
    rfl
  · obtain ⟨g, l, U, v, d, d0, kv, ks, f, p, rfl, B, hFd, nd0, hd, t, uok, sf, sp, hall, hkl, k⟩ := h
    refine ⟨_, (pss_cons (ps_set (i := 3) sc_l_refused_right.nd rfl (Or.inl rfl) (pe_meth0 (pv 1) T.cl_Form T.m_Form_names (ok_m_Form_names T) (hr.mono (by decide)) T.b_m_Form_names .nil pass0))
      (pss_cons (ps_if (pt_cmpR (op_eqNil hr.units) (pv 3) (pe_lst pa_nil) (nomark _)) (pss_one (ps_ret (pe_cmpR op_isN (pe_call (ok_l_refusal T) (hr.mono (by decide)) (by rfl) T.g__law_refusal T.F_l_refusal.kp T.b_l_refusal .nil pass0 (pa_cons (pv 1) (pa_cons pe_dnewK pa_nil))) pe_non (nomark _)))) pss_nil)
      (pss_cons (ps_set (i := 4) sc_l_refused_right.nd rfl (Or.inl rfl) (pe_call (ok_l_draw T) (hr.mono (by decide)) (by rfl) T.g__law_draw T.F_l_draw.kp T.b_l_draw .nil pass0 (pa_cons (pv 0) (pa_cons (pe_callB call_len_seq (by rfl) T.z_len (by decide +kernel) (pa_cons (pv 3) pa_nil)) pa_nil))))
      (pss_cons (ps_g (ps_for PassesOwn.never rfl (pi_list (pe_slice sl_list (pv 3) (po_some (pv 4)) po_none)) (pg_name (i := 5) sc_l_refused_right.nd rfl (Or.inl rfl)) (pss_one (ps_if (PW.pt (pw_or (pt_cmpR op_eq (pv 5) (pe_ix ix_list (pv 3) (pv 4) (fun _ _ => rfl)) (nomark _)) (pw_or1 (pt_cmpR op_eq (pe_call (ok_l_draw T) (hr.mono (by decide)) (by rfl) T.g__law_draw T.F_l_draw.kp T.b_l_draw .nil pass0 (pa_cons (pv 0) (pa_cons pe_int pa_nil))) pe_int (nomark _))))) (pss_one (ps_dput (hu_of hr) (pv 2) (pv 5) (pe_make T.mk_Ratio (ok_m_Ratio_init T) (hr.mono (by decide)) (by rfl) T.g_Ratio T.b_m_Ratio_init .nil passL (pa_cons (pe_un un_neg pe_int) (pa_cons (pe_op op_add pe_int (pe_call (ok_l_draw T) (hr.mono (by decide)) (by rfl) T.g__law_draw T.F_l_draw.kp T.b_l_draw .nil pass0 (pa_cons (pv 0) (pa_cons pe_int pa_nil)))) pa_nil))) rfl)) pss_nil))))
      (pss_cons (ps_if (pt_cmpR (op_neP hr.units) (pe_call (ok_l_refusal T) (hr.mono (by decide)) (by rfl) T.g__law_refusal T.F_l_refusal.kp T.b_l_refusal .nil pass0 (pa_cons (pv 1) (pa_cons (pv 2) pa_nil))) (pe_tup (pa_cons pe_str (pa_cons (pe_ix ix_list (pv 3) (pv 4) (fun _ _ => rfl)) (pa_cons pe_bl pa_nil)))) (nomark _)) (pss_one (ps_ret pe_bl)) pss_nil)
      (pss_cons (ps_set (i := 4) sc_l_refused_right.nd rfl (Or.inl rfl) (pe_call (ok_l_draw T) (hr.mono (by decide)) (by rfl) T.g__law_draw T.F_l_draw.kp T.b_l_draw .nil pass0 (pa_cons (pv 0) (pa_cons (pe_callB call_len_seq (by rfl) T.z_len (by decide +kernel) (pa_cons (pv 3) pa_nil)) pa_nil))))
      (pss_cons (ps_g (ps_for PassesOwn.never rfl (pi_list (pe_slice sl_list (pv 3) (po_some (pv 4)) po_none)) (pg_name (i := 5) sc_l_refused_right.nd rfl (Or.inl rfl)) (pss_one (ps_if (PW.pt (pw_or (pt_cmpR op_eq (pv 5) (pe_ix ix_list (pv 3) (pv 4) (fun _ _ => rfl)) (nomark _)) (pw_or1 (pt_cmpR op_eq (pe_call (ok_l_draw T) (hr.mono (by decide)) (by rfl) T.g__law_draw T.F_l_draw.kp T.b_l_draw .nil pass0 (pa_cons (pv 0) (pa_cons pe_int pa_nil))) pe_int (nomark _))))) (pss_one (ps_expr (pe_dpop1 (pv 2) (pv 5) ⟨rfl, rfl, rfl, rfl⟩))) pss_nil))))
      (pss_one (ps_ret (pe_cmpR (op_eqP hr.units) (pe_call (ok_l_refusal T) (hr.mono (by decide)) (by rfl) T.g__law_refusal T.F_l_refusal.kp T.b_l_refusal .nil pass0 (pa_cons (pv 1) (pa_cons (pv 2) pa_nil))) (pe_tup (pa_cons pe_str (pa_cons (pe_ix ix_list (pv 3) (pv 4) (fun _ _ => rfl)) (pa_cons pe_bl pa_nil)))) (nomark _))))))))))), ?_⟩
    obtain ⟨p0, dx0, ns, rfl, hp0, hd0, okf⟩ := id hFd
    have hF := hFd.isF
    refine ⟨_, rfl, p0, dx0, _, rfl, hp0, rfl, U, _, f, rfl, hF, fun ns' q okf' hq => ?_⟩
    obtain rfl := okf'.uniq okf
    have s1 := Same.new (o := .lst (ns'.map V.str)) hq
    have B1 := B.new (o := .lst (ns'.map V.str)) hq
    have nq := (B.ne hq).1
    have nqd : q ≠ d := (ne_of_none hd hq).symm
    have hq1 := upd_same (H := H) (a := q) (o := .lst (ns'.map V.str))
    generalize upd H q (.lst (ns'.map V.str)) = H1 at *
    refine ⟨_, rfl, Nat.zero_le _, fun e7 he7 => ⟨q, e7, _, rfl, rfl, SqL.of (Same.new he7 _ _ hq1), SqL.of upd_same, _, rfl, ?_⟩⟩
    have s2 := Same.new (o := .lst []) he7
    have s02 := s1.trans s2
    have B2 := B1.new (o := .lst []) he7
    have hq2 := s2 _ _ hq1
    generalize upd H1 e7 (.lst []) = H2 at *
    rcases Classical.em (ns' = []) with hn | hn
    · subst hn
      have f0 : ∀ n, ¬ f n ≠ 0 := fun n hn => nomatch (okf.nz n).mpr hn
      exact iteT ⟨_, rfl, fun e8 he8 => ⟨U, _, e8, [], [], f, fun _ => 0, 67, 67, rfl, (hF.same s02).same (Same.new he8), upd_same, Tab.nil, uok, sf, szF_zero, by decide, fun n0 h => absurd h (f0 n0), fun n0 _ h => absurd h (f0 n0), fun _ _ H9 s9 => ⟨rfl, k H9 (B2.keep ((Same.new he8).trans s9)) fun b o e _ _ => s9 _ _ (Same.new he8 _ _ (s02 _ _ e))⟩⟩⟩
    · have hne : (ns'.map V.str).isEmpty = false := by
        cases ns' with
        | nil => exact absurd rfl hn
        | cons _ _ => rfl
      show if (ns'.map V.str).isEmpty = true then _ else _
      rw [hne]
      have nl1 : 0 < ns'.length := List.length_pos_iff.mpr hn
      have nl2 : ns'.length < 30 := Nat.lt_of_le_of_lt okf.len uok.len
      have nnd := okf.srt.nd
      have hin : ∀ n ∈ ns', n ∈ ks ∧ 0 ≤ p n := fun n hn => hall n ((okf.nz n).mp hn)
      have b67 : (5 : Nat) < 2 ^ 67 := by decide
      refine iteF ⟨_, rfl, _, rfl, q, _, rfl, .inl (SqL.of hq2), g, l, _, rfl, B2, by rw [List.length_map]; omega, lt_pow (a := 10) (by rw [List.length_map]; omega) (by decide), fun c H3 c0 c1 B3 K3 => ?_⟩
      rw [List.length_map] at c1
      obtain ⟨j, rfl⟩ := Int.eq_ofNat_of_zero_le c0
      have hj : j < ns'.length := by omega
      obtain ⟨n0, hn0⟩ : ∃ n0, ns'[j]? = some n0 := ⟨_, List.getElem?_eq_getElem hj⟩
      have hq3 := K3 _ _ hq2 nq
      refine ⟨⟨_, rfl, _, rfl, (j : Int), rfl, q, _, rfl, SqL.of hq3, fun sl hsl => ?_⟩⟩
      rw [cutV_drop (by rw [List.length_map]; omega), ← List.map_drop]
      have s4 := Same.new (o := .lst ((ns'.drop j).map V.str)) hsl
      have B4 := B3.new (o := .lst ((ns'.drop j).map V.str)) hsl
      have nsl := (B3.ne hsl).1
      have hsl4 := upd_same (H := H3) (a := sl) (o := .lst ((ns'.drop j).map V.str))
      have O4 : Ko g d H (upd H3 sl (.lst ((ns'.drop j).map V.str))) := (Ko.same s02).trans ((Ko.kp K3).trans (Ko.same s4))
      have hF4 := ((hFd.same s02).kp B2 K3).same s4
      have hdg : d ≠ g := fun e => by
        obtain ⟨xs, hg⟩ := B.lst
        rw [← e, hd] at hg
        cases hg
      have hdl : d ≠ l := fun e => by
        obtain ⟨_, _, _, _, _, _, hl, _⟩ := B.ex
        rw [← e, hd] at hl
        cases hl
      have hd4 := s4 _ _ (K3 _ _ (s02 _ _ hd) hdg)
      have t4 := ((t.mono okN (.same s02)).mono okN (.bag K3 B2)).mono okN (.same s4)
      have nsd : sl ≠ d := (ne_of_none (K3 _ _ (s02 _ _ hd) hdg) hsl).symm
      have hq4 := s4 _ _ hq3
      generalize upd H3 sl (.lst ((ns'.drop j).map V.str)) = H4 at *
      have hatj : atI (ns'.map V.str) (j : Int) = some (.str n0) := atI_nat (by rw [List.getElem?_map, hn0]; rfl)
      refine ⟨sl, rfl, ⟨_, SqL.of hsl4⟩, for_list (xs := (ns'.drop j).map V.str) (fun i σ' H' => Wd (∃ (kv2 : List (Key × V)) (p2 : Fn) (o5 : Option V), σ' = [some (.ref g), some (.ref p0), some (.ref d), some (.ref q), some (.int (j : Int)), o5] ∧ H' d = some (.dK kv2) ∧ Tab (IsN A.Ratio) H' kv2 ks p2 ∧ SzF 67 p2 ∧ (∀ m ∈ ns'.take j, 0 ≤ p2 m) ∧ (1 ≤ i → p2 n0 < 0) ∧ Bag H' g l ∧ Ko g d H4 H' ∧ IsFd A.Form A.Ratio U H' (.ref p0) d0 f))
        ⟨kv, p, none, rfl, hd4, t4, sp, fun m hm => (hin m (List.mem_of_mem_take hm)).2, fun z => absurd z (by decide), B4, fun _ _ e _ _ => e, hF4⟩ ?_ ?_ ?_⟩
      · rintro i σ' H' _ ⟨kv2, p2, o5, rfl, _, _, _, _, _, _, O, _⟩
        exact SqL.of (O _ _ hsl4 nsl nsd)
      · rintro i y σ' H5 hi ⟨kv2, p2, o5, rfl, hd5, t5, sp5, pos5, neg5, B5, O5, F5⟩
        obtain ⟨n, hnn, rfl⟩ := names_at hi
        have hnj := drop_at hnn
        have hnks : n ∈ ks := (hin n (List.mem_of_getElem? hnj)).1
        have fin : ∀ (H6 : Hp) (x : Addr) (q6 : Rat), H6 d = some (.dK kv2) → Tab (IsN A.Ratio) H6 kv2 ks p2 → IsR A.Ratio H6 (.ref x) q6 → q6 < 0 → Sz 67 q6 → Bag H6 g l → Ko g d H4 H6 → IsFd A.Form A.Ratio U H6 (.ref p0) d0 f → Wd (∃ (kv2' : List (Key × V)) (p2 : Fn) (o5 : Option V), [some (V.ref g), some (.ref p0), some (.ref d), some (.ref q), some (.int (j : Int)), some (V.str n)] = [some (.ref g), some (.ref p0), some (.ref d), some (.ref q), some (.int (j : Int)), o5] ∧ (upd H6 d (.dK (putK kv2 (.inr n) (.ref x)))) d = some (.dK kv2') ∧ Tab (IsN A.Ratio) (upd H6 d (.dK (putK kv2 (.inr n) (.ref x)))) kv2' ks p2 ∧ SzF 67 p2 ∧ (∀ m ∈ ns'.take j, 0 ≤ p2 m) ∧ (1 ≤ i + 1 → p2 n0 < 0) ∧ Bag (upd H6 d (.dK (putK kv2 (.inr n) (.ref x)))) g l ∧ Ko g d H4 (upd H6 d (.dK (putK kv2 (.inr n) (.ref x)))) ∧ IsFd A.Form A.Ratio U (upd H6 d (.dK (putK kv2 (.inr n) (.ref x)))) (.ref p0) d0 f) := fun H6 x q6 hd6 t6 i6 neg6 sz6 B6 O6 F6 => by
          have t7 := t6.put (H' := upd H6 d (.dK (putK kv2 (.inr n) (.ref x)))) (n := n) (v := .ref x) (q := q6) okN ((Fx.refl H6).dk hd6) (.inl (okR _ _ _ _ ((Fx.refl H6).dk hd6) i6))
          rw [show insN ks n = ks from if_pos hnks] at t7
          refine ⟨_, atN n q6 p2, _, rfl, upd_same, t7, szF_at sp5 sz6, fun m hm => ?_, fun _ => ?_, B6.put ⟨hdg, hdl⟩, O6.trans Ko.put, F6.putD hd6 nd0⟩
          · unfold atN
            rw [if_neg fun e => by
              subst e
              obtain ⟨i2, h2⟩ := List.mem_iff_getElem?.mp hm
              rw [List.getElem?_take] at h2
              split at h2
              · have := nd_at nnd h2 hnj
                omega
              · cases h2]
            exact pos5 m hm
          · unfold atN
            split
            · exact neg6
            · next hne => exact neg5 (by
                rcases Nat.eq_zero_or_pos i with rfl | h
                · rw [Nat.add_zero, hn0] at hnj
                  exact absurd (Option.some.inj hnj) hne
                · exact h)
        have stay : ∀ (H6 : Hp), n ≠ n0 → H6 d = some (.dK kv2) → Tab (IsN A.Ratio) H6 kv2 ks p2 → Bag H6 g l → Ko g d H4 H6 → IsFd A.Form A.Ratio U H6 (.ref p0) d0 f → Wd (∃ (kv2 : List (Key × V)) (p2 : Fn) (o5 : Option V), [some (V.ref g), some (.ref p0), some (.ref d), some (.ref q), some (.int (j : Int)), some (V.str n)] = [some (.ref g), some (.ref p0), some (.ref d), some (.ref q), some (.int (j : Int)), o5] ∧ H6 d = some (.dK kv2) ∧ Tab (IsN A.Ratio) H6 kv2 ks p2 ∧ SzF 67 p2 ∧ (∀ m ∈ ns'.take j, 0 ≤ p2 m) ∧ (1 ≤ i + 1 → p2 n0 < 0) ∧ Bag H6 g l ∧ Ko g d H4 H6 ∧ IsFd A.Form A.Ratio U H6 (.ref p0) d0 f) := fun H6 hne hd6 t6 B6 O6 F6 => ⟨kv2, p2, _, rfl, hd6, t6, sp5, pos5, fun _ => neg5 (by
          rcases Nat.eq_zero_or_pos i with rfl | h
          · rw [Nat.add_zero, hn0] at hnj
            exact absurd (Option.some.inj hnj).symm hne
          · exact h), B6, O6, F6⟩
        have hq5 := O5 _ _ hq4 nq nqd
        have kl5 : kv2.length < sizeLine := by
          rw [t5.len]
          exact Nat.lt_of_le_of_lt hkl (by decide)
        refine ⟨_, rfl, _, rfl, _, rfl, q, _, _, _, rfl, rfl, SqL.of hq5, hatj, rfl, _, rfl, if_dec (fun e => ?_) (fun e => ?_)⟩
        · refine iteT ⟨_, rfl, _, rfl, g, l, 5, rfl, B5, by decide, by decide, fun c2 H6 e0 e1 B6 K6 => ⟨_, _, rfl, rfl, ?_⟩⟩
          intro x dx hx hdx _
          refine mk_ratio hx hdx (lt_pow (a := 67) (by omega) (by decide)) (fun e => absurd e (by omega)) (fun _ H7 s7 i7 => ⟨rfl, ?_⟩)
          have hd7 := s7 _ _ (K6 _ _ hd5 hdg)
          exact ⟨_, rfl, _, rfl, d, _, rfl, DPut.k (k := .inr n) hd7 kl5, fin H7 x _ hd7 ((t5.mono okN (.bag K6 B5)).mono okN (.same s7)) i7 (neg_q e0) (Sz.div (by decide) (by omega) (by omega)) (B6.keep s7) (O5.trans ((Ko.kp K6).trans (Ko.same s7))) ((F5.kp B5 K6).same s7)⟩
        · refine ⟨_, rfl, g, l, 2, rfl, B5, by decide, by decide, fun c3 H8 e0 e1 B8 K8 => ⟨rfl, _, rfl, if_int (fun e3 => ?_) (fun e3 => ?_)⟩⟩
          · refine ⟨_, rfl, _, rfl, g, l, 5, rfl, B8, by decide, by decide, fun c2 H6 e0 e1 B6 K6 => ⟨_, _, rfl, rfl, ?_⟩⟩
            intro x dx hx hdx _
            refine mk_ratio hx hdx (lt_pow (a := 67) (by omega) (by decide)) (fun e => absurd e (by omega)) (fun _ H7 s7 i7 => ⟨rfl, ?_⟩)
            have hd7 := s7 _ _ (K6 _ _ (K8 _ _ hd5 hdg) hdg)
            exact ⟨_, rfl, _, rfl, d, _, rfl, DPut.k (k := .inr n) hd7 kl5, fin H7 x _ hd7 (((t5.mono okN (.bag K8 B5)).mono okN (.bag K6 B8)).mono okN (.same s7)) i7 (neg_q e0) (Sz.div (by decide) (by omega) (by omega)) (B6.keep s7) (O5.trans ((Ko.kp K8).trans ((Ko.kp K6).trans (Ko.same s7)))) (((F5.kp B5 K8).kp B8 K6).same s7)⟩
          · exact stay H8 (fun z => e (congrArg V.str z)) (K8 _ _ hd5 hdg) (t5.mono okN (.bag K8 B5)) B8 (O5.trans (Ko.kp K8)) (F5.kp B5 K8)
      · rintro σ' H5 ⟨kv2, p2, o5, rfl, hd5, t5, sp5, pos5, neg5, B5, O5, F5⟩
        have nd5 : p2 n0 < 0 := neg5 (by rw [List.length_map, List.length_drop]; omega)
        have least : ∀ n', n' ∈ ns' → leS n' n0 → (n' ∈ ns'.take j → False) → n' = n0 := fun n' h1 h2 h3 => by
          obtain ⟨i1, e1⟩ := List.mem_iff_getElem?.mp h1
          rcases Nat.lt_trichotomy i1 j with h | h | h
          · exact (h3 (List.mem_iff_getElem?.mpr ⟨i1, by rw [List.getElem?_take, if_pos h]; exact e1⟩)).elim
          · subst h
            exact Option.some.inj (e1.symm.trans hn0)
          · exact leS_anti h2 (get_le okf.srt.s hn0 e1 h)
        have fn0 : f n0 ≠ 0 := (okf.nz n0).mp (List.mem_of_getElem? hn0)
        have hq5 := O5 _ _ hq4 nq nqd
        refine ⟨_, rfl, _, rfl, U, _, d, kv2, ks, f, p2, 67, 67, rfl, F5.isF, hd5, t5, uok, sf, sp5, by decide, fun n1 h1 h2 _ => absurd (hall n1 h1).1 h2, fun n1 h0 h1 h2 h3 r1 H6 s6 hr1 => ?_, fun h1 h2 => absurd nd5 (Rat.not_lt.mpr (h2 n0 fn0))⟩
        obtain rfl := least n1 ((okf.nz n1).mpr h1) (h3 n0 fn0 nd5) fun z => Rat.not_lt.mpr (pos5 n1 z) h2
        have B6 := B5.keep s6
        have O6 := O5.trans (Ko.same (g := g) (d := d) s6)
        have F6 := F5.same s6
        have t6 := t5.mono okN (.same s6)
        have hd6 := s6 _ _ hd5
        have hq6 := s6 _ _ hq5
        refine ⟨_, rfl, _, rfl, q, _, _, _, rfl, rfl, SqL.of hq6, hatj, (by show 3 ≤ sizeLine; decide), fun e7 he7 => ?_⟩
        have s7 := Same.new (o := .tup [.str "below", .str n1, .bl true]) he7
        refine ne_dl (dl_tel (s7 _ _ hr1)) (dl_tel upd_same) (by decide) ⟨_, rfl, iteF ?_⟩
        have B7 := B6.keep s7
        have O7 := O6.trans (Ko.same (g := g) (d := d) s7)
        have F7 := F6.same s7
        have t7 := t6.mono okN (.same s7)
        have hd7 := s7 _ _ hd6
        have hq7 := s7 _ _ hq6
        generalize upd H6 e7 (.tup [.str "below", .str n1, .bl true]) = H7 at *
        refine ⟨_, rfl, _, rfl, q, _, rfl, .inl (SqL.of hq7), g, l, _, rfl, B7, by rw [List.length_map]; omega, lt_pow (a := 10) (by rw [List.length_map]; omega) (by decide), fun c2 H8 d0' d1 B8 K8 => ?_⟩
        rw [List.length_map] at d1
        obtain ⟨j2, rfl⟩ := Int.eq_ofNat_of_zero_le d0'
        have hj2 : j2 < ns'.length := by omega
        obtain ⟨n2, hn2⟩ : ∃ n2, ns'[j2]? = some n2 := ⟨_, List.getElem?_eq_getElem hj2⟩
        have hq8 := K8 _ _ hq7 nq
        refine ⟨⟨_, rfl, _, rfl, (j2 : Int), rfl, q, _, rfl, SqL.of hq8, fun sl2 hsl2 => ?_⟩⟩
        rw [cutV_drop (by rw [List.length_map]; omega), ← List.map_drop]
        have s9 := Same.new (o := .lst ((ns'.drop j2).map V.str)) hsl2
        have B9 := B8.new (o := .lst ((ns'.drop j2).map V.str)) hsl2
        have nsl2 := (B8.ne hsl2).1
        have hsl9 := upd_same (H := H8) (a := sl2) (o := .lst ((ns'.drop j2).map V.str))
        have O9 := O7.trans ((Ko.kp (d := d) K8).trans (Ko.same s9))
        have F9 := (F7.kp B7 K8).same s9
        have hd9 := s9 _ _ (K8 _ _ hd7 hdg)
        have t9 := (t7.mono okN (.bag K8 B7)).mono okN (.same s9)
        have nsd2 : sl2 ≠ d := (ne_of_none (K8 _ _ hd7 hdg) hsl2).symm
        have hq9 := s9 _ _ hq8
        generalize upd H8 sl2 (.lst ((ns'.drop j2).map V.str)) = H9 at *
        have hat2 : atI (ns'.map V.str) (j2 : Int) = some (.str n2) := atI_nat (by rw [List.getElem?_map, hn2]; rfl)
        refine ⟨sl2, rfl, ⟨_, SqL.of hsl9⟩, for_list (xs := (ns'.drop j2).map V.str) (fun i σ' H' => Wd (∃ (kv3 : List (Key × V)) (ks3 : List Str) (p3 : Fn) (o5 : Option V), σ' = [some (.ref g), some (.ref p0), some (.ref d), some (.ref q), some (.int (j2 : Int)), o5] ∧ H' d = some (.dK kv3) ∧ Tab (IsN A.Ratio) H' kv3 ks3 p3 ∧ SzF 67 p3 ∧ (∀ m ∈ ns'.take j2, m ∈ ks3) ∧ (∀ (x : Nat) (m : Str), j2 + i ≤ x → ns'[x]? = some m → m ∈ ks3) ∧ (1 ≤ i → n2 ∉ ks3) ∧ Bag H' g l ∧ Ko g d H9 H' ∧ IsFd A.Form A.Ratio U H' (.ref p0) d0 f))
          ⟨kv2, ks, p2, o5, rfl, hd9, t9, sp5, fun m hm => (hin m (List.mem_of_mem_take hm)).1, fun x m _ hm => (hin m (List.mem_of_getElem? hm)).1, fun z => absurd z (by decide), B9, fun _ _ e _ _ => e, F9⟩ ?_ ?_ ?_⟩
        · rintro i σ' H' _ ⟨kv3, ks3, p3, o6, rfl, _, _, _, _, _, _, _, O, _⟩
          exact SqL.of (O _ _ hsl9 nsl2 nsd2)
        · rintro i y σ' HA hi ⟨kv3, ks3, p3, o6, rfl, hdA, tA, spA, tkA, drA, noA, BA, OA, FA⟩
          obtain ⟨n, hnn, rfl⟩ := names_at hi
          have hnj := drop_at hnn
          have hn3 : n ∈ ks3 := drA _ _ (Nat.le_refl _) hnj
          have hqA := OA _ _ hq9 nq nqd
          have eqn : i ≠ 0 → n ≠ n2 := fun hi0 e => by
            subst e
            have := nd_at nnd hn2 hnj
            omega
          have fin : ∀ (H6 : Hp), H6 d = some (.dK kv3) → Tab (IsN A.Ratio) H6 kv3 ks3 p3 → Bag H6 g l → Ko g d H9 H6 → IsFd A.Form A.Ratio U H6 (.ref p0) d0 f → Wd (∃ (kv3' : List (Key × V)) (ks3 : List Str) (p3 : Fn) (o5 : Option V), [some (V.ref g), some (.ref p0), some (.ref d), some (.ref q), some (.int (j2 : Int)), some (V.str n)] = [some (.ref g), some (.ref p0), some (.ref d), some (.ref q), some (.int (j2 : Int)), o5] ∧ (upd H6 d (.dK (dropK kv3 (.inr n)))) d = some (.dK kv3') ∧ Tab (IsN A.Ratio) (upd H6 d (.dK (dropK kv3 (.inr n)))) kv3' ks3 p3 ∧ SzF 67 p3 ∧ (∀ m ∈ ns'.take j2, m ∈ ks3) ∧ (∀ (x : Nat) (m : Str), j2 + (i + 1) ≤ x → ns'[x]? = some m → m ∈ ks3) ∧ (1 ≤ i + 1 → n2 ∉ ks3) ∧ Bag (upd H6 d (.dK (dropK kv3 (.inr n)))) g l ∧ Ko g d H9 (upd H6 d (.dK (dropK kv3 (.inr n)))) ∧ IsFd A.Form A.Ratio U (upd H6 d (.dK (dropK kv3 (.inr n)))) (.ref p0) d0 f) := fun H6 hd6 t6 B6 O6 F6 => by
            have t7 := t6.drop (H' := upd H6 d (.dK (dropK kv3 (.inr n)))) okN ((Fx.refl H6).dk hd6) n
            have keepm : ∀ {m : Str} {x : Nat}, ns'[x]? = some m → x ≠ j2 + i → m ∈ ks3 → m ∈ ks3.filter fun m => decide (m ≠ n) := fun {m x} hx ne hm => List.mem_filter.mpr ⟨hm, decide_eq_true fun e => by
              subst e
              exact ne (nd_at nnd hx hnj)⟩
            refine ⟨_, _, _, _, rfl, upd_same, t7, szF_at spA (szF_zero ("" : Str)), fun m hm => ?_, fun x m hx hm => keepm hm (by omega) (drA x m (by omega) hm), fun _ z => ?_, B6.put ⟨hdg, hdl⟩, O6.trans Ko.put, F6.putD hd6 nd0⟩
            · obtain ⟨x, ex⟩ := List.mem_iff_getElem?.mp hm
              rw [List.getElem?_take] at ex
              split at ex
              · exact keepm ex (by omega) (tkA m hm)
              · cases ex
            · obtain ⟨z1, z2⟩ := List.mem_filter.mp z
              rcases Nat.eq_zero_or_pos i with rfl | h
              · rw [Nat.add_zero, hn2] at hnj
                exact (of_decide_eq_true z2) (Option.some.inj hnj)
              · exact noA h z1
          refine ⟨_, rfl, _, rfl, _, rfl, q, _, _, _, rfl, rfl, SqL.of hqA, hat2, rfl, _, rfl, if_dec (fun e => ?_) (fun e => ?_)⟩
          · obtain ⟨v3, hv3, _⟩ := tA.yes n hn3
            exact iteT ⟨_, rfl, d, rfl, .inl ⟨_, .inl hdA⟩, _, rfl, kv3, .inr n, v3, hdA, rfl, hv3, fin HA hdA tA BA OA FA⟩
          · refine ⟨_, rfl, g, l, 2, rfl, BA, by decide, by decide, fun c3 H6 e0 e1 B6 K6 => ⟨rfl, _, rfl, if_int (fun e3 => ?_) (fun e3 => ?_)⟩⟩
            · obtain ⟨v3, hv3, _⟩ := tA.yes n hn3
              have hd6 := K6 _ _ hdA hdg
              exact ⟨_, rfl, d, rfl, .inl ⟨_, .inl hd6⟩, _, rfl, kv3, .inr n, v3, hd6, rfl, hv3, fin H6 hd6 (tA.mono okN (.bag K6 BA)) B6 (OA.trans (Ko.kp K6)) (FA.kp BA K6)⟩
            · have hi0 : i ≠ 0 := fun z => by
                subst z
                rw [Nat.add_zero, hn2] at hnj
                exact e (congrArg V.str (Option.some.inj hnj).symm)
              exact ⟨kv3, ks3, p3, _, rfl, K6 _ _ hdA hdg, tA.mono okN (.bag K6 BA), spA, tkA, fun x m hx hm => drA x m (by omega) hm, fun _ => noA (Nat.pos_of_ne_zero hi0), B6, OA.trans (Ko.kp K6), FA.kp BA K6⟩
        · rintro σ' HA ⟨kv3, ks3, p3, o6, rfl, hdA, tA, spA, tkA, drA, noA, BA, OA, FA⟩
          have no2 : n2 ∉ ks3 := noA (by rw [List.length_map, List.length_drop]; omega)
          have fn2 : f n2 ≠ 0 := (okf.nz n2).mp (List.mem_of_getElem? hn2)
          have hqA := OA _ _ hq9 nq nqd
          refine ⟨_, rfl, _, rfl, U, _, d, kv3, ks3, f, p3, 67, 67, rfl, FA.isF, hdA, tA, uok, sf, spA, by decide, fun n4 h1 h2 h3 r1 HB sB hr1 => ?_, fun n1 h0 => absurd (h0 n2 fn2) no2, fun h1 => absurd (h1 n2 fn2) no2⟩
          obtain rfl : n4 = n2 := by
            have hm4 := (okf.nz n4).mpr h1
            obtain ⟨i1, e1⟩ := List.mem_iff_getElem?.mp hm4
            rcases Nat.lt_trichotomy i1 j2 with h | h | h
            · exact absurd (tkA n4 (List.mem_iff_getElem?.mpr ⟨i1, by rw [List.getElem?_take, if_pos h]; exact e1⟩)) h2
            · subst h
              exact Option.some.inj (e1.symm.trans hn2)
            · exact leS_anti (h3 n2 fn2 no2) (get_le okf.srt.s hn2 e1 h)
          refine ⟨_, rfl, _, rfl, q, _, _, _, rfl, rfl, SqL.of (sB _ _ hqA), hat2, (by show 3 ≤ sizeLine; decide), fun e8 he8 => ?_⟩
          have s8 := Same.new (o := .tup [.str "none", .str n4, .bl true]) he8
          exact eq_dl (dl_tel (s8 _ _ hr1)) (dl_tel upd_same) (by decide) (k _ ((BA.keep sB).keep s8) (O4.trans (O9.trans (OA.trans ((Ko.same sB).trans (Ko.same s8))))))
end

theorem valid_nm {n : List Nat} (h : NmOk n) : validZ (SX.S n) = true := by
  obtain ⟨h1, h2, h3⟩ := h
  unfold validZ
  rw [SX.S_len, decide_eq_true h1, decide_eq_true h2, Bool.true_and, Bool.true_and]
  refine List.all_eq_true.mpr fun c hc => decide_eq_true ?_
  have hc := h3 c hc
  have : c = 97 ∨ c = 98 ∨ c = 99 ∨ c = 100 ∨ c = 101 ∨ c = 102 ∨ c = 103 ∨ c = 104 ∨ c = 105 ∨ c = 106 ∨ c = 107 ∨ c = 108 ∨ c = 109 ∨ c = 110 ∨ c = 111 ∨ c = 112 ∨ c = 113 ∨ c = 114 ∨ c = 115 ∨ c = 116 ∨ c = 117 ∨ c = 118 ∨ c = 119 ∨ c = 120 ∨ c = 121 ∨ c = 122 := by omega
  rcases this with rfl | rfl | rfl | rfl | rfl | rfl | rfl | rfl | rfl | rfl | rfl | rfl | rfl | rfl | rfl | rfl | rfl | rfl | rfl | rfl | rfl | rfl | rfl | rfl | rfl | rfl <;> decide +kernel
def words4F : List (List Nat) := [[115, 105, 108, 107], [102, 111, 114, 109], [110, 97, 109, 101, 115], [115, 104, 97, 114, 101]]
theorem uok_names {ns : List (List Nat)} (h : ∀ n ∈ ns, NmOk n ∨ n ∈ words4F) (hl : ns.length < 30) : UOk (ns.map SX.S) := by
  refine ⟨fun z hz => ?_, by rw [List.length_map]; exact hl⟩
  obtain ⟨n, hn, rfl⟩ := List.mem_map.mp hz
  rcases h n hn with h | h
  · exact valid_nm h
  · unfold words4F at h
    simp only [List.mem_cons, List.not_mem_nil, or_false] at h
    rcases h with rfl | rfl | rfl | rfl <;> decide +kernel
theorem nodup_S {ns : List (List Nat)} (h : ns.Nodup) : (ns.map SX.S).Nodup := List.Pairwise.map SX.S (fun _ _ n e => n (SX.S_inj e)) h
theorem Tab.flat {CR : Addr} {H : Hp} {kvs : List (Key × V)} {ks : List Str} {f : Fn} (t : Tab (IsN CR) H kvs ks f) : (kvs.map (·.1)).Nodup ∧ ∀ p ∈ kvs, flatB p.2 = true ∨ ∃ a, p.2 = .ref a := by
  have nd : (kvs.map (·.1)).Nodup := by
    rw [t.keys]
    exact List.Pairwise.map Sum.inr (fun _ _ n e => n (Sum.inr.inj e)) t.nd
  refine ⟨nd, fun p hp => ?_⟩
  have hk : p.1 ∈ kvs.map (·.1) := List.mem_map.mpr ⟨p, hp, rfl⟩
  rw [t.keys] at hk
  obtain ⟨n, hn, e⟩ := List.mem_map.mp hk
  obtain ⟨v, hv, iv⟩ := t.yes n hn
  have := val_nodup nd p hp
  rw [← e, hv] at this
  cases this
  rcases iv with ⟨q, _, e, _⟩ | ⟨m, e, _⟩
  · exact .inr ⟨q, e⟩
  · rw [e]
    exact .inl rfl
theorem DD.kd {R : NR} {g l : Addr} {H H' : Hp} {d : Addr} {kvs : List (Key × V)} (h : H d = some (.dK kvs)) (B : Bag H g l) (k : Kp g H H') : H' d = some (.dK kvs) := by
  obtain ⟨xs, hg⟩ := B.lst
  exact k _ _ h (ne_of h hg (by intro z; cases z))

section
variable {P : Program} {w : World} {K : PySem.W.Frag} {mg : Str → Option Value} {base : Heap} {A : Ad}
theorem hu_of0 {k : Nat} {A : Around} (r : Room k A) : A.units < cLine := by have := r.un; omega
theorem inV_st {ns : List Str} {x : Str} : inV (.str x) (ns.map V.str) = decide (x ∈ ns) := by
  unfold inV
  rw [List.any_map, List.any_eq, decide_eq_decide]
  constructor
  · rintro ⟨y, hy, h⟩
    have h : eqV (.str y) (.str x) = true := h
    have e : V.str y = V.str x := by simpa [eqV] using h
    rw [← V.str.inj e]
    exact hy
  · intro h
    exact ⟨x, h, by simp [eqV]⟩
theorem rsum_cons (q : Rat) (qs : List Rat) : rsum (q :: qs) = q + rsum qs := by
  have h : ∀ (qs : List Rat) (a b : Rat), qs.foldl (· + ·) (a + b) = a + qs.foldl (· + ·) b := by
    intro qs
    induction qs with
    | nil => intro a b; rfl
    | cons x xs ih =>
      intro a b
      rw [List.foldl_cons, Rat.add_assoc, ih, List.foldl_cons]
  unfold rsum
  rw [List.foldl_cons, Rat.zero_add, ← h, Rat.add_zero]
theorem rsum_perm {a b : List Rat} (h : a.Perm b) : rsum a = rsum b := by
  induction h with
  | nil => rfl
  | cons x _ ih => rw [rsum_cons, rsum_cons, ih]
  | swap x y l => rw [rsum_cons, rsum_cons, rsum_cons, rsum_cons, ← Rat.add_assoc, ← Rat.add_assoc, Rat.add_comm y x]
  | trans _ _ ih1 ih2 => exact ih1.trans ih2
theorem rsum_nz {f G : Fn} (hG : ∀ n, f n = 0 → G n = 0) : ∀ ks : List Str, rsum (ks.map G) = rsum ((ks.filter fun n => decide (f n ≠ 0)).map G)
  | [] => rfl
  | n :: ks => by
    rw [List.map_cons, rsum_cons, rsum_nz hG ks]
    by_cases h : f n = 0
    · rw [List.filter_cons_of_neg (by rw [decide_eq_false (not_not_intro h)]; decide), hG n h, Rat.zero_add]
    · rw [List.filter_cons_of_pos (p := fun n => decide (f n ≠ 0)) (decide_eq_true h), List.map_cons, rsum_cons]
theorem rsum_same {f p r : Fn} {ns ks : List Str} (hn : ns.Nodup) (hk : ks.Nodup) (hmem : ∀ n, n ∈ ns ↔ f n ≠ 0) (hsub : ∀ n, f n ≠ 0 → n ∈ ks) (heq : ∀ n ∈ ns, p n = r n) : rsum (ns.map fun n => f n * p n) = rsum (ks.map fun n => f n * r n) := by
  rw [rsum_nz (f := f) (fun n e => by show f n * r n = 0; rw [e, Rat.zero_mul]) ks]
  have e1 : (ns.map fun n => f n * p n) = ns.map fun n => f n * r n := List.map_congr_left fun n h => by rw [heq n h]
  rw [e1]
  refine rsum_perm (List.Perm.map _ ((List.perm_ext_iff_of_nodup hn (hk.sublist List.filter_sublist)).mpr fun n => ?_))
  rw [hmem, List.mem_filter, decide_eq_true_eq]
  exact ⟨fun z => ⟨hsub n z, z⟩, And.right⟩
theorem ok_f_law (T : Txt K mg A) : FnOk P w K mg base CX0 24 A.f_law A.fd_f_law P_f_law (spLaw K) := by
  refine T.F_f_law.ok sc_f_law (fun vs H Q E h => ?_) (fun cdv Ar outer s H vs Q E hr h => ?_)
  · obtain ⟨a, ns, rfl, _⟩ := h
    rfl
  · obtain ⟨a, ns, rfl, hS, hlen, k⟩ := h
    refine ⟨_, (pss_cons (ps_set (i := 1) sc_f_law.nd rfl (Or.inl rfl) (pe_call (ok_l_bag T) (hr.mono (by decide)) (by rfl) T.g__law_bag T.F_l_bag.kp T.b_l_bag .nil pass0 (pa_cons (pv 0) pa_nil)))
      (pss_cons (ps_set (i := 2) sc_f_law.nd rfl (Or.inl rfl) (pe_call (ok_l_names T) (hr.mono (by decide)) (by rfl) T.g__law_names T.F_l_names.kp T.b_l_names .nil pass0 (pa_cons (pv 1) (pa_cons (pe_op op_add pe_int (pe_call (ok_l_draw T) (hr.mono (by decide)) (by rfl) T.g__law_draw T.F_l_draw.kp T.b_l_draw .nil pass0 (pa_cons (pv 1) (pa_cons pe_int pa_nil)))) (pa_cons (pe_lst (pa_cons pe_str (pa_cons pe_str (pa_cons pe_str (pa_cons pe_str pa_nil))))) pa_nil)))))
      (pss_cons (ps_set (i := 3) sc_f_law.nd rfl (Or.inl rfl) (pe_call (ok_l_shares T) (hr.mono (by decide)) (by rfl) T.g__law_shares T.F_l_shares.kp T.b_l_shares .nil pass0 (pa_cons (pv 1) (pa_cons (pv 2) pa_nil))))
      (pss_cons (ps_set (i := 4) sc_f_law.nd rfl (Or.inl rfl) (pe_call (ok_l_shares T) (hr.mono (by decide)) (by rfl) T.g__law_shares T.F_l_shares.kp T.b_l_shares .nil pass0 (pa_cons (pv 1) (pa_cons (pv 2) pa_nil))))
      (pss_g (Evl.pss_cut (ps_if (pt_cmpR op_eq (pe_call (ok_l_draw T) (hr.mono (by decide)) (by rfl) T.g__law_draw T.F_l_draw.kp T.b_l_draw .nil pass0 (pa_cons (pv 1) (pa_cons pe_int pa_nil))) pe_int (nomark _)) (pss_cons (ps_set (i := 5) sc_f_law.nd rfl (Or.inl rfl) pe_dnewK)
      (pss_cons (ps_g (ps_for PassesOwn.never rfl (pi_list (pv 2)) (pg_name (i := 6) sc_f_law.nd rfl (Or.inl rfl)) (pss_cons (ps_asg (pe_call (ok_l_share T) (hr.mono (by decide)) (by rfl) T.g__law_share T.F_l_share.kp T.b_l_share .nil pass0 (pa_cons (pv 1) pa_nil)) (pg_tup (n := 2) rfl (pgs_cons (pg_name (i := 7) sc_f_law.nd rfl (Or.inl rfl)) (pgs_cons (pg_name (i := 8) sc_f_law.nd rfl (Or.inl rfl)) pgs_nil))))
      (pss_one (ps_dput (hu_of hr) (pv 5) (pv 6) (pe_tup (pa_cons (pe_op op_mulW (pe_callB call_abs (by rfl) T.z_abs (by decide +kernel) (pa_cons (pv 7) pa_nil)) (pe_call (ok_l_draw T) (hr.mono (by decide)) (by rfl) T.g__law_draw T.F_l_draw.kp T.b_l_draw .nil pass0 (pa_cons (pv 1) (pa_cons pe_int pa_nil)))) (pa_cons (pv 8) pa_nil))) rfl)))))
      (pss_one (ps_set (i := 4) sc_f_law.nd rfl (Or.inl rfl) (pe_call (ok_l_sum T) (hr.mono (by decide)) (by rfl) T.g__law_sum T.F_l_sum.kp T.b_l_sum .nil pass0 (pa_cons (pv 3) (pa_cons (pv 5) (pa_cons pe_int pa_nil)))))))) pss_nil)
      (pss_cons (ps_set (i := 9) sc_f_law.nd rfl (Or.inr rfl) (pe_make T.mk_Form (ok_m_Form_init T) (hr.mono (by decide)) (by rfl) T.g_Form T.b_m_Form_init .nil passL (pa_cons (pe_call (ok_l_handed T) (hr.mono (by decide)) (by rfl) T.g__law_handed T.F_l_handed.kp T.b_l_handed .nil pass0 (pa_cons (pv 1) (pa_cons (pv 3) pa_nil))) pa_nil)))
      (pss_cons (ps_if (pt_not (pt_val (pe_call (ok_l_order_right T) (hr.mono (by decide)) (by rfl) T.g__law_order_right T.F_l_order_right.kp T.b_l_order_right .nil pass0 (pa_cons (pv 9) (pa_cons (pe_make T.mk_Form (ok_m_Form_init T) (hr.mono (by decide)) (by rfl) T.g_Form T.b_m_Form_init .nil passL (pa_cons (pe_call (ok_l_handed T) (hr.mono (by decide)) (by rfl) T.g__law_handed T.F_l_handed.kp T.b_l_handed .nil pass0 (pa_cons (pv 1) (pa_cons (pv 4) pa_nil))) pa_nil)) (pa_cons (pv 3) (pa_cons (pv 4) (pa_cons (pv 2) pa_nil)))))))) (pss_one (ps_ret pe_bl)) pss_nil)
      (pss_cons (ps_set (i := 10) sc_f_law.nd rfl (Or.inl rfl) pe_dnewK)
      (pss_cons (ps_g (ps_for PassesOwn.never rfl (pi_list (pe_op op_cat (pv 2) (pe_lst (pa_cons pe_str pa_nil)))) (pg_name (i := 6) sc_f_law.nd rfl (Or.inl rfl)) (pss_one (ps_dput (hu_of hr) (pv 10) (pv 6) (pe_call (ok_l_price T) (hr.mono (by decide)) (by rfl) T.g__law_price T.F_l_price.kp T.b_l_price .nil pass0 (pa_cons (pv 1) pa_nil)) rfl))))
      (pss_cons (ps_set (i := 11) sc_f_law.nd rfl (Or.inl rfl) (pe_call (ok_l_handed T) (hr.mono (by decide)) (by rfl) T.g__law_handed T.F_l_handed.kp T.b_l_handed .nil pass0 (pa_cons (pv 1) (pa_cons (pv 10) pa_nil))))
      (pss_cons (ps_g (ps_for PassesOwn.never rfl (pi_list (pe_g (pe_lock (pe_lcV (own := [("_law_name", 6)]) rfl sc_f_law.nd (pi_keys (pv 11)) (blkOk_by (own := [("_law_name", 6)]) (N := N_f_law) (sc := defScope s_f_law) (by decide +kernel)) (fun _ _ _ _ _ => (pg_name (i := 6) sc_f_law.nd rfl (Or.inl rfl))) (fun _ _ _ _ _ => (pts_one (pt_cmpR op_notIn_seq (pv 6) (pe_meth0 (pv 9) T.cl_Form T.m_Form_names (ok_m_Form_names T) (hr.mono (by decide)) T.b_m_Form_names .nil pass0) (by rfl)))) (fun _ _ _ _ _ => (pv 6)) (fun _ _ _ _ _ => rfl) (fun _ _ _ _ _ => rfl) (fun _ _ _ _ _ => rfl))))) (pg_name (i := 6) sc_f_law.nd rfl (Or.inl rfl)) (pss_one (ps_dput (hu_of hr) (pv 11) (pv 6) (pe_un un_neg pe_int) rfl))))
      (pss_cons (ps_g (ps_for PassesOwn.never rfl (pi_range1 rfl T.z_range (pa_cons pe_int pa_nil)) (pg_name (i := 12) sc_f_law.nd rfl (Or.inl rfl)) (pss_cons (ps_set (i := 13) sc_f_law.nd rfl (Or.inl rfl) (pe_callTy call_dictD (by rfl) T.z_dict (by decide +kernel) (pa_cons (pv 11) pa_nil)))
      (pss_cons (ps_set (i := 14) sc_f_law.nd rfl (Or.inl rfl) (pe_meth (pv 9) T.cl_Form T.m_Form_at (ok_m_Form_at T) (hr.mono (by decide)) T.b_m_Form_at .nil passL (pa_cons (pv 11) pa_nil)))
      (pss_cons (ps_if (PW.pt (pw_or (pt_cmpR (op_neD hr.units) (pe_tup (pa_cons (pe_fld (pv 14) rfl) (pa_cons (pe_fld (pv 14) rfl) pa_nil))) (pe_call (ok_l_value T) (hr.mono (by decide)) (by rfl) T.g__law_value T.F_l_value.kp T.b_l_value .nil pass0 (pa_cons (pv 3) (pa_cons (pv 10) pa_nil))) (nomark _)) (pw_or1 (pt_cmpR (op_neDS (hu_of0 hr)) (pv 11) (pv 13) (nomark _))))) (pss_one (ps_ret pe_bl)) pss_nil)
      (pss_cons (ps_set (i := 15) sc_f_law.nd rfl (Or.inl rfl) (pe_call (ok_l_pick T) (hr.mono (by decide)) (by rfl) T.g__law_pick T.F_l_pick.kp T.b_l_pick .nil pass0 (pa_cons (pv 1) (pa_cons (pv 2) pa_nil))))
      (pss_one (ps_if (PW.pt (pw_and (pt_cmpR op_gt (pv 12) pe_int (nomark _)) (pw_and1 (pt_cmpR op_in_seq (pv 15) (pe_meth0 (pv 9) T.cl_Form T.m_Form_names (ok_m_Form_names T) (hr.mono (by decide)) T.b_m_Form_names .nil pass0) (by rfl))))) (pss_cons (ps_dput (hu_of hr) (pv 10) (pv 15) (pe_call (ok_l_price T) (hr.mono (by decide)) (by rfl) T.g__law_price T.F_l_price.kp T.b_l_price .nil pass0 (pa_cons (pv 1) pa_nil)) rfl)
      (pss_one (ps_dput (hu_of hr) (pv 11) (pv 15) (pe_make T.mk_Ratio (ok_m_Ratio_init T) (hr.mono (by decide)) (by rfl) T.g_Ratio T.b_m_Ratio_init .nil passL (pa_cons (pe_ix ix_tup (pe_dget (hu_of hr) (pv 10) (pv 15) (fun _ _ => rfl)) pe_int (fun _ _ => rfl)) (pa_cons (pe_ix ix_tup (pe_dget (hu_of hr) (pv 10) (pv 15) (fun _ _ => rfl)) pe_int (fun _ _ => rfl)) pa_nil))) rfl))) pss_nil))))))))
      (pss_one (ps_ret (pe_and (pe_call (ok_l_refused_right T) (hr.mono (by decide)) (by rfl) T.g__law_refused_right T.F_l_refused_right.kp T.b_l_refused_right .nil pass0 (pa_cons (pv 1) (pa_cons (pv 9) (pa_cons (pv 11) pa_nil)))) (pe_one (pe_call (ok_l_bad_names T) (hr.mono (by decide)) (by rfl) T.g__law_bad_names T.F_l_bad_names.kp T.b_l_bad_names .nil pass0 (pa_cons (pv 1) (pa_cons (pv 2) pa_nil)))))))))))))))))))), ?_⟩
    walk_at "go"
    intro g l H1 s1 hg hl B1
    refine ⟨_, rfl, _, rfl, g, l, 6, rfl, B1, by decide, by decide, fun c H2 c0 c1 B2 K2 => ?_⟩
    refine ⟨_, _, rfl, rfl, (by show 4 ≤ sizeLine; decide), fun wl hwl => ?_⟩
    have B3 := B2.new (o := .lst [V.str "silk", .str "form", .str "names", .str "share"]) hwl
    refine ⟨g, l, wl, 1 + c, words4F, rfl, B3, (B2.ne hwl).1, by omega, by omega, upd_same, by decide, by decide, by decide, fun nq ns H4 nnq hnq nlen nnd nok B4 K4 => ?_⟩
    have nqg : nq ≠ g := (B3.ne nnq).1
    have nl6 : ns.length < 30 := by rw [nlen]; omega
    have nl0 : 0 < ns.length := by rw [nlen]; omega
    have uok := uok_names nok nl6
    have hnd := nodup_S nnd
    have emap : ns.map vS = (ns.map SX.S).map V.str := by rw [List.map_map]; rfl
    rw [emap] at hnq
    rw [← List.length_map (f := SX.S)] at nl6 nl0
    clear nok nnd nlen emap
    generalize ns.map SX.S = U at *
    refine ⟨_, rfl, _, rfl, g, l, nq, U, rfl, B4, nqg, hnq, hnd, by omega, fun d1 kv1 ks1 f H5 nd1 h1 t1 sf sub1 B5 K5 => ?_⟩
    have hnq5 := K5 _ _ hnq nqg
    refine ⟨_, rfl, _, rfl, g, l, nq, U, rfl, B5, nqg, hnq5, hnd, by omega, fun d2 kv2 ks2 f2 H6 nd2 h2 t2 sf2 sub2 B6 K6 => ?_⟩
    have hnq6 := K6 _ _ hnq5 nqg
    have h16 := DD.kd (R := IsP) h1 B5 K6
    have t16 := t1.mono okP (.bag K6 B5)
    have l1 : ks1.length ≤ 30 := by have := t1.nd.length_le_of_subset (l₂ := U) fun n hn => sub1 n hn; omega
    clear h1 t1 hnq hnq5
    refine ⟨⟨fun σ' H' => Wd (∃ (d2 : Addr) (kv2 : List (Key × V)) (ks2 : List Str) (g2 : Fn) (o5 o6 o7 o8 : Option V), σ' = [some (.ref a), some (.ref g), some (.ref nq), some (.ref d1), some (.ref d2), o5, o6, o7, o8, none, none, none, none, none, none, none] ∧ H' d2 = some (.dK kv2) ∧ Tab IsP H' kv2 ks2 g2 ∧ SzF 136 g2 ∧ (∀ n ∈ ks2, n ∈ U) ∧ Bag H' g l ∧ Kp g H6 H'), ?_, ?_⟩⟩
    · refine ⟨_, rfl, g, l, 2, rfl, B6, by decide, by decide, fun c2 H7 e0 e1 B7 K7 => ⟨rfl, _, rfl, if_int (fun e => ?_) (fun e => ?_)⟩⟩
      · have h17 := DD.kd (R := IsP) h16 B6 K7
        have t17 := t16.mono okP (.bag K7 B6)
        have hnq7 := K7 _ _ hnq6 nqg
        intro p hp
        have npg := B7.ne hp
        have hp6 : H6 p = none := by
          cases e6 : H6 p with
          | none => rfl
          | some o => rw [K7 _ _ e6 npg.1] at hp; cases hp
        have sp := Same.new (o := .dK []) hp
        have hp8 := upd_same (H := H7) (a := p) (o := .dK [])
        have B8 := B7.keep sp
        have K8 := K7.trans (Kp.same sp)
        generalize upd H7 p (.dK []) = H8 at *
        refine ⟨_, rfl, nq, rfl, ⟨_, SqL.of (K8 _ _ hnq6 nqg)⟩, for_list (xs := U.map V.str) (fun i σ' H' => Wd (∃ (kvm : List (Key × V)) (ksm : List Str) (gm : Fn) (o6 o7 o8 : Option V), σ' = [some (.ref a), some (.ref g), some (.ref nq), some (.ref d1), some (.ref d2), some (.ref p), o6, o7, o8, none, none, none, none, none, none, none] ∧ H' p = some (.dK kvm) ∧ Tab (IsQ 68) H' kvm ksm gm ∧ (∀ n ∈ ksm, n ∈ U) ∧ SzF 68 gm ∧ Bag H' g l ∧ Kp g H6 H'))
          ⟨[], [], fun _ => 0, none, none, none, rfl, hp8, Tab.nil, fun _ z => (nomatch z), fun n => (szF_zero n).mono (by decide), B8, K8⟩ ?_ ?_ ?_⟩
        · rintro i σ' H' _ ⟨kvm, ksm, gm, o6, o7, o8, rfl, _, _, _, _, _, K⟩
          exact SqL.of (K _ _ hnq6 nqg)
        · rintro i y σ' H9 hi ⟨kvm, ksm, gm, o6, o7, o8, rfl, hp9, t9, sub9, sg9, B9, K9⟩
          obtain ⟨n, hn, rfl⟩ := names_at hi
          refine ⟨_, rfl, g, l, rfl, B9, fun tv q H10 sq ⟨tp, etv, htp⟩ B10 K10 => ?_⟩
          subst etv
          have zn := sq.1
          have zd := sq.2
          have hden : (q.den : Int) ≠ 0 := by have := q.den_nz; omega
          refine ⟨tp, _, rfl, SqT.of htp, rfl, _, _, rfl, _, _, rfl, rfl, ?_⟩
          refine ⟨_, rfl, q.num, rfl, _, rfl, g, l, 2, rfl, B10, by decide, by decide, fun c3 H11 f0 f1 B11 K11 => ?_⟩
          have za : (if q.num < 0 then -q.num else q.num).natAbs < 2 ^ 67 := by split <;> omega
          have zc : c3.natAbs < 2 ^ 1 := by omega
          have zm := mul_lt za zc
          refine ⟨_, _, rfl, rfl, mulw za zc (by decide), _, rfl, (by show 2 ≤ sizeLine; decide), fun p2 hp2 => ?_⟩
          have s12 := Same.new (o := .tup [.int ((if q.num < 0 then -q.num else q.num) * c3), .int (q.den : Int)]) hp2
          have B12 := B11.keep s12
          have K1012 := K11.trans (Kp.same s12)
          have hp12 := K1012 _ _ (K10 _ _ hp9 npg.1) npg.1
          have t12 := (t9.mono okQ (.bag K10 B9)).mono okQ (.bag K1012 B10)
          have hp22 := upd_same (H := H11) (a := p2) (o := .tup [.int ((if q.num < 0 then -q.num else q.num) * c3), .int (q.den : Int)])
          generalize upd H11 p2 (.tup [.int ((if q.num < 0 then -q.num else q.num) * c3), .int (q.den : Int)]) = H12 at *
          have kl : kvm.length < sizeLine := by
            rw [t9.len]
            have := t9.nd.length_le_of_subset (l₂ := U) fun n hn => sub9 n hn
            exact Nat.lt_of_le_of_lt (by omega : _ ≤ 60) (by decide)
          refine ⟨_, rfl, _, rfl, p, _, rfl, DPut.k (k := .inr n) hp12 kl, ?_⟩
          have hnU : n ∈ U := List.mem_of_getElem? hn
          refine ⟨_, insN ksm n, atN n (Rat.divInt ((if q.num < 0 then -q.num else q.num) * c3) (q.den : Int)) gm, _, _, _, rfl, upd_same, t12.put okQ ((Fx.refl H12).dk hp12) (okQ _ _ _ _ ((Fx.refl H12).dk hp12) ⟨p2, _, _, rfl, hp22, hden, lt_pow zm (by decide), lt_pow zd (by decide), rfl⟩), fun m hm => ?_, szF_at sg9 (Sz.div (lt_pow zm (by decide)) (lt_pow zd (by decide)) hden), B12.put npg, (K9.trans (K10.trans K1012)).put hp6⟩
          rcases mem_insN.mp hm with z | rfl
          · exact sub9 m z
          · exact hnU
        · rintro σ' H9 ⟨kvm, ksm, gm, o6, o7, o8, rfl, hp9, t9, sub9, sg9, B9, K9⟩
          have h19 := DD.kd (R := IsP) h16 B6 K9
          have t19 := t16.mono okP (.bag K9 B6)
          refine ⟨_, rfl, _, rfl, d1, p, 1, kv1, kvm, ks1, ksm, f, gm, 67, 68, rfl, .inl rfl, h19, t19, hp9, t9, sf, by decide, by decide, l1, by have := t9.nd.length_le_of_subset (l₂ := U) fun n hn => sub9 n hn; omega, fun d kvs kss H10 s10 nd hd td lk subs => ?_⟩
          exact ⟨d, kvs, kss, _, _, _, _, _, rfl, hd, td, fun n => (sgn_sz sf sg9 n).mono (by decide), fun n hn => (subs n hn).elim (sub1 n) (sub9 n), B9.keep s10, K9.trans (Kp.same s10)⟩
      · exact ⟨d2, kv2, ks2, f2, _, _, _, _, rfl, DD.kd (R := IsP) h2 B6 K7, t2.mono okP (.bag K7 B6), fun n => (sf2 n).mono (by decide), sub2, B7, K7⟩
    · rintro σ' H9 ⟨d2', kv2', ks2', g2, o5, o6, o7, o8, rfl, h29, t29, sg2, sub2', B9, K9⟩
      have h19 := DD.kd (R := IsP) h16 B6 K9
      have t19 := t16.mono okP (.bag K9 B6)
      have hnq9 := K9 _ _ hnq6 nqg
      have l2 : ks2'.length ≤ 30 := by have := t29.nd.length_le_of_subset (l₂ := U) fun n hn => sub2' n hn; omega
      clear h16 t16 hnq6 h2 t2 sub2 sf2 nd2 nd1
      refine ⟨_, rfl, _, rfl, g, l, d1, kv1, ks1, f, 67, rfl, B9, h19, t19, sf, by decide, by omega, fun dh kvh H10 ndh hh th B10 K10 => ?_⟩
      have h110 := DD.kd (R := IsP) h19 B9 K10
      have t110 := t19.mono okP (.bag K10 B9)
      have h210 := DD.kd (R := IsP) h29 B9 K10
      have t210 := t29.mono okP (.bag K10 B9)
      have hnq10 := K10 _ _ hnq9 nqg
      intro x2 dx2 hx2 hdx2 _
      refine mk_formD hx2 hdx2 hh th uok sub1 sf (by decide) fun H11 d0 s11 nd0 iF11 => ⟨rfl, ?_⟩
      have B11 := B10.keep s11
      refine ⟨_, rfl, _, rfl, _, rfl, g, l, d2', kv2', ks2', g2, 136, rfl, B11, s11 _ _ h210, t210.mono okP (.same s11), sg2, by decide, by omega, fun dh2 kvh2 H12 ndh2 hh2 th2 B12 K12 => ?_⟩
      have iF12 := iF11.kp B11 K12
      have h112 := DD.kd (R := IsP) (s11 _ _ h110) B11 K12
      have t112 := (t110.mono okP (.same s11)).mono okP (.bag K12 B11)
      have h212 := DD.kd (R := IsP) (s11 _ _ h210) B11 K12
      have t212 := (t210.mono okP (.same s11)).mono okP (.bag K12 B11)
      have hnq12 := K12 _ _ (s11 _ _ hnq10) nqg
      intro x3 dx3 hx3 hdx3 _
      refine mk_form hx3 hdx3 hh2 th2 uok sub2' sg2 (by decide) fun H13 s13 iG13 => ⟨rfl, ?_⟩
      have iF13 := iF12.same s13
      have h113 := s13 _ _ h112
      have t113 := t112.mono okP (.same s13)
      have h213 := s13 _ _ h212
      have t213 := t212.mono okP (.same s13)
      have hnq13 := s13 _ _ hnq12
      have B13 := B12.keep s13
      clear iF12 h112 t112 h212 t212 hnq12 h110 t110 h210 t210 hnq10 hh th hh2 th2 h19 t19 h29 t29 hnq9
      have ef : ∀ n, n ∉ U → f n = 0 := fun n hn => (t113.no n fun z => hn (sub1 n z)).2
      have eg : ∀ n, n ∉ U → g2 n = 0 := fun n hn => (t213.no n fun z => hn (sub2' n z)).2
      refine ⟨_, rfl, _, rfl, _, rfl, U, _, _, d1, d2', nq, kv1, kv2', ks1, ks2', f, g2, 67, 136, rfl, iF13.isF, iG13, uok, h113, t113, h213, t213, hnq13, sf, sg2, by decide, fun n hn => ⟨ef n hn, eg n hn⟩, fun H14 s14 => ⟨true, rfl, iteF ?_⟩⟩
      have iF14 := iF13.same s14
      have h114 := s14 _ _ h113
      have t114 := t113.mono okP (.same s14)
      have hnq14 := s14 _ _ hnq13
      have B14 := B13.keep s14
      clear iF13 iG13 h113 t113 h213 t213 hnq13 B13 s14 s13 eg
      intro dp hdp
      have ndpg := B14.ne hdp
      have sp15 := Same.new (o := .dK []) hdp
      have B15 := B14.keep sp15
      have K15 : Kp g H14 (upd H14 dp (.dK [])) := Kp.same sp15
      have hdp15 := upd_same (H := H14) (a := dp) (o := .dK [])
      generalize upd H14 dp (.dK []) = H15 at *
      refine ⟨_, rfl, (by show 1 ≤ sizeLine; decide), fun zq hzq => ?_⟩
      have s16 := Same.new (o := .lst [V.str "zzzzzzzzz"]) hzq
      have K16 := K15.trans (Kp.same s16)
      have B16 := B15.keep s16
      have hdp16 := s16 _ _ hdp15
      have hzq16 := upd_same (H := H15) (a := zq) (o := .lst [V.str "zzzzzzzzz"])
      generalize upd H15 zq (.lst [V.str "zzzzzzzzz"]) = H16 at *
      refine ⟨nq, zq, _, _, rfl, rfl, K16 _ _ hnq14 nqg, hzq16, by rw [List.length_map]; exact Nat.le_trans (by show U.length + 1 ≤ 60; omega) (by decide), fun cq hcq => ?_⟩
      have s17 := Same.new (o := .lst ((U ++ ([("zzzzzzzzz" : Str)] : List Str)).map V.str)) hcq
      have K17 := K16.trans (Kp.same s17)
      have B17 := B16.keep s17
      have hdp17 := s17 _ _ hdp16
      have hcq17 := upd_same (H := H16) (a := cq) (o := .lst ((U ++ ([("zzzzzzzzz" : Str)] : List Str)).map V.str))
      have ncg := B16.ne hcq
      have ncd : cq ≠ dp := (ne_of_none hdp16 hcq).symm
      have ecat : U.map V.str ++ [V.str "zzzzzzzzz"] = (U ++ ([("zzzzzzzzz" : Str)] : List Str)).map V.str := by rw [List.map_append]; rfl
      rw [ecat]
      generalize upd H16 cq (.lst ((U ++ ([("zzzzzzzzz" : Str)] : List Str)).map V.str)) = H17 at *
      generalize hW : U ++ ([("zzzzzzzzz" : Str)] : List Str) = W at *
      have lW : W.length ≤ 31 := by rw [← hW, List.length_append]; show U.length + 1 ≤ 31; omega
      have subW : ∀ n ∈ U, n ∈ W := fun n hn => by rw [← hW]; exact List.mem_append_left _ hn
      refine ⟨cq, rfl, ⟨_, SqL.of hcq17⟩, for_list (xs := W.map V.str) (fun i σ' H' => Wd (∃ (kvp : List (Key × V)) (ksp : List Str) (pr : Fn) (o6 : Option V), σ' = [some (.ref a), some (.ref g), some (.ref nq), some (.ref d1), some (.ref d2'), o5, o6, o7, o8, some (.ref x2), some (.ref dp), none, none, none, none, none] ∧ H' dp = some (.dK kvp) ∧ H' cq = some (.lst (W.map V.str)) ∧ Tab IsP H' kvp ksp pr ∧ (∀ n ∈ ksp, n ∈ W) ∧ (∀ n ∈ W.take i, n ∈ ksp) ∧ SzF 67 pr ∧ (∀ n, 0 ≤ pr n) ∧ Bag H' g l ∧ Kp g H14 H'))
        ⟨[], [], fun _ => 0, _, rfl, hdp17, hcq17, Tab.nil, fun _ z => (nomatch z), fun _ z => by simp at z, szF_zero, fun _ => Rat.le_refl, B17, K17⟩ ?_ ?_ ?_⟩
      · rintro i σ' H' _ ⟨kvp, ksp, pr, o6, rfl, _, hc, _⟩
        exact SqL.of hc
      · rintro i y σ' H18 hi ⟨kvp, ksp, pr, o6, rfl, hdp18, hc18, t18, sub18, tk18, sz18, pos18, B18, K18⟩
        obtain ⟨n, hn, rfl⟩ := names_at hi
        refine ⟨_, rfl, g, l, rfl, B18, fun v q H19 sq q0 iv B19 K19 => ?_⟩
        have hdp19 := K19 _ _ hdp18 ndpg.1
        have t19 := t18.mono okP (.bag K19 B18)
        have kl : kvp.length < sizeLine := by
          rw [t18.len]
          have := t18.nd.length_le_of_subset (l₂ := W) fun n hn => sub18 n hn
          exact Nat.lt_of_le_of_lt (by omega : _ ≤ 60) (by decide)
        refine ⟨_, rfl, _, rfl, dp, _, rfl, DPut.k (k := .inr n) hdp19 kl, ?_⟩
        refine ⟨_, insN ksp n, atN n q pr, _, rfl, upd_same, by rw [upd_ne ncd]; exact K19 _ _ hc18 ncg.1, t19.put okP ((Fx.refl H19).dk hdp19) (okP _ _ _ _ ((Fx.refl H19).dk hdp19) iv), fun m hm => ?_, fun m hm => ?_, szF_at sz18 sq, fun m => ?_, B19.put ndpg, (K18.trans K19).put hdp⟩
        · rcases mem_insN.mp hm with z | rfl
          · exact sub18 m z
          · exact List.mem_of_getElem? hn
        · rw [take_more hn, List.mem_append, List.mem_singleton] at hm
          rw [mem_insN]
          exact hm.imp (tk18 m) id
        · unfold atN
          split
          · exact q0
          · exact pos18 m
      · rintro σ' H18 ⟨kvp, ksp, pr, o6, rfl, hdp18, hc18, t18, sub18, tk18, sz18, pos18, B18, K18⟩
        rw [List.length_map, List.take_length] at tk18
        have lks : ksp.length ≤ 31 := Nat.le_trans (t18.nd.length_le_of_subset (l₂ := W) fun n hn => sub18 n hn) lW
        refine ⟨_, rfl, _, rfl, g, l, dp, kvp, ksp, pr, 67, rfl, B18, hdp18, t18, sz18, by decide, by omega, fun dh kvh H19 ndh hh th B19 K19 => ?_⟩
        have ndhg := B18.ne ndh
        have hdh14 : H14 dh = none := by
          cases e : H14 dh with
          | none => rfl
          | some o => rw [K18 _ _ e ndhg.1] at ndh; cases ndh
        have K1419 := K18.trans K19
        have hdp19 := K19 _ _ hdp18 ndpg.1
        have t19 := t18.mono okP (.bag K19 B18)
        have ndd : dp ≠ dh := ne_of_none hdp18 ndh
        refine ⟨⟨dh, .dK kvh, hh, trivial, fun od => ⟨_, rfl, dh, od, rfl, .inl ⟨kvh, upd_same, fun DL hDL => ?_⟩⟩⟩⟩
        obtain ⟨p0, dx0, fns, e0, hp0, hd0, okf⟩ := id iF14
        cases e0
        have nDL : DL ≠ dh := fun e => by rw [e, upd_same] at hDL; cases hDL
        have hDL19 : H19 DL = none := by rw [upd_ne nDL] at hDL; exact hDL
        have KL : Kp g H14 (upd H19 dh (.frz od (.dK kvh))) := K1419.put hdh14
        have BL : Bag (upd H19 dh (.frz od (.dK kvh))) g l := B19.put (by constructor; exact ndhg.1; exact ndhg.2)
        refine lc_it walk_keys (fun i H' => Wd (Same (upd H19 dh (.frz od (.dK kvh))) H' ∧ H' DL = some (.lst (((ksp.take i).filter fun n => decide (n ∉ fns)).map V.str)))) ⟨Same.new hDL, upd_same⟩ (fun i H' _ h => h.ok.1 _ _ upd_same) ?_ ?_
        · rintro i y H2 H3 hi ⟨s2, hD2⟩ ⟨rfl, kk, vv, hkv, rfl⟩
          obtain ⟨n, rfl, hn⟩ := th.key hkv
          have K3 : Kp g H14 H3 := KL.trans (Kp.same s2)
          have iF3 := iF14.kp B14 K3
          obtain ⟨p3, dx3, ns3, e3, hp3, hd3, okf3⟩ := id iF3
          cases e3
          refine ⟨rfl, _, rfl, _, rfl, x2, dx3, _, rfl, hp3, rfl, U, _, f, rfl, iF3.isF, fun ks p okf' hp => ⟨p, _, rfl, .inl (SqL.of upd_same), rfl, List.all_eq_true.mpr (fun v hv => by obtain ⟨_, _, rfl⟩ := List.mem_map.mp hv; rfl), ?_⟩⟩
          obtain rfl := okf'.uniq okf
          have sp3 := Same.new (o := .lst (ks.map V.str)) hp
          have ein : (if true = true then !inV (kV (.inr n)) (ks.map V.str) else inV (kV (.inr n)) (ks.map V.str)) = !decide (n ∈ ks) := by
            rw [if_pos rfl]
            exact congrArg _ inV_st
          refine ⟨_, congrArg V.bl ein, ?_⟩
          have sx := s2.trans sp3
          have hDx := sp3 _ _ hD2
          by_cases hk : n ∈ ks
          · rw [decide_eq_true hk]
            refine iteF ⟨sx, ?_⟩
            rw [hDx, take_more hn, List.filter_append, List.filter_cons_of_neg (by rw [decide_eq_false (not_not_intro hk)]; decide)]
            simp
          · rw [decide_eq_false hk]
            refine iteT ⟨_, rfl, _, hDx, ?_, Same.at_new hDL sx, ?_⟩
            · rw [List.length_map]
              exact Nat.lt_of_le_of_lt (Nat.le_trans (List.length_filter_le _ _) (by rw [List.length_take]; omega : _ ≤ 31)) (by decide)
            · rw [upd_same, take_more hn, List.filter_append, List.filter_cons_of_pos (p := fun n => decide (n ∉ ks)) (decide_eq_true hk), List.map_append]
              rfl
        · rintro H2 ⟨s2, hD2⟩
          refine ⟨s2 _ _ upd_same, ?_⟩
          rw [th.len, List.take_length] at hD2
          have sB := same_back hh s2
          have hDB : (upd H2 dh (.dK kvh)) DL = some (.lst ((ksp.filter fun n => decide (n ∉ fns)).map V.str)) := by rw [upd_ne nDL]; exact hD2
          generalize upd H2 dh (.dK kvh) = H20 at *
          have K1420 := K1419.trans (Kp.same sB)
          have B20 := B19.keep sB
          have hh20 := sB _ _ hh
          have th20 := th.mono okN (.same sB)
          have hdp20 := sB _ _ hdp19
          have t20 := t19.mono okP (.same sB)
          clear hDL hDL19 KL BL s2 hD2 hh th hdp19 t19 sB hdp18 t18 ndh
          have hdh14' : H14 dh = none := hdh14
          have fU : ∀ n ∈ fns, n ∈ ksp := fun n hn => tk18 n (subW n (okf.sub n hn))
          refine ⟨DL, rfl, ⟨_, SqL.of hDB⟩, for_list (xs := (ksp.filter fun n => decide (n ∉ fns)).map V.str) (fun i σ' H' => Wd (∃ (kvh : List (Key × V)) (ph : Fn) (o6 : Option V), σ' = [some (.ref a), some (.ref g), some (.ref nq), some (.ref d1), some (.ref d2'), o5, o6, o7, o8, some (.ref x2), some (.ref dp), some (.ref dh), none, none, none, none] ∧ H' DL = some (.lst ((ksp.filter fun n => decide (n ∉ fns)).map V.str)) ∧ H' dh = some (.dK kvh) ∧ Tab (IsN A.Ratio) H' kvh ksp ph ∧ SzF 67 ph ∧ (∀ n ∈ fns, ph n = pr n) ∧ H' dp = some (.dK kvp) ∧ Tab IsP H' kvp ksp pr ∧ Bag H' g l ∧ Kp g H14 H'))
            ⟨kvh, pr, _, rfl, hDB, hh20, th20, sz18, fun _ _ => rfl, hdp20, t20, B20, K1420⟩ ?_ ?_ ?_⟩
          · rintro i σ' H' _ ⟨kvh, ph, o6, rfl, hD, _⟩
            exact SqL.of hD
          · rintro i y σ' H21 hi ⟨kvh, ph, o6, rfl, hD21, hh21, th21, szh, eqh, hdp21, t21, B21, K21⟩
            obtain ⟨n, hn, rfl⟩ := names_at hi
            have hn' := List.mem_filter.mp (List.mem_of_getElem? hn)
            have nfn : n ∉ fns := of_decide_eq_true hn'.2
            have kl : kvh.length < sizeLine := by
              rw [th21.len]
              exact Nat.lt_of_le_of_lt (by omega : _ ≤ 60) (by decide)
            refine ⟨_, rfl, _, rfl, _, rfl, dh, _, rfl, DPut.k (k := .inr n) hh21 kl, ?_⟩
            have tx := th21.put (H' := upd H21 dh (.dK (putK kvh (.inr n) (.int (-1))))) (n := n) (v := .int (-1)) (q := -1) okN ((Fx.refl H21).dk hh21) (.inr ⟨-1, rfl, by decide +kernel⟩)
            rw [show insN ksp n = ksp from if_pos hn'.1] at tx
            refine ⟨_, _, _, rfl, by rw [upd_ne (ne_of hD21 hh21 (by intro z; cases z))]; exact hD21, upd_same, tx, szF_at szh ⟨by decide +kernel, by decide +kernel⟩, fun m hm => ?_, by rw [upd_ne ndd]; exact hdp21, t21.mono okP ((Fx.refl H21).dk hh21), B21.put (by constructor; exact ndhg.1; exact ndhg.2), K21.put hdh14⟩
            unfold atN
            rw [if_neg (show ¬ m = n from fun e => nfn (by rw [← e]; exact hm))]
            exact eqh m hm
          · rintro σ' H21 ⟨kvh, ph, o6, rfl, hD21, hh21, th21, szh, eqh, hdp21, t21, B21, K21⟩
            refine ⟨4, rfl, by decide, by decide, for_range (lo := 0) (n := 4) (fun i σ' H' => Wd (∃ (kvp kvh : List (Key × V)) (pr ph : Fn) (o6 o12 o13 o14 o15 : Option V), σ' = [some (.ref a), some (.ref g), some (.ref nq), some (.ref d1), some (.ref d2'), o5, o6, o7, o8, some (.ref x2), some (.ref dp), some (.ref dh), o12, o13, o14, o15] ∧ H' dh = some (.dK kvh) ∧ Tab (IsN A.Ratio) H' kvh ksp ph ∧ SzF 67 ph ∧ (∀ n ∈ fns, ph n = pr n) ∧ H' dp = some (.dK kvp) ∧ Tab IsP H' kvp ksp pr ∧ SzF 67 pr ∧ (∀ n, 0 ≤ pr n) ∧ Bag H' g l ∧ Kp g H14 H'))
              ⟨kvp, kvh, pr, ph, _, none, none, none, none, rfl, hh21, th21, szh, eqh, hdp21, t21, sz18, pos18, B21, K21⟩ ?_ ?_⟩
            · clear hh21 th21 szh eqh hdp21 t21 sz18 pos18 B21 K21 K1420 K1419 hdp20 t20 hh20 th20 hD21 hDB B20 B19 B18 K18 K19
              rintro i σ' H22 hi ⟨kvp, kvh, pr, ph, o6, o12, o13, o14, o15, rfl, hh22, th22, szh, eqh, hdp22, t22, szp, pos, B22, K22⟩
              have iF22 := iF14.kp B14 K22
              refine ⟨_, rfl, dh, kvh, rfl, .inl hh22, fun dk hdk => ?_⟩
              have sK := Same.new (o := .dK kvh) hdk
              have hk23 := upd_same (H := H22) (a := dk) (o := .dK kvh)
              have iF23 := iF22.same sK
              have hh23 := sK _ _ hh22
              have th23 := th22.mono okN (.same sK)
              generalize upd H22 dk (.dK kvh) = H23 at *
              obtain ⟨p3, dx3, ns3, e3, hp3, hd3, okf3⟩ := id iF23
              cases e3
              refine ⟨_, rfl, x2, dx3, _, rfl, hp3, rfl, _, rfl, U, _, dh, kvh, ksp, f, ph, 67, 67, rfl, iF23.isF, hh23, th23, uok, sf, szh, by decide, fun n0 h1 h2 _ => absurd (fU n0 ((okf.nz n0).mpr h1)) h2, fun n0 _ h1 h2 _ => absurd h2 (Rat.not_lt.mpr (by rw [eqh n0 ((okf.nz n0).mpr h1)]; exact pos n0)), fun _ _ ns4 v4 H24 okf4 s24 iv4 => ?_⟩
              obtain rfl := okf4.uniq okf
              obtain ⟨pv, dx4, rfl, hv4⟩ := id iv4
              have sv := s24
              have hdp24 := s24 _ _ (sK _ _ hdp22)
              have t24 := (t22.mono okP (.same sK)).mono okP (.same s24)
              have hh24 := s24 _ _ hh23
              have th24 := th23.mono okN (.same s24)
              have hk24 := s24 _ _ hk23
              have B24 := (B22.keep sK).keep s24
              have K24 := K22.trans (Kp.same (sK.trans s24))
              have h124 := DD.kd (R := IsP) h114 B14 K24
              have t124 := t114.mono okP (.bag K24 B14)
              have e4 : rsum (ns4.map fun n => f n * ph n) = rsum (ks1.map fun n => f n * pr n) := rsum_same okf.srt.nd t114.nd okf.nz (fun n hn => Classical.byContradiction fun z => hn (t114.no n z).2) eqh
              rw [e4] at hv4
              generalize hq4 : rsum (ks1.map fun n => f n * pr n) = q4 at *
              refine ⟨_, rfl, pv, _, dx4, _, _, rfl, hv4, T.cl_Ratio, T.n_Ratio_top, rf_top _ _, _, rfl, pv, _, dx4, _, _, rfl, hv4, T.cl_Ratio, T.n_Ratio_bottom, rf_bottom _ _, by walk_at "fact", fun p5 hp5 => ?_⟩
              have s25 := Same.new (o := .tup [.int q4.num, .int (q4.den : Int)]) hp5
              have hp55 := upd_same (H := H24) (a := p5) (o := .tup [.int q4.num, .int (q4.den : Int)])
              generalize upd H24 p5 (.tup [.int q4.num, .int (q4.den : Int)]) = H25 at *
              refine ⟨_, rfl, _, rfl, d1, dp, kv1, kvp, ks1, ksp, f, pr, 67, 67, rfl, s25 _ _ h124, t124.mono okP (.same s25), s25 _ _ hdp24, t24.mono okP (.same s25), fun n hn => tk18 n (subW n (sub1 n hn)), sf, szp, by decide, l1, fun p6 H26 s26 hp6 => ?_⟩
              rw [hq4] at hp6
              have s2426 := s25.trans s26
              refine neD_same (s26 _ _ hp55) hp6 ⟨false, rfl, ?_⟩
              obtain ⟨fl1, fl2⟩ := th24.flat
              refine iteF ⟨_, rfl, _, rfl, ⟨dh, dk, kvh, rfl, rfl, s2426 _ _ hh24, s2426 _ _ hk24, fl1, fl2, _, rfl, iteF ?_⟩⟩
              have K26 := K24.trans (Kp.same s2426)
              have B26 := B24.keep s2426
              have hh26 := s2426 _ _ hh24
              have th26 := th24.mono okN (.same s2426)
              have hdp26 := s2426 _ _ hdp24
              have t26 := t24.mono okP (.same s2426)
              clear hp6 hp55 h124 t124 hk24 hh24 th24 hdp24 t24 B24 K24 hh23 th23 hk23 iF22 iF23 hdp22 t22 hh22 th22
              refine ⟨_, rfl, _, rfl, g, l, nq, _, rfl, B26, nqg, K26 _ _ hnq14 nqg, by rw [List.length_map]; exact nl0, by rw [List.length_map]; omega, fun vn H27 vm B27 K27 => ?_⟩
              obtain ⟨n, hn, rfl⟩ := List.mem_map.mp vm
              have Kt := K26.trans K27
              have hh27 := K27 _ _ hh26 ndhg.1
              have th27 := th26.mono okN (.bag K27 B26)
              have hdp27 := K27 _ _ hdp26 ndpg.1
              have t27 := t26.mono okP (.bag K27 B26)
              clear hh26 th26 hdp26 t26 K26
              refine ⟨_, rfl, _, _, rfl, rfl, _, rfl, if_dec (fun e => ?_) (fun e => ?_)⟩
              · have iF27 := iF14.kp B14 Kt
                obtain ⟨p7, dx7, ns7, e7, hp7, hd7, okf7⟩ := id iF27
                cases e7
                refine ⟨_, rfl, _, rfl, x2, dx7, _, rfl, hp7, rfl, U, _, f, rfl, iF27.isF, fun ks8 p8 okf8 hp8 => ⟨p8, _, rfl, .inl (SqL.of upd_same), rfl, List.all_eq_true.mpr (fun v hv => by obtain ⟨_, _, rfl⟩ := List.mem_map.mp hv; rfl), ?_⟩⟩
                obtain rfl := okf8.uniq okf
                have s8 := Same.new (o := .lst (ks8.map V.str)) hp8
                have B28 := B27.keep s8
                have K28 := Kt.trans (Kp.same s8)
                have hh28 := s8 _ _ hh27
                have th28 := th27.mono okN (.same s8)
                have hdp28 := s8 _ _ hdp27
                have t28 := t27.mono okP (.same s8)
                generalize upd H27 p8 (.lst (ks8.map V.str)) = H28 at *
                refine ⟨_, congrArg V.bl (by exact inV_st), if_dec (fun e8 => ?_) (fun e8 => ?_)⟩
                · refine ⟨_, rfl, g, l, rfl, B28, fun v q H29 sq q0 iv B29 K29 => ?_⟩
                  have nks : n ∈ ksp := fU n e8
                  have hdp29 := K29 _ _ hdp28 ndpg.1
                  have t29 := t28.mono okP (.bag K29 B28)
                  have hh29 := K29 _ _ hh28 ndhg.1
                  have th29 := th28.mono okN (.bag K29 B28)
                  have kl : kvp.length < sizeLine := by
                    rw [t29.len]
                    exact Nat.lt_of_le_of_lt (by omega : _ ≤ 60) (by decide)
                  have klh : kvh.length < sizeLine := by
                    rw [th29.len]
                    exact Nat.lt_of_le_of_lt (by omega : _ ≤ 60) (by decide)
                  refine ⟨_, rfl, _, rfl, dp, _, rfl, DPut.k (k := .inr n) hdp29 kl, ?_⟩
                  have fx := (Fx.refl H29).dk (o' := .dK (putK kvp (.inr n) v)) hdp29
                  have t30 := t29.put (n := n) okP fx (okP _ _ _ _ fx iv)
                  rw [show insN ksp n = ksp from if_pos nks] at t30
                  have hdp30 := upd_same (H := H29) (a := dp) (o := .dK (putK kvp (.inr n) v))
                  have hh30 : (upd H29 dp (.dK (putK kvp (.inr n) v))) dh = some (.dK kvh) := by rw [upd_ne ndd.symm]; exact hh29
                  have th30 := th29.mono okN fx
                  have B30 : Bag (upd H29 dp (.dK (putK kvp (.inr n) v))) g l := B29.put ndpg
                  have K30 : Kp g H14 (upd H29 dp (.dK (putK kvp (.inr n) v))) := (K28.trans K29).put hdp
                  generalize upd H29 dp (.dK (putK kvp (.inr n) v)) = H30 at *
                  have hqn : atN n q pr n = q := if_pos rfl
                  obtain ⟨o, hget, hy, _⟩ := DD.get (DD.of hdp30 t30) n
                  obtain ⟨w0, rfl, tp, rfl, htp⟩ := hy nks
                  rw [hqn] at htp
                  have hden : (q.den : Int) ≠ 0 := by have := q.den_nz; omega
                  refine ⟨_, rfl, _, rfl, dp, _, rfl, hget, tp, _, _, _, rfl, rfl, SqT.of htp, rfl, _, rfl, _, rfl, dp, _, rfl, hget, tp, _, _, _, rfl, rfl, SqT.of htp, rfl, ?_⟩
                  intro x9 dx9 hx9 hdx9 _
                  refine mk_ratio hx9 hdx9 (lt_pow (a := 67) sq.2 (by decide)) (fun e => absurd e hden) (fun _ H31 s31 i31 => ⟨rfl, ?_⟩)
                  rw [Rat.num_divInt_den] at i31
                  have hh31 := s31 _ _ hh30
                  have fxh := (Fx.refl H31).dk (o' := .dK (putK kvh (.inr n) (.ref x9))) hh31
                  have th32 := (th30.mono okN (.same s31)).put okN fxh (.inl (okR _ _ _ _ fxh i31)) (n := n)
                  rw [show insN ksp n = ksp from if_pos nks] at th32
                  refine ⟨_, rfl, _, rfl, dh, _, rfl, DPut.k (k := .inr n) hh31 klh, ?_⟩
                  refine ⟨_, _, atN n q pr, atN n q ph, _, _, _, _, _, rfl, upd_same, th32, szF_at szh sq, fun m hm => ?_, by rw [upd_ne ndd]; exact s31 _ _ hdp30, (t30.mono okP (.same s31)).mono okP fxh, szF_at szp sq, fun m => ?_, (B30.keep s31).put (by constructor; exact ndhg.1; exact ndhg.2), (K30.trans (Kp.same s31)).put hdh14⟩
                  · unfold atN
                    split
                    · rfl
                    · exact eqh m hm
                  · unfold atN
                    split
                    · exact q0
                    · exact pos m
                · exact ⟨_, _, _, _, _, _, _, _, _, rfl, hh28, th28, szh, eqh, hdp28, t28, szp, pos, B28, K28⟩
              · exact ⟨_, _, _, _, _, _, _, _, _, rfl, hh27, th27, szh, eqh, hdp27, t27, szp, pos, B27, Kt⟩
            · rintro σ' H22 ⟨kvp, kvh, pr, ph, o6, o12, o13, o14, o15, rfl, hh22, th22, szh, eqh, hdp22, t22, szp, pos, B22, K22⟩
              have iF22 := iF14.kp B14 K22
              have ndd0 : d0 ≠ dh := by
                obtain ⟨kvz, hz, _⟩ := hd0
                rcases hz with hz | ⟨_, hz⟩
                · exact ne_of_none hz hdh14
                · exact ne_of_none hz hdh14
              refine ⟨_, rfl, _, rfl, _, rfl, g, l, U, _, dh, d0, kvh, ksp, f, ph, rfl, B22, iF22, ndd0, hh22, th22, uok, sf, szh, fun n hn => ⟨fU n ((okf.nz n).mpr hn), by rw [eqh n ((okf.nz n).mpr hn)]; exact pos n⟩, by omega, fun H23 B23 kp23 => ⟨_, rfl, iteT ?_⟩⟩
              have hnq22 := K22 _ _ hnq14 nqg
              have nqd : nq ≠ dh := ne_of_none hnq14 hdh14
              exact ⟨_, rfl, _, rfl, g, l, nq, U, rfl, B23, nqg, kp23 _ _ hnq22 nqg nqd, hnd, by omega, uok.good, fun H24 => k H24⟩
end

theorem all_mk {l : PySem.W.OpenLaw} {w : World} {K : PySem.W.Frag} {h : Heap} {mg : Str → Option Value} {fa a_CostError a_NoRatio a_BadName a_NoPrice a_Negative a_Ratio a_Form a_m_BadName_init a_m_NoPrice_init a_m_Negative_init a_f_common_divisor a_f_halves a_m_Ratio_init a_m_Ratio_add a_m_Ratio_radd a_m_Ratio_sub a_m_Ratio_rsub a_m_Ratio_mul a_m_Ratio_rmul a_m_Ratio_neg a_m_Ratio_abs a_m_Ratio_at_most a_m_Ratio_same a_m_Ratio_sum_of a_sp_m_Ratio_sum_of a_f_valid_name a_m_Form_init a_m_Form_of a_sp_m_Form_of a_m_Form_share a_m_Form_names a_m_Form_at_most a_m_Form_same a_m_Form_at a_l_bag a_l_draw a_l_names a_l_pick a_l_mixed a_l_divisor a_l_lowest a_l_top a_l_share a_l_shares a_l_handed a_l_sum a_l_never_greater a_l_value a_l_price a_l_refusal a_l_bad_names a_l_order_right a_l_refused_right a_f_law : Addr} (X : K.In h) (G : h.Ns mainGlobals mg) (hfa : mg "law" = some (.ref fa))
    {od_m_BadName_init : Option Addr} {an_m_BadName_init : Option Addr} {sl_m_BadName_init : Array (Option Value)} {oc_m_BadName_init : Value} {kV_m_BadName_init : Value} {dc_m_BadName_init : Value} {pm_m_BadName_init : Value} {cd_m_BadName_init : Value} {ct_m_BadName_init : Value} {od_m_NoPrice_init : Option Addr} {an_m_NoPrice_init : Option Addr} {sl_m_NoPrice_init : Array (Option Value)} {oc_m_NoPrice_init : Value} {kV_m_NoPrice_init : Value} {dc_m_NoPrice_init : Value} {pm_m_NoPrice_init : Value} {cd_m_NoPrice_init : Value} {ct_m_NoPrice_init : Value} {od_m_Negative_init : Option Addr} {an_m_Negative_init : Option Addr} {sl_m_Negative_init : Array (Option Value)} {oc_m_Negative_init : Value} {kV_m_Negative_init : Value} {dc_m_Negative_init : Value} {pm_m_Negative_init : Value} {cd_m_Negative_init : Value} {ct_m_Negative_init : Value} {od_f_common_divisor : Option Addr} {an_f_common_divisor : Option Addr} {sl_f_common_divisor : Array (Option Value)} {oc_f_common_divisor : Value} {kV_f_common_divisor : Value} {dc_f_common_divisor : Value} {pm_f_common_divisor : Value} {cd_f_common_divisor : Value} {ct_f_common_divisor : Value} {od_f_halves : Option Addr} {an_f_halves : Option Addr} {sl_f_halves : Array (Option Value)} {oc_f_halves : Value} {kV_f_halves : Value} {dc_f_halves : Value} {pm_f_halves : Value} {cd_f_halves : Value} {ct_f_halves : Value} {od_m_Ratio_init : Option Addr} {an_m_Ratio_init : Option Addr} {sl_m_Ratio_init : Array (Option Value)} {oc_m_Ratio_init : Value} {kV_m_Ratio_init : Value} {dc_m_Ratio_init : Value} {pm_m_Ratio_init : Value} {cd_m_Ratio_init : Value} {ct_m_Ratio_init : Value} {tp_m_Ratio_init : Addr} {tn_m_Ratio_init : Nat} {tc_m_Ratio_init : Value} {td_m_Ratio_init : Option Addr} {ts_m_Ratio_init : Array (Option Value)} {tk0_m_Ratio_init : Tok} {od_m_Ratio_add : Option Addr} {an_m_Ratio_add : Option Addr} {sl_m_Ratio_add : Array (Option Value)} {oc_m_Ratio_add : Value} {kV_m_Ratio_add : Value} {dc_m_Ratio_add : Value} {pm_m_Ratio_add : Value} {cd_m_Ratio_add : Value} {ct_m_Ratio_add : Value} {od_m_Ratio_radd : Option Addr} {an_m_Ratio_radd : Option Addr} {sl_m_Ratio_radd : Array (Option Value)} {oc_m_Ratio_radd : Value} {kV_m_Ratio_radd : Value} {dc_m_Ratio_radd : Value} {pm_m_Ratio_radd : Value} {cd_m_Ratio_radd : Value} {ct_m_Ratio_radd : Value} {od_m_Ratio_sub : Option Addr} {an_m_Ratio_sub : Option Addr} {sl_m_Ratio_sub : Array (Option Value)} {oc_m_Ratio_sub : Value} {kV_m_Ratio_sub : Value} {dc_m_Ratio_sub : Value} {pm_m_Ratio_sub : Value} {cd_m_Ratio_sub : Value} {ct_m_Ratio_sub : Value} {od_m_Ratio_rsub : Option Addr} {an_m_Ratio_rsub : Option Addr} {sl_m_Ratio_rsub : Array (Option Value)} {oc_m_Ratio_rsub : Value} {kV_m_Ratio_rsub : Value} {dc_m_Ratio_rsub : Value} {pm_m_Ratio_rsub : Value} {cd_m_Ratio_rsub : Value} {ct_m_Ratio_rsub : Value} {od_m_Ratio_mul : Option Addr} {an_m_Ratio_mul : Option Addr} {sl_m_Ratio_mul : Array (Option Value)} {oc_m_Ratio_mul : Value} {kV_m_Ratio_mul : Value} {dc_m_Ratio_mul : Value} {pm_m_Ratio_mul : Value} {cd_m_Ratio_mul : Value} {ct_m_Ratio_mul : Value} {od_m_Ratio_rmul : Option Addr} {an_m_Ratio_rmul : Option Addr} {sl_m_Ratio_rmul : Array (Option Value)} {oc_m_Ratio_rmul : Value} {kV_m_Ratio_rmul : Value} {dc_m_Ratio_rmul : Value} {pm_m_Ratio_rmul : Value} {cd_m_Ratio_rmul : Value} {ct_m_Ratio_rmul : Value} {od_m_Ratio_neg : Option Addr} {an_m_Ratio_neg : Option Addr} {sl_m_Ratio_neg : Array (Option Value)} {oc_m_Ratio_neg : Value} {kV_m_Ratio_neg : Value} {dc_m_Ratio_neg : Value} {pm_m_Ratio_neg : Value} {cd_m_Ratio_neg : Value} {ct_m_Ratio_neg : Value} {od_m_Ratio_abs : Option Addr} {an_m_Ratio_abs : Option Addr} {sl_m_Ratio_abs : Array (Option Value)} {oc_m_Ratio_abs : Value} {kV_m_Ratio_abs : Value} {dc_m_Ratio_abs : Value} {pm_m_Ratio_abs : Value} {cd_m_Ratio_abs : Value} {ct_m_Ratio_abs : Value} {od_m_Ratio_at_most : Option Addr} {an_m_Ratio_at_most : Option Addr} {sl_m_Ratio_at_most : Array (Option Value)} {oc_m_Ratio_at_most : Value} {kV_m_Ratio_at_most : Value} {dc_m_Ratio_at_most : Value} {pm_m_Ratio_at_most : Value} {cd_m_Ratio_at_most : Value} {ct_m_Ratio_at_most : Value} {od_m_Ratio_same : Option Addr} {an_m_Ratio_same : Option Addr} {sl_m_Ratio_same : Array (Option Value)} {oc_m_Ratio_same : Value} {kV_m_Ratio_same : Value} {dc_m_Ratio_same : Value} {pm_m_Ratio_same : Value} {cd_m_Ratio_same : Value} {ct_m_Ratio_same : Value} {od_m_Ratio_sum_of : Option Addr} {an_m_Ratio_sum_of : Option Addr} {sl_m_Ratio_sum_of : Array (Option Value)} {oc_m_Ratio_sum_of : Value} {kV_m_Ratio_sum_of : Value} {dc_m_Ratio_sum_of : Value} {pm_m_Ratio_sum_of : Value} {cd_m_Ratio_sum_of : Value} {ct_m_Ratio_sum_of : Value} {od_f_valid_name : Option Addr} {an_f_valid_name : Option Addr} {sl_f_valid_name : Array (Option Value)} {oc_f_valid_name : Value} {kV_f_valid_name : Value} {dc_f_valid_name : Value} {pm_f_valid_name : Value} {cd_f_valid_name : Value} {ct_f_valid_name : Value} {od_m_Form_init : Option Addr} {an_m_Form_init : Option Addr} {sl_m_Form_init : Array (Option Value)} {oc_m_Form_init : Value} {kV_m_Form_init : Value} {dc_m_Form_init : Value} {pm_m_Form_init : Value} {cd_m_Form_init : Value} {ct_m_Form_init : Value} {tp_m_Form_init : Addr} {tn_m_Form_init : Nat} {tc_m_Form_init : Value} {td_m_Form_init : Option Addr} {ts_m_Form_init : Array (Option Value)} {od_m_Form_of : Option Addr} {an_m_Form_of : Option Addr} {sl_m_Form_of : Array (Option Value)} {oc_m_Form_of : Value} {kV_m_Form_of : Value} {dc_m_Form_of : Value} {pm_m_Form_of : Value} {cd_m_Form_of : Value} {ct_m_Form_of : Value} {od_m_Form_share : Option Addr} {an_m_Form_share : Option Addr} {sl_m_Form_share : Array (Option Value)} {oc_m_Form_share : Value} {kV_m_Form_share : Value} {dc_m_Form_share : Value} {pm_m_Form_share : Value} {cd_m_Form_share : Value} {ct_m_Form_share : Value} {od_m_Form_names : Option Addr} {an_m_Form_names : Option Addr} {sl_m_Form_names : Array (Option Value)} {oc_m_Form_names : Value} {kV_m_Form_names : Value} {dc_m_Form_names : Value} {pm_m_Form_names : Value} {cd_m_Form_names : Value} {ct_m_Form_names : Value} {od_m_Form_at_most : Option Addr} {an_m_Form_at_most : Option Addr} {sl_m_Form_at_most : Array (Option Value)} {oc_m_Form_at_most : Value} {kV_m_Form_at_most : Value} {dc_m_Form_at_most : Value} {pm_m_Form_at_most : Value} {cd_m_Form_at_most : Value} {ct_m_Form_at_most : Value} {od_m_Form_same : Option Addr} {an_m_Form_same : Option Addr} {sl_m_Form_same : Array (Option Value)} {oc_m_Form_same : Value} {kV_m_Form_same : Value} {dc_m_Form_same : Value} {pm_m_Form_same : Value} {cd_m_Form_same : Value} {ct_m_Form_same : Value} {od_m_Form_at : Option Addr} {an_m_Form_at : Option Addr} {sl_m_Form_at : Array (Option Value)} {oc_m_Form_at : Value} {kV_m_Form_at : Value} {dc_m_Form_at : Value} {pm_m_Form_at : Value} {cd_m_Form_at : Value} {ct_m_Form_at : Value} {od_l_bag : Option Addr} {an_l_bag : Option Addr} {sl_l_bag : Array (Option Value)} {oc_l_bag : Value} {kV_l_bag : Value} {dc_l_bag : Value} {pm_l_bag : Value} {cd_l_bag : Value} {ct_l_bag : Value} {od_l_draw : Option Addr} {an_l_draw : Option Addr} {sl_l_draw : Array (Option Value)} {oc_l_draw : Value} {kV_l_draw : Value} {dc_l_draw : Value} {pm_l_draw : Value} {cd_l_draw : Value} {ct_l_draw : Value} {od_l_names : Option Addr} {an_l_names : Option Addr} {sl_l_names : Array (Option Value)} {oc_l_names : Value} {kV_l_names : Value} {dc_l_names : Value} {pm_l_names : Value} {cd_l_names : Value} {ct_l_names : Value} {od_l_pick : Option Addr} {an_l_pick : Option Addr} {sl_l_pick : Array (Option Value)} {oc_l_pick : Value} {kV_l_pick : Value} {dc_l_pick : Value} {pm_l_pick : Value} {cd_l_pick : Value} {ct_l_pick : Value} {od_l_mixed : Option Addr} {an_l_mixed : Option Addr} {sl_l_mixed : Array (Option Value)} {oc_l_mixed : Value} {kV_l_mixed : Value} {dc_l_mixed : Value} {pm_l_mixed : Value} {cd_l_mixed : Value} {ct_l_mixed : Value} {od_l_divisor : Option Addr} {an_l_divisor : Option Addr} {sl_l_divisor : Array (Option Value)} {oc_l_divisor : Value} {kV_l_divisor : Value} {dc_l_divisor : Value} {pm_l_divisor : Value} {cd_l_divisor : Value} {ct_l_divisor : Value} {od_l_lowest : Option Addr} {an_l_lowest : Option Addr} {sl_l_lowest : Array (Option Value)} {oc_l_lowest : Value} {kV_l_lowest : Value} {dc_l_lowest : Value} {pm_l_lowest : Value} {cd_l_lowest : Value} {ct_l_lowest : Value} {od_l_top : Option Addr} {an_l_top : Option Addr} {sl_l_top : Array (Option Value)} {oc_l_top : Value} {kV_l_top : Value} {dc_l_top : Value} {pm_l_top : Value} {cd_l_top : Value} {ct_l_top : Value} {od_l_share : Option Addr} {an_l_share : Option Addr} {sl_l_share : Array (Option Value)} {oc_l_share : Value} {kV_l_share : Value} {dc_l_share : Value} {pm_l_share : Value} {cd_l_share : Value} {ct_l_share : Value} {od_l_shares : Option Addr} {an_l_shares : Option Addr} {sl_l_shares : Array (Option Value)} {oc_l_shares : Value} {kV_l_shares : Value} {dc_l_shares : Value} {pm_l_shares : Value} {cd_l_shares : Value} {ct_l_shares : Value} {od_l_handed : Option Addr} {an_l_handed : Option Addr} {sl_l_handed : Array (Option Value)} {oc_l_handed : Value} {kV_l_handed : Value} {dc_l_handed : Value} {pm_l_handed : Value} {cd_l_handed : Value} {ct_l_handed : Value} {od_l_sum : Option Addr} {an_l_sum : Option Addr} {sl_l_sum : Array (Option Value)} {oc_l_sum : Value} {kV_l_sum : Value} {dc_l_sum : Value} {pm_l_sum : Value} {cd_l_sum : Value} {ct_l_sum : Value} {od_l_never_greater : Option Addr} {an_l_never_greater : Option Addr} {sl_l_never_greater : Array (Option Value)} {oc_l_never_greater : Value} {kV_l_never_greater : Value} {dc_l_never_greater : Value} {pm_l_never_greater : Value} {cd_l_never_greater : Value} {ct_l_never_greater : Value} {od_l_value : Option Addr} {an_l_value : Option Addr} {sl_l_value : Array (Option Value)} {oc_l_value : Value} {kV_l_value : Value} {dc_l_value : Value} {pm_l_value : Value} {cd_l_value : Value} {ct_l_value : Value} {od_l_price : Option Addr} {an_l_price : Option Addr} {sl_l_price : Array (Option Value)} {oc_l_price : Value} {kV_l_price : Value} {dc_l_price : Value} {pm_l_price : Value} {cd_l_price : Value} {ct_l_price : Value} {od_l_refusal : Option Addr} {an_l_refusal : Option Addr} {sl_l_refusal : Array (Option Value)} {oc_l_refusal : Value} {kV_l_refusal : Value} {dc_l_refusal : Value} {pm_l_refusal : Value} {cd_l_refusal : Value} {ct_l_refusal : Value} {od_l_bad_names : Option Addr} {an_l_bad_names : Option Addr} {sl_l_bad_names : Array (Option Value)} {oc_l_bad_names : Value} {kV_l_bad_names : Value} {dc_l_bad_names : Value} {pm_l_bad_names : Value} {cd_l_bad_names : Value} {ct_l_bad_names : Value} {od_l_order_right : Option Addr} {an_l_order_right : Option Addr} {sl_l_order_right : Array (Option Value)} {oc_l_order_right : Value} {kV_l_order_right : Value} {dc_l_order_right : Value} {pm_l_order_right : Value} {cd_l_order_right : Value} {ct_l_order_right : Value} {od_l_refused_right : Option Addr} {an_l_refused_right : Option Addr} {sl_l_refused_right : Array (Option Value)} {oc_l_refused_right : Value} {kV_l_refused_right : Value} {dc_l_refused_right : Value} {pm_l_refused_right : Value} {cd_l_refused_right : Value} {ct_l_refused_right : Value} {od_f_law : Option Addr} {an_f_law : Option Addr} {sl_f_law : Array (Option Value)} {oc_f_law : Value} {kV_f_law : Value} {dc_f_law : Value} {pm_f_law : Value} {cd_f_law : Value} {ct_f_law : Value} {xnm_BadName : Str} {xq_BadName : Str} {xN_BadName : Addr} {xbs_BadName : List Value} {xbm_BadName : List Value} {xsn_BadName : List Str} {xsub_BadName : List Value} {xab_BadName : Bool} {xcol_BadName : Option Bool} {xdd_BadName : Option Addr} {xk0_BadName : Option Value} {xk1_BadName : Option Value} {xk2_BadName : Option Value} {xk3_BadName : Option Value} {xk5_BadName : Option Value} {xnm_NoPrice : Str} {xq_NoPrice : Str} {xN_NoPrice : Addr} {xbs_NoPrice : List Value} {xbm_NoPrice : List Value} {xsn_NoPrice : List Str} {xsub_NoPrice : List Value} {xab_NoPrice : Bool} {xcol_NoPrice : Option Bool} {xdd_NoPrice : Option Addr} {xk0_NoPrice : Option Value} {xk1_NoPrice : Option Value} {xk2_NoPrice : Option Value} {xk3_NoPrice : Option Value} {xk5_NoPrice : Option Value} {xnm_Negative : Str} {xq_Negative : Str} {xN_Negative : Addr} {xbs_Negative : List Value} {xbm_Negative : List Value} {xsn_Negative : List Str} {xsub_Negative : List Value} {xab_Negative : Bool} {xcol_Negative : Option Bool} {xdd_Negative : Option Addr} {xk0_Negative : Option Value} {xk1_Negative : Option Value} {xk2_Negative : Option Value} {xk3_Negative : Option Value} {xk5_Negative : Option Value} {rest_m_Ratio_sum_of : List Value} {rest_m_Form_of : List Value} {gt_LETTERS : Tok}
    (pz_abs : PySem.W.nsIn K mainGlobals "abs" = some none)
    (pz_all : PySem.W.nsIn K mainGlobals "all" = some none)
    (pz_classmethod : PySem.W.nsIn K mainGlobals "classmethod" = some none)
    (pz_dict : PySem.W.nsIn K mainGlobals "dict" = some none)
    (pz_int : PySem.W.nsIn K mainGlobals "int" = some none)
    (pz_isinstance : PySem.W.nsIn K mainGlobals "isinstance" = some none)
    (pz_len : PySem.W.nsIn K mainGlobals "len" = some none)
    (pz_list : PySem.W.nsIn K mainGlobals "list" = some none)
    (pz_min : PySem.W.nsIn K mainGlobals "min" = some none)
    (pz_range : PySem.W.nsIn K mainGlobals "range" = some none)
    (pz_sorted : PySem.W.nsIn K mainGlobals "sorted" = some none)
    (pz_staticmethod : PySem.W.nsIn K mainGlobals "staticmethod" = some none)
    (pz_str : PySem.W.nsIn K mainGlobals "str" = some none)
    (pg_CostError : PySem.W.nsIn K mainGlobals "CostError" = some (some (.ref a_CostError)))
    (pek_CostError : PySem.W.keepIn K (.ref a_CostError) = true)
    (peb_CostError : PySem.W.subIn K (.ref a_CostError) (.type "BaseException") = some true)
    (pet_CostError : PySem.W.typeIn K (.ref a_CostError) = some (.type "type"))
    (peh_CostError : PySem.W.hasDictIn K a_CostError = true)
    (peic_CostError : PySem.W.isClsIn K a_CostError = true)
    (pes_CostError : PySem.W.subIn K (.ref a_CostError) (.ref a_CostError) = some true)
    (pxg_CostError : PySem.W.findIn K (.ref a_CostError) "__getattribute__" = some (some (.builtin "BaseException.__getattribute__")))
    (pxk_CostError : PySem.W.findIn K (.ref a_CostError) "__getattr__" = some none)
    (pxa_CostError : PySem.W.findIn K (.ref a_CostError) "__class__" = some (some (.builtin "object.__class__")))
    (pxn_CostError : PySem.W.specialIn K (.builtin "object.__class__") "__get__" = some (some (.builtin "getset_descriptor.__get__")))
    (pxt_CostError : PySem.W.takesIn K (.builtin "object.__class__") = some true)
    (pxm_CostError : PySem.W.mroIn K a_CostError (.type "object") = some true)
    (prd_CostError : PySem.W.readsIn K a_CostError (.type "type") = true)
    (pcg_CostError : PySem.W.specialIn K (.ref a_CostError) "__getattribute__" = some (some (.builtin "type.__getattribute__")))
    (pvi_CostError : PySem.W.findCls K (.ref a_CostError) (.type "type") "__init__" = some (.val (.builtin "ValueError.__init__")))
    (pg_NoRatio : PySem.W.nsIn K mainGlobals "NoRatio" = some (some (.ref a_NoRatio)))
    (pek_NoRatio : PySem.W.keepIn K (.ref a_NoRatio) = true)
    (peb_NoRatio : PySem.W.subIn K (.ref a_NoRatio) (.type "BaseException") = some true)
    (pet_NoRatio : PySem.W.typeIn K (.ref a_NoRatio) = some (.type "type"))
    (peh_NoRatio : PySem.W.hasDictIn K a_NoRatio = true)
    (peic_NoRatio : PySem.W.isClsIn K a_NoRatio = true)
    (pes_NoRatio : PySem.W.subIn K (.ref a_NoRatio) (.ref a_NoRatio) = some true)
    (pxg_NoRatio : PySem.W.findIn K (.ref a_NoRatio) "__getattribute__" = some (some (.builtin "BaseException.__getattribute__")))
    (pxk_NoRatio : PySem.W.findIn K (.ref a_NoRatio) "__getattr__" = some none)
    (pxa_NoRatio : PySem.W.findIn K (.ref a_NoRatio) "__class__" = some (some (.builtin "object.__class__")))
    (pxn_NoRatio : PySem.W.specialIn K (.builtin "object.__class__") "__get__" = some (some (.builtin "getset_descriptor.__get__")))
    (pxt_NoRatio : PySem.W.takesIn K (.builtin "object.__class__") = some true)
    (pxm_NoRatio : PySem.W.mroIn K a_NoRatio (.type "object") = some true)
    (pex_NoRatio : PySem.W.excIn K a_NoRatio [.type "ValueError", .type "Exception", .type "BaseException", .type "object"] "ValueError.__new__" = true)
    (pg_BadName : PySem.W.nsIn K mainGlobals "BadName" = some (some (.ref a_BadName)))
    (pek_BadName : PySem.W.keepIn K (.ref a_BadName) = true)
    (peb_BadName : PySem.W.subIn K (.ref a_BadName) (.type "BaseException") = some true)
    (pet_BadName : PySem.W.typeIn K (.ref a_BadName) = some (.type "type"))
    (peh_BadName : PySem.W.hasDictIn K a_BadName = true)
    (peic_BadName : PySem.W.isClsIn K a_BadName = true)
    (pes_BadName : PySem.W.subIn K (.ref a_BadName) (.ref a_BadName) = some true)
    (pxg_BadName : PySem.W.findIn K (.ref a_BadName) "__getattribute__" = some (some (.builtin "BaseException.__getattribute__")))
    (pxk_BadName : PySem.W.findIn K (.ref a_BadName) "__getattr__" = some none)
    (pxa_BadName : PySem.W.findIn K (.ref a_BadName) "__class__" = some (some (.builtin "object.__class__")))
    (pxn_BadName : PySem.W.specialIn K (.builtin "object.__class__") "__get__" = some (some (.builtin "getset_descriptor.__get__")))
    (pxt_BadName : PySem.W.takesIn K (.builtin "object.__class__") = some true)
    (pxm_BadName : PySem.W.mroIn K a_BadName (.type "object") = some true)
    (pxc_BadName : PySem.W.kitOne K (.ref a_BadName) (.ref a_CostError) = some true)
    (pn_BadName_name : PySem.W.findIn K (.ref a_BadName) "name" = some none)
    (poi_BadName : PySem.W.findIn K (.ref a_BadName) "__init__" = some (some (.ref a_m_BadName_init)))
    (pot_BadName : PySem.W.typeIn K (.ref a_m_BadName_init) = some (.type "function"))
    (pol_BadName : K.lookup a_BadName = some (excClassObj xnm_BadName xq_BadName a_BadName xN_BadName xbs_BadName xbm_BadName true xsn_BadName xsub_BadName xab_BadName xcol_BadName xdd_BadName xk0_BadName xk1_BadName xk2_BadName xk3_BadName xk5_BadName "ValueError.__new__"))
    (pov_BadName : PySem.HandSPX.refsVE xbm_BadName = true)
    (posa_BadName : PySem.W.findIn K (.ref a_BadName) "__setattr__" = some (some (.builtin "object.__setattr__")))
    (pg_NoPrice : PySem.W.nsIn K mainGlobals "NoPrice" = some (some (.ref a_NoPrice)))
    (pek_NoPrice : PySem.W.keepIn K (.ref a_NoPrice) = true)
    (peb_NoPrice : PySem.W.subIn K (.ref a_NoPrice) (.type "BaseException") = some true)
    (pet_NoPrice : PySem.W.typeIn K (.ref a_NoPrice) = some (.type "type"))
    (peh_NoPrice : PySem.W.hasDictIn K a_NoPrice = true)
    (peic_NoPrice : PySem.W.isClsIn K a_NoPrice = true)
    (pes_NoPrice : PySem.W.subIn K (.ref a_NoPrice) (.ref a_NoPrice) = some true)
    (pxg_NoPrice : PySem.W.findIn K (.ref a_NoPrice) "__getattribute__" = some (some (.builtin "BaseException.__getattribute__")))
    (pxk_NoPrice : PySem.W.findIn K (.ref a_NoPrice) "__getattr__" = some none)
    (pxa_NoPrice : PySem.W.findIn K (.ref a_NoPrice) "__class__" = some (some (.builtin "object.__class__")))
    (pxn_NoPrice : PySem.W.specialIn K (.builtin "object.__class__") "__get__" = some (some (.builtin "getset_descriptor.__get__")))
    (pxt_NoPrice : PySem.W.takesIn K (.builtin "object.__class__") = some true)
    (pxm_NoPrice : PySem.W.mroIn K a_NoPrice (.type "object") = some true)
    (pxc_NoPrice : PySem.W.kitOne K (.ref a_NoPrice) (.ref a_CostError) = some true)
    (pn_NoPrice_name : PySem.W.findIn K (.ref a_NoPrice) "name" = some none)
    (poi_NoPrice : PySem.W.findIn K (.ref a_NoPrice) "__init__" = some (some (.ref a_m_NoPrice_init)))
    (pot_NoPrice : PySem.W.typeIn K (.ref a_m_NoPrice_init) = some (.type "function"))
    (pol_NoPrice : K.lookup a_NoPrice = some (excClassObj xnm_NoPrice xq_NoPrice a_NoPrice xN_NoPrice xbs_NoPrice xbm_NoPrice true xsn_NoPrice xsub_NoPrice xab_NoPrice xcol_NoPrice xdd_NoPrice xk0_NoPrice xk1_NoPrice xk2_NoPrice xk3_NoPrice xk5_NoPrice "ValueError.__new__"))
    (pov_NoPrice : PySem.HandSPX.refsVE xbm_NoPrice = true)
    (posa_NoPrice : PySem.W.findIn K (.ref a_NoPrice) "__setattr__" = some (some (.builtin "object.__setattr__")))
    (pg_Negative : PySem.W.nsIn K mainGlobals "Negative" = some (some (.ref a_Negative)))
    (pek_Negative : PySem.W.keepIn K (.ref a_Negative) = true)
    (peb_Negative : PySem.W.subIn K (.ref a_Negative) (.type "BaseException") = some true)
    (pet_Negative : PySem.W.typeIn K (.ref a_Negative) = some (.type "type"))
    (peh_Negative : PySem.W.hasDictIn K a_Negative = true)
    (peic_Negative : PySem.W.isClsIn K a_Negative = true)
    (pes_Negative : PySem.W.subIn K (.ref a_Negative) (.ref a_Negative) = some true)
    (pxg_Negative : PySem.W.findIn K (.ref a_Negative) "__getattribute__" = some (some (.builtin "BaseException.__getattribute__")))
    (pxk_Negative : PySem.W.findIn K (.ref a_Negative) "__getattr__" = some none)
    (pxa_Negative : PySem.W.findIn K (.ref a_Negative) "__class__" = some (some (.builtin "object.__class__")))
    (pxn_Negative : PySem.W.specialIn K (.builtin "object.__class__") "__get__" = some (some (.builtin "getset_descriptor.__get__")))
    (pxt_Negative : PySem.W.takesIn K (.builtin "object.__class__") = some true)
    (pxm_Negative : PySem.W.mroIn K a_Negative (.type "object") = some true)
    (pxc_Negative : PySem.W.kitOne K (.ref a_Negative) (.ref a_CostError) = some true)
    (pnn_Negative : PySem.W.exmOne K (.ref a_Negative) (.ref a_NoPrice) = some false)
    (pn_Negative_name : PySem.W.findIn K (.ref a_Negative) "name" = some none)
    (poi_Negative : PySem.W.findIn K (.ref a_Negative) "__init__" = some (some (.ref a_m_Negative_init)))
    (pot_Negative : PySem.W.typeIn K (.ref a_m_Negative_init) = some (.type "function"))
    (pol_Negative : K.lookup a_Negative = some (excClassObj xnm_Negative xq_Negative a_Negative xN_Negative xbs_Negative xbm_Negative true xsn_Negative xsub_Negative xab_Negative xcol_Negative xdd_Negative xk0_Negative xk1_Negative xk2_Negative xk3_Negative xk5_Negative "ValueError.__new__"))
    (pov_Negative : PySem.HandSPX.refsVE xbm_Negative = true)
    (posa_Negative : PySem.W.findIn K (.ref a_Negative) "__setattr__" = some (some (.builtin "object.__setattr__")))
    (pg_Ratio : PySem.W.nsIn K mainGlobals "Ratio" = some (some (.ref a_Ratio)))
    (ppg_Ratio : PySem.W.plainGet K a_Ratio Str.empty = true)
    (phd_Ratio : PySem.W.hasDictIn K a_Ratio = true)
    (ppo_Ratio : PySem.W.plainOver K a_Ratio = true)
    (psa_Ratio : PySem.W.findIn K (.ref a_Ratio) "__setattr__" = some (some (.builtin "object.__setattr__")))
    (pn_Ratio_top : NoAttr K a_Ratio "top")
    (pn_Ratio_bottom : NoAttr K a_Ratio "bottom")
    (pma_Ratio : PySem.W.makesIn K a_Ratio = true)
    (pmi_Ratio : PySem.W.findIn K (.ref a_Ratio) "__init__" = some (some (.ref a_m_Ratio_init)))
    (pmf_Ratio : PySem.W.isFn K (.ref a_m_Ratio_init) = true)
    (pmc_Ratio : PySem.W.keepIn K (.ref a_Ratio) = true)
    (pmt_m_Ratio_add : PySem.W.findIn K (.ref a_Ratio) "__add__" = some (some (.ref a_m_Ratio_add)))
    (pmn_m_Ratio_add : PySem.W.isFn K (.ref a_m_Ratio_add) = true)
    (pmk_m_Ratio_add : PySem.W.keepIn K (.ref a_m_Ratio_add) = true)
    (pmt_m_Ratio_radd : PySem.W.findIn K (.ref a_Ratio) "__radd__" = some (some (.ref a_m_Ratio_radd)))
    (pmn_m_Ratio_radd : PySem.W.isFn K (.ref a_m_Ratio_radd) = true)
    (pmk_m_Ratio_radd : PySem.W.keepIn K (.ref a_m_Ratio_radd) = true)
    (pmt_m_Ratio_sub : PySem.W.findIn K (.ref a_Ratio) "__sub__" = some (some (.ref a_m_Ratio_sub)))
    (pmn_m_Ratio_sub : PySem.W.isFn K (.ref a_m_Ratio_sub) = true)
    (pmk_m_Ratio_sub : PySem.W.keepIn K (.ref a_m_Ratio_sub) = true)
    (pmt_m_Ratio_rsub : PySem.W.findIn K (.ref a_Ratio) "__rsub__" = some (some (.ref a_m_Ratio_rsub)))
    (pmn_m_Ratio_rsub : PySem.W.isFn K (.ref a_m_Ratio_rsub) = true)
    (pmk_m_Ratio_rsub : PySem.W.keepIn K (.ref a_m_Ratio_rsub) = true)
    (pmt_m_Ratio_mul : PySem.W.findIn K (.ref a_Ratio) "__mul__" = some (some (.ref a_m_Ratio_mul)))
    (pmn_m_Ratio_mul : PySem.W.isFn K (.ref a_m_Ratio_mul) = true)
    (pmk_m_Ratio_mul : PySem.W.keepIn K (.ref a_m_Ratio_mul) = true)
    (pmt_m_Ratio_rmul : PySem.W.findIn K (.ref a_Ratio) "__rmul__" = some (some (.ref a_m_Ratio_rmul)))
    (pmn_m_Ratio_rmul : PySem.W.isFn K (.ref a_m_Ratio_rmul) = true)
    (pmk_m_Ratio_rmul : PySem.W.keepIn K (.ref a_m_Ratio_rmul) = true)
    (pmt_m_Ratio_neg : PySem.W.findIn K (.ref a_Ratio) "__neg__" = some (some (.ref a_m_Ratio_neg)))
    (pmn_m_Ratio_neg : PySem.W.isFn K (.ref a_m_Ratio_neg) = true)
    (pmk_m_Ratio_neg : PySem.W.keepIn K (.ref a_m_Ratio_neg) = true)
    (pmt_m_Ratio_abs : PySem.W.findIn K (.ref a_Ratio) "__abs__" = some (some (.ref a_m_Ratio_abs)))
    (pmn_m_Ratio_abs : PySem.W.isFn K (.ref a_m_Ratio_abs) = true)
    (pmk_m_Ratio_abs : PySem.W.keepIn K (.ref a_m_Ratio_abs) = true)
    (pmt_m_Ratio_at_most : PySem.W.findIn K (.ref a_Ratio) "at_most" = some (some (.ref a_m_Ratio_at_most)))
    (pmn_m_Ratio_at_most : PySem.W.isFn K (.ref a_m_Ratio_at_most) = true)
    (pmk_m_Ratio_at_most : PySem.W.keepIn K (.ref a_m_Ratio_at_most) = true)
    (pmt_m_Ratio_same : PySem.W.findIn K (.ref a_Ratio) "same" = some (some (.ref a_m_Ratio_same)))
    (pmn_m_Ratio_same : PySem.W.isFn K (.ref a_m_Ratio_same) = true)
    (pmk_m_Ratio_same : PySem.W.keepIn K (.ref a_m_Ratio_same) = true)
    (ps1_m_Ratio_sum_of : PySem.W.readsIn K a_Ratio (.type "type") = true)
    (ps2_m_Ratio_sum_of : PySem.W.specialIn K (.ref a_Ratio) "__getattribute__" = some (some (.builtin "type.__getattribute__")))
    (ps3_m_Ratio_sum_of : PySem.W.findCls K (.ref a_Ratio) (.type "type") "sum_of" = some (.get (.builtin "staticmethod.__get__") (.ref a_sp_m_Ratio_sum_of) .none (.ref a_Ratio)))
    (ps4_m_Ratio_sum_of : PySem.W.recIn K a_sp_m_Ratio_sum_of "staticmethod" = some (.ref a_m_Ratio_sum_of :: rest_m_Ratio_sum_of))
    (ps5_m_Ratio_sum_of : PySem.W.keepIn K (.ref a_m_Ratio_sum_of) = true)
    (ptc_Ratio : PySem.W.findIn K (.ref a_Ratio) "__class__" = some (some (.builtin "object.__class__")))
    (ptn_Ratio : PySem.W.specialIn K (.builtin "object.__class__") "__get__" = some (some (.builtin "getset_descriptor.__get__")))
    (ptk_Ratio : PySem.W.takesIn K (.builtin "object.__class__") = some true)
    (ptm_Ratio : PySem.W.mroIn K a_Ratio (.type "object") = some true)
    (pki_Ratio : PySem.W.kitOne K (.ref a_Ratio) (.type "int") = some false)
    (psf_Ratio : PySem.W.selfFirst K a_Ratio = true)
    (psi_Ratio : PySem.W.subIn K (.type "int") (.ref a_Ratio) = some false)
    (psj_Ratio : PySem.W.subIn K (.ref a_Ratio) (.type "int") = some false)
    (po1a_Ratio : PySem.W.findIn K (.type "int") (PySem.dunder "add") = some (some (.builtin "int.__add__")))
    (po2a_Ratio : PySem.W.findIn K (.type "int") (dunderR "add") = some (some (.builtin "int.__radd__")))
    (po1s_Ratio : PySem.W.findIn K (.type "int") (PySem.dunder "sub") = some (some (.builtin "int.__sub__")))
    (po2s_Ratio : PySem.W.findIn K (.type "int") (dunderR "sub") = some (some (.builtin "int.__rsub__")))
    (po1m_Ratio : PySem.W.findIn K (.type "int") (PySem.dunder "mul") = some (some (.builtin "int.__mul__")))
    (po2m_Ratio : PySem.W.findIn K (.type "int") (dunderR "mul") = some (some (.builtin "int.__rmul__")))
    (pnia_Ratio : noI K a_Ratio "add" = true)
    (pnis_Ratio : noI K a_Ratio "sub" = true)
    (pnim_Ratio : noI K a_Ratio "mul" = true)
    (prd_Ratio : PySem.W.readsIn K a_Ratio (.type "type") = true)
    (pcga_Ratio : PySem.W.specialIn K (.ref a_Ratio) "__getattribute__" = some (some (.builtin "type.__getattribute__")))
    (pg_Form : PySem.W.nsIn K mainGlobals "Form" = some (some (.ref a_Form)))
    (ppg_Form : PySem.W.plainGet K a_Form Str.empty = true)
    (phd_Form : PySem.W.hasDictIn K a_Form = true)
    (ppo_Form : PySem.W.plainOver K a_Form = true)
    (psa_Form : PySem.W.findIn K (.ref a_Form) "__setattr__" = some (some (.builtin "object.__setattr__")))
    (pn_Form_shares : NoAttr K a_Form "shares")
    (pma_Form : PySem.W.makesIn K a_Form = true)
    (pmi_Form : PySem.W.findIn K (.ref a_Form) "__init__" = some (some (.ref a_m_Form_init)))
    (pmf_Form : PySem.W.isFn K (.ref a_m_Form_init) = true)
    (pmc_Form : PySem.W.keepIn K (.ref a_Form) = true)
    (ps1_m_Form_of : PySem.W.readsIn K a_Form (.type "type") = true)
    (ps2_m_Form_of : PySem.W.specialIn K (.ref a_Form) "__getattribute__" = some (some (.builtin "type.__getattribute__")))
    (ps3_m_Form_of : PySem.W.findCls K (.ref a_Form) (.type "type") "of" = some (.get (.builtin "classmethod.__get__") (.ref a_sp_m_Form_of) .none (.ref a_Form)))
    (ps4_m_Form_of : PySem.W.recIn K a_sp_m_Form_of "classmethod" = some (.ref a_m_Form_of :: rest_m_Form_of))
    (ps5_m_Form_of : PySem.W.fnIn K a_m_Form_of = true)
    (pmt_m_Form_share : PySem.W.findIn K (.ref a_Form) "share" = some (some (.ref a_m_Form_share)))
    (pmn_m_Form_share : PySem.W.isFn K (.ref a_m_Form_share) = true)
    (pmk_m_Form_share : PySem.W.keepIn K (.ref a_m_Form_share) = true)
    (pmt_m_Form_names : PySem.W.findIn K (.ref a_Form) "names" = some (some (.ref a_m_Form_names)))
    (pmn_m_Form_names : PySem.W.isFn K (.ref a_m_Form_names) = true)
    (pmk_m_Form_names : PySem.W.keepIn K (.ref a_m_Form_names) = true)
    (pmt_m_Form_at_most : PySem.W.findIn K (.ref a_Form) "at_most" = some (some (.ref a_m_Form_at_most)))
    (pmn_m_Form_at_most : PySem.W.isFn K (.ref a_m_Form_at_most) = true)
    (pmk_m_Form_at_most : PySem.W.keepIn K (.ref a_m_Form_at_most) = true)
    (pmt_m_Form_same : PySem.W.findIn K (.ref a_Form) "same" = some (some (.ref a_m_Form_same)))
    (pmn_m_Form_same : PySem.W.isFn K (.ref a_m_Form_same) = true)
    (pmk_m_Form_same : PySem.W.keepIn K (.ref a_m_Form_same) = true)
    (pmt_m_Form_at : PySem.W.findIn K (.ref a_Form) "at" = some (some (.ref a_m_Form_at)))
    (pmn_m_Form_at : PySem.W.isFn K (.ref a_m_Form_at) = true)
    (pmk_m_Form_at : PySem.W.keepIn K (.ref a_m_Form_at) = true)
    (pg_LETTERS : PySem.W.nsIn K mainGlobals "LETTERS" = some (some (.str "abcdefghijklmnopqrstuvwxyz" gt_LETTERS)))
    (pe_m_BadName_init : PySem.W.findIn K (.ref a_BadName) "__init__" = some (some (.ref a_m_BadName_init)))
    (pl_m_BadName_init : K.lookup a_m_BadName_init = some ⟨oc_m_BadName_init, od_m_BadName_init, .func (PySem.W.fnOf "__init__" "BadName.__init__" (defArgs s_m_BadName_init) (defBody s_m_BadName_init) (defScope s_m_BadName_init) .none kV_m_BadName_init dc_m_BadName_init pm_m_BadName_init an_m_BadName_init cd_m_BadName_init ct_m_BadName_init), sl_m_BadName_init⟩)
    (pc_m_BadName_init : PySem.W.codeIn K cd_m_BadName_init "BadName.__init__" = true)
    (pq_m_BadName_init : PySem.W.keepIn K (.ref a_m_BadName_init) = true)
    (pe_m_NoPrice_init : PySem.W.findIn K (.ref a_NoPrice) "__init__" = some (some (.ref a_m_NoPrice_init)))
    (pl_m_NoPrice_init : K.lookup a_m_NoPrice_init = some ⟨oc_m_NoPrice_init, od_m_NoPrice_init, .func (PySem.W.fnOf "__init__" "NoPrice.__init__" (defArgs s_m_NoPrice_init) (defBody s_m_NoPrice_init) (defScope s_m_NoPrice_init) .none kV_m_NoPrice_init dc_m_NoPrice_init pm_m_NoPrice_init an_m_NoPrice_init cd_m_NoPrice_init ct_m_NoPrice_init), sl_m_NoPrice_init⟩)
    (pc_m_NoPrice_init : PySem.W.codeIn K cd_m_NoPrice_init "NoPrice.__init__" = true)
    (pq_m_NoPrice_init : PySem.W.keepIn K (.ref a_m_NoPrice_init) = true)
    (pe_m_Negative_init : PySem.W.findIn K (.ref a_Negative) "__init__" = some (some (.ref a_m_Negative_init)))
    (pl_m_Negative_init : K.lookup a_m_Negative_init = some ⟨oc_m_Negative_init, od_m_Negative_init, .func (PySem.W.fnOf "__init__" "Negative.__init__" (defArgs s_m_Negative_init) (defBody s_m_Negative_init) (defScope s_m_Negative_init) .none kV_m_Negative_init dc_m_Negative_init pm_m_Negative_init an_m_Negative_init cd_m_Negative_init ct_m_Negative_init), sl_m_Negative_init⟩)
    (pc_m_Negative_init : PySem.W.codeIn K cd_m_Negative_init "Negative.__init__" = true)
    (pq_m_Negative_init : PySem.W.keepIn K (.ref a_m_Negative_init) = true)
    (pa_f_common_divisor : PySem.W.nsIn K mainGlobals "common_divisor" = some (some (.ref a_f_common_divisor)))
    (pl_f_common_divisor : K.lookup a_f_common_divisor = some ⟨oc_f_common_divisor, od_f_common_divisor, .func (PySem.W.fnOf "common_divisor" "common_divisor" (defArgs s_f_common_divisor) (defBody s_f_common_divisor) (defScope s_f_common_divisor) .none kV_f_common_divisor dc_f_common_divisor pm_f_common_divisor an_f_common_divisor cd_f_common_divisor ct_f_common_divisor), sl_f_common_divisor⟩)
    (pc_f_common_divisor : PySem.W.codeIn K cd_f_common_divisor "common_divisor" = true)
    (pq_f_common_divisor : PySem.W.keepIn K (.ref a_f_common_divisor) = true)
    (pa_f_halves : PySem.W.nsIn K mainGlobals "halves" = some (some (.ref a_f_halves)))
    (pl_f_halves : K.lookup a_f_halves = some ⟨oc_f_halves, od_f_halves, .func (PySem.W.fnOf "halves" "halves" (defArgs s_f_halves) (defBody s_f_halves) (defScope s_f_halves) .none kV_f_halves dc_f_halves pm_f_halves an_f_halves cd_f_halves ct_f_halves), sl_f_halves⟩)
    (pc_f_halves : PySem.W.codeIn K cd_f_halves "halves" = true)
    (pq_f_halves : PySem.W.keepIn K (.ref a_f_halves) = true)
    (pl_m_Ratio_init : K.lookup a_m_Ratio_init = some ⟨oc_m_Ratio_init, od_m_Ratio_init, .func (PySem.W.fnOf "__init__" "Ratio.__init__" (defArgs s_m_Ratio_init) (defBody s_m_Ratio_init) (defScope s_m_Ratio_init) (.ref tp_m_Ratio_init) kV_m_Ratio_init dc_m_Ratio_init pm_m_Ratio_init an_m_Ratio_init cd_m_Ratio_init ct_m_Ratio_init), sl_m_Ratio_init⟩)
    (pt_m_Ratio_init : K.lookup tp_m_Ratio_init = some ⟨tc_m_Ratio_init, td_m_Ratio_init, .seq #[.int 1 tk0_m_Ratio_init] tn_m_Ratio_init, ts_m_Ratio_init⟩)
    (pc_m_Ratio_init : PySem.W.codeIn K cd_m_Ratio_init "Ratio.__init__" = true)
    (pq_m_Ratio_init : PySem.W.keepIn K (.ref a_m_Ratio_init) = true)
    (pl_m_Ratio_add : K.lookup a_m_Ratio_add = some ⟨oc_m_Ratio_add, od_m_Ratio_add, .func (PySem.W.fnOf "__add__" "Ratio.__add__" (defArgs s_m_Ratio_add) (defBody s_m_Ratio_add) (defScope s_m_Ratio_add) .none kV_m_Ratio_add dc_m_Ratio_add pm_m_Ratio_add an_m_Ratio_add cd_m_Ratio_add ct_m_Ratio_add), sl_m_Ratio_add⟩)
    (pc_m_Ratio_add : PySem.W.codeIn K cd_m_Ratio_add "Ratio.__add__" = true)
    (pq_m_Ratio_add : PySem.W.keepIn K (.ref a_m_Ratio_add) = true)
    (pl_m_Ratio_radd : K.lookup a_m_Ratio_radd = some ⟨oc_m_Ratio_radd, od_m_Ratio_radd, .func (PySem.W.fnOf "__radd__" "Ratio.__radd__" (defArgs s_m_Ratio_radd) (defBody s_m_Ratio_radd) (defScope s_m_Ratio_radd) .none kV_m_Ratio_radd dc_m_Ratio_radd pm_m_Ratio_radd an_m_Ratio_radd cd_m_Ratio_radd ct_m_Ratio_radd), sl_m_Ratio_radd⟩)
    (pc_m_Ratio_radd : PySem.W.codeIn K cd_m_Ratio_radd "Ratio.__radd__" = true)
    (pq_m_Ratio_radd : PySem.W.keepIn K (.ref a_m_Ratio_radd) = true)
    (pl_m_Ratio_sub : K.lookup a_m_Ratio_sub = some ⟨oc_m_Ratio_sub, od_m_Ratio_sub, .func (PySem.W.fnOf "__sub__" "Ratio.__sub__" (defArgs s_m_Ratio_sub) (defBody s_m_Ratio_sub) (defScope s_m_Ratio_sub) .none kV_m_Ratio_sub dc_m_Ratio_sub pm_m_Ratio_sub an_m_Ratio_sub cd_m_Ratio_sub ct_m_Ratio_sub), sl_m_Ratio_sub⟩)
    (pc_m_Ratio_sub : PySem.W.codeIn K cd_m_Ratio_sub "Ratio.__sub__" = true)
    (pq_m_Ratio_sub : PySem.W.keepIn K (.ref a_m_Ratio_sub) = true)
    (pl_m_Ratio_rsub : K.lookup a_m_Ratio_rsub = some ⟨oc_m_Ratio_rsub, od_m_Ratio_rsub, .func (PySem.W.fnOf "__rsub__" "Ratio.__rsub__" (defArgs s_m_Ratio_rsub) (defBody s_m_Ratio_rsub) (defScope s_m_Ratio_rsub) .none kV_m_Ratio_rsub dc_m_Ratio_rsub pm_m_Ratio_rsub an_m_Ratio_rsub cd_m_Ratio_rsub ct_m_Ratio_rsub), sl_m_Ratio_rsub⟩)
    (pc_m_Ratio_rsub : PySem.W.codeIn K cd_m_Ratio_rsub "Ratio.__rsub__" = true)
    (pq_m_Ratio_rsub : PySem.W.keepIn K (.ref a_m_Ratio_rsub) = true)
    (pl_m_Ratio_mul : K.lookup a_m_Ratio_mul = some ⟨oc_m_Ratio_mul, od_m_Ratio_mul, .func (PySem.W.fnOf "__mul__" "Ratio.__mul__" (defArgs s_m_Ratio_mul) (defBody s_m_Ratio_mul) (defScope s_m_Ratio_mul) .none kV_m_Ratio_mul dc_m_Ratio_mul pm_m_Ratio_mul an_m_Ratio_mul cd_m_Ratio_mul ct_m_Ratio_mul), sl_m_Ratio_mul⟩)
    (pc_m_Ratio_mul : PySem.W.codeIn K cd_m_Ratio_mul "Ratio.__mul__" = true)
    (pq_m_Ratio_mul : PySem.W.keepIn K (.ref a_m_Ratio_mul) = true)
    (pl_m_Ratio_rmul : K.lookup a_m_Ratio_rmul = some ⟨oc_m_Ratio_rmul, od_m_Ratio_rmul, .func (PySem.W.fnOf "__rmul__" "Ratio.__rmul__" (defArgs s_m_Ratio_rmul) (defBody s_m_Ratio_rmul) (defScope s_m_Ratio_rmul) .none kV_m_Ratio_rmul dc_m_Ratio_rmul pm_m_Ratio_rmul an_m_Ratio_rmul cd_m_Ratio_rmul ct_m_Ratio_rmul), sl_m_Ratio_rmul⟩)
    (pc_m_Ratio_rmul : PySem.W.codeIn K cd_m_Ratio_rmul "Ratio.__rmul__" = true)
    (pq_m_Ratio_rmul : PySem.W.keepIn K (.ref a_m_Ratio_rmul) = true)
    (pl_m_Ratio_neg : K.lookup a_m_Ratio_neg = some ⟨oc_m_Ratio_neg, od_m_Ratio_neg, .func (PySem.W.fnOf "__neg__" "Ratio.__neg__" (defArgs s_m_Ratio_neg) (defBody s_m_Ratio_neg) (defScope s_m_Ratio_neg) .none kV_m_Ratio_neg dc_m_Ratio_neg pm_m_Ratio_neg an_m_Ratio_neg cd_m_Ratio_neg ct_m_Ratio_neg), sl_m_Ratio_neg⟩)
    (pc_m_Ratio_neg : PySem.W.codeIn K cd_m_Ratio_neg "Ratio.__neg__" = true)
    (pq_m_Ratio_neg : PySem.W.keepIn K (.ref a_m_Ratio_neg) = true)
    (pl_m_Ratio_abs : K.lookup a_m_Ratio_abs = some ⟨oc_m_Ratio_abs, od_m_Ratio_abs, .func (PySem.W.fnOf "__abs__" "Ratio.__abs__" (defArgs s_m_Ratio_abs) (defBody s_m_Ratio_abs) (defScope s_m_Ratio_abs) .none kV_m_Ratio_abs dc_m_Ratio_abs pm_m_Ratio_abs an_m_Ratio_abs cd_m_Ratio_abs ct_m_Ratio_abs), sl_m_Ratio_abs⟩)
    (pc_m_Ratio_abs : PySem.W.codeIn K cd_m_Ratio_abs "Ratio.__abs__" = true)
    (pq_m_Ratio_abs : PySem.W.keepIn K (.ref a_m_Ratio_abs) = true)
    (pl_m_Ratio_at_most : K.lookup a_m_Ratio_at_most = some ⟨oc_m_Ratio_at_most, od_m_Ratio_at_most, .func (PySem.W.fnOf "at_most" "Ratio.at_most" (defArgs s_m_Ratio_at_most) (defBody s_m_Ratio_at_most) (defScope s_m_Ratio_at_most) .none kV_m_Ratio_at_most dc_m_Ratio_at_most pm_m_Ratio_at_most an_m_Ratio_at_most cd_m_Ratio_at_most ct_m_Ratio_at_most), sl_m_Ratio_at_most⟩)
    (pc_m_Ratio_at_most : PySem.W.codeIn K cd_m_Ratio_at_most "Ratio.at_most" = true)
    (pq_m_Ratio_at_most : PySem.W.keepIn K (.ref a_m_Ratio_at_most) = true)
    (pl_m_Ratio_same : K.lookup a_m_Ratio_same = some ⟨oc_m_Ratio_same, od_m_Ratio_same, .func (PySem.W.fnOf "same" "Ratio.same" (defArgs s_m_Ratio_same) (defBody s_m_Ratio_same) (defScope s_m_Ratio_same) .none kV_m_Ratio_same dc_m_Ratio_same pm_m_Ratio_same an_m_Ratio_same cd_m_Ratio_same ct_m_Ratio_same), sl_m_Ratio_same⟩)
    (pc_m_Ratio_same : PySem.W.codeIn K cd_m_Ratio_same "Ratio.same" = true)
    (pq_m_Ratio_same : PySem.W.keepIn K (.ref a_m_Ratio_same) = true)
    (pl_m_Ratio_sum_of : K.lookup a_m_Ratio_sum_of = some ⟨oc_m_Ratio_sum_of, od_m_Ratio_sum_of, .func (PySem.W.fnOf "sum_of" "Ratio.sum_of" (defArgs s_m_Ratio_sum_of) (defBody s_m_Ratio_sum_of) (defScope s_m_Ratio_sum_of) .none kV_m_Ratio_sum_of dc_m_Ratio_sum_of pm_m_Ratio_sum_of an_m_Ratio_sum_of cd_m_Ratio_sum_of ct_m_Ratio_sum_of), sl_m_Ratio_sum_of⟩)
    (pc_m_Ratio_sum_of : PySem.W.codeIn K cd_m_Ratio_sum_of "Ratio.sum_of" = true)
    (pq_m_Ratio_sum_of : PySem.W.keepIn K (.ref a_m_Ratio_sum_of) = true)
    (pa_f_valid_name : PySem.W.nsIn K mainGlobals "valid_name" = some (some (.ref a_f_valid_name)))
    (pl_f_valid_name : K.lookup a_f_valid_name = some ⟨oc_f_valid_name, od_f_valid_name, .func (PySem.W.fnOf "valid_name" "valid_name" (defArgs s_f_valid_name) (defBody s_f_valid_name) (defScope s_f_valid_name) .none kV_f_valid_name dc_f_valid_name pm_f_valid_name an_f_valid_name cd_f_valid_name ct_f_valid_name), sl_f_valid_name⟩)
    (pc_f_valid_name : PySem.W.codeIn K cd_f_valid_name "valid_name" = true)
    (pq_f_valid_name : PySem.W.keepIn K (.ref a_f_valid_name) = true)
    (pl_m_Form_init : K.lookup a_m_Form_init = some ⟨oc_m_Form_init, od_m_Form_init, .func (PySem.W.fnOf "__init__" "Form.__init__" (defArgs s_m_Form_init) (defBody s_m_Form_init) (defScope s_m_Form_init) (.ref tp_m_Form_init) kV_m_Form_init dc_m_Form_init pm_m_Form_init an_m_Form_init cd_m_Form_init ct_m_Form_init), sl_m_Form_init⟩)
    (pt_m_Form_init : K.lookup tp_m_Form_init = some ⟨tc_m_Form_init, td_m_Form_init, .seq #[.none] tn_m_Form_init, ts_m_Form_init⟩)
    (pc_m_Form_init : PySem.W.codeIn K cd_m_Form_init "Form.__init__" = true)
    (pq_m_Form_init : PySem.W.keepIn K (.ref a_m_Form_init) = true)
    (pl_m_Form_of : K.lookup a_m_Form_of = some ⟨oc_m_Form_of, od_m_Form_of, .func (PySem.W.fnOf "of" "Form.of" (defArgs s_m_Form_of) (defBody s_m_Form_of) (defScope s_m_Form_of) .none kV_m_Form_of dc_m_Form_of pm_m_Form_of an_m_Form_of cd_m_Form_of ct_m_Form_of), sl_m_Form_of⟩)
    (pc_m_Form_of : PySem.W.codeIn K cd_m_Form_of "Form.of" = true)
    (pq_m_Form_of : PySem.W.keepIn K (.ref a_m_Form_of) = true)
    (pl_m_Form_share : K.lookup a_m_Form_share = some ⟨oc_m_Form_share, od_m_Form_share, .func (PySem.W.fnOf "share" "Form.share" (defArgs s_m_Form_share) (defBody s_m_Form_share) (defScope s_m_Form_share) .none kV_m_Form_share dc_m_Form_share pm_m_Form_share an_m_Form_share cd_m_Form_share ct_m_Form_share), sl_m_Form_share⟩)
    (pc_m_Form_share : PySem.W.codeIn K cd_m_Form_share "Form.share" = true)
    (pq_m_Form_share : PySem.W.keepIn K (.ref a_m_Form_share) = true)
    (pl_m_Form_names : K.lookup a_m_Form_names = some ⟨oc_m_Form_names, od_m_Form_names, .func (PySem.W.fnOf "names" "Form.names" (defArgs s_m_Form_names) (defBody s_m_Form_names) (defScope s_m_Form_names) .none kV_m_Form_names dc_m_Form_names pm_m_Form_names an_m_Form_names cd_m_Form_names ct_m_Form_names), sl_m_Form_names⟩)
    (pc_m_Form_names : PySem.W.codeIn K cd_m_Form_names "Form.names" = true)
    (pq_m_Form_names : PySem.W.keepIn K (.ref a_m_Form_names) = true)
    (pl_m_Form_at_most : K.lookup a_m_Form_at_most = some ⟨oc_m_Form_at_most, od_m_Form_at_most, .func (PySem.W.fnOf "at_most" "Form.at_most" (defArgs s_m_Form_at_most) (defBody s_m_Form_at_most) (defScope s_m_Form_at_most) .none kV_m_Form_at_most dc_m_Form_at_most pm_m_Form_at_most an_m_Form_at_most cd_m_Form_at_most ct_m_Form_at_most), sl_m_Form_at_most⟩)
    (pc_m_Form_at_most : PySem.W.codeIn K cd_m_Form_at_most "Form.at_most" = true)
    (pq_m_Form_at_most : PySem.W.keepIn K (.ref a_m_Form_at_most) = true)
    (pl_m_Form_same : K.lookup a_m_Form_same = some ⟨oc_m_Form_same, od_m_Form_same, .func (PySem.W.fnOf "same" "Form.same" (defArgs s_m_Form_same) (defBody s_m_Form_same) (defScope s_m_Form_same) .none kV_m_Form_same dc_m_Form_same pm_m_Form_same an_m_Form_same cd_m_Form_same ct_m_Form_same), sl_m_Form_same⟩)
    (pc_m_Form_same : PySem.W.codeIn K cd_m_Form_same "Form.same" = true)
    (pq_m_Form_same : PySem.W.keepIn K (.ref a_m_Form_same) = true)
    (pl_m_Form_at : K.lookup a_m_Form_at = some ⟨oc_m_Form_at, od_m_Form_at, .func (PySem.W.fnOf "at" "Form.at" (defArgs s_m_Form_at) (defBody s_m_Form_at) (defScope s_m_Form_at) .none kV_m_Form_at dc_m_Form_at pm_m_Form_at an_m_Form_at cd_m_Form_at ct_m_Form_at), sl_m_Form_at⟩)
    (pc_m_Form_at : PySem.W.codeIn K cd_m_Form_at "Form.at" = true)
    (pq_m_Form_at : PySem.W.keepIn K (.ref a_m_Form_at) = true)
    (pa_l_bag : PySem.W.nsIn K mainGlobals "_law_bag" = some (some (.ref a_l_bag)))
    (pl_l_bag : K.lookup a_l_bag = some ⟨oc_l_bag, od_l_bag, .func (PySem.W.fnOf "_law_bag" "_law_bag" (defArgs s_l_bag) (defBody s_l_bag) (defScope s_l_bag) .none kV_l_bag dc_l_bag pm_l_bag an_l_bag cd_l_bag ct_l_bag), sl_l_bag⟩)
    (pc_l_bag : PySem.W.codeIn K cd_l_bag "_law_bag" = true)
    (pq_l_bag : PySem.W.keepIn K (.ref a_l_bag) = true)
    (pa_l_draw : PySem.W.nsIn K mainGlobals "_law_draw" = some (some (.ref a_l_draw)))
    (pl_l_draw : K.lookup a_l_draw = some ⟨oc_l_draw, od_l_draw, .func (PySem.W.fnOf "_law_draw" "_law_draw" (defArgs s_l_draw) (defBody s_l_draw) (defScope s_l_draw) .none kV_l_draw dc_l_draw pm_l_draw an_l_draw cd_l_draw ct_l_draw), sl_l_draw⟩)
    (pc_l_draw : PySem.W.codeIn K cd_l_draw "_law_draw" = true)
    (pq_l_draw : PySem.W.keepIn K (.ref a_l_draw) = true)
    (pa_l_names : PySem.W.nsIn K mainGlobals "_law_names" = some (some (.ref a_l_names)))
    (pl_l_names : K.lookup a_l_names = some ⟨oc_l_names, od_l_names, .func (PySem.W.fnOf "_law_names" "_law_names" (defArgs s_l_names) (defBody s_l_names) (defScope s_l_names) .none kV_l_names dc_l_names pm_l_names an_l_names cd_l_names ct_l_names), sl_l_names⟩)
    (pc_l_names : PySem.W.codeIn K cd_l_names "_law_names" = true)
    (pq_l_names : PySem.W.keepIn K (.ref a_l_names) = true)
    (pa_l_pick : PySem.W.nsIn K mainGlobals "_law_pick" = some (some (.ref a_l_pick)))
    (pl_l_pick : K.lookup a_l_pick = some ⟨oc_l_pick, od_l_pick, .func (PySem.W.fnOf "_law_pick" "_law_pick" (defArgs s_l_pick) (defBody s_l_pick) (defScope s_l_pick) .none kV_l_pick dc_l_pick pm_l_pick an_l_pick cd_l_pick ct_l_pick), sl_l_pick⟩)
    (pc_l_pick : PySem.W.codeIn K cd_l_pick "_law_pick" = true)
    (pq_l_pick : PySem.W.keepIn K (.ref a_l_pick) = true)
    (pa_l_mixed : PySem.W.nsIn K mainGlobals "_law_mixed" = some (some (.ref a_l_mixed)))
    (pl_l_mixed : K.lookup a_l_mixed = some ⟨oc_l_mixed, od_l_mixed, .func (PySem.W.fnOf "_law_mixed" "_law_mixed" (defArgs s_l_mixed) (defBody s_l_mixed) (defScope s_l_mixed) .none kV_l_mixed dc_l_mixed pm_l_mixed an_l_mixed cd_l_mixed ct_l_mixed), sl_l_mixed⟩)
    (pc_l_mixed : PySem.W.codeIn K cd_l_mixed "_law_mixed" = true)
    (pq_l_mixed : PySem.W.keepIn K (.ref a_l_mixed) = true)
    (pa_l_divisor : PySem.W.nsIn K mainGlobals "_law_divisor" = some (some (.ref a_l_divisor)))
    (pl_l_divisor : K.lookup a_l_divisor = some ⟨oc_l_divisor, od_l_divisor, .func (PySem.W.fnOf "_law_divisor" "_law_divisor" (defArgs s_l_divisor) (defBody s_l_divisor) (defScope s_l_divisor) .none kV_l_divisor dc_l_divisor pm_l_divisor an_l_divisor cd_l_divisor ct_l_divisor), sl_l_divisor⟩)
    (pc_l_divisor : PySem.W.codeIn K cd_l_divisor "_law_divisor" = true)
    (pq_l_divisor : PySem.W.keepIn K (.ref a_l_divisor) = true)
    (pa_l_lowest : PySem.W.nsIn K mainGlobals "_law_lowest" = some (some (.ref a_l_lowest)))
    (pl_l_lowest : K.lookup a_l_lowest = some ⟨oc_l_lowest, od_l_lowest, .func (PySem.W.fnOf "_law_lowest" "_law_lowest" (defArgs s_l_lowest) (defBody s_l_lowest) (defScope s_l_lowest) .none kV_l_lowest dc_l_lowest pm_l_lowest an_l_lowest cd_l_lowest ct_l_lowest), sl_l_lowest⟩)
    (pc_l_lowest : PySem.W.codeIn K cd_l_lowest "_law_lowest" = true)
    (pq_l_lowest : PySem.W.keepIn K (.ref a_l_lowest) = true)
    (pa_l_top : PySem.W.nsIn K mainGlobals "_law_top" = some (some (.ref a_l_top)))
    (pl_l_top : K.lookup a_l_top = some ⟨oc_l_top, od_l_top, .func (PySem.W.fnOf "_law_top" "_law_top" (defArgs s_l_top) (defBody s_l_top) (defScope s_l_top) .none kV_l_top dc_l_top pm_l_top an_l_top cd_l_top ct_l_top), sl_l_top⟩)
    (pc_l_top : PySem.W.codeIn K cd_l_top "_law_top" = true)
    (pq_l_top : PySem.W.keepIn K (.ref a_l_top) = true)
    (pa_l_share : PySem.W.nsIn K mainGlobals "_law_share" = some (some (.ref a_l_share)))
    (pl_l_share : K.lookup a_l_share = some ⟨oc_l_share, od_l_share, .func (PySem.W.fnOf "_law_share" "_law_share" (defArgs s_l_share) (defBody s_l_share) (defScope s_l_share) .none kV_l_share dc_l_share pm_l_share an_l_share cd_l_share ct_l_share), sl_l_share⟩)
    (pc_l_share : PySem.W.codeIn K cd_l_share "_law_share" = true)
    (pq_l_share : PySem.W.keepIn K (.ref a_l_share) = true)
    (pa_l_shares : PySem.W.nsIn K mainGlobals "_law_shares" = some (some (.ref a_l_shares)))
    (pl_l_shares : K.lookup a_l_shares = some ⟨oc_l_shares, od_l_shares, .func (PySem.W.fnOf "_law_shares" "_law_shares" (defArgs s_l_shares) (defBody s_l_shares) (defScope s_l_shares) .none kV_l_shares dc_l_shares pm_l_shares an_l_shares cd_l_shares ct_l_shares), sl_l_shares⟩)
    (pc_l_shares : PySem.W.codeIn K cd_l_shares "_law_shares" = true)
    (pq_l_shares : PySem.W.keepIn K (.ref a_l_shares) = true)
    (pa_l_handed : PySem.W.nsIn K mainGlobals "_law_handed" = some (some (.ref a_l_handed)))
    (pl_l_handed : K.lookup a_l_handed = some ⟨oc_l_handed, od_l_handed, .func (PySem.W.fnOf "_law_handed" "_law_handed" (defArgs s_l_handed) (defBody s_l_handed) (defScope s_l_handed) .none kV_l_handed dc_l_handed pm_l_handed an_l_handed cd_l_handed ct_l_handed), sl_l_handed⟩)
    (pc_l_handed : PySem.W.codeIn K cd_l_handed "_law_handed" = true)
    (pq_l_handed : PySem.W.keepIn K (.ref a_l_handed) = true)
    (pa_l_sum : PySem.W.nsIn K mainGlobals "_law_sum" = some (some (.ref a_l_sum)))
    (pl_l_sum : K.lookup a_l_sum = some ⟨oc_l_sum, od_l_sum, .func (PySem.W.fnOf "_law_sum" "_law_sum" (defArgs s_l_sum) (defBody s_l_sum) (defScope s_l_sum) .none kV_l_sum dc_l_sum pm_l_sum an_l_sum cd_l_sum ct_l_sum), sl_l_sum⟩)
    (pc_l_sum : PySem.W.codeIn K cd_l_sum "_law_sum" = true)
    (pq_l_sum : PySem.W.keepIn K (.ref a_l_sum) = true)
    (pa_l_never_greater : PySem.W.nsIn K mainGlobals "_law_never_greater" = some (some (.ref a_l_never_greater)))
    (pl_l_never_greater : K.lookup a_l_never_greater = some ⟨oc_l_never_greater, od_l_never_greater, .func (PySem.W.fnOf "_law_never_greater" "_law_never_greater" (defArgs s_l_never_greater) (defBody s_l_never_greater) (defScope s_l_never_greater) .none kV_l_never_greater dc_l_never_greater pm_l_never_greater an_l_never_greater cd_l_never_greater ct_l_never_greater), sl_l_never_greater⟩)
    (pc_l_never_greater : PySem.W.codeIn K cd_l_never_greater "_law_never_greater" = true)
    (pq_l_never_greater : PySem.W.keepIn K (.ref a_l_never_greater) = true)
    (pa_l_value : PySem.W.nsIn K mainGlobals "_law_value" = some (some (.ref a_l_value)))
    (pl_l_value : K.lookup a_l_value = some ⟨oc_l_value, od_l_value, .func (PySem.W.fnOf "_law_value" "_law_value" (defArgs s_l_value) (defBody s_l_value) (defScope s_l_value) .none kV_l_value dc_l_value pm_l_value an_l_value cd_l_value ct_l_value), sl_l_value⟩)
    (pc_l_value : PySem.W.codeIn K cd_l_value "_law_value" = true)
    (pq_l_value : PySem.W.keepIn K (.ref a_l_value) = true)
    (pa_l_price : PySem.W.nsIn K mainGlobals "_law_price" = some (some (.ref a_l_price)))
    (pl_l_price : K.lookup a_l_price = some ⟨oc_l_price, od_l_price, .func (PySem.W.fnOf "_law_price" "_law_price" (defArgs s_l_price) (defBody s_l_price) (defScope s_l_price) .none kV_l_price dc_l_price pm_l_price an_l_price cd_l_price ct_l_price), sl_l_price⟩)
    (pc_l_price : PySem.W.codeIn K cd_l_price "_law_price" = true)
    (pq_l_price : PySem.W.keepIn K (.ref a_l_price) = true)
    (pa_l_refusal : PySem.W.nsIn K mainGlobals "_law_refusal" = some (some (.ref a_l_refusal)))
    (pl_l_refusal : K.lookup a_l_refusal = some ⟨oc_l_refusal, od_l_refusal, .func (PySem.W.fnOf "_law_refusal" "_law_refusal" (defArgs s_l_refusal) (defBody s_l_refusal) (defScope s_l_refusal) .none kV_l_refusal dc_l_refusal pm_l_refusal an_l_refusal cd_l_refusal ct_l_refusal), sl_l_refusal⟩)
    (pc_l_refusal : PySem.W.codeIn K cd_l_refusal "_law_refusal" = true)
    (pq_l_refusal : PySem.W.keepIn K (.ref a_l_refusal) = true)
    (pa_l_bad_names : PySem.W.nsIn K mainGlobals "_law_bad_names" = some (some (.ref a_l_bad_names)))
    (pl_l_bad_names : K.lookup a_l_bad_names = some ⟨oc_l_bad_names, od_l_bad_names, .func (PySem.W.fnOf "_law_bad_names" "_law_bad_names" (defArgs s_l_bad_names) (defBody s_l_bad_names) (defScope s_l_bad_names) .none kV_l_bad_names dc_l_bad_names pm_l_bad_names an_l_bad_names cd_l_bad_names ct_l_bad_names), sl_l_bad_names⟩)
    (pc_l_bad_names : PySem.W.codeIn K cd_l_bad_names "_law_bad_names" = true)
    (pq_l_bad_names : PySem.W.keepIn K (.ref a_l_bad_names) = true)
    (pa_l_order_right : PySem.W.nsIn K mainGlobals "_law_order_right" = some (some (.ref a_l_order_right)))
    (pl_l_order_right : K.lookup a_l_order_right = some ⟨oc_l_order_right, od_l_order_right, .func (PySem.W.fnOf "_law_order_right" "_law_order_right" (defArgs s_l_order_right) (defBody s_l_order_right) (defScope s_l_order_right) .none kV_l_order_right dc_l_order_right pm_l_order_right an_l_order_right cd_l_order_right ct_l_order_right), sl_l_order_right⟩)
    (pc_l_order_right : PySem.W.codeIn K cd_l_order_right "_law_order_right" = true)
    (pq_l_order_right : PySem.W.keepIn K (.ref a_l_order_right) = true)
    (pa_l_refused_right : PySem.W.nsIn K mainGlobals "_law_refused_right" = some (some (.ref a_l_refused_right)))
    (pl_l_refused_right : K.lookup a_l_refused_right = some ⟨oc_l_refused_right, od_l_refused_right, .func (PySem.W.fnOf "_law_refused_right" "_law_refused_right" (defArgs s_l_refused_right) (defBody s_l_refused_right) (defScope s_l_refused_right) .none kV_l_refused_right dc_l_refused_right pm_l_refused_right an_l_refused_right cd_l_refused_right ct_l_refused_right), sl_l_refused_right⟩)
    (pc_l_refused_right : PySem.W.codeIn K cd_l_refused_right "_law_refused_right" = true)
    (pq_l_refused_right : PySem.W.keepIn K (.ref a_l_refused_right) = true)
    (pa_f_law : PySem.W.nsIn K mainGlobals "law" = some (some (.ref a_f_law)))
    (pl_f_law : K.lookup a_f_law = some ⟨oc_f_law, od_f_law, .func (PySem.W.fnOf "law" "law" (defArgs s_f_law) (defBody s_f_law) (defScope s_f_law) .none kV_f_law dc_f_law pm_f_law an_f_law cd_f_law ct_f_law), sl_f_law⟩)
    (pc_f_law : PySem.W.codeIn K cd_f_law "law" = true)
    (pq_f_law : PySem.W.keepIn K (.ref a_f_law) = true) :
    ∃ fd : FuncData, (∀ (s : Shared) (v : Value), BindsTo s fd ⟨[v], []⟩ [("_law_script", v)]) ∧ ∀ base : Heap, K.In base → base.Ns mainGlobals mg → FnOk l.prog w K mg base CX0 24 fa fd P_f_law (spLaw K) := by
  have e := hfa.symm.trans (PySem.W.mg_of X G pa_f_law)
  cases e
  have F_m_BadName_init := fun_mk (st := s_m_BadName_init) pl_m_BadName_init pc_m_BadName_init pq_m_BadName_init
  have b_m_BadName_init := F_m_BadName_init.binds (ps := P_m_BadName_init) fun _ _ _ _ _ _ us hl => match us, hl with | [_, _], _ => rfl
  have F_m_NoPrice_init := fun_mk (st := s_m_NoPrice_init) pl_m_NoPrice_init pc_m_NoPrice_init pq_m_NoPrice_init
  have b_m_NoPrice_init := F_m_NoPrice_init.binds (ps := P_m_NoPrice_init) fun _ _ _ _ _ _ us hl => match us, hl with | [_, _], _ => rfl
  have F_m_Negative_init := fun_mk (st := s_m_Negative_init) pl_m_Negative_init pc_m_Negative_init pq_m_Negative_init
  have b_m_Negative_init := F_m_Negative_init.binds (ps := P_m_Negative_init) fun _ _ _ _ _ _ us hl => match us, hl with | [_, _], _ => rfl
  have F_f_common_divisor := fun_mk (st := s_f_common_divisor) pl_f_common_divisor pc_f_common_divisor pq_f_common_divisor
  have b_f_common_divisor := F_f_common_divisor.binds (ps := P_f_common_divisor) fun _ _ _ _ _ _ us hl => match us, hl with | [_, _], _ => rfl
  have F_f_halves := fun_mk (st := s_f_halves) pl_f_halves pc_f_halves pq_f_halves
  have b_f_halves := F_f_halves.binds (ps := P_f_halves) fun _ _ _ _ _ _ us hl => match us, hl with | [_], _ => rfl
  have F_m_Ratio_init : FunD K "__init__" "Ratio.__init__" (defArgs s_m_Ratio_init) (defBody s_m_Ratio_init) (defScope s_m_Ratio_init) [.int 1] [] a_m_Ratio_init (PySem.W.fnOf "__init__" "Ratio.__init__" (defArgs s_m_Ratio_init) (defBody s_m_Ratio_init) (defScope s_m_Ratio_init) (.ref tp_m_Ratio_init) kV_m_Ratio_init dc_m_Ratio_init pm_m_Ratio_init an_m_Ratio_init cd_m_Ratio_init ct_m_Ratio_init) := ⟨⟨_, _, _, _, _, _, _, _, _, _, rfl, pl_m_Ratio_init, pc_m_Ratio_init, (.inr ⟨by simp, _, _, _, _, rfl, pt_m_Ratio_init, rfl, (.cons ⟨_, rfl⟩ .nil)⟩), (.inl rfl)⟩, pq_m_Ratio_init⟩
  obtain ⟨e_m_Ratio_init, ve_m_Ratio_init, b_m_Ratio_init⟩ := F_m_Ratio_init.binds1 (ps := P_m_Ratio_init) 3 1 (by simp) rfl fun T kV doc pm an cdv ct us its hu hi => ⟨_, rfl, by
      match us, hu, its, hi with
      | [_, _, _], _, [_], _ => rfl⟩
  cases ve_m_Ratio_init
  obtain ⟨ds_m_Ratio_init, dv_m_Ratio_init, bd_m_Ratio_init⟩ := F_m_Ratio_init.binds1 (ps := P_m_Ratio_init) 2 0 (by simp) rfl fun T kV doc pm an cdv ct us its hu hi => ⟨_, rfl, by
      match us, hu, its, hi with
      | [_, _], _, [_], _ => rfl⟩
  have F_m_Ratio_add := fun_mk (st := s_m_Ratio_add) pl_m_Ratio_add pc_m_Ratio_add pq_m_Ratio_add
  have b_m_Ratio_add := F_m_Ratio_add.binds (ps := P_m_Ratio_add) fun _ _ _ _ _ _ us hl => match us, hl with | [_, _], _ => rfl
  have F_m_Ratio_radd := fun_mk (st := s_m_Ratio_radd) pl_m_Ratio_radd pc_m_Ratio_radd pq_m_Ratio_radd
  have b_m_Ratio_radd := F_m_Ratio_radd.binds (ps := P_m_Ratio_radd) fun _ _ _ _ _ _ us hl => match us, hl with | [_, _], _ => rfl
  have F_m_Ratio_sub := fun_mk (st := s_m_Ratio_sub) pl_m_Ratio_sub pc_m_Ratio_sub pq_m_Ratio_sub
  have b_m_Ratio_sub := F_m_Ratio_sub.binds (ps := P_m_Ratio_sub) fun _ _ _ _ _ _ us hl => match us, hl with | [_, _], _ => rfl
  have F_m_Ratio_rsub := fun_mk (st := s_m_Ratio_rsub) pl_m_Ratio_rsub pc_m_Ratio_rsub pq_m_Ratio_rsub
  have b_m_Ratio_rsub := F_m_Ratio_rsub.binds (ps := P_m_Ratio_rsub) fun _ _ _ _ _ _ us hl => match us, hl with | [_, _], _ => rfl
  have F_m_Ratio_mul := fun_mk (st := s_m_Ratio_mul) pl_m_Ratio_mul pc_m_Ratio_mul pq_m_Ratio_mul
  have b_m_Ratio_mul := F_m_Ratio_mul.binds (ps := P_m_Ratio_mul) fun _ _ _ _ _ _ us hl => match us, hl with | [_, _], _ => rfl
  have F_m_Ratio_rmul := fun_mk (st := s_m_Ratio_rmul) pl_m_Ratio_rmul pc_m_Ratio_rmul pq_m_Ratio_rmul
  have b_m_Ratio_rmul := F_m_Ratio_rmul.binds (ps := P_m_Ratio_rmul) fun _ _ _ _ _ _ us hl => match us, hl with | [_, _], _ => rfl
  have F_m_Ratio_neg := fun_mk (st := s_m_Ratio_neg) pl_m_Ratio_neg pc_m_Ratio_neg pq_m_Ratio_neg
  have b_m_Ratio_neg := F_m_Ratio_neg.binds (ps := P_m_Ratio_neg) fun _ _ _ _ _ _ us hl => match us, hl with | [_], _ => rfl
  have F_m_Ratio_abs := fun_mk (st := s_m_Ratio_abs) pl_m_Ratio_abs pc_m_Ratio_abs pq_m_Ratio_abs
  have b_m_Ratio_abs := F_m_Ratio_abs.binds (ps := P_m_Ratio_abs) fun _ _ _ _ _ _ us hl => match us, hl with | [_], _ => rfl
  have F_m_Ratio_at_most := fun_mk (st := s_m_Ratio_at_most) pl_m_Ratio_at_most pc_m_Ratio_at_most pq_m_Ratio_at_most
  have b_m_Ratio_at_most := F_m_Ratio_at_most.binds (ps := P_m_Ratio_at_most) fun _ _ _ _ _ _ us hl => match us, hl with | [_, _], _ => rfl
  have F_m_Ratio_same := fun_mk (st := s_m_Ratio_same) pl_m_Ratio_same pc_m_Ratio_same pq_m_Ratio_same
  have b_m_Ratio_same := F_m_Ratio_same.binds (ps := P_m_Ratio_same) fun _ _ _ _ _ _ us hl => match us, hl with | [_, _], _ => rfl
  have F_m_Ratio_sum_of := fun_mk (st := s_m_Ratio_sum_of) pl_m_Ratio_sum_of pc_m_Ratio_sum_of pq_m_Ratio_sum_of
  have b_m_Ratio_sum_of := F_m_Ratio_sum_of.binds (ps := P_m_Ratio_sum_of) fun _ _ _ _ _ _ us hl => match us, hl with | [_], _ => rfl
  have F_f_valid_name := fun_mk (st := s_f_valid_name) pl_f_valid_name pc_f_valid_name pq_f_valid_name
  have b_f_valid_name := F_f_valid_name.binds (ps := P_f_valid_name) fun _ _ _ _ _ _ us hl => match us, hl with | [_], _ => rfl
  have F_m_Form_init : FunD K "__init__" "Form.__init__" (defArgs s_m_Form_init) (defBody s_m_Form_init) (defScope s_m_Form_init) [.non] [] a_m_Form_init (PySem.W.fnOf "__init__" "Form.__init__" (defArgs s_m_Form_init) (defBody s_m_Form_init) (defScope s_m_Form_init) (.ref tp_m_Form_init) kV_m_Form_init dc_m_Form_init pm_m_Form_init an_m_Form_init cd_m_Form_init ct_m_Form_init) := ⟨⟨_, _, _, _, _, _, _, _, _, _, rfl, pl_m_Form_init, pc_m_Form_init, (.inr ⟨by simp, _, _, _, _, rfl, pt_m_Form_init, rfl, (.cons rfl .nil)⟩), (.inl rfl)⟩, pq_m_Form_init⟩
  obtain ⟨e_m_Form_init, ve_m_Form_init, b_m_Form_init⟩ := F_m_Form_init.binds1 (ps := P_m_Form_init) 2 1 (by simp) rfl fun T kV doc pm an cdv ct us its hu hi => ⟨_, rfl, by
      match us, hu, its, hi with
      | [_, _], _, [_], _ => rfl⟩
  cases ve_m_Form_init
  obtain ⟨ds_m_Form_init, dv_m_Form_init, bd_m_Form_init⟩ := F_m_Form_init.binds1 (ps := P_m_Form_init) 1 0 (by simp) rfl fun T kV doc pm an cdv ct us its hu hi => ⟨_, rfl, by
      match us, hu, its, hi with
      | [_], _, [_], _ => rfl⟩
  have F_m_Form_of := fun_mk (st := s_m_Form_of) pl_m_Form_of pc_m_Form_of pq_m_Form_of
  have b_m_Form_of := F_m_Form_of.binds (ps := P_m_Form_of) fun _ _ _ _ _ _ us hl => match us, hl with | [_, _], _ => rfl
  have F_m_Form_share := fun_mk (st := s_m_Form_share) pl_m_Form_share pc_m_Form_share pq_m_Form_share
  have b_m_Form_share := F_m_Form_share.binds (ps := P_m_Form_share) fun _ _ _ _ _ _ us hl => match us, hl with | [_, _], _ => rfl
  have F_m_Form_names := fun_mk (st := s_m_Form_names) pl_m_Form_names pc_m_Form_names pq_m_Form_names
  have b_m_Form_names := F_m_Form_names.binds (ps := P_m_Form_names) fun _ _ _ _ _ _ us hl => match us, hl with | [_], _ => rfl
  have F_m_Form_at_most := fun_mk (st := s_m_Form_at_most) pl_m_Form_at_most pc_m_Form_at_most pq_m_Form_at_most
  have b_m_Form_at_most := F_m_Form_at_most.binds (ps := P_m_Form_at_most) fun _ _ _ _ _ _ us hl => match us, hl with | [_, _], _ => rfl
  have F_m_Form_same := fun_mk (st := s_m_Form_same) pl_m_Form_same pc_m_Form_same pq_m_Form_same
  have b_m_Form_same := F_m_Form_same.binds (ps := P_m_Form_same) fun _ _ _ _ _ _ us hl => match us, hl with | [_, _], _ => rfl
  have F_m_Form_at := fun_mk (st := s_m_Form_at) pl_m_Form_at pc_m_Form_at pq_m_Form_at
  have b_m_Form_at := F_m_Form_at.binds (ps := P_m_Form_at) fun _ _ _ _ _ _ us hl => match us, hl with | [_, _], _ => rfl
  have F_l_bag := fun_mk (st := s_l_bag) pl_l_bag pc_l_bag pq_l_bag
  have b_l_bag := F_l_bag.binds (ps := P_l_bag) fun _ _ _ _ _ _ us hl => match us, hl with | [_], _ => rfl
  have F_l_draw := fun_mk (st := s_l_draw) pl_l_draw pc_l_draw pq_l_draw
  have b_l_draw := F_l_draw.binds (ps := P_l_draw) fun _ _ _ _ _ _ us hl => match us, hl with | [_, _], _ => rfl
  have F_l_names := fun_mk (st := s_l_names) pl_l_names pc_l_names pq_l_names
  have b_l_names := F_l_names.binds (ps := P_l_names) fun _ _ _ _ _ _ us hl => match us, hl with | [_, _, _], _ => rfl
  have F_l_pick := fun_mk (st := s_l_pick) pl_l_pick pc_l_pick pq_l_pick
  have b_l_pick := F_l_pick.binds (ps := P_l_pick) fun _ _ _ _ _ _ us hl => match us, hl with | [_, _], _ => rfl
  have F_l_mixed := fun_mk (st := s_l_mixed) pl_l_mixed pc_l_mixed pq_l_mixed
  have b_l_mixed := F_l_mixed.binds (ps := P_l_mixed) fun _ _ _ _ _ _ us hl => match us, hl with | [_, _], _ => rfl
  have F_l_divisor := fun_mk (st := s_l_divisor) pl_l_divisor pc_l_divisor pq_l_divisor
  have b_l_divisor := F_l_divisor.binds (ps := P_l_divisor) fun _ _ _ _ _ _ us hl => match us, hl with | [_, _], _ => rfl
  have F_l_lowest := fun_mk (st := s_l_lowest) pl_l_lowest pc_l_lowest pq_l_lowest
  have b_l_lowest := F_l_lowest.binds (ps := P_l_lowest) fun _ _ _ _ _ _ us hl => match us, hl with | [_, _], _ => rfl
  have F_l_top := fun_mk (st := s_l_top) pl_l_top pc_l_top pq_l_top
  have b_l_top := F_l_top.binds (ps := P_l_top) fun _ _ _ _ _ _ us hl => match us, hl with | [_], _ => rfl
  have F_l_share := fun_mk (st := s_l_share) pl_l_share pc_l_share pq_l_share
  have b_l_share := F_l_share.binds (ps := P_l_share) fun _ _ _ _ _ _ us hl => match us, hl with | [_], _ => rfl
  have F_l_shares := fun_mk (st := s_l_shares) pl_l_shares pc_l_shares pq_l_shares
  have b_l_shares := F_l_shares.binds (ps := P_l_shares) fun _ _ _ _ _ _ us hl => match us, hl with | [_, _], _ => rfl
  have F_l_handed := fun_mk (st := s_l_handed) pl_l_handed pc_l_handed pq_l_handed
  have b_l_handed := F_l_handed.binds (ps := P_l_handed) fun _ _ _ _ _ _ us hl => match us, hl with | [_, _], _ => rfl
  have F_l_sum := fun_mk (st := s_l_sum) pl_l_sum pc_l_sum pq_l_sum
  have b_l_sum := F_l_sum.binds (ps := P_l_sum) fun _ _ _ _ _ _ us hl => match us, hl with | [_, _, _], _ => rfl
  have F_l_never_greater := fun_mk (st := s_l_never_greater) pl_l_never_greater pc_l_never_greater pq_l_never_greater
  have b_l_never_greater := F_l_never_greater.binds (ps := P_l_never_greater) fun _ _ _ _ _ _ us hl => match us, hl with | [_, _, _], _ => rfl
  have F_l_value := fun_mk (st := s_l_value) pl_l_value pc_l_value pq_l_value
  have b_l_value := F_l_value.binds (ps := P_l_value) fun _ _ _ _ _ _ us hl => match us, hl with | [_, _], _ => rfl
  have F_l_price := fun_mk (st := s_l_price) pl_l_price pc_l_price pq_l_price
  have b_l_price := F_l_price.binds (ps := P_l_price) fun _ _ _ _ _ _ us hl => match us, hl with | [_], _ => rfl
  have F_l_refusal := fun_mk (st := s_l_refusal) pl_l_refusal pc_l_refusal pq_l_refusal
  have b_l_refusal := F_l_refusal.binds (ps := P_l_refusal) fun _ _ _ _ _ _ us hl => match us, hl with | [_, _], _ => rfl
  have F_l_bad_names := fun_mk (st := s_l_bad_names) pl_l_bad_names pc_l_bad_names pq_l_bad_names
  have b_l_bad_names := F_l_bad_names.binds (ps := P_l_bad_names) fun _ _ _ _ _ _ us hl => match us, hl with | [_, _], _ => rfl
  have F_l_order_right := fun_mk (st := s_l_order_right) pl_l_order_right pc_l_order_right pq_l_order_right
  have b_l_order_right := F_l_order_right.binds (ps := P_l_order_right) fun _ _ _ _ _ _ us hl => match us, hl with | [_, _, _, _, _], _ => rfl
  have F_l_refused_right := fun_mk (st := s_l_refused_right) pl_l_refused_right pc_l_refused_right pq_l_refused_right
  have b_l_refused_right := F_l_refused_right.binds (ps := P_l_refused_right) fun _ _ _ _ _ _ us hl => match us, hl with | [_, _, _], _ => rfl
  have F_f_law := fun_mk (st := s_f_law) pl_f_law pc_f_law pq_f_law
  have b_f_law := F_f_law.binds (ps := P_f_law) fun _ _ _ _ _ _ us hl => match us, hl with | [_], _ => rfl
  have T : Txt K mg ⟨a_CostError, a_NoRatio, a_BadName, a_NoPrice, a_Negative, a_Ratio, a_Form, a_m_BadName_init, (PySem.W.fnOf "__init__" "BadName.__init__" (defArgs s_m_BadName_init) (defBody s_m_BadName_init) (defScope s_m_BadName_init) .none kV_m_BadName_init dc_m_BadName_init pm_m_BadName_init an_m_BadName_init cd_m_BadName_init ct_m_BadName_init), a_m_NoPrice_init, (PySem.W.fnOf "__init__" "NoPrice.__init__" (defArgs s_m_NoPrice_init) (defBody s_m_NoPrice_init) (defScope s_m_NoPrice_init) .none kV_m_NoPrice_init dc_m_NoPrice_init pm_m_NoPrice_init an_m_NoPrice_init cd_m_NoPrice_init ct_m_NoPrice_init), a_m_Negative_init, (PySem.W.fnOf "__init__" "Negative.__init__" (defArgs s_m_Negative_init) (defBody s_m_Negative_init) (defScope s_m_Negative_init) .none kV_m_Negative_init dc_m_Negative_init pm_m_Negative_init an_m_Negative_init cd_m_Negative_init ct_m_Negative_init), a_f_common_divisor, (PySem.W.fnOf "common_divisor" "common_divisor" (defArgs s_f_common_divisor) (defBody s_f_common_divisor) (defScope s_f_common_divisor) .none kV_f_common_divisor dc_f_common_divisor pm_f_common_divisor an_f_common_divisor cd_f_common_divisor ct_f_common_divisor), a_f_halves, (PySem.W.fnOf "halves" "halves" (defArgs s_f_halves) (defBody s_f_halves) (defScope s_f_halves) .none kV_f_halves dc_f_halves pm_f_halves an_f_halves cd_f_halves ct_f_halves), a_m_Ratio_init, (PySem.W.fnOf "__init__" "Ratio.__init__" (defArgs s_m_Ratio_init) (defBody s_m_Ratio_init) (defScope s_m_Ratio_init) (.ref tp_m_Ratio_init) kV_m_Ratio_init dc_m_Ratio_init pm_m_Ratio_init an_m_Ratio_init cd_m_Ratio_init ct_m_Ratio_init), a_m_Ratio_add, (PySem.W.fnOf "__add__" "Ratio.__add__" (defArgs s_m_Ratio_add) (defBody s_m_Ratio_add) (defScope s_m_Ratio_add) .none kV_m_Ratio_add dc_m_Ratio_add pm_m_Ratio_add an_m_Ratio_add cd_m_Ratio_add ct_m_Ratio_add), a_m_Ratio_radd, (PySem.W.fnOf "__radd__" "Ratio.__radd__" (defArgs s_m_Ratio_radd) (defBody s_m_Ratio_radd) (defScope s_m_Ratio_radd) .none kV_m_Ratio_radd dc_m_Ratio_radd pm_m_Ratio_radd an_m_Ratio_radd cd_m_Ratio_radd ct_m_Ratio_radd), a_m_Ratio_sub, (PySem.W.fnOf "__sub__" "Ratio.__sub__" (defArgs s_m_Ratio_sub) (defBody s_m_Ratio_sub) (defScope s_m_Ratio_sub) .none kV_m_Ratio_sub dc_m_Ratio_sub pm_m_Ratio_sub an_m_Ratio_sub cd_m_Ratio_sub ct_m_Ratio_sub), a_m_Ratio_rsub, (PySem.W.fnOf "__rsub__" "Ratio.__rsub__" (defArgs s_m_Ratio_rsub) (defBody s_m_Ratio_rsub) (defScope s_m_Ratio_rsub) .none kV_m_Ratio_rsub dc_m_Ratio_rsub pm_m_Ratio_rsub an_m_Ratio_rsub cd_m_Ratio_rsub ct_m_Ratio_rsub), a_m_Ratio_mul, (PySem.W.fnOf "__mul__" "Ratio.__mul__" (defArgs s_m_Ratio_mul) (defBody s_m_Ratio_mul) (defScope s_m_Ratio_mul) .none kV_m_Ratio_mul dc_m_Ratio_mul pm_m_Ratio_mul an_m_Ratio_mul cd_m_Ratio_mul ct_m_Ratio_mul), a_m_Ratio_rmul, (PySem.W.fnOf "__rmul__" "Ratio.__rmul__" (defArgs s_m_Ratio_rmul) (defBody s_m_Ratio_rmul) (defScope s_m_Ratio_rmul) .none kV_m_Ratio_rmul dc_m_Ratio_rmul pm_m_Ratio_rmul an_m_Ratio_rmul cd_m_Ratio_rmul ct_m_Ratio_rmul), a_m_Ratio_neg, (PySem.W.fnOf "__neg__" "Ratio.__neg__" (defArgs s_m_Ratio_neg) (defBody s_m_Ratio_neg) (defScope s_m_Ratio_neg) .none kV_m_Ratio_neg dc_m_Ratio_neg pm_m_Ratio_neg an_m_Ratio_neg cd_m_Ratio_neg ct_m_Ratio_neg), a_m_Ratio_abs, (PySem.W.fnOf "__abs__" "Ratio.__abs__" (defArgs s_m_Ratio_abs) (defBody s_m_Ratio_abs) (defScope s_m_Ratio_abs) .none kV_m_Ratio_abs dc_m_Ratio_abs pm_m_Ratio_abs an_m_Ratio_abs cd_m_Ratio_abs ct_m_Ratio_abs), a_m_Ratio_at_most, (PySem.W.fnOf "at_most" "Ratio.at_most" (defArgs s_m_Ratio_at_most) (defBody s_m_Ratio_at_most) (defScope s_m_Ratio_at_most) .none kV_m_Ratio_at_most dc_m_Ratio_at_most pm_m_Ratio_at_most an_m_Ratio_at_most cd_m_Ratio_at_most ct_m_Ratio_at_most), a_m_Ratio_same, (PySem.W.fnOf "same" "Ratio.same" (defArgs s_m_Ratio_same) (defBody s_m_Ratio_same) (defScope s_m_Ratio_same) .none kV_m_Ratio_same dc_m_Ratio_same pm_m_Ratio_same an_m_Ratio_same cd_m_Ratio_same ct_m_Ratio_same), a_m_Ratio_sum_of, (PySem.W.fnOf "sum_of" "Ratio.sum_of" (defArgs s_m_Ratio_sum_of) (defBody s_m_Ratio_sum_of) (defScope s_m_Ratio_sum_of) .none kV_m_Ratio_sum_of dc_m_Ratio_sum_of pm_m_Ratio_sum_of an_m_Ratio_sum_of cd_m_Ratio_sum_of ct_m_Ratio_sum_of), a_sp_m_Ratio_sum_of, a_f_valid_name, (PySem.W.fnOf "valid_name" "valid_name" (defArgs s_f_valid_name) (defBody s_f_valid_name) (defScope s_f_valid_name) .none kV_f_valid_name dc_f_valid_name pm_f_valid_name an_f_valid_name cd_f_valid_name ct_f_valid_name), a_m_Form_init, (PySem.W.fnOf "__init__" "Form.__init__" (defArgs s_m_Form_init) (defBody s_m_Form_init) (defScope s_m_Form_init) (.ref tp_m_Form_init) kV_m_Form_init dc_m_Form_init pm_m_Form_init an_m_Form_init cd_m_Form_init ct_m_Form_init), a_m_Form_of, (PySem.W.fnOf "of" "Form.of" (defArgs s_m_Form_of) (defBody s_m_Form_of) (defScope s_m_Form_of) .none kV_m_Form_of dc_m_Form_of pm_m_Form_of an_m_Form_of cd_m_Form_of ct_m_Form_of), a_sp_m_Form_of, a_m_Form_share, (PySem.W.fnOf "share" "Form.share" (defArgs s_m_Form_share) (defBody s_m_Form_share) (defScope s_m_Form_share) .none kV_m_Form_share dc_m_Form_share pm_m_Form_share an_m_Form_share cd_m_Form_share ct_m_Form_share), a_m_Form_names, (PySem.W.fnOf "names" "Form.names" (defArgs s_m_Form_names) (defBody s_m_Form_names) (defScope s_m_Form_names) .none kV_m_Form_names dc_m_Form_names pm_m_Form_names an_m_Form_names cd_m_Form_names ct_m_Form_names), a_m_Form_at_most, (PySem.W.fnOf "at_most" "Form.at_most" (defArgs s_m_Form_at_most) (defBody s_m_Form_at_most) (defScope s_m_Form_at_most) .none kV_m_Form_at_most dc_m_Form_at_most pm_m_Form_at_most an_m_Form_at_most cd_m_Form_at_most ct_m_Form_at_most), a_m_Form_same, (PySem.W.fnOf "same" "Form.same" (defArgs s_m_Form_same) (defBody s_m_Form_same) (defScope s_m_Form_same) .none kV_m_Form_same dc_m_Form_same pm_m_Form_same an_m_Form_same cd_m_Form_same ct_m_Form_same), a_m_Form_at, (PySem.W.fnOf "at" "Form.at" (defArgs s_m_Form_at) (defBody s_m_Form_at) (defScope s_m_Form_at) .none kV_m_Form_at dc_m_Form_at pm_m_Form_at an_m_Form_at cd_m_Form_at ct_m_Form_at), a_l_bag, (PySem.W.fnOf "_law_bag" "_law_bag" (defArgs s_l_bag) (defBody s_l_bag) (defScope s_l_bag) .none kV_l_bag dc_l_bag pm_l_bag an_l_bag cd_l_bag ct_l_bag), a_l_draw, (PySem.W.fnOf "_law_draw" "_law_draw" (defArgs s_l_draw) (defBody s_l_draw) (defScope s_l_draw) .none kV_l_draw dc_l_draw pm_l_draw an_l_draw cd_l_draw ct_l_draw), a_l_names, (PySem.W.fnOf "_law_names" "_law_names" (defArgs s_l_names) (defBody s_l_names) (defScope s_l_names) .none kV_l_names dc_l_names pm_l_names an_l_names cd_l_names ct_l_names), a_l_pick, (PySem.W.fnOf "_law_pick" "_law_pick" (defArgs s_l_pick) (defBody s_l_pick) (defScope s_l_pick) .none kV_l_pick dc_l_pick pm_l_pick an_l_pick cd_l_pick ct_l_pick), a_l_mixed, (PySem.W.fnOf "_law_mixed" "_law_mixed" (defArgs s_l_mixed) (defBody s_l_mixed) (defScope s_l_mixed) .none kV_l_mixed dc_l_mixed pm_l_mixed an_l_mixed cd_l_mixed ct_l_mixed), a_l_divisor, (PySem.W.fnOf "_law_divisor" "_law_divisor" (defArgs s_l_divisor) (defBody s_l_divisor) (defScope s_l_divisor) .none kV_l_divisor dc_l_divisor pm_l_divisor an_l_divisor cd_l_divisor ct_l_divisor), a_l_lowest, (PySem.W.fnOf "_law_lowest" "_law_lowest" (defArgs s_l_lowest) (defBody s_l_lowest) (defScope s_l_lowest) .none kV_l_lowest dc_l_lowest pm_l_lowest an_l_lowest cd_l_lowest ct_l_lowest), a_l_top, (PySem.W.fnOf "_law_top" "_law_top" (defArgs s_l_top) (defBody s_l_top) (defScope s_l_top) .none kV_l_top dc_l_top pm_l_top an_l_top cd_l_top ct_l_top), a_l_share, (PySem.W.fnOf "_law_share" "_law_share" (defArgs s_l_share) (defBody s_l_share) (defScope s_l_share) .none kV_l_share dc_l_share pm_l_share an_l_share cd_l_share ct_l_share), a_l_shares, (PySem.W.fnOf "_law_shares" "_law_shares" (defArgs s_l_shares) (defBody s_l_shares) (defScope s_l_shares) .none kV_l_shares dc_l_shares pm_l_shares an_l_shares cd_l_shares ct_l_shares), a_l_handed, (PySem.W.fnOf "_law_handed" "_law_handed" (defArgs s_l_handed) (defBody s_l_handed) (defScope s_l_handed) .none kV_l_handed dc_l_handed pm_l_handed an_l_handed cd_l_handed ct_l_handed), a_l_sum, (PySem.W.fnOf "_law_sum" "_law_sum" (defArgs s_l_sum) (defBody s_l_sum) (defScope s_l_sum) .none kV_l_sum dc_l_sum pm_l_sum an_l_sum cd_l_sum ct_l_sum), a_l_never_greater, (PySem.W.fnOf "_law_never_greater" "_law_never_greater" (defArgs s_l_never_greater) (defBody s_l_never_greater) (defScope s_l_never_greater) .none kV_l_never_greater dc_l_never_greater pm_l_never_greater an_l_never_greater cd_l_never_greater ct_l_never_greater), a_l_value, (PySem.W.fnOf "_law_value" "_law_value" (defArgs s_l_value) (defBody s_l_value) (defScope s_l_value) .none kV_l_value dc_l_value pm_l_value an_l_value cd_l_value ct_l_value), a_l_price, (PySem.W.fnOf "_law_price" "_law_price" (defArgs s_l_price) (defBody s_l_price) (defScope s_l_price) .none kV_l_price dc_l_price pm_l_price an_l_price cd_l_price ct_l_price), a_l_refusal, (PySem.W.fnOf "_law_refusal" "_law_refusal" (defArgs s_l_refusal) (defBody s_l_refusal) (defScope s_l_refusal) .none kV_l_refusal dc_l_refusal pm_l_refusal an_l_refusal cd_l_refusal ct_l_refusal), a_l_bad_names, (PySem.W.fnOf "_law_bad_names" "_law_bad_names" (defArgs s_l_bad_names) (defBody s_l_bad_names) (defScope s_l_bad_names) .none kV_l_bad_names dc_l_bad_names pm_l_bad_names an_l_bad_names cd_l_bad_names ct_l_bad_names), a_l_order_right, (PySem.W.fnOf "_law_order_right" "_law_order_right" (defArgs s_l_order_right) (defBody s_l_order_right) (defScope s_l_order_right) .none kV_l_order_right dc_l_order_right pm_l_order_right an_l_order_right cd_l_order_right ct_l_order_right), a_l_refused_right, (PySem.W.fnOf "_law_refused_right" "_law_refused_right" (defArgs s_l_refused_right) (defBody s_l_refused_right) (defScope s_l_refused_right) .none kV_l_refused_right dc_l_refused_right pm_l_refused_right an_l_refused_right cd_l_refused_right ct_l_refused_right), fa, (PySem.W.fnOf "law" "law" (defArgs s_f_law) (defBody s_f_law) (defScope s_f_law) .none kV_f_law dc_f_law pm_f_law an_f_law cd_f_law ct_f_law), ds_m_Ratio_init, ds_m_Form_init⟩ := {
    z_abs := PySem.W.mg_none_of X G pz_abs,
    z_all := PySem.W.mg_none_of X G pz_all,
    z_classmethod := PySem.W.mg_none_of X G pz_classmethod,
    z_dict := PySem.W.mg_none_of X G pz_dict,
    z_int := PySem.W.mg_none_of X G pz_int,
    z_isinstance := PySem.W.mg_none_of X G pz_isinstance,
    z_len := PySem.W.mg_none_of X G pz_len,
    z_list := PySem.W.mg_none_of X G pz_list,
    z_min := PySem.W.mg_none_of X G pz_min,
    z_range := PySem.W.mg_none_of X G pz_range,
    z_sorted := PySem.W.mg_none_of X G pz_sorted,
    z_staticmethod := PySem.W.mg_none_of X G pz_staticmethod,
    z_str := PySem.W.mg_none_of X G pz_str,
    g_CostError := PySem.W.mg_of X G pg_CostError,
    ek_CostError := pek_CostError,
    eb_CostError := peb_CostError,
    et_CostError := pet_CostError,
    eh_CostError := peh_CostError,
    eic_CostError := peic_CostError,
    es_CostError := pes_CostError,
    xg_CostError := pxg_CostError,
    xk_CostError := pxk_CostError,
    xa_CostError := pxa_CostError,
    xn_CostError := pxn_CostError,
    xt_CostError := pxt_CostError,
    xm_CostError := pxm_CostError,
    rd_CostError := prd_CostError,
    cg_CostError := pcg_CostError,
    vi_CostError := pvi_CostError,
    g_NoRatio := PySem.W.mg_of X G pg_NoRatio,
    ek_NoRatio := pek_NoRatio,
    eb_NoRatio := peb_NoRatio,
    et_NoRatio := pet_NoRatio,
    eh_NoRatio := peh_NoRatio,
    eic_NoRatio := peic_NoRatio,
    es_NoRatio := pes_NoRatio,
    xg_NoRatio := pxg_NoRatio,
    xk_NoRatio := pxk_NoRatio,
    xa_NoRatio := pxa_NoRatio,
    xn_NoRatio := pxn_NoRatio,
    xt_NoRatio := pxt_NoRatio,
    xm_NoRatio := pxm_NoRatio,
    ex_NoRatio := pex_NoRatio,
    g_BadName := PySem.W.mg_of X G pg_BadName,
    ek_BadName := pek_BadName,
    eb_BadName := peb_BadName,
    et_BadName := pet_BadName,
    eh_BadName := peh_BadName,
    eic_BadName := peic_BadName,
    es_BadName := pes_BadName,
    xg_BadName := pxg_BadName,
    xk_BadName := pxk_BadName,
    xa_BadName := pxa_BadName,
    xn_BadName := pxn_BadName,
    xt_BadName := pxt_BadName,
    xm_BadName := pxm_BadName,
    xc_BadName := pxc_BadName,
    n_BadName_name := pn_BadName_name,
    oi_BadName := poi_BadName,
    ot_BadName := pot_BadName,
    ox_BadName := ⟨⟨_, _, _, _, _, _, _, _, _, _, _, _, _, _, _, pol_BadName, pov_BadName⟩, posa_BadName, peb_BadName, pet_BadName, pek_BadName⟩,
    g_NoPrice := PySem.W.mg_of X G pg_NoPrice,
    ek_NoPrice := pek_NoPrice,
    eb_NoPrice := peb_NoPrice,
    et_NoPrice := pet_NoPrice,
    eh_NoPrice := peh_NoPrice,
    eic_NoPrice := peic_NoPrice,
    es_NoPrice := pes_NoPrice,
    xg_NoPrice := pxg_NoPrice,
    xk_NoPrice := pxk_NoPrice,
    xa_NoPrice := pxa_NoPrice,
    xn_NoPrice := pxn_NoPrice,
    xt_NoPrice := pxt_NoPrice,
    xm_NoPrice := pxm_NoPrice,
    xc_NoPrice := pxc_NoPrice,
    n_NoPrice_name := pn_NoPrice_name,
    oi_NoPrice := poi_NoPrice,
    ot_NoPrice := pot_NoPrice,
    ox_NoPrice := ⟨⟨_, _, _, _, _, _, _, _, _, _, _, _, _, _, _, pol_NoPrice, pov_NoPrice⟩, posa_NoPrice, peb_NoPrice, pet_NoPrice, pek_NoPrice⟩,
    g_Negative := PySem.W.mg_of X G pg_Negative,
    ek_Negative := pek_Negative,
    eb_Negative := peb_Negative,
    et_Negative := pet_Negative,
    eh_Negative := peh_Negative,
    eic_Negative := peic_Negative,
    es_Negative := pes_Negative,
    xg_Negative := pxg_Negative,
    xk_Negative := pxk_Negative,
    xa_Negative := pxa_Negative,
    xn_Negative := pxn_Negative,
    xt_Negative := pxt_Negative,
    xm_Negative := pxm_Negative,
    xc_Negative := pxc_Negative,
    nn_Negative := pnn_Negative,
    n_Negative_name := pn_Negative_name,
    oi_Negative := poi_Negative,
    ot_Negative := pot_Negative,
    ox_Negative := ⟨⟨_, _, _, _, _, _, _, _, _, _, _, _, _, _, _, pol_Negative, pov_Negative⟩, posa_Negative, peb_Negative, pet_Negative, pek_Negative⟩,
    g_Ratio := PySem.W.mg_of X G pg_Ratio,
    cl_Ratio := ⟨ppg_Ratio, phd_Ratio, ppo_Ratio, psa_Ratio⟩,
    n_Ratio_top := pn_Ratio_top,
    n_Ratio_bottom := pn_Ratio_bottom,
    mk_Ratio := ⟨pma_Ratio, pmi_Ratio, pmf_Ratio, pmc_Ratio⟩,
    m_Ratio___add__ := ⟨pmt_m_Ratio_add, pmn_m_Ratio_add, pmk_m_Ratio_add⟩,
    m_Ratio___radd__ := ⟨pmt_m_Ratio_radd, pmn_m_Ratio_radd, pmk_m_Ratio_radd⟩,
    m_Ratio___sub__ := ⟨pmt_m_Ratio_sub, pmn_m_Ratio_sub, pmk_m_Ratio_sub⟩,
    m_Ratio___rsub__ := ⟨pmt_m_Ratio_rsub, pmn_m_Ratio_rsub, pmk_m_Ratio_rsub⟩,
    m_Ratio___mul__ := ⟨pmt_m_Ratio_mul, pmn_m_Ratio_mul, pmk_m_Ratio_mul⟩,
    m_Ratio___rmul__ := ⟨pmt_m_Ratio_rmul, pmn_m_Ratio_rmul, pmk_m_Ratio_rmul⟩,
    m_Ratio___neg__ := ⟨pmt_m_Ratio_neg, pmn_m_Ratio_neg, pmk_m_Ratio_neg⟩,
    m_Ratio___abs__ := ⟨pmt_m_Ratio_abs, pmn_m_Ratio_abs, pmk_m_Ratio_abs⟩,
    m_Ratio_at_most := ⟨pmt_m_Ratio_at_most, pmn_m_Ratio_at_most, pmk_m_Ratio_at_most⟩,
    m_Ratio_same := ⟨pmt_m_Ratio_same, pmn_m_Ratio_same, pmk_m_Ratio_same⟩,
    sm_Ratio_sum_of := ⟨ps1_m_Ratio_sum_of, ps2_m_Ratio_sum_of, ps3_m_Ratio_sum_of, ⟨_, ps4_m_Ratio_sum_of⟩, ps5_m_Ratio_sum_of⟩,
    tc_Ratio := ptc_Ratio,
    tn_Ratio := ptn_Ratio,
    tk_Ratio := ptk_Ratio,
    tm_Ratio := ptm_Ratio,
    ki_Ratio := pki_Ratio,
    sf_Ratio := psf_Ratio,
    si_Ratio := psi_Ratio,
    sj_Ratio := psj_Ratio,
    o1a_Ratio := po1a_Ratio,
    o2a_Ratio := po2a_Ratio,
    o1s_Ratio := po1s_Ratio,
    o2s_Ratio := po2s_Ratio,
    o1m_Ratio := po1m_Ratio,
    o2m_Ratio := po2m_Ratio,
    nia_Ratio := pnia_Ratio,
    nis_Ratio := pnis_Ratio,
    nim_Ratio := pnim_Ratio,
    rd_Ratio := prd_Ratio,
    cga_Ratio := pcga_Ratio,
    g_Form := PySem.W.mg_of X G pg_Form,
    cl_Form := ⟨ppg_Form, phd_Form, ppo_Form, psa_Form⟩,
    n_Form_shares := pn_Form_shares,
    mk_Form := ⟨pma_Form, pmi_Form, pmf_Form, pmc_Form⟩,
    cm_Form_of := ⟨⟨ps1_m_Form_of, ps2_m_Form_of⟩, ⟨ps3_m_Form_of, ⟨_, ps4_m_Form_of⟩, ps5_m_Form_of⟩⟩,
    m_Form_share := ⟨pmt_m_Form_share, pmn_m_Form_share, pmk_m_Form_share⟩,
    m_Form_names := ⟨pmt_m_Form_names, pmn_m_Form_names, pmk_m_Form_names⟩,
    m_Form_at_most := ⟨pmt_m_Form_at_most, pmn_m_Form_at_most, pmk_m_Form_at_most⟩,
    m_Form_same := ⟨pmt_m_Form_same, pmn_m_Form_same, pmk_m_Form_same⟩,
    m_Form_at := ⟨pmt_m_Form_at, pmn_m_Form_at, pmk_m_Form_at⟩,
    g_LETTERS := ⟨_, PySem.W.mg_of X G pg_LETTERS⟩,
    F_m_BadName_init := F_m_BadName_init,
    b_m_BadName_init := b_m_BadName_init,
    F_m_NoPrice_init := F_m_NoPrice_init,
    b_m_NoPrice_init := b_m_NoPrice_init,
    F_m_Negative_init := F_m_Negative_init,
    b_m_Negative_init := b_m_Negative_init,
    F_f_common_divisor := F_f_common_divisor,
    b_f_common_divisor := b_f_common_divisor,
    g_common_divisor := PySem.W.mg_of X G pa_f_common_divisor,
    F_f_halves := F_f_halves,
    b_f_halves := b_f_halves,
    g_halves := PySem.W.mg_of X G pa_f_halves,
    F_m_Ratio_init := F_m_Ratio_init,
    b_m_Ratio_init := b_m_Ratio_init,
    dv_m_Ratio_init := dv_m_Ratio_init,
    b_m_Ratio_init_d1 := bd_m_Ratio_init,
    F_m_Ratio_add := F_m_Ratio_add,
    b_m_Ratio_add := b_m_Ratio_add,
    F_m_Ratio_radd := F_m_Ratio_radd,
    b_m_Ratio_radd := b_m_Ratio_radd,
    F_m_Ratio_sub := F_m_Ratio_sub,
    b_m_Ratio_sub := b_m_Ratio_sub,
    F_m_Ratio_rsub := F_m_Ratio_rsub,
    b_m_Ratio_rsub := b_m_Ratio_rsub,
    F_m_Ratio_mul := F_m_Ratio_mul,
    b_m_Ratio_mul := b_m_Ratio_mul,
    F_m_Ratio_rmul := F_m_Ratio_rmul,
    b_m_Ratio_rmul := b_m_Ratio_rmul,
    F_m_Ratio_neg := F_m_Ratio_neg,
    b_m_Ratio_neg := b_m_Ratio_neg,
    F_m_Ratio_abs := F_m_Ratio_abs,
    b_m_Ratio_abs := b_m_Ratio_abs,
    F_m_Ratio_at_most := F_m_Ratio_at_most,
    b_m_Ratio_at_most := b_m_Ratio_at_most,
    F_m_Ratio_same := F_m_Ratio_same,
    b_m_Ratio_same := b_m_Ratio_same,
    F_m_Ratio_sum_of := F_m_Ratio_sum_of,
    b_m_Ratio_sum_of := b_m_Ratio_sum_of,
    F_f_valid_name := F_f_valid_name,
    b_f_valid_name := b_f_valid_name,
    g_valid_name := PySem.W.mg_of X G pa_f_valid_name,
    F_m_Form_init := F_m_Form_init,
    b_m_Form_init := b_m_Form_init,
    dv_m_Form_init := dv_m_Form_init,
    b_m_Form_init_d1 := bd_m_Form_init,
    F_m_Form_of := F_m_Form_of,
    b_m_Form_of := b_m_Form_of,
    F_m_Form_share := F_m_Form_share,
    b_m_Form_share := b_m_Form_share,
    F_m_Form_names := F_m_Form_names,
    b_m_Form_names := b_m_Form_names,
    F_m_Form_at_most := F_m_Form_at_most,
    b_m_Form_at_most := b_m_Form_at_most,
    F_m_Form_same := F_m_Form_same,
    b_m_Form_same := b_m_Form_same,
    F_m_Form_at := F_m_Form_at,
    b_m_Form_at := b_m_Form_at,
    F_l_bag := F_l_bag,
    b_l_bag := b_l_bag,
    g__law_bag := PySem.W.mg_of X G pa_l_bag,
    F_l_draw := F_l_draw,
    b_l_draw := b_l_draw,
    g__law_draw := PySem.W.mg_of X G pa_l_draw,
    F_l_names := F_l_names,
    b_l_names := b_l_names,
    g__law_names := PySem.W.mg_of X G pa_l_names,
    F_l_pick := F_l_pick,
    b_l_pick := b_l_pick,
    g__law_pick := PySem.W.mg_of X G pa_l_pick,
    F_l_mixed := F_l_mixed,
    b_l_mixed := b_l_mixed,
    g__law_mixed := PySem.W.mg_of X G pa_l_mixed,
    F_l_divisor := F_l_divisor,
    b_l_divisor := b_l_divisor,
    g__law_divisor := PySem.W.mg_of X G pa_l_divisor,
    F_l_lowest := F_l_lowest,
    b_l_lowest := b_l_lowest,
    g__law_lowest := PySem.W.mg_of X G pa_l_lowest,
    F_l_top := F_l_top,
    b_l_top := b_l_top,
    g__law_top := PySem.W.mg_of X G pa_l_top,
    F_l_share := F_l_share,
    b_l_share := b_l_share,
    g__law_share := PySem.W.mg_of X G pa_l_share,
    F_l_shares := F_l_shares,
    b_l_shares := b_l_shares,
    g__law_shares := PySem.W.mg_of X G pa_l_shares,
    F_l_handed := F_l_handed,
    b_l_handed := b_l_handed,
    g__law_handed := PySem.W.mg_of X G pa_l_handed,
    F_l_sum := F_l_sum,
    b_l_sum := b_l_sum,
    g__law_sum := PySem.W.mg_of X G pa_l_sum,
    F_l_never_greater := F_l_never_greater,
    b_l_never_greater := b_l_never_greater,
    g__law_never_greater := PySem.W.mg_of X G pa_l_never_greater,
    F_l_value := F_l_value,
    b_l_value := b_l_value,
    g__law_value := PySem.W.mg_of X G pa_l_value,
    F_l_price := F_l_price,
    b_l_price := b_l_price,
    g__law_price := PySem.W.mg_of X G pa_l_price,
    F_l_refusal := F_l_refusal,
    b_l_refusal := b_l_refusal,
    g__law_refusal := PySem.W.mg_of X G pa_l_refusal,
    F_l_bad_names := F_l_bad_names,
    b_l_bad_names := b_l_bad_names,
    g__law_bad_names := PySem.W.mg_of X G pa_l_bad_names,
    F_l_order_right := F_l_order_right,
    b_l_order_right := b_l_order_right,
    g__law_order_right := PySem.W.mg_of X G pa_l_order_right,
    F_l_refused_right := F_l_refused_right,
    b_l_refused_right := b_l_refused_right,
    g__law_refused_right := PySem.W.mg_of X G pa_l_refused_right,
    F_f_law := F_f_law,
    b_f_law := b_f_law,
    g_law := PySem.W.mg_of X G pa_f_law }
  exact ⟨_, fun s v => .of_eq rfl, fun base _ _ => ok_f_law T⟩
theorem walk {l : PySem.W.OpenLaw} {q : Program} {loose : List Str} {XP : (Str → Option Value) → Heap → Prop} {YP : World → Heap → Prop} {d : DefRec} {K : Params → PySem.W.Frag} (hn : l.most = some 63) (hdf : d.params.defaults = [])
    (hY : ∀ (w : World) (h : Heap), YP w h → (K w.params).In h)
    (F : ∀ (w : World) (mg : Str → Option Value) (fa : Addr) (h : Heap), (K w.params).In h → h.Ns mainGlobals mg → mg d.name = some (.ref fa) →
      ∃ fd : FuncData, (∀ (s : Shared) (u : Value), BindsTo s fd ⟨[u], []⟩ [("_law_script", u)]) ∧ ∀ base : Heap, (K w.params).In base → base.Ns mainGlobals mg → FnOk l.prog w (K w.params) mg base CX0 24 fa fd ["_law_script"] (spLaw (K w.params))) :
    PySem.W.WalkO q loose XP YP l.row.toRowW d [] (fun f vs => PySem.call f vs) :=
  L2.walk_of (n := 63) (k := 24) (x := "_law_script") (CX := fun _ => CX0) (sp := fun w => spLaw (K w.params)) hn (by decide) hdf ⟨rfl, by decide, by decide⟩ hY F (fun _ _ a ns hl _ hS => ⟨a, ns, rfl, hS, hl, fun _ => rfl⟩) fun _ _ _ _ _ z => z
end Lot
open PySem PySem.W PyProof.Rows
set_option maxRecDepth 100000 in
set_option maxHeartbeats 0 in
theorem PySem.Challenge.cw_lotcosts_k22_forms_in_order_and_at_price_holds : PySem.Challenge.rw_lotcosts_k22_forms_in_order_and_at_price.Holds := by
  w_on; o_law; k_head; (case hw => w_witness2)
  k_fill
  refine Lot.walk (l := PySem.Challenge.rw_lotcosts_k22_forms_in_order_and_at_price) rfl rfl (fun w h Y => PySem.W.kIn_of Y) ?F
  case F =>
    intro w mg fa h KX G hmg
    refine' Lot.all_mk KX G hmg ?pz_abs ?pz_all ?pz_classmethod ?pz_dict ?pz_int ?pz_isinstance ?pz_len ?pz_list ?pz_min ?pz_range ?pz_sorted ?pz_staticmethod ?pz_str ?pg_CostError ?pek_CostError ?peb_CostError ?pet_CostError ?peh_CostError ?peic_CostError ?pes_CostError ?pxg_CostError ?pxk_CostError ?pxa_CostError ?pxn_CostError ?pxt_CostError ?pxm_CostError ?prd_CostError ?pcg_CostError ?pvi_CostError ?pg_NoRatio ?pek_NoRatio ?peb_NoRatio ?pet_NoRatio ?peh_NoRatio ?peic_NoRatio ?pes_NoRatio ?pxg_NoRatio ?pxk_NoRatio ?pxa_NoRatio ?pxn_NoRatio ?pxt_NoRatio ?pxm_NoRatio ?pex_NoRatio ?pg_BadName ?pek_BadName ?peb_BadName ?pet_BadName ?peh_BadName ?peic_BadName ?pes_BadName ?pxg_BadName ?pxk_BadName ?pxa_BadName ?pxn_BadName ?pxt_BadName ?pxm_BadName ?pxc_BadName ?pn_BadName_name ?poi_BadName ?pot_BadName ?pol_BadName ?pov_BadName ?posa_BadName ?pg_NoPrice ?pek_NoPrice ?peb_NoPrice ?pet_NoPrice ?peh_NoPrice ?peic_NoPrice ?pes_NoPrice ?pxg_NoPrice ?pxk_NoPrice ?pxa_NoPrice ?pxn_NoPrice ?pxt_NoPrice ?pxm_NoPrice ?pxc_NoPrice ?pn_NoPrice_name ?poi_NoPrice ?pot_NoPrice ?pol_NoPrice ?pov_NoPrice ?posa_NoPrice ?pg_Negative ?pek_Negative ?peb_Negative ?pet_Negative ?peh_Negative ?peic_Negative ?pes_Negative ?pxg_Negative ?pxk_Negative ?pxa_Negative ?pxn_Negative ?pxt_Negative ?pxm_Negative ?pxc_Negative ?pnn_Negative ?pn_Negative_name ?poi_Negative ?pot_Negative ?pol_Negative ?pov_Negative ?posa_Negative ?pg_Ratio ?ppg_Ratio ?phd_Ratio ?ppo_Ratio ?psa_Ratio ?pn_Ratio_top ?pn_Ratio_bottom ?pma_Ratio ?pmi_Ratio ?pmf_Ratio ?pmc_Ratio ?pmt_m_Ratio_add ?pmn_m_Ratio_add ?pmk_m_Ratio_add ?pmt_m_Ratio_radd ?pmn_m_Ratio_radd ?pmk_m_Ratio_radd ?pmt_m_Ratio_sub ?pmn_m_Ratio_sub ?pmk_m_Ratio_sub ?pmt_m_Ratio_rsub ?pmn_m_Ratio_rsub ?pmk_m_Ratio_rsub ?pmt_m_Ratio_mul ?pmn_m_Ratio_mul ?pmk_m_Ratio_mul ?pmt_m_Ratio_rmul ?pmn_m_Ratio_rmul ?pmk_m_Ratio_rmul ?pmt_m_Ratio_neg ?pmn_m_Ratio_neg ?pmk_m_Ratio_neg ?pmt_m_Ratio_abs ?pmn_m_Ratio_abs ?pmk_m_Ratio_abs ?pmt_m_Ratio_at_most ?pmn_m_Ratio_at_most ?pmk_m_Ratio_at_most ?pmt_m_Ratio_same ?pmn_m_Ratio_same ?pmk_m_Ratio_same ?ps1_m_Ratio_sum_of ?ps2_m_Ratio_sum_of ?ps3_m_Ratio_sum_of ?ps4_m_Ratio_sum_of ?ps5_m_Ratio_sum_of ?ptc_Ratio ?ptn_Ratio ?ptk_Ratio ?ptm_Ratio ?pki_Ratio ?psf_Ratio ?psi_Ratio ?psj_Ratio ?po1a_Ratio ?po2a_Ratio ?po1s_Ratio ?po2s_Ratio ?po1m_Ratio ?po2m_Ratio ?pnia_Ratio ?pnis_Ratio ?pnim_Ratio ?prd_Ratio ?pcga_Ratio ?pg_Form ?ppg_Form ?phd_Form ?ppo_Form ?psa_Form ?pn_Form_shares ?pma_Form ?pmi_Form ?pmf_Form ?pmc_Form ?ps1_m_Form_of ?ps2_m_Form_of ?ps3_m_Form_of ?ps4_m_Form_of ?ps5_m_Form_of ?pmt_m_Form_share ?pmn_m_Form_share ?pmk_m_Form_share ?pmt_m_Form_names ?pmn_m_Form_names ?pmk_m_Form_names ?pmt_m_Form_at_most ?pmn_m_Form_at_most ?pmk_m_Form_at_most ?pmt_m_Form_same ?pmn_m_Form_same ?pmk_m_Form_same ?pmt_m_Form_at ?pmn_m_Form_at ?pmk_m_Form_at ?pg_LETTERS ?pe_m_BadName_init ?pl_m_BadName_init ?pc_m_BadName_init ?pq_m_BadName_init ?pe_m_NoPrice_init ?pl_m_NoPrice_init ?pc_m_NoPrice_init ?pq_m_NoPrice_init ?pe_m_Negative_init ?pl_m_Negative_init ?pc_m_Negative_init ?pq_m_Negative_init ?pa_f_common_divisor ?pl_f_common_divisor ?pc_f_common_divisor ?pq_f_common_divisor ?pa_f_halves ?pl_f_halves ?pc_f_halves ?pq_f_halves ?pl_m_Ratio_init ?pt_m_Ratio_init ?pc_m_Ratio_init ?pq_m_Ratio_init ?pl_m_Ratio_add ?pc_m_Ratio_add ?pq_m_Ratio_add ?pl_m_Ratio_radd ?pc_m_Ratio_radd ?pq_m_Ratio_radd ?pl_m_Ratio_sub ?pc_m_Ratio_sub ?pq_m_Ratio_sub ?pl_m_Ratio_rsub ?pc_m_Ratio_rsub ?pq_m_Ratio_rsub ?pl_m_Ratio_mul ?pc_m_Ratio_mul ?pq_m_Ratio_mul ?pl_m_Ratio_rmul ?pc_m_Ratio_rmul ?pq_m_Ratio_rmul ?pl_m_Ratio_neg ?pc_m_Ratio_neg ?pq_m_Ratio_neg ?pl_m_Ratio_abs ?pc_m_Ratio_abs ?pq_m_Ratio_abs ?pl_m_Ratio_at_most ?pc_m_Ratio_at_most ?pq_m_Ratio_at_most ?pl_m_Ratio_same ?pc_m_Ratio_same ?pq_m_Ratio_same ?pl_m_Ratio_sum_of ?pc_m_Ratio_sum_of ?pq_m_Ratio_sum_of ?pa_f_valid_name ?pl_f_valid_name ?pc_f_valid_name ?pq_f_valid_name ?pl_m_Form_init ?pt_m_Form_init ?pc_m_Form_init ?pq_m_Form_init ?pl_m_Form_of ?pc_m_Form_of ?pq_m_Form_of ?pl_m_Form_share ?pc_m_Form_share ?pq_m_Form_share ?pl_m_Form_names ?pc_m_Form_names ?pq_m_Form_names ?pl_m_Form_at_most ?pc_m_Form_at_most ?pq_m_Form_at_most ?pl_m_Form_same ?pc_m_Form_same ?pq_m_Form_same ?pl_m_Form_at ?pc_m_Form_at ?pq_m_Form_at ?pa_l_bag ?pl_l_bag ?pc_l_bag ?pq_l_bag ?pa_l_draw ?pl_l_draw ?pc_l_draw ?pq_l_draw ?pa_l_names ?pl_l_names ?pc_l_names ?pq_l_names ?pa_l_pick ?pl_l_pick ?pc_l_pick ?pq_l_pick ?pa_l_mixed ?pl_l_mixed ?pc_l_mixed ?pq_l_mixed ?pa_l_divisor ?pl_l_divisor ?pc_l_divisor ?pq_l_divisor ?pa_l_lowest ?pl_l_lowest ?pc_l_lowest ?pq_l_lowest ?pa_l_top ?pl_l_top ?pc_l_top ?pq_l_top ?pa_l_share ?pl_l_share ?pc_l_share ?pq_l_share ?pa_l_shares ?pl_l_shares ?pc_l_shares ?pq_l_shares ?pa_l_handed ?pl_l_handed ?pc_l_handed ?pq_l_handed ?pa_l_sum ?pl_l_sum ?pc_l_sum ?pq_l_sum ?pa_l_never_greater ?pl_l_never_greater ?pc_l_never_greater ?pq_l_never_greater ?pa_l_value ?pl_l_value ?pc_l_value ?pq_l_value ?pa_l_price ?pl_l_price ?pc_l_price ?pq_l_price ?pa_l_refusal ?pl_l_refusal ?pc_l_refusal ?pq_l_refusal ?pa_l_bad_names ?pl_l_bad_names ?pc_l_bad_names ?pq_l_bad_names ?pa_l_order_right ?pl_l_order_right ?pc_l_order_right ?pq_l_order_right ?pa_l_refused_right ?pl_l_refused_right ?pc_l_refused_right ?pq_l_refused_right ?pa_f_law ?pl_f_law ?pc_f_law ?pq_f_law
    (case pz_abs => first | k_is | rfl)
    (case pz_all => first | k_is | rfl)
    (case pz_classmethod => first | k_is | rfl)
    (case pz_dict => first | k_is | rfl)
    (case pz_int => first | k_is | rfl)
    (case pz_isinstance => first | k_is | rfl)
    (case pz_len => first | k_is | rfl)
    (case pz_list => first | k_is | rfl)
    (case pz_min => first | k_is | rfl)
    (case pz_range => first | k_is | rfl)
    (case pz_sorted => first | k_is | rfl)
    (case pz_staticmethod => first | k_is | rfl)
    (case pz_str => first | k_is | rfl)
    (case pg_CostError => first | k_is | rfl)
    (case pek_CostError => first | k_is | rfl)
    (case peb_CostError => first | k_is | rfl)
    (case pet_CostError => first | k_is | rfl)
    (case peh_CostError => first | k_is | rfl)
    (case peic_CostError => first | k_is | rfl)
    (case pes_CostError => first | k_is | rfl)
    (case pxg_CostError => first | k_is | rfl)
    (case pxk_CostError => first | k_is | rfl)
    (case pxa_CostError => first | k_is | rfl)
    (case pxn_CostError => first | k_is | rfl)
    (case pxt_CostError => first | k_is | rfl)
    (case pxm_CostError => first | k_is | rfl)
    (case prd_CostError => first | k_is | rfl)
    (case pcg_CostError => first | k_is | rfl)
    (case pvi_CostError => first | k_is | rfl)
    (case pg_NoRatio => first | k_is | rfl)
    (case pek_NoRatio => first | k_is | rfl)
    (case peb_NoRatio => first | k_is | rfl)
    (case pet_NoRatio => first | k_is | rfl)
    (case peh_NoRatio => first | k_is | rfl)
    (case peic_NoRatio => first | k_is | rfl)
    (case pes_NoRatio => first | k_is | rfl)
    (case pxg_NoRatio => first | k_is | rfl)
    (case pxk_NoRatio => first | k_is | rfl)
    (case pxa_NoRatio => first | k_is | rfl)
    (case pxn_NoRatio => first | k_is | rfl)
    (case pxt_NoRatio => first | k_is | rfl)
    (case pxm_NoRatio => first | k_is | rfl)
    (case pex_NoRatio => k_exc)
    (case pg_BadName => first | k_is | rfl)
    (case pek_BadName => first | k_is | rfl)
    (case peb_BadName => first | k_is | rfl)
    (case pet_BadName => first | k_is | rfl)
    (case peh_BadName => first | k_is | rfl)
    (case peic_BadName => first | k_is | rfl)
    (case pes_BadName => first | k_is | rfl)
    (case pxg_BadName => first | k_is | rfl)
    (case pxk_BadName => first | k_is | rfl)
    (case pxa_BadName => first | k_is | rfl)
    (case pxn_BadName => first | k_is | rfl)
    (case pxt_BadName => first | k_is | rfl)
    (case pxm_BadName => first | k_is | rfl)
    (case pxc_BadName => first | k_is | rfl)
    (case pn_BadName_name => first | k_is | rfl)
    (case poi_BadName => first | k_is | rfl)
    (case pot_BadName => first | k_is | rfl)
    (case pol_BadName => first | k_is | rfl)
    (case pov_BadName => first | k_is | rfl)
    (case posa_BadName => first | k_is | rfl)
    (case pg_NoPrice => first | k_is | rfl)
    (case pek_NoPrice => first | k_is | rfl)
    (case peb_NoPrice => first | k_is | rfl)
    (case pet_NoPrice => first | k_is | rfl)
    (case peh_NoPrice => first | k_is | rfl)
    (case peic_NoPrice => first | k_is | rfl)
    (case pes_NoPrice => first | k_is | rfl)
    (case pxg_NoPrice => first | k_is | rfl)
    (case pxk_NoPrice => first | k_is | rfl)
    (case pxa_NoPrice => first | k_is | rfl)
    (case pxn_NoPrice => first | k_is | rfl)
    (case pxt_NoPrice => first | k_is | rfl)
    (case pxm_NoPrice => first | k_is | rfl)
    (case pxc_NoPrice => first | k_is | rfl)
    (case pn_NoPrice_name => first | k_is | rfl)
    (case poi_NoPrice => first | k_is | rfl)
    (case pot_NoPrice => first | k_is | rfl)
    (case pol_NoPrice => first | k_is | rfl)
    (case pov_NoPrice => first | k_is | rfl)
    (case posa_NoPrice => first | k_is | rfl)
    (case pg_Negative => first | k_is | rfl)
    (case pek_Negative => first | k_is | rfl)
    (case peb_Negative => first | k_is | rfl)
    (case pet_Negative => first | k_is | rfl)
    (case peh_Negative => first | k_is | rfl)
    (case peic_Negative => first | k_is | rfl)
    (case pes_Negative => first | k_is | rfl)
    (case pxg_Negative => first | k_is | rfl)
    (case pxk_Negative => first | k_is | rfl)
    (case pxa_Negative => first | k_is | rfl)
    (case pxn_Negative => first | k_is | rfl)
    (case pxt_Negative => first | k_is | rfl)
    (case pxm_Negative => first | k_is | rfl)
    (case pxc_Negative => first | k_is | rfl)
    (case pnn_Negative => first | k_is | rfl)
    (case pn_Negative_name => first | k_is | rfl)
    (case poi_Negative => first | k_is | rfl)
    (case pot_Negative => first | k_is | rfl)
    (case pol_Negative => first | k_is | rfl)
    (case pov_Negative => first | k_is | rfl)
    (case posa_Negative => first | k_is | rfl)
    (case pg_Ratio => first | k_is | rfl)
    (case ppg_Ratio => first | k_is | rfl)
    (case phd_Ratio => first | k_is | rfl)
    (case ppo_Ratio => first | k_is | rfl)
    (case psa_Ratio => first | k_is | rfl)
    (case pn_Ratio_top => first | k_is | rfl)
    (case pn_Ratio_bottom => first | k_is | rfl)
    (case pma_Ratio => first | k_is | rfl)
    (case pmi_Ratio => first | k_is | rfl)
    (case pmf_Ratio => first | k_is | rfl)
    (case pmc_Ratio => first | k_is | rfl)
    (case pmt_m_Ratio_add => first | k_is | rfl)
    (case pmn_m_Ratio_add => first | k_is | rfl)
    (case pmk_m_Ratio_add => first | k_is | rfl)
    (case pmt_m_Ratio_radd => first | k_is | rfl)
    (case pmn_m_Ratio_radd => first | k_is | rfl)
    (case pmk_m_Ratio_radd => first | k_is | rfl)
    (case pmt_m_Ratio_sub => first | k_is | rfl)
    (case pmn_m_Ratio_sub => first | k_is | rfl)
    (case pmk_m_Ratio_sub => first | k_is | rfl)
    (case pmt_m_Ratio_rsub => first | k_is | rfl)
    (case pmn_m_Ratio_rsub => first | k_is | rfl)
    (case pmk_m_Ratio_rsub => first | k_is | rfl)
    (case pmt_m_Ratio_mul => first | k_is | rfl)
    (case pmn_m_Ratio_mul => first | k_is | rfl)
    (case pmk_m_Ratio_mul => first | k_is | rfl)
    (case pmt_m_Ratio_rmul => first | k_is | rfl)
    (case pmn_m_Ratio_rmul => first | k_is | rfl)
    (case pmk_m_Ratio_rmul => first | k_is | rfl)
    (case pmt_m_Ratio_neg => first | k_is | rfl)
    (case pmn_m_Ratio_neg => first | k_is | rfl)
    (case pmk_m_Ratio_neg => first | k_is | rfl)
    (case pmt_m_Ratio_abs => first | k_is | rfl)
    (case pmn_m_Ratio_abs => first | k_is | rfl)
    (case pmk_m_Ratio_abs => first | k_is | rfl)
    (case pmt_m_Ratio_at_most => first | k_is | rfl)
    (case pmn_m_Ratio_at_most => first | k_is | rfl)
    (case pmk_m_Ratio_at_most => first | k_is | rfl)
    (case pmt_m_Ratio_same => first | k_is | rfl)
    (case pmn_m_Ratio_same => first | k_is | rfl)
    (case pmk_m_Ratio_same => first | k_is | rfl)
    (case ps1_m_Ratio_sum_of => first | k_is | rfl)
    (case ps2_m_Ratio_sum_of => first | k_is | rfl)
    (case ps3_m_Ratio_sum_of => first | k_is | rfl)
    (case ps4_m_Ratio_sum_of => first | k_is | rfl)
    (case ps5_m_Ratio_sum_of => first | k_is | rfl)
    (case ptc_Ratio => first | k_is | rfl)
    (case ptn_Ratio => first | k_is | rfl)
    (case ptk_Ratio => first | k_is | rfl)
    (case ptm_Ratio => first | k_is | rfl)
    (case pki_Ratio => first | k_is | rfl)
    (case psf_Ratio => first | k_is | rfl)
    (case psi_Ratio => first | k_is | rfl)
    (case psj_Ratio => first | k_is | rfl)
    (case po1a_Ratio => first | k_is | rfl)
    (case po2a_Ratio => first | k_is | rfl)
    (case po1s_Ratio => first | k_is | rfl)
    (case po2s_Ratio => first | k_is | rfl)
    (case po1m_Ratio => first | k_is | rfl)
    (case po2m_Ratio => first | k_is | rfl)
    (case pnia_Ratio => first | k_is | rfl)
    (case pnis_Ratio => first | k_is | rfl)
    (case pnim_Ratio => first | k_is | rfl)
    (case prd_Ratio => first | k_is | rfl)
    (case pcga_Ratio => first | k_is | rfl)
    (case pg_Form => first | k_is | rfl)
    (case ppg_Form => first | k_is | rfl)
    (case phd_Form => first | k_is | rfl)
    (case ppo_Form => first | k_is | rfl)
    (case psa_Form => first | k_is | rfl)
    (case pn_Form_shares => first | k_is | rfl)
    (case pma_Form => first | k_is | rfl)
    (case pmi_Form => first | k_is | rfl)
    (case pmf_Form => first | k_is | rfl)
    (case pmc_Form => first | k_is | rfl)
    (case ps1_m_Form_of => first | k_is | rfl)
    (case ps2_m_Form_of => first | k_is | rfl)
    (case ps3_m_Form_of => first | k_is | rfl)
    (case ps4_m_Form_of => first | k_is | rfl)
    (case ps5_m_Form_of => first | k_is | rfl)
    (case pmt_m_Form_share => first | k_is | rfl)
    (case pmn_m_Form_share => first | k_is | rfl)
    (case pmk_m_Form_share => first | k_is | rfl)
    (case pmt_m_Form_names => first | k_is | rfl)
    (case pmn_m_Form_names => first | k_is | rfl)
    (case pmk_m_Form_names => first | k_is | rfl)
    (case pmt_m_Form_at_most => first | k_is | rfl)
    (case pmn_m_Form_at_most => first | k_is | rfl)
    (case pmk_m_Form_at_most => first | k_is | rfl)
    (case pmt_m_Form_same => first | k_is | rfl)
    (case pmn_m_Form_same => first | k_is | rfl)
    (case pmk_m_Form_same => first | k_is | rfl)
    (case pmt_m_Form_at => first | k_is | rfl)
    (case pmn_m_Form_at => first | k_is | rfl)
    (case pmk_m_Form_at => first | k_is | rfl)
    (case pg_LETTERS => first | k_is | rfl)
    (case pe_m_BadName_init => first | k_is | rfl)
    (case pl_m_BadName_init => first | k_is | rfl)
    (case pc_m_BadName_init => first | k_is | rfl)
    (case pq_m_BadName_init => first | k_is | rfl)
    (case pe_m_NoPrice_init => first | k_is | rfl)
    (case pl_m_NoPrice_init => first | k_is | rfl)
    (case pc_m_NoPrice_init => first | k_is | rfl)
    (case pq_m_NoPrice_init => first | k_is | rfl)
    (case pe_m_Negative_init => first | k_is | rfl)
    (case pl_m_Negative_init => first | k_is | rfl)
    (case pc_m_Negative_init => first | k_is | rfl)
    (case pq_m_Negative_init => first | k_is | rfl)
    (case pa_f_common_divisor => first | k_is | rfl)
    (case pl_f_common_divisor => first | k_is | rfl)
    (case pc_f_common_divisor => first | k_is | rfl)
    (case pq_f_common_divisor => first | k_is | rfl)
    (case pa_f_halves => first | k_is | rfl)
    (case pl_f_halves => first | k_is | rfl)
    (case pc_f_halves => first | k_is | rfl)
    (case pq_f_halves => first | k_is | rfl)
    (case pl_m_Ratio_init => first | k_is | rfl)
    (case pt_m_Ratio_init => first | k_is | rfl)
    (case pc_m_Ratio_init => first | k_is | rfl)
    (case pq_m_Ratio_init => first | k_is | rfl)
    (case pl_m_Ratio_add => first | k_is | rfl)
    (case pc_m_Ratio_add => first | k_is | rfl)
    (case pq_m_Ratio_add => first | k_is | rfl)
    (case pl_m_Ratio_radd => first | k_is | rfl)
    (case pc_m_Ratio_radd => first | k_is | rfl)
    (case pq_m_Ratio_radd => first | k_is | rfl)
    (case pl_m_Ratio_sub => first | k_is | rfl)
    (case pc_m_Ratio_sub => first | k_is | rfl)
    (case pq_m_Ratio_sub => first | k_is | rfl)
    (case pl_m_Ratio_rsub => first | k_is | rfl)
    (case pc_m_Ratio_rsub => first | k_is | rfl)
    (case pq_m_Ratio_rsub => first | k_is | rfl)
    (case pl_m_Ratio_mul => first | k_is | rfl)
    (case pc_m_Ratio_mul => first | k_is | rfl)
    (case pq_m_Ratio_mul => first | k_is | rfl)
    (case pl_m_Ratio_rmul => first | k_is | rfl)
    (case pc_m_Ratio_rmul => first | k_is | rfl)
    (case pq_m_Ratio_rmul => first | k_is | rfl)
    (case pl_m_Ratio_neg => first | k_is | rfl)
    (case pc_m_Ratio_neg => first | k_is | rfl)
    (case pq_m_Ratio_neg => first | k_is | rfl)
    (case pl_m_Ratio_abs => first | k_is | rfl)
    (case pc_m_Ratio_abs => first | k_is | rfl)
    (case pq_m_Ratio_abs => first | k_is | rfl)
    (case pl_m_Ratio_at_most => first | k_is | rfl)
    (case pc_m_Ratio_at_most => first | k_is | rfl)
    (case pq_m_Ratio_at_most => first | k_is | rfl)
    (case pl_m_Ratio_same => first | k_is | rfl)
    (case pc_m_Ratio_same => first | k_is | rfl)
    (case pq_m_Ratio_same => first | k_is | rfl)
    (case pl_m_Ratio_sum_of => first | k_is | rfl)
    (case pc_m_Ratio_sum_of => first | k_is | rfl)
    (case pq_m_Ratio_sum_of => first | k_is | rfl)
    (case pa_f_valid_name => first | k_is | rfl)
    (case pl_f_valid_name => first | k_is | rfl)
    (case pc_f_valid_name => first | k_is | rfl)
    (case pq_f_valid_name => first | k_is | rfl)
    (case pl_m_Form_init => first | k_is | rfl)
    (case pt_m_Form_init => first | k_is | rfl)
    (case pc_m_Form_init => first | k_is | rfl)
    (case pq_m_Form_init => first | k_is | rfl)
    (case pl_m_Form_of => first | k_is | rfl)
    (case pc_m_Form_of => first | k_is | rfl)
    (case pq_m_Form_of => first | k_is | rfl)
    (case pl_m_Form_share => first | k_is | rfl)
    (case pc_m_Form_share => first | k_is | rfl)
    (case pq_m_Form_share => first | k_is | rfl)
    (case pl_m_Form_names => first | k_is | rfl)
    (case pc_m_Form_names => first | k_is | rfl)
    (case pq_m_Form_names => first | k_is | rfl)
    (case pl_m_Form_at_most => first | k_is | rfl)
    (case pc_m_Form_at_most => first | k_is | rfl)
    (case pq_m_Form_at_most => first | k_is | rfl)
    (case pl_m_Form_same => first | k_is | rfl)
    (case pc_m_Form_same => first | k_is | rfl)
    (case pq_m_Form_same => first | k_is | rfl)
    (case pl_m_Form_at => first | k_is | rfl)
    (case pc_m_Form_at => first | k_is | rfl)
    (case pq_m_Form_at => first | k_is | rfl)
    (case pa_l_bag => first | k_is | rfl)
    (case pl_l_bag => first | k_is | rfl)
    (case pc_l_bag => first | k_is | rfl)
    (case pq_l_bag => first | k_is | rfl)
    (case pa_l_draw => first | k_is | rfl)
    (case pl_l_draw => first | k_is | rfl)
    (case pc_l_draw => first | k_is | rfl)
    (case pq_l_draw => first | k_is | rfl)
    (case pa_l_names => first | k_is | rfl)
    (case pl_l_names => first | k_is | rfl)
    (case pc_l_names => first | k_is | rfl)
    (case pq_l_names => first | k_is | rfl)
    (case pa_l_pick => first | k_is | rfl)
    (case pl_l_pick => first | k_is | rfl)
    (case pc_l_pick => first | k_is | rfl)
    (case pq_l_pick => first | k_is | rfl)
    (case pa_l_mixed => first | k_is | rfl)
    (case pl_l_mixed => first | k_is | rfl)
    (case pc_l_mixed => first | k_is | rfl)
    (case pq_l_mixed => first | k_is | rfl)
    (case pa_l_divisor => first | k_is | rfl)
    (case pl_l_divisor => first | k_is | rfl)
    (case pc_l_divisor => first | k_is | rfl)
    (case pq_l_divisor => first | k_is | rfl)
    (case pa_l_lowest => first | k_is | rfl)
    (case pl_l_lowest => first | k_is | rfl)
    (case pc_l_lowest => first | k_is | rfl)
    (case pq_l_lowest => first | k_is | rfl)
    (case pa_l_top => first | k_is | rfl)
    (case pl_l_top => first | k_is | rfl)
    (case pc_l_top => first | k_is | rfl)
    (case pq_l_top => first | k_is | rfl)
    (case pa_l_share => first | k_is | rfl)
    (case pl_l_share => first | k_is | rfl)
    (case pc_l_share => first | k_is | rfl)
    (case pq_l_share => first | k_is | rfl)
    (case pa_l_shares => first | k_is | rfl)
    (case pl_l_shares => first | k_is | rfl)
    (case pc_l_shares => first | k_is | rfl)
    (case pq_l_shares => first | k_is | rfl)
    (case pa_l_handed => first | k_is | rfl)
    (case pl_l_handed => first | k_is | rfl)
    (case pc_l_handed => first | k_is | rfl)
    (case pq_l_handed => first | k_is | rfl)
    (case pa_l_sum => first | k_is | rfl)
    (case pl_l_sum => first | k_is | rfl)
    (case pc_l_sum => first | k_is | rfl)
    (case pq_l_sum => first | k_is | rfl)
    (case pa_l_never_greater => first | k_is | rfl)
    (case pl_l_never_greater => first | k_is | rfl)
    (case pc_l_never_greater => first | k_is | rfl)
    (case pq_l_never_greater => first | k_is | rfl)
    (case pa_l_value => first | k_is | rfl)
    (case pl_l_value => first | k_is | rfl)
    (case pc_l_value => first | k_is | rfl)
    (case pq_l_value => first | k_is | rfl)
    (case pa_l_price => first | k_is | rfl)
    (case pl_l_price => first | k_is | rfl)
    (case pc_l_price => first | k_is | rfl)
    (case pq_l_price => first | k_is | rfl)
    (case pa_l_refusal => first | k_is | rfl)
    (case pl_l_refusal => first | k_is | rfl)
    (case pc_l_refusal => first | k_is | rfl)
    (case pq_l_refusal => first | k_is | rfl)
    (case pa_l_bad_names => first | k_is | rfl)
    (case pl_l_bad_names => first | k_is | rfl)
    (case pc_l_bad_names => first | k_is | rfl)
    (case pq_l_bad_names => first | k_is | rfl)
    (case pa_l_order_right => first | k_is | rfl)
    (case pl_l_order_right => first | k_is | rfl)
    (case pc_l_order_right => first | k_is | rfl)
    (case pq_l_order_right => first | k_is | rfl)
    (case pa_l_refused_right => first | k_is | rfl)
    (case pl_l_refused_right => first | k_is | rfl)
    (case pc_l_refused_right => first | k_is | rfl)
    (case pq_l_refused_right => first | k_is | rfl)
    (case pa_f_law => first | k_is | rfl)
    (case pl_f_law => first | k_is | rfl)
    (case pc_f_law => first | k_is | rfl)
    (case pq_f_law => first | k_is | rfl)
#print axioms PySem.Challenge.cw_lotcosts_k22_forms_in_order_and_at_price_holds

