import PyProof.Rows.All
import HandS.Lambda
import HandS.EndOwn
import KE.KWithOwn
import KE.KDictKeyed
import Wide.All
import OpenK.AllK
import Wide.FinOn
import HandS.ForMost
import HandS.ForExc
import HandS.Flow
import HandS.Evl
import HandS.Style
import KE.KOpsOwn
import HandS.ClsMeth
import HandS.OwnEq
import HandS.IsInst
import HandS.ExcIs
import HandS.ExcInit
import HandS.ExcField
import HandS.ExcValue
import HandS.MakeKwOnly
import KE.KExcIs
import KE.DataEq
import KE.DataMinMax
import HandS.Wide
import HandS.Codes
import HandS.Text
import HandS.Defaults
import HandS.DictTup
import HandS.TupLen
import HandS.SortRule
import HandS.Conv
import HandS.Walk
import HandS.CallLocal
import HandS.Star
import HandS.HotCalls
import HandS.Deep
import HandS.DictComp
import HandS.Finally
import HandS.NoneIn
import HandS.SetFor
import HandS.SetTxt0
import HandS.SetBool
import HandS.RaiseMore
import HandS.Strs
import PySem.Challenge.RW_lotcosts_k43_order_of_work
set_option Elab.async false
set_option linter.all false
set_option pp.maxSteps 400
set_option maxRecDepth 100000
set_option maxHeartbeats 4000000
namespace Lot
open PySem L2
/-! ### steps -/
local macro_rules | `(tactic| walk_at "ne") => `(tactic| first
  | with_reducible assumption
  | (apply Ne.symm; with_reducible assumption)
  | exact ne_of_none (by with_reducible assumption) (by with_reducible assumption)
  | exact (ne_of_none (by with_reducible assumption) (by with_reducible assumption)).symm)
local macro_rules | `(tactic| walk_at "at") => `(tactic| first
  | with_reducible assumption
  | exact upd_same
  | (refine Eq.trans (upd_ne (by walk_at "ne")) ?_; walk_at "at"))
local macro_rules | `(tactic| walk_at "num") => `(tactic| first
  | decide
  | omega
  | (dsimp only; first | decide | omega))
local macro_rules | `(tactic| walk_at "fact") => `(tactic| first
  | with_reducible assumption
  | exact rfl
  | walk_at "at"
  | exact SqL.of (by walk_at "at")
  | exact SqT.of (by walk_at "at")
  | exact .inl (SqL.of (by walk_at "at"))
  | exact .inr (SqT.of (by walk_at "at"))
  | exact .inl ⟨rfl, _, SqL.of (by walk_at "at")⟩
  | exact Or.inl ⟨by walk_at "num", by walk_at "num"⟩
  | exact Or.inr ⟨by walk_at "num", by walk_at "num"⟩
  | exact ⟨by walk_at "num", by walk_at "num"⟩
  | exact ⟨by walk_at "num", by walk_at "num", by walk_at "num"⟩
  | exact wide_div (b := 9000) (by omega) (by assumption) (by decide) (by decide)
  | exact Nat.le_of_ble_eq_true rfl
  | assumption
  | walk_at "num")
local macro_rules | `(tactic| walk_at "go") => `(tactic| repeat (first
  | apply Exists.intro
  | refine And.intro (by walk_at "fact") ?_
  | refine Or.inl ⟨_, rfl, ?_⟩
  | refine Or.inr ⟨_, rfl, ?_⟩
  | refine iteT ?_
  | refine iteF ?_))
def top (i : Nat) : Stmt := PySem.Challenge.pw_lotcosts_k43_order_of_work.main.body.getD i (.Pass ⟨0, 0, 0, 0⟩)
abbrev s_m_BadEntry_init : Stmt := inClass (top 4) 0
abbrev N_m_BadEntry_init : List Str := ["self", "day", "number"]
abbrev P_m_BadEntry_init : List Str := ["self", "day", "number"]
theorem sc_m_BadEntry_init : FnScope N_m_BadEntry_init P_m_BadEntry_init (defScope s_m_BadEntry_init) := ⟨rfl, rfl, rfl, by decide +kernel, rfl, by decide +kernel, by decide +kernel⟩
abbrev s_m_NoEntry_init : Stmt := inClass (top 5) 0
abbrev N_m_NoEntry_init : List Str := ["self", "day", "number"]
abbrev P_m_NoEntry_init : List Str := ["self", "day", "number"]
theorem sc_m_NoEntry_init : FnScope N_m_NoEntry_init P_m_NoEntry_init (defScope s_m_NoEntry_init) := ⟨rfl, rfl, rfl, by decide +kernel, rfl, by decide +kernel, by decide +kernel⟩
abbrev s_m_BadRule_init : Stmt := inClass (top 6) 0
abbrev N_m_BadRule_init : List Str := ["self", "word"]
abbrev P_m_BadRule_init : List Str := ["self", "word"]
theorem sc_m_BadRule_init : FnScope N_m_BadRule_init P_m_BadRule_init (defScope s_m_BadRule_init) := ⟨rfl, rfl, rfl, by decide +kernel, rfl, by decide +kernel, by decide +kernel⟩
abbrev s_m_Short_init : Stmt := inClass (top 7) 0
abbrev N_m_Short_init : List Str := ["self", "missing"]
abbrev P_m_Short_init : List Str := ["self", "missing"]
theorem sc_m_Short_init : FnScope N_m_Short_init P_m_Short_init (defScope s_m_Short_init) := ⟨rfl, rfl, rfl, by decide +kernel, rfl, by decide +kernel, by decide +kernel⟩
abbrev s_f_is_name : Stmt := top 12
abbrev N_f_is_name : List Str := ["name", "letter"]
abbrev P_f_is_name : List Str := ["name"]
theorem sc_f_is_name : FnScope N_f_is_name P_f_is_name (defScope s_f_is_name) := ⟨rfl, rfl, rfl, by decide +kernel, rfl, by decide +kernel, by decide +kernel⟩
abbrev s_f_is_number : Stmt := top 13
abbrev N_f_is_number : List Str := ["value", "least"]
abbrev P_f_is_number : List Str := ["value", "least"]
theorem sc_f_is_number : FnScope N_f_is_number P_f_is_number (defScope s_f_is_number) := ⟨rfl, rfl, rfl, by decide +kernel, rfl, by decide +kernel, by decide +kernel⟩
abbrev s_f_is_entry : Stmt := top 14
abbrev N_f_is_entry : List Str := ["entry", "units", "lot"]
abbrev P_f_is_entry : List Str := ["entry"]
theorem sc_f_is_entry : FnScope N_f_is_entry P_f_is_entry (defScope s_f_is_entry) := ⟨rfl, rfl, rfl, by decide +kernel, rfl, by decide +kernel, by decide +kernel⟩
abbrev s_m_Trial_init : Stmt := inClass (top 15) 0
abbrev N_m_Trial_init : List Str := ["self", "book"]
abbrev P_m_Trial_init : List Str := ["self", "book"]
theorem sc_m_Trial_init : FnScope N_m_Trial_init P_m_Trial_init (defScope s_m_Trial_init) := ⟨rfl, rfl, rfl, by decide +kernel, rfl, by decide +kernel, by decide +kernel⟩
abbrev s_m_Trial_enter : Stmt := inClass (top 15) 1
abbrev N_m_Trial_enter : List Str := ["self"]
abbrev P_m_Trial_enter : List Str := ["self"]
theorem sc_m_Trial_enter : FnScope N_m_Trial_enter P_m_Trial_enter (defScope s_m_Trial_enter) := ⟨rfl, rfl, rfl, by decide +kernel, rfl, by decide +kernel, by decide +kernel⟩
abbrev s_m_Trial_exit : Stmt := inClass (top 15) 2
abbrev N_m_Trial_exit : List Str := ["self", "kind", "value", "trace"]
abbrev P_m_Trial_exit : List Str := ["self", "kind", "value", "trace"]
theorem sc_m_Trial_exit : FnScope N_m_Trial_exit P_m_Trial_exit (defScope s_m_Trial_exit) := ⟨rfl, rfl, rfl, by decide +kernel, rfl, by decide +kernel, by decide +kernel⟩
abbrev s_m_Book_init : Stmt := inClass (top 16) 0
abbrev N_m_Book_init : List Str := ["self"]
abbrev P_m_Book_init : List Str := ["self"]
theorem sc_m_Book_init : FnScope N_m_Book_init P_m_Book_init (defScope s_m_Book_init) := ⟨rfl, rfl, rfl, by decide +kernel, rfl, by decide +kernel, by decide +kernel⟩
abbrev s_m_Book_contains : Stmt := inClass (top 16) 2
abbrev N_m_Book_contains : List Str := ["self", "place"]
abbrev P_m_Book_contains : List Str := ["self", "place"]
theorem sc_m_Book_contains : FnScope N_m_Book_contains P_m_Book_contains (defScope s_m_Book_contains) := ⟨rfl, rfl, rfl, by decide +kernel, rfl, by decide +kernel, by decide +kernel⟩
abbrev s_m_Book_len : Stmt := inClass (top 16) 3
abbrev N_m_Book_len : List Str := ["self"]
abbrev P_m_Book_len : List Str := ["self"]
theorem sc_m_Book_len : FnScope N_m_Book_len P_m_Book_len (defScope s_m_Book_len) := ⟨rfl, rfl, rfl, by decide +kernel, rfl, by decide +kernel, by decide +kernel⟩
abbrev s_m_Book_getitem : Stmt := inClass (top 16) 4
abbrev N_m_Book_getitem : List Str := ["self", "place", "day", "number"]
abbrev P_m_Book_getitem : List Str := ["self", "place"]
theorem sc_m_Book_getitem : FnScope N_m_Book_getitem P_m_Book_getitem (defScope s_m_Book_getitem) := ⟨rfl, rfl, rfl, by decide +kernel, rfl, by decide +kernel, by decide +kernel⟩
abbrev s_m_Book_setitem : Stmt := inClass (top 16) 5
abbrev N_m_Book_setitem : List Str := ["self", "place", "entry", "day", "number"]
abbrev P_m_Book_setitem : List Str := ["self", "place", "entry"]
theorem sc_m_Book_setitem : FnScope N_m_Book_setitem P_m_Book_setitem (defScope s_m_Book_setitem) := ⟨rfl, rfl, rfl, by decide +kernel, rfl, by decide +kernel, by decide +kernel⟩
abbrev s_m_Book_remove : Stmt := inClass (top 16) 6
abbrev N_m_Book_remove : List Str := ["self", "day", "number"]
abbrev P_m_Book_remove : List Str := ["self", "day", "number"]
theorem sc_m_Book_remove : FnScope N_m_Book_remove P_m_Book_remove (defScope s_m_Book_remove) := ⟨rfl, rfl, rfl, by decide +kernel, rfl, by decide +kernel, by decide +kernel⟩
abbrev s_m_Book_places : Stmt := inClass (top 16) 7
abbrev N_m_Book_places : List Str := ["self"]
abbrev P_m_Book_places : List Str := ["self"]
theorem sc_m_Book_places : FnScope N_m_Book_places P_m_Book_places (defScope s_m_Book_places) := ⟨rfl, rfl, rfl, by decide +kernel, rfl, by decide +kernel, by decide +kernel⟩
abbrev s_m_Book_trial : Stmt := inClass (top 16) 12
abbrev N_m_Book_trial : List Str := ["self"]
abbrev P_m_Book_trial : List Str := ["self"]
theorem sc_m_Book_trial : FnScope N_m_Book_trial P_m_Book_trial (defScope s_m_Book_trial) := ⟨rfl, rfl, rfl, by decide +kernel, rfl, by decide +kernel, by decide +kernel⟩
abbrev s_m_Book_tried : Stmt := inClass (top 16) 13
abbrev N_m_Book_tried : List Str := ["self", "deed", "result"]
abbrev P_m_Book_tried : List Str := ["self", "deed"]
theorem sc_m_Book_tried : FnScope N_m_Book_tried P_m_Book_tried (defScope s_m_Book_tried) := ⟨rfl, rfl, rfl, by decide +kernel, rfl, by decide +kernel, by decide +kernel⟩
abbrev s_m_Rule_init : Stmt := inClass (top 29) 0
abbrev N_m_Rule_init : List Str := ["self", "take", "place", "period"]
abbrev P_m_Rule_init : List Str := ["self", "take", "place", "period"]
theorem sc_m_Rule_init : FnScope N_m_Rule_init P_m_Rule_init (defScope s_m_Rule_init) := ⟨rfl, rfl, rfl, by decide +kernel, rfl, by decide +kernel, by decide +kernel⟩
abbrev s_m_Rule_worked : Stmt := inClass (top 29) 5
abbrev N_m_Rule_worked : List Str := ["self", "book", "places", "found", "period", "own", "day", "number", "place"]
abbrev P_m_Rule_worked : List Str := ["self", "book"]
theorem sc_m_Rule_worked : FnScope N_m_Rule_worked P_m_Rule_worked (defScope s_m_Rule_worked) := ⟨rfl, rfl, rfl, by decide +kernel, rfl, by decide +kernel, by decide +kernel⟩
abbrev s_l_bag : Stmt := top 31
abbrev N_l_bag : List Str := ["_law_script"]
abbrev P_l_bag : List Str := ["_law_script"]
theorem sc_l_bag : FnScope N_l_bag P_l_bag (defScope s_l_bag) := ⟨rfl, rfl, rfl, by decide +kernel, rfl, by decide +kernel, by decide +kernel⟩
abbrev s_l_draw : Stmt := top 32
abbrev N_l_draw : List Str := ["_law_bag_here", "_law_size", "_law_cell", "_law_digit", "_law_mixed_here"]
abbrev P_l_draw : List Str := ["_law_bag_here", "_law_size"]
theorem sc_l_draw : FnScope N_l_draw P_l_draw (defScope s_l_draw) := ⟨rfl, rfl, rfl, by decide +kernel, rfl, by decide +kernel, by decide +kernel⟩
abbrev s_l_names : Stmt := top 33
abbrev N_l_names : List Str := ["_law_bag_here", "_law_count", "_law_words", "_law_letters", "_law_size", "_law_stem", "_law_where", "_law_shift", "_law_longer", "_law_names_here", "_law_k", "_law_name", "_law_spot", "_law_word"]
abbrev P_l_names : List Str := ["_law_bag_here", "_law_count", "_law_words"]
theorem sc_l_names : FnScope N_l_names P_l_names (defScope s_l_names) := ⟨rfl, rfl, rfl, by decide +kernel, rfl, by decide +kernel, by decide +kernel⟩
abbrev s_l_pick : Stmt := top 34
abbrev N_l_pick : List Str := ["_law_bag_here", "_law_items"]
abbrev P_l_pick : List Str := ["_law_bag_here", "_law_items"]
theorem sc_l_pick : FnScope N_l_pick P_l_pick (defScope s_l_pick) := ⟨rfl, rfl, rfl, by decide +kernel, rfl, by decide +kernel, by decide +kernel⟩
abbrev s_l_mixed : Stmt := top 35
abbrev N_l_mixed : List Str := ["_law_bag_here", "_law_items", "_law_left", "_law_found", "_law_k"]
abbrev P_l_mixed : List Str := ["_law_bag_here", "_law_items"]
theorem sc_l_mixed : FnScope N_l_mixed P_l_mixed (defScope s_l_mixed) := ⟨rfl, rfl, rfl, by decide +kernel, rfl, by decide +kernel, by decide +kernel⟩
abbrev s_l_rule : Stmt := top 36
abbrev N_l_rule : List Str := ["_law_bag_here", "_law_take", "_law_laid", "_law_span"]
abbrev P_l_rule : List Str := ["_law_bag_here"]
theorem sc_l_rule : FnScope N_l_rule P_l_rule (defScope s_l_rule) := ⟨rfl, rfl, rfl, by decide +kernel, rfl, by decide +kernel, by decide +kernel⟩
abbrev s_l_made : Stmt := top 37
abbrev N_l_made : List Str := ["_law_rule_here"]
abbrev P_l_made : List Str := ["_law_rule_here"]
theorem sc_l_made : FnScope N_l_made P_l_made (defScope s_l_made) := ⟨rfl, rfl, rfl, by decide +kernel, rfl, by decide +kernel, by decide +kernel⟩
abbrev s_l_next : Stmt := top 38
abbrev N_l_next : List Str := ["_law_bag_here", "_law_entries_here", "_law_step"]
abbrev P_l_next : List Str := ["_law_bag_here", "_law_entries_here"]
theorem sc_l_next : FnScope N_l_next P_l_next (defScope s_l_next) := ⟨rfl, rfl, rfl, by decide +kernel, rfl, by decide +kernel, by decide +kernel⟩
abbrev s_l_entries : Stmt := top 39
abbrev N_l_entries : List Str := ["_law_bag_here", "_law_most", "_law_steps", "_law_size", "_law_names_here", "_law_sales", "_law_entries_here", "_law_bought", "_law_left", "_law_stock", "_law_costs", "_law_k", "_law_choice", "_law_out", "_law_entry", "_law_units", "_law_sale", "_law_day", "_law_number"]
abbrev P_l_entries : List Str := ["_law_bag_here", "_law_most"]
theorem sc_l_entries : FnScope N_l_entries P_l_entries (defScope s_l_entries) := ⟨rfl, rfl, rfl, by decide +kernel, rfl, by decide +kernel, by decide +kernel⟩
abbrev s_l_book : Stmt := top 40
abbrev N_l_book : List Str := ["_law_entries_here", "_law_book_here", "_law_day", "_law_number", "_law_entry"]
abbrev P_l_book : List Str := ["_law_entries_here"]
theorem sc_l_book : FnScope N_l_book P_l_book (defScope s_l_book) := ⟨rfl, rfl, rfl, by decide +kernel, rfl, by decide +kernel, by decide +kernel⟩
abbrev s_l_worked : Stmt := top 41
abbrev N_l_worked : List Str := ["_law_entries_here", "_law_span", "_law_found", "_law_part", "_law_own", "_law_item"]
abbrev P_l_worked : List Str := ["_law_entries_here", "_law_span"]
theorem sc_l_worked : FnScope N_l_worked P_l_worked (defScope s_l_worked) := ⟨rfl, rfl, rfl, by decide +kernel, rfl, by decide +kernel, by decide +kernel⟩
abbrev s_l_inner : Stmt := top 42
abbrev N_l_inner : List Str := ["_law_book_here", "_law_made_here", "_law_day", "_law_number"]
abbrev P_l_inner : List Str := ["_law_book_here", "_law_made_here", "_law_day", "_law_number"]
theorem sc_l_inner : FnScope N_l_inner P_l_inner (defScope s_l_inner) := ⟨rfl, rfl, rfl, by decide +kernel, rfl, by decide +kernel, by decide +kernel⟩
abbrev s_f_law : Stmt := top 43
abbrev N_f_law : List Str := ["_law_script", "_law_bag_here", "_law_take", "_law_laid", "_law_span", "_law_moved", "_law_entries_here", "_law_days", "_law_book_here", "_law_made_here", "_law_due", "_law_turn", "_law_told", "_law_rank", "_law_k", "_law_day", "_law_number", "_law_entry", "_law_other", "_law_second", "_law_thing", "_law_first", "_law_rest", "_law_inner_here", "_law_item"]
abbrev P_f_law : List Str := ["_law_script"]
theorem sc_f_law : FnScope N_f_law P_f_law (defScope s_f_law) := ⟨rfl, rfl, rfl, by decide +kernel, rfl, by decide +kernel, by decide +kernel⟩
/-- no __iop__ in the class's chain -/
def noI (K : PySem.W.Frag) (C : Addr) (nm : String) : Bool := (PySem.W.clsIn K C).any fun cd => cd.mro.all fun c => PySem.W.findIn K c (dunderI nm) == some none
/-- C.m is a staticmethod: its record at p, its def at g -/
structure SMet (K : PySem.W.Frag) (C : Addr) (m : Str) (p g : Addr) : Prop where
  rd : PySem.W.readsIn K C (.type "type") = true
  ga : PySem.W.specialIn K (.ref C) "__getattribute__" = some (some (.builtin "type.__getattribute__"))
  at_ : PySem.W.findCls K (.ref C) (.type "type") m = some (.get (.builtin "staticmethod.__get__") (.ref p) .none (.ref C))
  rc : ∃ rest, PySem.W.recIn K p "staticmethod" = some (.ref g :: rest)
  kp : PySem.W.keepIn K (.ref g) = true
/-- C.m is a classmethod: its record at p, its def at g -/
def CMx (K : PySem.W.Frag) (C : Addr) (m : Str) (p g : Addr) : Prop := ClX.CRead K C (.type "type") ∧ ClX.CMet K C (.type "type") m p g
/-- each of the classes cs is itself alone among them, and under CE and ValueError -/
def kitAll (K : PySem.W.Frag) (cs : List Addr) (CE : Addr) : Bool := cs.all fun C => cs.count C == 1 && (cs.all fun D => PySem.W.kitOne K (.ref C) (.ref D) == some (C == D)) && PySem.W.kitOne K (.ref C) (.ref CE) == some true && PySem.W.kitOne K (.ref C) (.type "ValueError") == some true
structure Ad where
  CostError : Addr
  NoRatio : Addr
  BadEntry : Addr
  NoEntry : Addr
  BadRule : Addr
  Short : Addr
  Trial : Addr
  Book : Addr
  Ratio : Addr
  Rule : Addr
  m_BadEntry_init : Addr
  fd_m_BadEntry_init : FuncData
  m_NoEntry_init : Addr
  fd_m_NoEntry_init : FuncData
  m_BadRule_init : Addr
  fd_m_BadRule_init : FuncData
  m_Short_init : Addr
  fd_m_Short_init : FuncData
  f_is_name : Addr
  fd_f_is_name : FuncData
  f_is_number : Addr
  fd_f_is_number : FuncData
  f_is_entry : Addr
  fd_f_is_entry : FuncData
  m_Trial_init : Addr
  fd_m_Trial_init : FuncData
  m_Trial_enter : Addr
  fd_m_Trial_enter : FuncData
  m_Trial_exit : Addr
  fd_m_Trial_exit : FuncData
  m_Book_init : Addr
  fd_m_Book_init : FuncData
  m_Book_contains : Addr
  fd_m_Book_contains : FuncData
  m_Book_len : Addr
  fd_m_Book_len : FuncData
  m_Book_getitem : Addr
  fd_m_Book_getitem : FuncData
  m_Book_setitem : Addr
  fd_m_Book_setitem : FuncData
  m_Book_remove : Addr
  fd_m_Book_remove : FuncData
  m_Book_places : Addr
  fd_m_Book_places : FuncData
  m_Book_trial : Addr
  fd_m_Book_trial : FuncData
  m_Book_tried : Addr
  fd_m_Book_tried : FuncData
  m_Rule_init : Addr
  fd_m_Rule_init : FuncData
  m_Rule_worked : Addr
  fd_m_Rule_worked : FuncData
  l_bag : Addr
  fd_l_bag : FuncData
  l_draw : Addr
  fd_l_draw : FuncData
  l_names : Addr
  fd_l_names : FuncData
  l_pick : Addr
  fd_l_pick : FuncData
  l_mixed : Addr
  fd_l_mixed : FuncData
  l_rule : Addr
  fd_l_rule : FuncData
  l_made : Addr
  fd_l_made : FuncData
  l_next : Addr
  fd_l_next : FuncData
  l_entries : Addr
  fd_l_entries : FuncData
  l_book : Addr
  fd_l_book : FuncData
  l_worked : Addr
  fd_l_worked : FuncData
  l_inner : Addr
  fd_l_inner : FuncData
  f_law : Addr
  fd_f_law : FuncData
  TAKES : Addr
  SPOTS : Addr
  dk_m_Rule_init : List Value
structure Txt (K : PySem.W.Frag) (mg : Str → Option Value) (A : Ad) : Prop where
  z__law_held : mg "_law_held" = none
  z_abs : mg "abs" = none
  z_all : mg "all" = none
  z_bool : mg "bool" = none
  z_dict : mg "dict" = none
  z_int : mg "int" = none
  z_isinstance : mg "isinstance" = none
  z_len : mg "len" = none
  z_list : mg "list" = none
  z_max : mg "max" = none
  z_min : mg "min" = none
  z_range : mg "range" = none
  z_set : mg "set" = none
  z_sorted : mg "sorted" = none
  z_str : mg "str" = none
  z_tuple : mg "tuple" = none
  g_CostError : mg "CostError" = some (.ref A.CostError)
  ek_CostError : PySem.W.keepIn K (.ref A.CostError) = true
  eb_CostError : PySem.W.subIn K (.ref A.CostError) (.type "BaseException") = some true
  et_CostError : PySem.W.typeIn K (.ref A.CostError) = some (.type "type")
  eh_CostError : PySem.W.hasDictIn K A.CostError = true
  eic_CostError : PySem.W.isClsIn K A.CostError = true
  es_CostError : PySem.W.subIn K (.ref A.CostError) (.ref A.CostError) = some true
  xg_CostError : PySem.W.findIn K (.ref A.CostError) "__getattribute__" = some (some (.builtin "BaseException.__getattribute__"))
  xk_CostError : PySem.W.findIn K (.ref A.CostError) "__getattr__" = some none
  xa_CostError : PySem.W.findIn K (.ref A.CostError) "__class__" = some (some (.builtin "object.__class__"))
  xn_CostError : PySem.W.specialIn K (.builtin "object.__class__") "__get__" = some (some (.builtin "getset_descriptor.__get__"))
  xt_CostError : PySem.W.takesIn K (.builtin "object.__class__") = some true
  xm_CostError : PySem.W.mroIn K A.CostError (.type "object") = some true
  rd_CostError : PySem.W.readsIn K A.CostError (.type "type") = true
  cg_CostError : PySem.W.specialIn K (.ref A.CostError) "__getattribute__" = some (some (.builtin "type.__getattribute__"))
  vi_CostError : PySem.W.findCls K (.ref A.CostError) (.type "type") "__init__" = some (.val (.builtin "ValueError.__init__"))
  g_NoRatio : mg "NoRatio" = some (.ref A.NoRatio)
  ek_NoRatio : PySem.W.keepIn K (.ref A.NoRatio) = true
  eb_NoRatio : PySem.W.subIn K (.ref A.NoRatio) (.type "BaseException") = some true
  et_NoRatio : PySem.W.typeIn K (.ref A.NoRatio) = some (.type "type")
  eh_NoRatio : PySem.W.hasDictIn K A.NoRatio = true
  eic_NoRatio : PySem.W.isClsIn K A.NoRatio = true
  es_NoRatio : PySem.W.subIn K (.ref A.NoRatio) (.ref A.NoRatio) = some true
  xg_NoRatio : PySem.W.findIn K (.ref A.NoRatio) "__getattribute__" = some (some (.builtin "BaseException.__getattribute__"))
  xk_NoRatio : PySem.W.findIn K (.ref A.NoRatio) "__getattr__" = some none
  xa_NoRatio : PySem.W.findIn K (.ref A.NoRatio) "__class__" = some (some (.builtin "object.__class__"))
  xn_NoRatio : PySem.W.specialIn K (.builtin "object.__class__") "__get__" = some (some (.builtin "getset_descriptor.__get__"))
  xt_NoRatio : PySem.W.takesIn K (.builtin "object.__class__") = some true
  xm_NoRatio : PySem.W.mroIn K A.NoRatio (.type "object") = some true
  g_BadEntry : mg "BadEntry" = some (.ref A.BadEntry)
  ek_BadEntry : PySem.W.keepIn K (.ref A.BadEntry) = true
  eb_BadEntry : PySem.W.subIn K (.ref A.BadEntry) (.type "BaseException") = some true
  et_BadEntry : PySem.W.typeIn K (.ref A.BadEntry) = some (.type "type")
  eh_BadEntry : PySem.W.hasDictIn K A.BadEntry = true
  eic_BadEntry : PySem.W.isClsIn K A.BadEntry = true
  es_BadEntry : PySem.W.subIn K (.ref A.BadEntry) (.ref A.BadEntry) = some true
  xg_BadEntry : PySem.W.findIn K (.ref A.BadEntry) "__getattribute__" = some (some (.builtin "BaseException.__getattribute__"))
  xk_BadEntry : PySem.W.findIn K (.ref A.BadEntry) "__getattr__" = some none
  xa_BadEntry : PySem.W.findIn K (.ref A.BadEntry) "__class__" = some (some (.builtin "object.__class__"))
  xn_BadEntry : PySem.W.specialIn K (.builtin "object.__class__") "__get__" = some (some (.builtin "getset_descriptor.__get__"))
  xt_BadEntry : PySem.W.takesIn K (.builtin "object.__class__") = some true
  xm_BadEntry : PySem.W.mroIn K A.BadEntry (.type "object") = some true
  n_BadEntry_day : PySem.W.findIn K (.ref A.BadEntry) "day" = some none
  n_BadEntry_number : PySem.W.findIn K (.ref A.BadEntry) "number" = some none
  oi_BadEntry : PySem.W.findIn K (.ref A.BadEntry) "__init__" = some (some (.ref A.m_BadEntry_init))
  ot_BadEntry : PySem.W.typeIn K (.ref A.m_BadEntry_init) = some (.type "function")
  ox_BadEntry : OexC K A.BadEntry
  g_NoEntry : mg "NoEntry" = some (.ref A.NoEntry)
  ek_NoEntry : PySem.W.keepIn K (.ref A.NoEntry) = true
  eb_NoEntry : PySem.W.subIn K (.ref A.NoEntry) (.type "BaseException") = some true
  et_NoEntry : PySem.W.typeIn K (.ref A.NoEntry) = some (.type "type")
  eh_NoEntry : PySem.W.hasDictIn K A.NoEntry = true
  eic_NoEntry : PySem.W.isClsIn K A.NoEntry = true
  es_NoEntry : PySem.W.subIn K (.ref A.NoEntry) (.ref A.NoEntry) = some true
  xg_NoEntry : PySem.W.findIn K (.ref A.NoEntry) "__getattribute__" = some (some (.builtin "BaseException.__getattribute__"))
  xk_NoEntry : PySem.W.findIn K (.ref A.NoEntry) "__getattr__" = some none
  xa_NoEntry : PySem.W.findIn K (.ref A.NoEntry) "__class__" = some (some (.builtin "object.__class__"))
  xn_NoEntry : PySem.W.specialIn K (.builtin "object.__class__") "__get__" = some (some (.builtin "getset_descriptor.__get__"))
  xt_NoEntry : PySem.W.takesIn K (.builtin "object.__class__") = some true
  xm_NoEntry : PySem.W.mroIn K A.NoEntry (.type "object") = some true
  n_NoEntry_day : PySem.W.findIn K (.ref A.NoEntry) "day" = some none
  n_NoEntry_number : PySem.W.findIn K (.ref A.NoEntry) "number" = some none
  oi_NoEntry : PySem.W.findIn K (.ref A.NoEntry) "__init__" = some (some (.ref A.m_NoEntry_init))
  ot_NoEntry : PySem.W.typeIn K (.ref A.m_NoEntry_init) = some (.type "function")
  ox_NoEntry : OexC K A.NoEntry
  g_BadRule : mg "BadRule" = some (.ref A.BadRule)
  ek_BadRule : PySem.W.keepIn K (.ref A.BadRule) = true
  eb_BadRule : PySem.W.subIn K (.ref A.BadRule) (.type "BaseException") = some true
  et_BadRule : PySem.W.typeIn K (.ref A.BadRule) = some (.type "type")
  eh_BadRule : PySem.W.hasDictIn K A.BadRule = true
  eic_BadRule : PySem.W.isClsIn K A.BadRule = true
  es_BadRule : PySem.W.subIn K (.ref A.BadRule) (.ref A.BadRule) = some true
  xg_BadRule : PySem.W.findIn K (.ref A.BadRule) "__getattribute__" = some (some (.builtin "BaseException.__getattribute__"))
  xk_BadRule : PySem.W.findIn K (.ref A.BadRule) "__getattr__" = some none
  xa_BadRule : PySem.W.findIn K (.ref A.BadRule) "__class__" = some (some (.builtin "object.__class__"))
  xn_BadRule : PySem.W.specialIn K (.builtin "object.__class__") "__get__" = some (some (.builtin "getset_descriptor.__get__"))
  xt_BadRule : PySem.W.takesIn K (.builtin "object.__class__") = some true
  xm_BadRule : PySem.W.mroIn K A.BadRule (.type "object") = some true
  n_BadRule_word : PySem.W.findIn K (.ref A.BadRule) "word" = some none
  oi_BadRule : PySem.W.findIn K (.ref A.BadRule) "__init__" = some (some (.ref A.m_BadRule_init))
  ot_BadRule : PySem.W.typeIn K (.ref A.m_BadRule_init) = some (.type "function")
  ox_BadRule : OexC K A.BadRule
  g_Short : mg "Short" = some (.ref A.Short)
  ek_Short : PySem.W.keepIn K (.ref A.Short) = true
  eb_Short : PySem.W.subIn K (.ref A.Short) (.type "BaseException") = some true
  et_Short : PySem.W.typeIn K (.ref A.Short) = some (.type "type")
  eh_Short : PySem.W.hasDictIn K A.Short = true
  eic_Short : PySem.W.isClsIn K A.Short = true
  es_Short : PySem.W.subIn K (.ref A.Short) (.ref A.Short) = some true
  xg_Short : PySem.W.findIn K (.ref A.Short) "__getattribute__" = some (some (.builtin "BaseException.__getattribute__"))
  xk_Short : PySem.W.findIn K (.ref A.Short) "__getattr__" = some none
  xa_Short : PySem.W.findIn K (.ref A.Short) "__class__" = some (some (.builtin "object.__class__"))
  xn_Short : PySem.W.specialIn K (.builtin "object.__class__") "__get__" = some (some (.builtin "getset_descriptor.__get__"))
  xt_Short : PySem.W.takesIn K (.builtin "object.__class__") = some true
  xm_Short : PySem.W.mroIn K A.Short (.type "object") = some true
  n_Short_missing : PySem.W.findIn K (.ref A.Short) "missing" = some none
  oi_Short : PySem.W.findIn K (.ref A.Short) "__init__" = some (some (.ref A.m_Short_init))
  ot_Short : PySem.W.typeIn K (.ref A.m_Short_init) = some (.type "function")
  ox_Short : OexC K A.Short
  g_Trial : mg "Trial" = some (.ref A.Trial)
  cl_Trial : Cls K A.Trial
  n_Trial_book : NoAttr K A.Trial "book"
  n_Trial_kept : NoAttr K A.Trial "kept"
  mk_Trial : Mk K A.Trial A.m_Trial_init
  m_Trial___enter__ : Meth K A.Trial "__enter__" A.m_Trial_enter
  m_Trial___exit__ : Meth K A.Trial "__exit__" A.m_Trial_exit
  g_Book : mg "Book" = some (.ref A.Book)
  cl_Book : Cls K A.Book
  n_Book_entries : NoAttr K A.Book "entries"
  mk_Book : Mk K A.Book A.m_Book_init
  m_Book___contains__ : Meth K A.Book "__contains__" A.m_Book_contains
  m_Book___len__ : Meth K A.Book "__len__" A.m_Book_len
  m_Book___getitem__ : Meth K A.Book "__getitem__" A.m_Book_getitem
  m_Book___setitem__ : Meth K A.Book "__setitem__" A.m_Book_setitem
  m_Book_remove : Meth K A.Book "remove" A.m_Book_remove
  m_Book_places : Meth K A.Book "places" A.m_Book_places
  m_Book_trial : Meth K A.Book "trial" A.m_Book_trial
  m_Book_tried : Meth K A.Book "tried" A.m_Book_tried
  fgi_Book : PySem.W.fnIn K A.m_Book_getitem = true
  nsq_Book : PySem.W.noSeq K A.Book = true
  g_Ratio : mg "Ratio" = some (.ref A.Ratio)
  cl_Ratio : Cls K A.Ratio
  n_Ratio_top : NoAttr K A.Ratio "top"
  n_Ratio_bottom : NoAttr K A.Ratio "bottom"
  g_Rule : mg "Rule" = some (.ref A.Rule)
  cl_Rule : Cls K A.Rule
  n_Rule_take : NoAttr K A.Rule "take"
  n_Rule_place : NoAttr K A.Rule "place"
  n_Rule_period : NoAttr K A.Rule "period"
  mk_Rule : Mk K A.Rule A.m_Rule_init
  m_Rule_worked : Meth K A.Rule "worked" A.m_Rule_worked
  g_LETTERS : ∃ t, mg "LETTERS" = some (.str "abcdefghijklmnopqrstuvwxyz" t)
  g_LONGEST : ∃ t, mg "LONGEST" = some (.int 12 t)
  g_MOST : ∃ t, mg "MOST" = some (.int 1000000 t)
  g_TAKES : mg "TAKES" = some (.ref A.TAKES)
  tq_TAKES : ∃ (o : Obj) (its : Array Value) (n : Nat), K.lookup A.TAKES = some o ∧ o.cls = .type "tuple" ∧ o.data = .seq its n ∧ its.size ≤ sizeLine ∧ Vals [.str "oldest", .str "newest", .str "even"] its.toList
  g_SPOTS : mg "SPOTS" = some (.ref A.SPOTS)
  tq_SPOTS : ∃ (o : Obj) (its : Array Value) (n : Nat), K.lookup A.SPOTS = some o ∧ o.cls = .type "tuple" ∧ o.data = .seq its n ∧ its.size ≤ sizeLine ∧ Vals [.str "own", .str "top", .str "bottom"] its.toList
  F_m_BadEntry_init : Fun K "__init__" "BadEntry.__init__" s_m_BadEntry_init A.m_BadEntry_init A.fd_m_BadEntry_init
  b_m_BadEntry_init : Binds K A.fd_m_BadEntry_init P_m_BadEntry_init []
  F_m_NoEntry_init : Fun K "__init__" "NoEntry.__init__" s_m_NoEntry_init A.m_NoEntry_init A.fd_m_NoEntry_init
  b_m_NoEntry_init : Binds K A.fd_m_NoEntry_init P_m_NoEntry_init []
  F_m_BadRule_init : Fun K "__init__" "BadRule.__init__" s_m_BadRule_init A.m_BadRule_init A.fd_m_BadRule_init
  b_m_BadRule_init : Binds K A.fd_m_BadRule_init P_m_BadRule_init []
  F_m_Short_init : Fun K "__init__" "Short.__init__" s_m_Short_init A.m_Short_init A.fd_m_Short_init
  b_m_Short_init : Binds K A.fd_m_Short_init P_m_Short_init []
  F_f_is_name : Fun K "is_name" "is_name" s_f_is_name A.f_is_name A.fd_f_is_name
  b_f_is_name : Binds K A.fd_f_is_name P_f_is_name []
  g_is_name : mg "is_name" = some (.ref A.f_is_name)
  F_f_is_number : Fun K "is_number" "is_number" s_f_is_number A.f_is_number A.fd_f_is_number
  b_f_is_number : Binds K A.fd_f_is_number P_f_is_number []
  g_is_number : mg "is_number" = some (.ref A.f_is_number)
  F_f_is_entry : Fun K "is_entry" "is_entry" s_f_is_entry A.f_is_entry A.fd_f_is_entry
  b_f_is_entry : Binds K A.fd_f_is_entry P_f_is_entry []
  g_is_entry : mg "is_entry" = some (.ref A.f_is_entry)
  F_m_Trial_init : Fun K "__init__" "Trial.__init__" s_m_Trial_init A.m_Trial_init A.fd_m_Trial_init
  b_m_Trial_init : Binds K A.fd_m_Trial_init P_m_Trial_init []
  F_m_Trial_enter : Fun K "__enter__" "Trial.__enter__" s_m_Trial_enter A.m_Trial_enter A.fd_m_Trial_enter
  b_m_Trial_enter : Binds K A.fd_m_Trial_enter P_m_Trial_enter []
  F_m_Trial_exit : Fun K "__exit__" "Trial.__exit__" s_m_Trial_exit A.m_Trial_exit A.fd_m_Trial_exit
  b_m_Trial_exit : Binds K A.fd_m_Trial_exit P_m_Trial_exit []
  F_m_Book_init : Fun K "__init__" "Book.__init__" s_m_Book_init A.m_Book_init A.fd_m_Book_init
  b_m_Book_init : Binds K A.fd_m_Book_init P_m_Book_init []
  F_m_Book_contains : Fun K "__contains__" "Book.__contains__" s_m_Book_contains A.m_Book_contains A.fd_m_Book_contains
  b_m_Book_contains : Binds K A.fd_m_Book_contains P_m_Book_contains []
  F_m_Book_len : Fun K "__len__" "Book.__len__" s_m_Book_len A.m_Book_len A.fd_m_Book_len
  b_m_Book_len : Binds K A.fd_m_Book_len P_m_Book_len []
  F_m_Book_getitem : Fun K "__getitem__" "Book.__getitem__" s_m_Book_getitem A.m_Book_getitem A.fd_m_Book_getitem
  b_m_Book_getitem : Binds K A.fd_m_Book_getitem P_m_Book_getitem []
  F_m_Book_setitem : Fun K "__setitem__" "Book.__setitem__" s_m_Book_setitem A.m_Book_setitem A.fd_m_Book_setitem
  b_m_Book_setitem : Binds K A.fd_m_Book_setitem P_m_Book_setitem []
  F_m_Book_remove : Fun K "remove" "Book.remove" s_m_Book_remove A.m_Book_remove A.fd_m_Book_remove
  b_m_Book_remove : Binds K A.fd_m_Book_remove P_m_Book_remove []
  F_m_Book_places : Fun K "places" "Book.places" s_m_Book_places A.m_Book_places A.fd_m_Book_places
  b_m_Book_places : Binds K A.fd_m_Book_places P_m_Book_places []
  F_m_Book_trial : Fun K "trial" "Book.trial" s_m_Book_trial A.m_Book_trial A.fd_m_Book_trial
  b_m_Book_trial : Binds K A.fd_m_Book_trial P_m_Book_trial []
  F_m_Book_tried : Fun K "tried" "Book.tried" s_m_Book_tried A.m_Book_tried A.fd_m_Book_tried
  b_m_Book_tried : Binds K A.fd_m_Book_tried P_m_Book_tried []
  F_m_Rule_init : FunD K "__init__" "Rule.__init__" (defArgs s_m_Rule_init) (defBody s_m_Rule_init) (defScope s_m_Rule_init) [] [("place", .str "own"), ("period", .int 0)] A.m_Rule_init A.fd_m_Rule_init
  F_m_Rule_worked : Fun K "worked" "Rule.worked" s_m_Rule_worked A.m_Rule_worked A.fd_m_Rule_worked
  b_m_Rule_worked : Binds K A.fd_m_Rule_worked P_m_Rule_worked []
  F_l_bag : Fun K "_law_bag" "_law_bag" s_l_bag A.l_bag A.fd_l_bag
  b_l_bag : Binds K A.fd_l_bag P_l_bag []
  g__law_bag : mg "_law_bag" = some (.ref A.l_bag)
  F_l_draw : Fun K "_law_draw" "_law_draw" s_l_draw A.l_draw A.fd_l_draw
  b_l_draw : Binds K A.fd_l_draw P_l_draw []
  g__law_draw : mg "_law_draw" = some (.ref A.l_draw)
  F_l_names : Fun K "_law_names" "_law_names" s_l_names A.l_names A.fd_l_names
  b_l_names : Binds K A.fd_l_names P_l_names []
  g__law_names : mg "_law_names" = some (.ref A.l_names)
  F_l_pick : Fun K "_law_pick" "_law_pick" s_l_pick A.l_pick A.fd_l_pick
  b_l_pick : Binds K A.fd_l_pick P_l_pick []
  g__law_pick : mg "_law_pick" = some (.ref A.l_pick)
  F_l_mixed : Fun K "_law_mixed" "_law_mixed" s_l_mixed A.l_mixed A.fd_l_mixed
  b_l_mixed : Binds K A.fd_l_mixed P_l_mixed []
  g__law_mixed : mg "_law_mixed" = some (.ref A.l_mixed)
  F_l_rule : Fun K "_law_rule" "_law_rule" s_l_rule A.l_rule A.fd_l_rule
  b_l_rule : Binds K A.fd_l_rule P_l_rule []
  g__law_rule : mg "_law_rule" = some (.ref A.l_rule)
  F_l_made : Fun K "_law_made" "_law_made" s_l_made A.l_made A.fd_l_made
  b_l_made : Binds K A.fd_l_made P_l_made []
  g__law_made : mg "_law_made" = some (.ref A.l_made)
  F_l_next : Fun K "_law_next" "_law_next" s_l_next A.l_next A.fd_l_next
  b_l_next : Binds K A.fd_l_next P_l_next []
  g__law_next : mg "_law_next" = some (.ref A.l_next)
  F_l_entries : Fun K "_law_entries" "_law_entries" s_l_entries A.l_entries A.fd_l_entries
  b_l_entries : Binds K A.fd_l_entries P_l_entries []
  g__law_entries : mg "_law_entries" = some (.ref A.l_entries)
  F_l_book : Fun K "_law_book" "_law_book" s_l_book A.l_book A.fd_l_book
  b_l_book : Binds K A.fd_l_book P_l_book []
  g__law_book : mg "_law_book" = some (.ref A.l_book)
  F_l_worked : Fun K "_law_worked" "_law_worked" s_l_worked A.l_worked A.fd_l_worked
  b_l_worked : Binds K A.fd_l_worked P_l_worked []
  g__law_worked : mg "_law_worked" = some (.ref A.l_worked)
  F_l_inner : Fun K "_law_inner" "_law_inner" s_l_inner A.l_inner A.fd_l_inner
  b_l_inner : Binds K A.fd_l_inner P_l_inner []
  g__law_inner : mg "_law_inner" = some (.ref A.l_inner)
  F_f_law : Fun K "law" "law" s_f_law A.f_law A.fd_f_law
  b_f_law : Binds K A.fd_f_law P_f_law []
  g_law : mg "law" = some (.ref A.f_law)
/-- a word that the steps don't open -/
structure Wd (p : Prop) : Prop where
  ok : p
section
variable {X : Cx}
def tG (t : TS) : TS := fun D σ H => Wd (t D σ H)
def tGE (t : TE) : TE := fun σ H Q => Wd (t σ H Q)
theorem ps_g {st : Stmt} {t : TS} (h : PS X st t) : PS X st (tG t) := ⟨fun pins s σ H D I hw => h.run pins s σ H D I hw.ok⟩
theorem pss_g {st : List Stmt} {t : TS} (h : PSs X st t) : PSs X st (tG t) := ⟨fun pins s σ H D I hw => h.run pins s σ H D I hw.ok⟩
theorem pe_g {e : Expr} {t : TE} (h : PE X e t) : PE X e (tGE t) := ⟨fun pins s σ H Q I hw => h.run pins s σ H Q I hw.ok⟩
end
theorem if_int {i j : Int} {A B : Prop} (h1 : i = j → A) (h2 : i ≠ j → B) : if decide (V.int i = V.int j) = true then A else B := by
  by_cases e : i = j
  · rw [if_pos (decide_eq_true (congrArg V.int e))]
    exact h1 e
  · rw [if_neg fun z => e (V.int.inj (of_decide_eq_true z))]
    exact h2 e
theorem if_intN {i j : Int} {A B : Prop} (h1 : i ≠ j → A) (h2 : i = j → B) : if (!decide (V.int i = V.int j)) = true then A else B := by
  by_cases e : i = j
  · rw [decide_eq_true (congrArg V.int e)]
    exact iteF (h2 e)
  · rw [decide_eq_false fun z => e (V.int.inj z)]
    exact iteT (h1 e)
theorem if_dec {p A B : Prop} [Decidable p] (h1 : p → A) (h2 : ¬ p → B) : if decide p = true then A else B := by
  by_cases e : p
  · rw [if_pos (decide_eq_true e)]
    exact h1 e
  · rw [if_neg fun z => e (of_decide_eq_true z)]
    exact h2 e
theorem ifT {p A B : Prop} [Decidable p] (hp : p) (h : A) : if decide p = true then A else B := by
  rw [if_pos (decide_eq_true hp)]
  exact h
theorem ifF {p A B : Prop} [Decidable p] (hp : ¬ p) (h : B) : if decide p = true then A else B := by
  rw [if_neg fun z => hp (of_decide_eq_true z)]
  exact h
theorem ifNT {p A B : Prop} [Decidable p] (hp : p) (h : B) : if (!decide p) = true then A else B := by
  rw [decide_eq_true hp]
  exact iteF h
theorem ifNF {p A B : Prop} [Decidable p] (hp : ¬ p) (h : A) : if (!decide p) = true then A else B := by
  rw [decide_eq_false hp]
  exact iteT h
theorem if_bl {b : Bool} {A B : Prop} (h1 : b = true → A) (h2 : b = false → B) : if b = true then A else B := by
  cases b with
  | true => exact h1 rfl
  | false => exact iteF (h2 rfl)
/-- all but what stands at g is kept -/
def Kp (g : Addr) (H H' : Hp) : Prop := ∀ b o, H b = some o → b ≠ g → H' b = some o
theorem Kp.refl (g : Addr) (H : Hp) : Kp g H H := fun _ _ h _ => h
theorem Kp.trans {g : Addr} {H H1 H2 : Hp} (a : Kp g H H1) (b : Kp g H1 H2) : Kp g H H2 := fun c o h n => b c o (a c o h n) n
theorem Kp.up {g : Addr} {H H' : Hp} {o : HO} (k : Kp g H H') : Kp g H (upd H' g o) := fun b u e n => by
  rw [upd_ne n]
  exact k b u e n

/-! ### the bag of draws -/
structure Bag (H : Hp) (g l : Addr) : Prop where
  ex : ∃ (i r s c : Int) (ns : List Int), H g = some (.lst [.ref l, .int i, .int r, .int s, .int c]) ∧ H l = some (.lst (ns.map V.int)) ∧ 0 ≤ i
def spDraw : Sp := fun vs H Q _ => ∃ (g l : Addr) (z : Int), vs = [.ref g, .int z] ∧ Bag H g l ∧ 0 < z ∧ z.natAbs < 2 ^ 9000 ∧
  ∀ (n : Int) (H' : Hp), 0 ≤ n → n < z → Bag H' g l → Kp g H H' → Q (.int n) H'
theorem at_ints {ns : List Int} {i : Int} (h0 : 0 ≤ i) (h1 : i < (ns.length : Int)) : ∃ n, atI (ns.map V.int) i = some (.int n) := by
  obtain ⟨j, rfl⟩ := Int.eq_ofNat_of_zero_le h0
  have hj : j < ns.length := by omega
  exact ⟨ns[j], atI_nat (by rw [List.getElem?_map, List.getElem?_eq_getElem hj]; rfl)⟩
theorem cmul_r {i j : Int} (h : -(2 ^ 64) < j ∧ j < 2 ^ 64) : CMul i j := .inr h
theorem cmul_l {i j : Int} (h : -(2 ^ 64) < i ∧ i < 2 ^ 64) : CMul i j := .inl h
theorem cpow_of {i j : Int} (h1 : 0 ≤ j ∧ j ≤ 1000000) (h2 : -(2 ^ 63) < i ∧ i < 2 ^ 63) : CPow i j := ⟨h1.1, h1.2, by omega⟩
section
variable {P : Program} {w : World} {K : PySem.W.Frag} {mg : Str → Option Value} {base : Heap} {A : Ad}
theorem ok_l_draw (T : Txt K mg A) : FnOk P w K mg base CX0 1 A.l_draw A.fd_l_draw P_l_draw spDraw := by
  refine T.F_l_draw.ok sc_l_draw (fun vs H Q E h => ?_) (fun cdv Ar outer s H vs Q E hr h => ?_)
  · obtain ⟨g, l, z, rfl, _⟩ := h
    rfl
  · obtain ⟨g, l, z, rfl, ⟨i, r, sd, c, ns, hg, hl, hi⟩, hz, hz2, k⟩ := h
    have nlg : l ≠ g := ne_of hl hg (by intro q; cases ns <;> cases q)
    refine ⟨_, (pss_cons (ps_asg (pe_op op_add (pe_ix ix_list (pv 0) pe_int (fun _ _ => rfl)) pe_int) (pg_sub (pv 0) pe_int set_list))
      (pss_g (Evl.pss_cut (ps_if (PW.pt (pw_and (pt_cmpR op_eq (pe_ix ix_list (pv 0) pe_int (fun _ _ => rfl)) pe_int (nomark _)) (pw_and1 (pt_cmpR op_lt (pe_ix ix_list (pv 0) pe_int (fun _ _ => rfl)) (pe_callB call_len_seq (by rfl) T.z_len (by decide +kernel) (pa_cons (pe_ix ix_list (pv 0) pe_int (fun _ _ => rfl)) pa_nil)) (nomark _))))) (pss_cons (ps_set (i := 2) sc_l_draw.nd rfl (Or.inl rfl) (pe_ix ix_list (pe_ix ix_list (pv 0) pe_int (fun _ _ => rfl)) (pe_ix ix_list (pv 0) pe_int (fun _ _ => rfl)) (fun _ _ => rfl)))
      (pss_cons (ps_asg (pe_op op_add (pe_ix ix_list (pv 0) pe_int (fun _ _ => rfl)) pe_int) (pg_sub (pv 0) pe_int set_list))
      (pss_cons (ps_asg (pe_op op_mul (pe_op op_add (pe_op op_mul pe_int (pe_callB call_abs (by rfl) T.z_abs (by decide +kernel) (pa_cons (pv 2) pa_nil))) (pe_callTy call_int1 (by rfl) T.z_int (by decide +kernel) (pa_cons (pe_cmpR op_lt (pv 2) pe_int (nomark _)) pa_nil))) (pe_callTy call_int1 (by rfl) T.z_int (by decide +kernel) (pa_cons (pe_cmpR op_ge (pe_callB call_abs (by rfl) T.z_abs (by decide +kernel) (pa_cons (pv 2) pa_nil)) (pe_op op_pow pe_int pe_int) (nomark _)) pa_nil))) (pg_sub (pv 0) pe_int set_list))
      (pss_one (ps_asg (pe_op op_mod (pe_callTy call_int1 (by rfl) T.z_int (by decide +kernel) (pa_cons (pe_op op_add (pe_op op_add (pe_op op_mul (pe_ix ix_list (pv 0) pe_int (fun _ _ => rfl)) pe_int) (pe_op op_mul (pv 2) pe_int)) pe_int) pa_nil)) pe_int) (pg_sub (pv 0) pe_int set_list)))))) pss_nil)
      (pss_cons (ps_set (i := 3) sc_l_draw.nd rfl (Or.inl rfl) (pe_op op_mod (pe_callTy call_int1 (by rfl) T.z_int (by decide +kernel) (pa_cons (pe_ix ix_list (pv 0) pe_int (fun _ _ => rfl)) pa_nil)) (pv 1)))
      (pss_cons (ps_if (pt_cmpR op_gt (pe_ix ix_list (pv 0) pe_int (fun _ _ => rfl)) pe_int (nomark _)) (pss_cons (ps_asg (pe_op op_fdivW (pe_ix ix_list (pv 0) pe_int (fun _ _ => rfl)) (pv 1)) (pg_sub (pv 0) pe_int set_list))
      (pss_one (ps_ret (pv 3)))) pss_nil)
      (pss_cons (ps_set (i := 4) sc_l_draw.nd rfl (Or.inl rfl) (pe_op op_mod (pe_callTy call_int1 (by rfl) T.z_int (by decide +kernel) (pa_cons (pe_op op_add (pe_ix ix_list (pv 0) pe_int (fun _ _ => rfl)) (pe_op op_mul (pe_ix ix_list (pv 0) pe_int (fun _ _ => rfl)) pe_int)) pa_nil)) pe_int))
      (pss_cons (ps_set (i := 4) sc_l_draw.nd rfl (Or.inl rfl) (pe_op op_mod (pe_callTy call_int1 (by rfl) T.z_int (by decide +kernel) (pa_cons (pe_op op_add (pe_op op_add (pe_op op_pow (pv 4) pe_int) (pe_op op_mul (pe_ix ix_list (pv 0) pe_int (fun _ _ => rfl)) pe_int)) pe_int) pa_nil)) pe_int))
      (pss_one (ps_ret (pe_op op_mod (pe_op op_fdiv (pe_op op_mod (pe_callTy call_int1 (by rfl) T.z_int (by decide +kernel) (pa_cons (pe_op op_pow (pv 4) pe_int) pa_nil)) pe_int) pe_int) (pv 1))))))))))), ?_⟩
    refine ⟨_, rfl, g, _, _, _, rfl, rfl, SqL.of hg, rfl, _, _, rfl, rfl, _, rfl, g, _, _, _, rfl, rfl, hg, rfl, ?_⟩
    refine ⟨⟨fun σ' H' => Wd (∃ (i r s c : Int) (v : Option V), σ' = [some (.ref g), some (.int z), v, none, none] ∧ 0 ≤ i ∧ H' g = some (.lst [.ref l, .int i, .int r, .int s, .int c]) ∧ H' l = some (.lst (ns.map V.int)) ∧ Kp g H H'), ?_, ?_⟩⟩
    · walk_at "go"
      refine if_int (fun e0 => ?_) (fun e0 => ?_)
      · walk_at "go"
        refine if_dec (fun e1 => ?_) (fun e1 => ?_)
        · obtain ⟨n, hn⟩ := at_ints (ns := ns) hi (by simpa using e1)
          walk_at "go"
          exact ⟨i + 1, _, _, c + 1, _, rfl, by omega, upd_same, by walk_at "at", (((Kp.refl g H).up.up.up.up))⟩
        · exact ⟨i, r, sd, c + 1, none, rfl, hi, upd_same, by walk_at "at", (Kp.refl g H).up⟩
      · refine iteF ?_
        exact ⟨i, r, sd, c + 1, none, rfl, hi, upd_same, by walk_at "at", (Kp.refl g H).up⟩
    · rintro σ' H' ⟨i, r, s, c, v, rfl, hi, hg, hl, kp⟩
      walk_at "go"
      refine if_dec (fun e1 => ?_) (fun e1 => ?_)
      · walk_at "go"
        exact k _ _ (Int.emod_nonneg _ (by omega)) (Int.emod_lt_of_pos _ hz) ⟨i, _, s, c, ns, upd_same, by walk_at "at", hi⟩ kp.up
      · walk_at "go"
        exact k _ _ (Int.emod_nonneg _ (by omega)) (Int.emod_lt_of_pos _ hz) ⟨i, r, s, c, ns, hg, hl, hi⟩ kp
end

/-! ### calls in the body of a try: what they raise is wished for at the slots as they stand -/
section
open PySem.Spec PyProof.Rows
variable {X : Cx} {CX : CXT} {k : Nat} {f C : Addr} {fd : FuncData} {ps : List Str} {sp : Sp} {dvs : List V} {ds : List Value} {E : L2.St → XK} {x m : Str} {p pos apos : Pos} {e o : Expr} {es : List Expr} {ta : TE} {t : TA}
theorem run_mkS {pins : List (Addr × Obj)} {σ : L2.St} {H : Hp} {s : Shared} {Q : VK} {us : List Value} {vs : List V} (M : Mk X.K C f) (F : FnOk X.prog X.w X.K X.mg X.base CX k f fd ps sp)
    (hr : Room (k + 1) X.A) (hb : Binds X.K fd ps ds) (hd : Vals dvs ds) (hx : PassesAt CX X σ (E σ)) (I : Inv X pins σ H s) (r : Vals vs us)
    (h : ∀ x dx, H x = none → H dx = none → dx ≠ x → sp (.ref x :: (vs ++ dvs)) (upd (upd H dx (.own x)) x (.ins C dx [])) (fun v H2 => v = .non ∧ Q (.ref x) H2) (E σ)) :
    wpAny (model X.prog X.w) X.A (call (.ref C) us) (EP X pins σ Q) X.xe s := by
  have a1 := h (s.heap.objs.size + 1) s.heap.objs.size (I.hok.fresh (Nat.le_succ _)) (I.hok.fresh (Nat.le_refl _)) (Nat.ne_of_lt (Nat.lt_succ_self _))
  have J := Inv.made (C := C) I
  have a2 : Vals (V.ref (s.heap.objs.size + 1) :: (vs ++ dvs)) (Value.ref (s.heap.objs.size + 1) :: (us ++ ds)) := .cons rfl (r.append hd)
  have a3 : (Value.ref (s.heap.objs.size + 1) :: us ++ ds).length = ps.length := by
    have z := a2.length
    rw [F.len _ _ _ _ a1] at z
    exact z.symm
  refine wpAny_call (make_map (f := f) I.kIn M.makes M.init (beq_iff_eq.mp M.fn) (codeAny_mono (F.run _ X.stack _ _ ⟨Value.ref (s.heap.objs.size + 1) :: us, []⟩
    (Value.ref (s.heap.objs.size + 1) :: (us ++ ds)) _ _ (E σ) (hr.make C us []) (J.env0.make C us []) (hb _ (Value.ref (s.heap.objs.size + 1) :: us) J.kIn a3) a2 a1) fun r s' z => ?_))
  cases r with
  | error u => exact hx pins _ _ u s' J z
  | ok fl =>
    cases fl with
    | ret u =>
      obtain ⟨v, H', J3, rv, ev, q3⟩ := J.after z
      subst ev
      exact ⟨rv, V.ref (s.heap.objs.size + 1), H', J3, rfl, q3⟩
    | next => exact z.elim
    | brk => exact z.elim
    | cont => exact z.elim
def tMakeS (C : Addr) (sp : Sp) (dvs : List V) (E : L2.St → XK) (t : TA) : TE := fun σ H Q => t σ H fun vs H1 => ∀ x dx, H1 x = none → H1 dx = none → dx ≠ x →
  sp (.ref x :: (vs ++ dvs)) (upd (upd H1 dx (.own x)) x (.ins C dx [])) (fun v H2 => v = .non ∧ Q (.ref x) H2) (E σ)
theorem pe_makeS (M : Mk X.K C f) (F : FnOk X.prog X.w X.K X.mg X.base CX k f fd ps sp) (hr : Room (k + 1) X.A) (hg : Gl X x) (hm : X.mg x = some (.ref C)) (hb : Binds X.K fd ps ds) (hd : Vals dvs ds) (hx : ∀ σ, PassesAt CX X σ (E σ))
    (ha : PA X (e :: es) t) (hdb : (x == ("__debug__" : Str)) = false := by decide) (he : starEach (e :: es) X.env = (false, eval e X.env) :: starEach es X.env := by rfl)
    (hpl : (backTo pos (starEach es X.env)).any (·.1) = false := by rfl) : PE X (.Call (.Name x p) (e :: es) [] pos) (tMakeS C sp dvs E t) := ⟨fun pins s σ H Q I h =>
  wpAny_Call_Name_kw (ld_glob I hg hm (PySem.W.callWith_K (h₀ := X.base) I.ok.mod.kin M.kp (thn (ha.run pos pins s σ H _ I h) fun us s1 ⟨vs, H1, I1, r, q⟩ => ⟨I1.kIn, run_mkS M F hr hb hd (hx σ) I1 r q⟩) he hpl) hdb)⟩
def tMethS (C : Addr) (m : Str) (sp : Sp) (E : L2.St → XK) (ta : TE) (t : TA) : TE := fun σ H Q => ta σ H fun x H1 => ∃ a dx fs, x = .ref a ∧ H1 a = some (.ins C dx fs) ∧ fs.lookup m = none ∧
  t σ H1 fun vs H2 => sp (.ref a :: vs) H2 Q (E σ)
theorem pe_methA {pl : Sem Bool} (he : PE X o ta) (c : Cls X.K C) (hm : Meth X.K C m f) (F : FnOk X.prog X.w X.K X.mg X.base CX k f fd ps sp) (hr : Room k X.A) (hb : Binds X.K fd ps []) (hx : ∀ σ, PassesAt CX X σ (E σ)) (ha : PA X (e :: es) t)
    (hst : starEach (e :: es) X.env = (false, eval e X.env) :: starEach es X.env := by rfl) (hpl : (backTo pos (starEach es X.env)).any (·.1) = false := by rfl)
    (ht : eval (.Call (.Attribute o m apos) (e :: es) [] pos) X.env = (eval o X.env >>= fun ov => standAt apos.atName >>= fun _ => holding [ov] (getMethod ov m pl) >>= fun (f, first) =>
      callWith pos f first (backTo pos (starEach (e :: es) X.env)) (backToKw pos (keywordEach [] X.env))) := by rfl) :
    PE X (.Call (.Attribute o m apos) (e :: es) [] pos) (tMethS C m sp E ta t) := by
  refine ⟨fun pins s σ H Q I h => ?_⟩
  refine PySem.W.methodCall_KW (pl := pl) (thn (he.run pins s σ H _ I h) fun u s1 ⟨x, H1, I1, rx, a, dx, fs, ex, ea, l, q⟩ => ?_) ht
  cases ex
  obtain rfl : u = Value.ref a := rx
  exact getmeth_ok I1 ea c hm l (PySem.W.callWith_K (first := [.ref a]) (h₀ := X.base) I.ok.mod.kin hm.kp (thn (ha.run pos pins s1 σ H1 _ I1 q) fun us s2 ⟨vs, H2, I2, r, q2⟩ =>
    ⟨I2.kIn, run_fnS (E := E) (us := .ref a :: us) (vs := .ref a :: vs) F hr hb (hx σ) I2 (.cons rfl r) q2⟩) hst hpl)

def oe0 : Obj := { cls := .none, data := .fields #[] }
variable {n : Str} {c : Value} {i : Nat} {body suite : List Stmt} {b0 : Stmt} {np pos' : Pos} {Wout : WX}
  {tb : WX → List (Addr × Obj) → (Value → Shared → Prop) → TS} {ts : Addr → Obj → Value → Option Addr → List (Addr × Obj) → TS}
/-- try: .. except x as n: .., the readings of the body and of the suite free of what they can't hang on (both shown by rfl) -/
theorem ps_tryV (hs : X.stack = X.env :: X.outer) (hf : X.env.frame = some X.env.locals) (hN : X.N.Nodup) (hi : X.N[i]? = some n) (hln : X.env.kindOf n = some .local) (hc : Names X x c) (tk : Takes X Wout)
    (hb : ∀ (W : WX) (pn : List (Addr × Obj)) (xe : Value → Shared → Prop), Takes (X.tr pn xe) W → PassesOwn (model X.prog X.w) X.A X.env xe → PSs (X.tr pn xe) body (tb W pn xe))
    (hsu : ∀ (a : Addr) (oe : Obj) (cls : Value) (d : Option Addr) (pn : List (Addr × Obj)), Zc cls d oe → (∃ vs, oe.data = .fields vs) → PSs (X.suite a ((a, oe) :: pn)) (b0 :: suite) (ts a oe cls d pn))
    (e1 : ∀ W pn xe, tb W pn xe = tb W [] (fun _ _ => False)) (e2 : ∀ a oe cls d pn, ts a oe cls d pn = ts a oe0 cls d []) :
    PS X (.Try body [.ExceptHandler (some (.Name x np)) (some n) (b0 :: suite) pos'] [] [] pos) (fun D σ H => tb (wAs X.K c i (fun a cls d => ts a oe0 cls d []) Wout D) [] (fun _ _ => False) D σ H) :=
  ps_try_as (tb := fun W => tb W [] (fun _ _ => False)) (ts := fun a cls d => ts a oe0 cls d []) hs hf hN hi hln hc tk (fun W pn xe k po => by rw [← e1 W pn xe]; exact hb W pn xe k po)
    (fun a oe cls d pn z f => by rw [← e2 a oe cls d pn]; exact hsu a oe cls d pn z f)
/-- isinstance(e, C) of the error that the suite holds, one without a dict of its own -/
def rIsEV (K : PySem.W.Frag) (cls : Value) (d : Option Addr) (a : Addr) : List V → Hp → VK → Prop := fun xs H Q => ∃ (D : Addr) (c : V) (cv : Value) (b : Bool), cls = .ref D ∧ d = none ∧ ExcC K D ∧ xs = [.ref a, c] ∧ (∀ u, RelV c u → u = cv) ∧ PySem.W.kitOne K (.ref D) cv = some b ∧ Q (.bl b) H
theorem call_isEV {a : Addr} {oe : Obj} {cls : Value} {d : Option Addr} {pn : List (Addr × Obj)} (hz : Zc cls d oe) (hf : ∃ vs, oe.data = .fields vs) : CallR (X.suite a ((a, oe) :: pn)) (.builtin "isinstance") (rIsEV X.K cls d a) := by
  intro pins s σ H xs us Q I r h
  obtain ⟨D, c, cv, b, rfl, rfl, C, h⟩ := h
  exact call_isE C hz hf pins s σ H xs us Q I r ⟨c, cv, b, h⟩
end
/-! ### list comprehensions: the readings of their parts free of what they can't hang on -/
section
open PySem.Spec PyProof.Rows
variable {X : Cx} {elt tg iter : Expr} {ifs : List Expr} {scope : Scope} {own : List (Str × Nat)} {pos spos py : Pos} {wi : TI} {i : Nat} {y : Str}
abbrev Bk (α : Type) := Shared → Hp → Addr → List (Str × Addr) → List Addr → α
abbrev Bk.at0 {α : Type} (f : Bk α) (X : Cx) : α := f X.s_0 X.H_0 0 [] []
variable {g : Bk TG} {tt : Bk TT} {te : Bk TE}
theorem pe_lcV (hc : X.calm = true) (hN : X.N.Nodup) (hi : PI X tg iter wi) (ok : BlkOk X.N X.env.scope scope own)
    (hg : ∀ s H C cl fp, PG (X.blk s H scope (compEnvC scope cl C X.env) fp) tg (g s H C cl fp)) (ht : ∀ s H C cl fp, PTs (X.blk s H scope (compEnvC scope cl C X.env) fp) ifs (tt s H C cl fp))
    (he : ∀ s H C cl fp, PE (X.blk s H scope (compEnvC scope cl C X.env) fp) elt (te s H C cl fp)) (e1 : ∀ s H C cl fp, g s H C cl fp = g.at0 X) (e2 : ∀ s H C cl fp, tt s H C cl fp = tt.at0 X)
    (e3 : ∀ s H C cl fp, te s H C cl fp = te.at0 X) (hs : ∀ x, foldedSetIterable iter X.env x = pure x := by intro _; rfl) :
    PE X (.ListComp elt [⟨tg, iter, ifs, 0⟩] scope pos) (tLc wi (g.at0 X) (tt.at0 X) (te.at0 X) (own.map (·.2))) :=
  pe_lc hc hN hi ok (fun s H C cl fp => by rw [← e1 s H C cl fp]; exact hg s H C cl fp) (fun s H C cl fp => by rw [← e2 s H C cl fp]; exact ht s H C cl fp) (fun s H C cl fp => by rw [← e3 s H C cl fp]; exact he s H C cl fp) hs
theorem ps_setLcV (hc : X.calm = true) (hN : X.N.Nodup) (hy : X.N[i]? = some y) (hyl : X.env.scope.names.lookup y = some .local)
    (hsw : swapsWith (.ListComp elt [⟨tg, iter, ifs, 0⟩] scope pos) (some (.Name y py)) spos.line X.env = pure true) (hi : PI X tg iter wi) (ok : BlkOk X.N X.env.scope scope own)
    (hg : ∀ s H C cl fp, PG (X.blk s H scope (compEnvC scope cl C X.env) fp) tg (g s H C cl fp)) (ht : ∀ s H C cl fp, PTs (X.blk s H scope (compEnvC scope cl C X.env) fp) ifs (tt s H C cl fp))
    (he : ∀ s H C cl fp, PE (X.blk s H scope (compEnvC scope cl C X.env) fp) elt (te s H C cl fp)) (e1 : ∀ s H C cl fp, g s H C cl fp = g.at0 X) (e2 : ∀ s H C cl fp, tt s H C cl fp = tt.at0 X)
    (e3 : ∀ s H C cl fp, te s H C cl fp = te.at0 X) (hs : ∀ x, foldedSetIterable iter X.env x = pure x := by intro _; rfl) :
    PS X (.Assign [.Name y py] (.ListComp elt [⟨tg, iter, ifs, 0⟩] scope pos) spos) (tAsg (tLc wi (g.at0 X) (tt.at0 X) (te.at0 X) (own.map (·.2))) (gName i)) :=
  ps_setLc hc hN hy hyl hsw hi ok (fun s H C cl fp => by rw [← e1 s H C cl fp]; exact hg s H C cl fp) (fun s H C cl fp => by rw [← e2 s H C cl fp]; exact ht s H C cl fp) (fun s H C cl fp => by rw [← e3 s H C cl fp]; exact he s H C cl fp) hs
end

/-! ### errors of own classes with fields -/
section
open PySem.Spec PyProof.Rows
variable {X : Cx} {CX : CXT} {k n : Nat} {f C CE : Addr} {fd : FuncData} {ps ks : List Str} {sp : Sp} {ds : List Value} {dvs : List V} {x : Str} {p p1 p2 pos : Pos} {e : Expr} {es : List Expr} {kws : List Keyword} {ta t tk : TA} {te : TE}
/-- B.__init__(self, ..), B an own class that has it from ValueError -/
theorem pe_ceinit {pl : Sem Bool} (hg : Gl X x) (hm : X.mg x = some (.ref CE)) (rd : PySem.W.readsIn X.K CE (.type "type") = true) (ga : PySem.W.specialIn X.K (.ref CE) "__getattribute__" = some (some (.builtin "type.__getattribute__")))
    (vV : PySem.W.findCls X.K (.ref CE) (.type "type") "__init__" = some (.val (.builtin "ValueError.__init__"))) (ha : PA X (e :: es) ta) (hdb : (x == ("__debug__" : Str)) = false := by decide)
    (hc : eval (.Call (.Attribute (.Name x p1) "__init__" p2) (e :: es) [] pos) X.env = (eval (.Name x p1) X.env >>= fun ov => standAt p2.atName >>= fun _ => holding [ov] (getMethod ov "__init__" pl) >>= fun (f, first) =>
      callWith pos f first (backTo pos (starEach (e :: es) X.env)) (backToKw pos (keywordEach [] X.env))) := by rfl)
    (he : starEach (e :: es) X.env = (false, eval e X.env) :: starEach es X.env := by rfl) (hpl : (backTo pos (starEach es X.env)).any (·.1) = false := by rfl) :
    PE X (.Call (.Attribute (.Name x p1) "__init__" p2) (e :: es) [] pos) (tVeI X.K ta) := by
  refine ⟨fun pins s σ H Q I h => ?_⟩
  refine PySem.W.methodCall_KW (ld_glob I hg hm ?_ hdb) hc
  refine PySem.W.method_cls I.kIn ga (PySem.W.cls_value I.kIn rd vV (by decide +kernel) ?_)
  refine callWith_method1 (first := []) (id := "ValueError.__init__") (thn (ha.run pos pins _ σ H _ (I.tok _) h) fun us s1 z => ?_) he hpl
  obtain ⟨vs, H1, J, r1, a, C, ws, rfl, hl, T, ea, q⟩ := z
  obtain ⟨u0, ur, rfl, ra, rr⟩ : ∃ u0 ur, us = u0 :: ur ∧ RelV (.ref a) u0 ∧ Vals ws ur := by
    cases r1 with
    | cons a1 b1 => exact ⟨_, _, rfl, a1, b1⟩
  obtain rfl : u0 = Value.ref a := ra
  exact oinit_ok T J ea (by rw [← rr.length, sizeLine_eq]; omega) fun s' J' => ⟨.non, H1, J', rfl, q⟩
/-- isinstance(e, C) of the error that the suite holds, one with a dict of its own -/
def rIsEW (K : PySem.W.Frag) (cls : Value) (d : Option Addr) (a : Addr) : List V → Hp → VK → Prop := fun xs H Q => ∃ (D dd : Addr) (fs : List (Str × V)) (c : V) (cv : Value) (b : Bool), cls = .ref D ∧ d = some dd ∧ H dd = some (.xd fs) ∧ ExcC K D ∧ xs = [.ref a, c] ∧
  (∀ u, RelV c u → u = cv) ∧ PySem.W.kitOne K (.ref D) cv = some b ∧ Q (.bl b) H
theorem call_isEW {a : Addr} {oe : Obj} {cls : Value} {d : Option Addr} {pn : List (Addr × Obj)} (hz : Zc cls d oe) (hf : ∃ vs, oe.data = .fields vs) : CallR (X.suite a ((a, oe) :: pn)) (.builtin "isinstance") (rIsEW X.K cls d a) := by
  intro pins s σ H xs us Q I r h
  obtain ⟨D, dd, fs, c, cv, b, rfl, rfl, hd, Z, rfl, hcv, hk, q⟩ := h
  obtain ⟨u1, u2, rfl, r1, r2⟩ : ∃ u1 u2, us = [u1, u2] ∧ RelV (.ref a) u1 ∧ RelV c u2 := by
    cases r with
    | cons a1 b1 =>
      cases b1 with
      | cons a2 b2 =>
        cases b2
        exact ⟨_, _, rfl, a1, a2⟩
  obtain rfl : u1 = Value.ref a := r1
  obtain rfl := hcv _ r2
  obtain ⟨hget, _⟩ := I.pin (a, oe) (List.mem_append_left _ List.mem_cons_self)
  obtain ⟨vs, hv⟩ := hf
  obtain ⟨mA, hns, _⟩ := (show ObjOk X.prog X.w H s.heap dd (.xd fs) from I.hok dd _ hd)
  obtain ⟨od, ho, _⟩ := lookIn_ns hns
  have J : PySem.W.InstAt s.heap a oe D (some od) := ⟨hget, hz.1, by unfold PySem.W.notCls; rw [hv] <;> rfl, by rw [hz.2]; exact ho⟩
  obtain ⟨cd, hcd, _⟩ := PySem.W.any_some Z.hd
  exact PySem.W.kia_one (PySem.W.kitx_exc (by rw [hcd]; rfl) Z.hg Z.hk Z.hs Z.ha Z.hn Z.ht Z.hm) I.kIn J hk (fun z => nomatch z) fun tk => ⟨.bl b, H, I.kept (t' := tk) fun _ _ z => z, rfl, q⟩
/-- C(.., k = v, ..) in the body of a try -/
def tMakeKS (C : Addr) (n m : Nat) (sp : Sp) (gV : List V → List V → List V) (E : L2.St → XK) (t tk : TA) : TE := fun σ H Q => t σ H fun vs H1 => tk σ H1 fun zs H2 => vs.length = n ∧ zs.length = m ∧ ∀ x dx, H2 x = none → H2 dx = none → dx ≠ x →
  sp (gV (.ref x :: vs) zs) (upd (upd H2 dx (.own x)) x (.ins C dx [])) (fun v H3 => v = .non ∧ Q (.ref x) H3) (E σ)
theorem pe_makeKS {g : List Value → List Value → List Value} {gV : List V → List V → List V} {E : L2.St → XK} (M : Mk X.K C f) (F : FnOk X.prog X.w X.K X.mg X.base CX k f fd ps sp) (hr : Room (k + 1) X.A) (hg : Gl X x) (hm : X.mg x = some (.ref C)) (hb : KBn X.K fd ps (n + 1) ks g gV)
    (hx : ∀ σ, PassesAt CX X σ (E σ)) (ha : PA X (e :: es) t) (hkw : PK X kws tk)
    (hall : (backToKw pos (keywordEach kws X.env)).all (·.1.isSome) = true := by rfl) (hks : (backToKw pos (keywordEach kws X.env)).filterMap (·.1) = ks := by rfl) (hdb : (x == ("__debug__" : Str)) = false := by decide)
    (he : starEach (e :: es) X.env = (false, eval e X.env) :: starEach es X.env := by rfl) (hpl : ((backTo pos (starEach (e :: es) X.env)).any (·.1) || (backToKw pos (keywordEach kws X.env)).any (·.1.isNone)) = false := by rfl) :
    PE X (.Call (.Name x p) (e :: es) kws pos) (tMakeKS C n ks.length sp gV E t tk) := by
  refine ⟨fun pins s σ H Q I h => wpAny_Call_Name_kw (ld_glob I hg hm (PySem.W.callWith_KW (h₀ := X.base) I.ok.mod.kin M.kp hall (thn (ha.run pos pins s σ H _ I h) fun us s1 z => ?_) hpl he) hdb)⟩
  obtain ⟨vs, H1, I1, r, q⟩ := z
  refine thn (hkw.run pos pins s1 σ H1 _ I1 q) fun ws s2 z => ?_
  obtain ⟨zs, H2, I2, rz, l1, l2, q2⟩ := z
  refine ⟨I2.kIn, ?_⟩
  rw [hks]
  have a1 := q2 (s2.heap.objs.size + 1) s2.heap.objs.size (I2.hok.fresh (Nat.le_succ _)) (I2.hok.fresh (Nat.le_refl _)) (Nat.ne_of_lt (Nat.lt_succ_self _))
  have J := Inv.made (C := C) I2
  have r1 : Vals (V.ref (s2.heap.objs.size + 1) :: vs) (Value.ref (s2.heap.objs.size + 1) :: us) := .cons rfl r
  refine wpAny_call (make_map (f := f) I2.kIn M.makes M.init (beq_iff_eq.mp M.fn) (codeAny_mono (F.run _ X.stack _ _ ⟨Value.ref (s2.heap.objs.size + 1) :: us, ks.zip ws⟩ (g (Value.ref (s2.heap.objs.size + 1) :: us) ws) _ _ (E σ) (hr.make C us (ks.zip ws))
    (J.env0.make C us (ks.zip ws)) (hb.to _ (Value.ref (s2.heap.objs.size + 1) :: us) ws J.kIn (by rw [List.length_cons, ← r.length, l1]) (rz.length.symm.trans l2)) (hb.rel r1 rz) a1) fun o s' z => ?_))
  cases o with
  | error u => exact hx σ pins _ _ u s' J z
  | ok fl =>
    cases fl with
    | ret u =>
      obtain ⟨v, H', J3, rv, ev, q3⟩ := J.after z
      subst ev
      exact ⟨rv, V.ref (s2.heap.objs.size + 1), H', J3, rfl, q3⟩
    | next => exact z.elim
    | brk => exact z.elim
    | cont => exact z.elim
end
/-- C.__init__(self, v): the error gets its dict with one field -/
def spExc1 (C : Addr) (f : Str) : Sp := fun vs H Q _ => ∃ (a : Addr) (v : V), vs = [.ref a, v] ∧ H a = some (exo a C none) ∧ ∀ d, H d = none → d ≠ a → Q .non (upd (upd H d (exd d [(f, v)])) a (exo a C (some d)))

/-! ### lists side by side -/
section
variable {α β : Type} {R S : α → β → Prop} {xs us : List α} {ys vs : List β} {x : α} {y : β} {i : Nat}
def All2 (R : α → β → Prop) (xs : List α) (ys : List β) : Prop := xs.length = ys.length ∧ ∀ (i : Nat) x y, xs[i]? = some x → ys[i]? = some y → R x y
theorem All2.nil : All2 R [] [] := ⟨rfl, fun i x y h => by simp at h⟩
theorem All2.mono (h : All2 R xs ys) (k : ∀ x y, R x y → S x y) : All2 S xs ys := ⟨h.1, fun i x y a b => k _ _ (h.2 i x y a b)⟩
theorem All2.cons (h : R x y) (k : All2 R xs ys) : All2 R (x :: xs) (y :: ys) := ⟨by rw [List.length_cons, List.length_cons, k.1], fun i a b ha hb => by
  cases i with
  | zero => simp at ha hb; subst ha; subst hb; exact h
  | succ i => simp at ha hb; exact k.2 i a b ha hb⟩
theorem All2.one (h : R x y) : All2 R [x] [y] := .cons h .nil
theorem All2.app (h : All2 R xs ys) (k : All2 R us vs) : All2 R (xs ++ us) (ys ++ vs) := ⟨by rw [List.length_append, List.length_append, h.1, k.1], fun i a b ha hb => by
  by_cases hi : i < xs.length
  · rw [List.getElem?_append_left hi] at ha
    rw [List.getElem?_append_left (by rw [← h.1]; exact hi)] at hb
    exact h.2 i a b ha hb
  · rw [List.getElem?_append_right (by omega)] at ha
    rw [List.getElem?_append_right (by rw [← h.1]; omega), ← h.1] at hb
    exact k.2 _ a b ha hb⟩
theorem All2.take (h : All2 R xs ys) (n : Nat) : All2 R (xs.take n) (ys.take n) := ⟨by rw [List.length_take, List.length_take, h.1], fun i a b ha hb => by
  rw [List.getElem?_take] at ha hb
  by_cases hi : i < n
  · rw [if_pos hi] at ha hb
    exact h.2 i a b ha hb
  · rw [if_neg hi] at ha
    cases ha⟩
theorem All2.drop (h : All2 R xs ys) (n : Nat) : All2 R (xs.drop n) (ys.drop n) := ⟨by rw [List.length_drop, List.length_drop, h.1], fun i a b ha hb => by
  rw [List.getElem?_drop] at ha hb
  exact h.2 _ a b ha hb⟩
theorem All2.get (h : All2 R xs ys) (hi : xs[i]? = some x) : ∃ y, ys[i]? = some y ∧ R x y := by
  have hl : i < ys.length := by
    rw [← h.1]
    exact (List.getElem?_eq_some_iff.mp hi).1
  have e : ys[i]? = some ys[i] := List.getElem?_eq_getElem hl
  exact ⟨_, e, h.2 i _ _ hi e⟩
theorem take_more {α : Type} {ys : List α} {y : α} {i : Nat} (h : ys[i]? = some y) : ys.take (i + 1) = ys.take i ++ [y] := by
  rw [List.take_add_one, h]
  rfl
end
section
open PySem.Spec PyProof.Rows
variable {X : Cx}
/-- one operator, two ways to read it -/
theorem op_mix {f : Value → Value → Sem Value} {r1 r2 : R2} (h1 : OpR X f r1) (h2 : OpR X f r2) : OpR X f (fun x y H Q => Wd (r1 x y H Q ∨ r2 x y H Q)) := by
  intro pins s σ H x y v u Q I rx ry h
  rcases h.ok with h | h
  · exact h1 pins s σ H x y v u Q I rx ry h
  · exact h2 pins s σ H x y v u Q I rx ry h
theorem vals_same {A : Around} {s : Shared} {xs : List V} (hx : ∀ x ∈ xs, flatB x = true ∨ ∃ a, x = .ref a) : ∀ {us ws : List Value}, Vals xs us → Vals xs ws → ∀ j (h1 : j < us.length) (h2 : j < ws.length), SeqAt.EqAt A s us[j] ws[j] true := by
  induction xs with
  | nil =>
    intro us ws r1 r2 j h1 h2
    cases r1
    exact absurd h1 (Nat.not_lt_zero j)
  | cons x xs ih =>
    intro us ws r1 r2 j h1 h2
    cases r1 with
    | cons a1 b1 =>
      cases r2 with
      | cons a2 b2 =>
        cases j with
        | zero =>
          rcases hx x List.mem_cons_self with f | ⟨a, rfl⟩
          · exact eqAt_same a1 a2 f
          · cases a1
            cases a2
            exact SeqAt.EqAt.same _
        | succ j => exact ih (fun y hy => hx y (List.mem_cons_of_mem _ hy)) b1 b2 j (Nat.lt_of_succ_lt_succ h1) (Nat.lt_of_succ_lt_succ h2)
/-- a != b, two lists of the same items -/
theorem op_neL (hu : X.A.units + 64 < cLine) : OpR X (compareOp .NotEq) (fun x y H Q => Wd (∃ (a b : Addr) (xs : List V), x = .ref a ∧ y = .ref b ∧ SqL X.K H a xs ∧ SqL X.K H b xs ∧ (∀ x ∈ xs, flatB x = true ∨ ∃ a, x = .ref a) ∧ Q (.bl false) H)) := by
  intro pins s σ H x y v u Q I rx ry h
  obtain ⟨a, b, xs, rfl, rfl, ha, hb, hx, q⟩ := h.ok
  cases rx
  cases ry
  obtain ⟨us, r1, p1, _⟩ := I.list ha
  obtain ⟨ws, r2, p2, _⟩ := I.list hb
  have hsz : us.toArray.size = ws.toArray.size := by
    rw [List.size_toArray, List.size_toArray, ← r1.length, ← r2.length]
  have k := SeqAt.RcNeAt.lists (A := X.A) (e := fun _ => true) p1.isList p2.isList hsz (by omega) (fun j h1 h2 => by
    have k := vals_same (A := X.A.in1) (s := s) hx r1 r2 j (by simpa using h1) (by simpa using h2)
    simpa using k)
  refine k X.prog X.w _ _ ?_
  rw [show ((List.range us.toArray.size).all fun _ => true) = true from List.all_eq_true.mpr fun _ _ => rfl]
  exact ⟨.bl false, H, I, rfl, q⟩
/-- a != b, two tuples of the same items -/
theorem op_neT (hu : X.A.units + 64 < cLine) : OpR X (compareOp .NotEq) (fun x y H Q => Wd (∃ (a b : Addr) (xs : List V), x = .ref a ∧ y = .ref b ∧ SqT X.K H a xs ∧ SqT X.K H b xs ∧ (∀ x ∈ xs, flatB x = true ∨ ∃ a, x = .ref a) ∧ Q (.bl false) H)) := by
  intro pins s σ H x y v u Q I rx ry h
  obtain ⟨a, b, xs, rfl, rfl, ha, hb, hx, q⟩ := h.ok
  cases rx
  cases ry
  obtain ⟨us, r1, p1, _⟩ := I.tuple ha
  obtain ⟨ws, r2, p2, _⟩ := I.tuple hb
  have hsz : us.toArray.size = ws.toArray.size := by
    rw [List.size_toArray, List.size_toArray, ← r1.length, ← r2.length]
  have k := SeqAt.RcNeAt.tuples (A := X.A) (e := fun _ => true) p1 p2 (by omega) (fun j h1 h2 => by
    have k := vals_same (A := X.A.in1) (s := s) hx r1 r2 j (by simpa using h1) (by simpa using h2)
    simpa using k)
  refine k X.prog X.w _ _ ?_
  refine ⟨.bl false, H, I, ?_, q⟩
  show Value.bool _ = Value.bool false
  simp [hsz]
end

/-! ### == and != of data of any depth, texts of any signs -/
section
open PySem.Spec PyProof.Rows
variable {X : Cx}
def rEqP (K : PySem.W.Frag) : R2 := fun x y H Q => Wd (∃ d e, Dp K H x d ∧ Dp K H y e ∧ d.plain = true ∧ e.plain = true ∧ d.depth ≤ 64 ∧ Q (.bl (PyData.eqv d e)) H)
def rNeP (K : PySem.W.Frag) : R2 := fun x y H Q => Wd (∃ d e, Dp K H x d ∧ Dp K H y e ∧ d.plain = true ∧ e.plain = true ∧ d.depth ≤ 64 ∧ Q (.bl (!PyData.eqv d e)) H)
theorem op_eqP (hu : X.A.units + 64 < cLine) : OpR X (compareOp .Eq) (rEqP X.K) := by
  intro pins s σ H x y v u Q I rx ry h
  obtain ⟨d, e, hd, he, sd, se, dp, q⟩ := h.ok
  obtain ⟨as, r1⟩ := Dp.reads I d x v hd rx
  obtain ⟨bs, r2⟩ := Dp.reads I e y u he ry
  have := Nat.min_le_left d.depth e.depth
  exact SeqAt.eq_plain r1 r2 sd se (by omega) ⟨.bl _, H, I, rfl, q⟩
theorem op_neP (hu : X.A.units + 64 < cLine) : OpR X (compareOp .NotEq) (rNeP X.K) := by
  intro pins s σ H x y v u Q I rx ry h
  obtain ⟨d, e, hd, he, sd, se, dp, q⟩ := h.ok
  obtain ⟨as, r1⟩ := Dp.reads I d x v hd rx
  obtain ⟨bs, r2⟩ := Dp.reads I e y u he ry
  have := Nat.min_le_left d.depth e.depth
  exact SeqAt.ne_plain r1 r2 sd se (by omega) ⟨.bl _, H, I, rfl, q⟩
theorem eqP_same {K : PySem.W.Frag} {x y : V} {H : Hp} {Q : VK} {d : PyData} (hx : Dp K H x d) (hy : Dp K H y d) (hp : d.plain = true) (hd : d.depth ≤ 64) (h : Q (.bl true) H) : rEqP K x y H Q :=
  ⟨d, d, hx, hy, hp, hp, hd, by rw [SeqAt.eqv_refl_plain d hp]; exact h⟩
theorem neP_same {K : PySem.W.Frag} {x y : V} {H : Hp} {Q : VK} {d : PyData} (hx : Dp K H x d) (hy : Dp K H y d) (hp : d.plain = true) (hd : d.depth ≤ 64) (h : Q (.bl false) H) : rNeP K x y H Q :=
  ⟨d, d, hx, hy, hp, hp, hd, by rw [SeqAt.eqv_refl_plain d hp]; exact h⟩
end

/-! ### {e for x in xs if ..}: a set that is added to, told by any words O -/
section
open PySem.Spec PyProof.Rows PpSet
abbrev setN (w : World) : Obj := { cls := .type "set", dict := none, data := .set #[] 0 (.fresh 0 0 (!w.params.followText "set-order")) }
/-- O D z: the set at D holds what z tells; x0 tells the empty one; fits y z z': with y added z is z' -/
structure SetW (P : Program) (w : World) {α : Type} (O : Addr → α → HO) (x0 : α) (fits : V → α → α → Prop) : Prop where
  new : ∀ (H : Hp) (h : Heap), ObjOk P w H (h.push (setN w)) h.objs.size (O h.objs.size x0)
  add : ∀ (Y : Cx) (pins : List (Addr × Obj)) (σ : L2.St) (H : Hp) (s : Shared) (D : Addr) (z z' : α) (y : V) (u : Value) (Q E : Value → Shared → Prop), Y.prog = P → Y.w = w → Inv Y pins σ H s → H D = some (O D z) → RelV y u → fits y z z' →
    (∀ s', Inv Y pins σ (upd H D (O D z')) s' → Q .none s') → wpAny (model Y.prog Y.w) Y.A (call (.builtin "set.add") [.ref D, u]) Q E s
variable {X : Cx} {α : Type} {O : Addr → α → HO} {x0 : α} {fits : V → α → α → Prop}
def tSetc (O : Addr → α → HO) (x0 : α) (fits : V → α → α → Prop) (wi : TI) (g : TG) (tt : TT) (te : TE) (vs : List Nat) : TE := fun σ H Q => wi σ H fun J H1 => ∀ D, H1 D = none → ∃ W : Nat → Nat → Hp → Prop, (∃ m, W 0 m (upd H1 D (O D x0))) ∧ ∀ i m H, W i m H →
  (J.stop i H ∧ Q (.ref D) H) ∨ (J.go i H ∧ ∃ Nx : Hp → Prop, (∀ H', Nx H' → ∃ m', m' < m ∧ W (i + 1) m' H') ∧ ∀ x H', J.yld i H x H' → g x (wipe σ vs) H' fun σ2 H2 => wipe σ2 vs = wipe σ vs ∧ tt σ2 H2 fun b H3 =>
    if b = true then te σ2 H3 fun y H4 => ∃ z z', H4 D = some (O D z) ∧ fits y z z' ∧ Nx (upd H4 D (O D z')) else Nx H3)
theorem setc_go (S : SetW X.prog X.w O x0 fits) {pins : List (Addr × Obj)} {s : Shared} {σ : L2.St} {H : Hp} {Q : VK} {el tg it0 : Expr} {ifs : List Expr} {sc : Scope} {mine : List (PySem.Str × Nat)} {pos p1 : Pos} {wi : TI} {g : TG} {tt : TT} {te : TE} {Qf : Value → Shared → Prop}
    (calm : X.calm = true) (nd : X.N.Nodup) (I : Inv X pins σ H s) (hi : PI X tg it0 wi) (ok : BlkOk X.N X.env.scope sc mine) (hg : ∀ t h C cl fp, PG (X.blk t h sc (compEnvC sc cl C X.env) fp) tg g) (ht : ∀ t h C cl fp, PTs (X.blk t h sc (compEnvC sc cl C X.env) fp) ifs tt)
    (he : ∀ t h C cl fp, PE (X.blk t h sc (compEnvC sc cl C X.env) fp) el te) (hs : ∀ x, foldedSetIterable it0 X.env x = pure x) (rd : tSetc O x0 fits wi g tt te (mine.map (·.2)) σ H Q)
    (last : ∀ D C t m H', Inv X pins σ H' t → Q (.ref D) H' → t.heap.Ns C m → FpOk X pins H' C → compPost (model X.prog X.w) X.A X.xe none Qf (.ref D) C (.ok .next) t) :
    wpAny (model X.prog X.w) X.A (comprehension (.SetComp el [⟨tg, it0, ifs, 0⟩] sc pos) sc X.env p1 (newSet (.type "set")) false (eval it0 X.env) none) Qf X.xe s := by
  have bound : ∀ y ∈ sc.names, y.2 = .free → ∃ c, X.env.cells.lookup y.1 = some c := fun y hy e => (ok.free y hy e).elim (fun k => I.ok.has _ (.inl k)) fun k => I.ok.has _ (.inr k)
  refine wpAny_comprehension_free (use := none) rfl hs (closure_ok bound) ok.kind (fun y hy e => by rw [ok.uniq y hy, e]) (thn (hi.run pins s σ H _ I rd) fun _ _ hx => thn hx fun _ sa ha => ?_)
  obtain ⟨it, fp, tn, J, Ha, rfl, Ia, T, sta, fa, go⟩ := ha
  refine newSet_ok (newEnv_comp ?_)
  have Dn : Ha sa.heap.objs.size = none := Ia.hok.fresh (Nat.le_refl _)
  obtain ⟨W, ⟨m0, w0⟩, turn⟩ := go _ Dn
  have lts : ∀ b ∈ fp, b < sa.heap.objs.size := fun b hb => by
    obtain ⟨o, e, _⟩ := T.obj _ _ sta b hb
    exact Heap.lt_size e
  have grows : ∀ b o, sa.heap.get? b = some o → (sa.heap.push (setN X.w)).get? b = some o := fun b o e => Heap.get?_push_of_some _ e
  have Ib : Inv X pins σ (upd Ha sa.heap.objs.size (O sa.heap.objs.size x0)) { sa with heap := sa.heap.push (setN X.w) } := Ia.laid (t' := sa.toks) grows (Nat.le_refl _) (S.new _ _)
  have stb : tn 0 (sa.heap.push (setN X.w)) := T.keep _ _ _ sta fun b _ o e => grows b o e
  have fb : ∀ b ∈ fp, FpOk X pins (upd Ha sa.heap.objs.size (O sa.heap.objs.size x0)) b ∧ b < (sa.heap.push (setN X.w)).objs.size := fun b hb => by
    refine ⟨⟨?_, (fa b hb).2⟩, by rw [Heap.size_push]; exact Nat.lt_succ_of_lt (lts b hb)⟩
    rw [upd_ne (Nat.ne_of_lt (lts b hb))]; exact (fa b hb).1
  generalize sa.heap.objs.size = D at *
  show codeAny _ _ _ (compPost (model X.prog X.w) X.A X.xe none Qf (.ref D) _) _
  generalize esb : ({ sa with heap := sa.heap.push (setN X.w) } : Shared) = sb at Ib ⊢
  have esh : sa.heap.push (setN X.w) = sb.heap := by rw [← esb]
  rw [esh] at stb fb
  have Ic := block_start Ib ok nd fb
  have nfp : ∀ b ∈ fp, (upd Ha D (O D x0)) b = none := fun b hb => (fb b hb).1.1
  generalize ekl : cellsFrom (sb.heap.objs.size + 1) sc.names (cloFrom X.env.cells sc.names []) = kl at Ic
  have pg := hg sb (upd Ha D (O D x0)) sb.heap.objs.size kl fp
  have pt := ht sb (upd Ha D (O D x0)) sb.heap.objs.size kl fp
  have pe := he sb (upd Ha D (O D x0)) sb.heap.objs.size kl fp
  have fin : codeAny (model X.prog X.w) X.A (.compStart (.SetComp el [⟨tg, it0, ifs, 0⟩] sc pos) 0 (.ref it) (.ref D) (compEnvC sc kl sb.heap.objs.size X.env)) (compPost (model X.prog X.w) X.A X.xe none Qf (.ref D) sb.heap.objs.size) { sb with heap := pushCells (sb.heap.push { cls := .type "dict", data := .dict #[] }) sc.names } := by
    have loc : (compEnvC sc kl sb.heap.objs.size X.env).locals = sb.heap.objs.size := rfl
    generalize compEnvC sc kl sb.heap.objs.size X.env = ce at Ic pg pt pe loc ⊢
    generalize upd Ha D (O D x0) = Hb at Ib Ic pg pt pe w0 nfp fb
    generalize esc : ({ sb with heap := pushCells (sb.heap.push { cls := .type "dict", data := .dict #[] }) sc.names } : Shared) = t0 at Ic ⊢
    have st0 : tn 0 t0.heap := T.keep _ _ _ stb fun b _ o e => by rw [← esc]; exact pushCells_keeps _ _ _ _ (Heap.get?_push_of_some _ e)
    have still : ∀ {τ : L2.St} {G : Hp} {t : Shared}, Inv (X.blk sb Hb sc ce fp) [] τ G t → (∀ b ∈ fp, G b = none) → ∀ b ∈ fp, FpOk (X.blk sb Hb sc ce fp) [] G b := fun {τ G t} J1 hn b hb =>
      ⟨hn b hb, (J1.ok.exf b hb).1, J1.ok.exfs b hb, .inl hb, fun x c e => (J1.ok.exf b hb).2 x c e, fun p hp => by cases (show p ∈ ([] : List (Addr × Obj)) from hp)⟩
    have loop : codeAny (model X.prog X.w) X.A (.compLoop (.SetComp el [⟨tg, it0, ifs, 0⟩] sc pos) 0 (.ref it) (.ref D) ce) (compPost (model X.prog X.w) X.A X.xe none Qf (.ref D) sb.heap.objs.size) t0 := by
      refine compLoopS_any (fun n t => ∃ i G, Inv (X.blk sb Hb sc ce fp) [] (wipe σ (mine.map (·.2))) G t ∧ tn i t.heap ∧ (∀ b ∈ fp, G b = none) ∧ W i n G) ?_ m0 ⟨0, Hb, Ic, st0, nfp, w0⟩
      rintro n t1 ⟨i, G1, J1, st1, n1, w1⟩
      rcases turn i n G1 w1 with ⟨stop, qq⟩ | ⟨more, Nx, less, step⟩
      · refine thnF (T.done (X.blk sb Hb sc ce fp) rfl rfl rfl calm i [] t1 _ G1 (fun _ _ => False) J1 (still J1 n1) st1 stop) fun r t2 ⟨er, J2⟩ => ?_
        subst er
        have back : Inv X pins σ G1 t2 := Ib.call' (ch := fp) J2.os J2.base J2.hok J2.bare fun b hb => ⟨(fb b hb).1.2.2.2.1, (fb b hb).1.2.1, (fb b hb).1.2.2.2.2.1, (fb b hb).1.2.2.2.2.2⟩
        have none1 : G1 ce.locals = none := J2.free
        obtain ⟨m, ns, _⟩ := J2.loc
        have ns1 : t2.heap.Ns ce.locals m := ns
        rw [loc] at none1 ns1
        exact last D _ t2 m G1 back qq ns1 (Ib.fpOk (Nat.le_refl _) none1)
      · refine thnF (T.item (X.blk sb Hb sc ce fp) rfl rfl rfl calm i [] t1 _ G1 (fun _ _ => False) J1 (still J1 n1) st1 more) fun r t2 ⟨u, er, h2⟩ => ?_
        subst er
        refine thnF h2 fun _ t3 ⟨x, G3, J3, r3, y3, st3, n3⟩ => ?_
        have J3p := J3.pinned (still J3 n3) (T.obj _ _ st3)
        refine thnF (pg.run _ t3 _ G3 x u _ J3p r3 (step x G3 y3)) fun _ t4 ⟨τ4, G4, J4, e4, q4⟩ => ?_
        refine thnF (pt.run _ t4 τ4 G4 _ J4 q4) fun b t5 ⟨G5, J5, q5⟩ => ?_
        have next : ∀ {t : Shared} {G : Hp}, Inv (X.blk sb Hb sc ce fp) ([] ++ pinsAt fp t3.heap) τ4 G t → Nx G → ∃ m, m < n ∧ ∃ i G, Inv (X.blk sb Hb sc ce fp) [] (wipe σ (mine.map (·.2))) G t ∧ tn i t.heap ∧ (∀ b ∈ fp, G b = none) ∧ W i m G := fun {t G} J nx => by
          obtain ⟨m', lt, w'⟩ := less G nx
          have held : ∀ b ∈ fp, ∀ o, t3.heap.get? b = some o → t.heap.get? b = some o ∧ G b = none := fun b hb o e => by
            have z := J.pin (b, o) (List.mem_append_right _ (List.mem_append_right _ (mem_pinsAt hb e)))
            exact ⟨z.1, z.2.1⟩
          refine ⟨m', lt, i + 1, G, (J.unpinned (pins := [])).weak (by rw [← e4, wipe_length]) (fun j v e => by rw [← e4] at e; exact (wipe_some e).1), T.keep _ _ _ st3 fun b hb o e => (held b hb o e).1, fun b hb => ?_, w'⟩
          obtain ⟨o, e, _⟩ := T.obj _ _ st3 b hb
          exact (held b hb o e).2
        cases b with
        | false => exact next J5 (by simpa using q5)
        | true =>
          have q5 : te τ4 G5 fun y H4 => ∃ z z', H4 D = some (O D z) ∧ fits y z z' ∧ Nx (upd H4 D (O D z')) := by simpa using q5
          refine thnF (pe.run _ t5 τ4 G5 _ J5 q5) fun u6 t6 ⟨yv, G6, J6, r6, z, z', hD6, hz, nx⟩ => ?_
          exact S.add (X.blk sb Hb sc ce fp) _ _ _ t6 D z z' yv u6 _ _ rfl rfl J6 hD6 r6 hz fun t7 J7 => next J7 nx
    exact codeAny_compStart_set loop (T.self X.A 0 _ _ _ st0 loop)
  subst esb
  exact fin
theorem pe_setc (S : SetW X.prog X.w O x0 fits) {el tg it0 : Expr} {ifs : List Expr} {sc : Scope} {mine : List (PySem.Str × Nat)} {pos : Pos} {wi : TI} {g : TG} {tt : TT} {te : TE} (calm : X.calm = true) (nd : X.N.Nodup) (hi : PI X tg it0 wi) (ok : BlkOk X.N X.env.scope sc mine)
    (hg : ∀ t h C cl fp, PG (X.blk t h sc (compEnvC sc cl C X.env) fp) tg g) (ht : ∀ t h C cl fp, PTs (X.blk t h sc (compEnvC sc cl C X.env) fp) ifs tt) (he : ∀ t h C cl fp, PE (X.blk t h sc (compEnvC sc cl C X.env) fp) el te)
    (hs : ∀ x, foldedSetIterable it0 X.env x = pure x := by intro _; rfl) : PE X (.SetComp el [⟨tg, it0, ifs, 0⟩] sc pos) (tSetc O x0 fits wi g tt te (mine.map (·.2))) := by
  refine ⟨fun pins s σ H Q I rd => ?_⟩
  rw [eval_SetComp]
  refine setc_go S calm nd I hi ok hg ht he hs rd fun D C t m H' J q ns f => ⟨m, ns, fun h2 sb => ?_⟩
  obtain ⟨f0, f1, f2, f3, f4, f5⟩ := f
  exact ⟨.ref D, H', J.turned (t' := t.toks) (fun b o hb e => (sb.2 b hb).trans e) f0 f1 f3 f4 f5, rfl, q⟩
/-- sets of ints -/
def fitI (y : V) (z z' : (Int → Bool) × Nat) : Prop := ∃ k : Int, y = .int k ∧ z.2 + 1 < scanBound ∧ z' = (fun j => z.1 j || decide (j = k), if z.1 k = true then z.2 else z.2 + 1)
abbrev SetI (w : World) (D : Addr) (z : (Int → Bool) × Nat) : HO := SetO w D z.1 z.2
theorem setW_int {P : Program} {w : World} : SetW P w (SetI w) (fun _ => false, 0) fitI where
  new := fun H h => setO_new (setR_fresh w)
  add := by
    intro Y pins σ H s D z z' y u Q E hP hw I hD r ⟨k, ey, room, ez⟩ hq
    subst hP; subst hw; subst ey; subst ez
    obtain ⟨tk, rfl⟩ := r
    refine setR_add (setO_get I hD) room fun h' sb new => ?_
    have there : ∃ o, h'.get? D = some o := by
      have ⟨o, _, _, _, ho, _⟩ := new
      exact ⟨o, ho⟩
    exact hq _ (I.write (e := D) (t' := s.toks + 1) (by rw [hD]; trivial) (.inl rfl) (fun b u hb hu => (sb.2 b hb).trans hu) there (setO_new new))
end

/-! ### set(xs) of a list of ints, sorted(set) -/
section
open PySem.Spec PyProof.Rows PySem.Froz
variable {P : Program} {w : World} {A : Around} {E : Value → Shared → Prop} {s : Shared}
set_option maxHeartbeats 8000000 in
set_option maxRecDepth 100000 in
theorem ti_call {q : Addr} {items : Array Value} {xs : List Int} {Q : Value → Shared → Prop} (nh : A.handled = none) (hl : s.heap.IsList q items) (hi : IntsAre items.toList xs) (few : xs.length + 1 < scanBound)
    (h : ∀ (h' : Heap) (tk c : Nat), SetR w h' s.heap.objs.size (fun j => decide (j ∈ xs)) c → c ≤ xs.length → (∀ b o, s.heap.get? b = some o → h'.get? b = some o) → Q (.ref s.heap.objs.size) { s with heap := h', toks := tk }) :
    wpAny (model P w) A (call (.type "set") [.ref q]) Q E s := by
  have isz : items.size = xs.length := by
    have q := IntsAre.length hi
    rw [Array.length_toList] at q
    exact q
  obtain ⟨m0, m1, m2⟩ := F.called_set.mro
  have c1 := F.called_set.made
  have c2 := F.called_set.sub
  refine wpAny_call (codeAny_of_tree ?_)
  show wpAny _ _ (callAny (.type "set") _) _ _ _
  refine wpAny_pure ⟨Code.quiet_builtin _ (by decide +kernel), codeAny_builtin F.entry_type_call ?_⟩
  rw [Around.under_plain (weight_type_call_type "set" [.ref q] []) rfl]
  have c3 := F.called_set.notType
  have c4 := F.called_set.canCreate
  have c5 := F.typeCall_set_1 (.ref q)
  repeat (any_goals (first | assumption | wp_step))
  refine codeAny_mono (code_set_led1 (.ref q) (E := E) (Q₁ := fun v s1 => v = .ref s.heap.objs.size ∧ s1 = { s with heap := s.heap.push (setN w) }) ⟨rfl, rfl⟩) fun r s1 hr => ?_
  cases r with
  | error e => exact hr
  | ok fl =>
    cases fl with
    | ret obj =>
      obtain ⟨rfl, rfl⟩ := hr
      have h0 : (s.heap.push (setN w)).get? s.heap.objs.size = some (setN w) := Heap.get?_push_size _ rfl
      have ty : Shared.TypeIs { s with heap := s.heap.push (setN w) } (.ref s.heap.objs.size) "set" := ⟨_, h0, rfl⟩
      have c6 := F.called_set.init.lookup
      have c7 := F.called_set.init.bind (.ref s.heap.objs.size)
      repeat (any_goals (first | assumption | wp_step))
      refine codeAny_mono (codeAny_call_builtin (R := wants (fun r s2 => r = .none ∧ ∃ (h' : Heap) (tk c : Nat), s2 = { s with heap := h', toks := tk } ∧ SetR w h' s.heap.objs.size (fun j => decide (j ∈ xs)) c ∧ c ≤ xs.length ∧ (∀ b o, s.heap.get? b = some o → h'.get? b = some o)) E)
        F.called_set.init.plain F.entry_set_init (check_set_init_1 ty ?_)) fun r2 s2 hr2 => ?_
      · obtain ⟨ol, g0, g1, nl, g2⟩ := hl
        obtain ⟨k1, k2, k3, k4⟩ := ol
        simp only at g1 g2
        subst g1; subst g2
        have g3 : (s.heap.push (setN w)).get? q = some { cls := .type "list", dict := k2, data := .seq items nl, slots := k4 } := Heap.get?_push_of_some _ g0
        have c8 := F.sub_list_set
        have c9 := F.sub_list_frozenset
        have c10 : (Value.type "list" == Value.type "dict") = false := by decide
        have hl1 : (s.heap.push (setN w)).IsList q items := ⟨_, g3, rfl, nl, rfl⟩
        unfold Builtin.«set.__init__» noKeywords Builtin.Frozenset.updateFrom
        generalize hPI : pyIter = PI
        wp_walk
        subst hPI
        refine wpAny_pyIter_list hl1 ?_
        refine wpAny_bind (wpAny_runValue ?_)
        have lq : q < s.heap.objs.size := Heap.lt_size g0
        have nh3 : A.in1.in1.in1.handled = none := by simp [nh]
        have sz1 : (s.heap.push (setN w)).objs.size = s.heap.objs.size + 1 := Heap.size_push ..
        have ne1 : q ≠ (s.heap.push (setN w)).objs.size := by rw [sz1]; exact Nat.ne_of_lt (Nat.lt_succ_of_lt lq)
        have nS : s.heap.objs.size ∉ [(s.heap.push (setN w)).objs.size, q] := by
          rw [sz1]
          simp only [List.mem_cons, List.not_mem_nil, or_false, not_or]
          exact ⟨Nat.ne_of_lt (Nat.lt_succ_self _), Nat.ne_of_gt lq⟩
        have val : ∀ (i : Nat) (v : Value), items[i]? = some v → ∃ k t, xs[i]? = some k ∧ v = .int k t := fun i v hv => by
          have lt : i < xs.length := by rw [← isz]; exact (Array.getElem?_eq_some_iff.mp hv).1
          obtain ⟨t, e⟩ := PyProof.Rows.IntsAre.int_at hi i v (by rw [Array.getElem?_toList]; exact hv)
          exact ⟨xs[i], t, List.getElem?_eq_getElem lt, by rw [e, List.getD_eq_getElem?_getD, List.getElem?_eq_getElem lt]; rfl⟩
        refine set_update_ints ((Walks.list nh3 _ q ne1 items).toS) s.heap.objs.size nS xs isz few val (items.size - 0) 0 _ (by omega) (Nat.zero_le _)
          ⟨⟨_, Heap.get?_push_size _ rfl, rfl, rfl⟩, (hl1.push _)⟩ ⟨0, Nat.le_refl _, setR_new_at (Heap.get?_push_of_some _ h0)⟩ fun s3 c3 mv le3 R3 => ?_
        obtain ⟨h', g', d', tk', os'⟩ := s3
        have eg : g' = s.gens := mv.gens
        have ed : d' = s.drawn := mv.drawn
        have eo : os' = s.os := mv.os
        subst eg; subst ed; subst eo
        show wpAny _ _ _ _ _ _
        refine wpAny_pure ?_
        show wpAny _ _ (ret Value.none) _ _ _
        rw [isz] at le3
        refine wpAny_pure ⟨rfl, h', tk', c3, rfl, R3, le3, fun b o z => ?_⟩
        have lb : b < s.heap.objs.size := Heap.lt_size z
        refine mv.heap b o ?_ (Heap.get?_push_of_some _ (Heap.get?_push_of_some _ z))
        rw [sz1]
        simp only [List.mem_cons, List.not_mem_nil, or_false, not_or]
        exact ⟨Nat.ne_of_lt lb, Nat.ne_of_lt (Nat.lt_succ_of_lt lb)⟩
      · cases r2 with
        | error e => exact hr2
        | ok fl2 =>
          cases fl2 with
          | ret r =>
            obtain ⟨rfl, h', tk, c3, rfl, R3, le3, kp⟩ := hr2
            repeat (any_goals (first | assumption | wp_step))
            exact h _ _ _ R3 le3 kp
          | _ => exact hr2.elim
    | _ => exact hr.elim
end
section
open PySem.Spec PyProof.Rows
variable {X : Cx} {w : World}
def rSetInts (K : PySem.W.Frag) (w : World) : List V → Hp → VK → Prop := fun xs H Q => ∃ (q : Addr) (ns : List Int), xs = [V.ref q] ∧ SqL K H q (ns.map V.int) ∧ ns.length < 1000 ∧ ∀ a c, H a = none → c ≤ ns.length → Q (.ref a) (upd H a (SetO w a (fun j => decide (j ∈ ns)) c))
theorem cr_setInts (hw : X.w = w) (hc : X.calm = true) : CallR X (.type "set") (rSetInts X.K w) := by
  subst hw
  intro pins s σ H xs us Q I r h
  obtain ⟨q, ns, rfl, hq, hz, k⟩ := h
  rw [Vals.ref1 r]
  obtain ⟨its, rv, pl, _⟩ := I.list hq
  refine ti_call (P := X.prog) (w := X.w) (I.ok.hd hc) pl.isList (xs := ns) (by simpa using rv.ints) (by unfold scanBound; omega) fun h' tk c R le kp => ?_
  exact ⟨.ref s.heap.objs.size, upd H s.heap.objs.size (SetO X.w s.heap.objs.size (fun j => decide (j ∈ ns)) c), I.laid (t' := tk) kp (Nat.le_refl _) (setO_new R), rfl, k _ c (I.hok.fresh (Nat.le_refl _)) le⟩
theorem cr_sortedSetW (hw : X.w = w) (hc : X.calm = true) : CallR X (.builtin "sorted") (rSortedSet w) := by
  subst hw
  exact cr_sortedSet hc
end

/-! ### operators that an own class defines -/
section
open PySem.W PySem.Calls PyProof.Rows
variable {prog : Program} {w : World} {A : Around} {E : Value → Shared → Prop} {s : Shared} {K : PySem.W.Frag} {x y C f r : Addr} {ox oy : Obj} {od : Option Obj} {nm : String}
/-- a op b, two instances of one class -/
theorem b1_same {b : Value} {Q : Value → Shared → Prop} (X : K.In s.heap) (I : InstAt s.heap x ox C od) (hb : Looks (model prog w) s.heap (typeOf b) (.ref C)) (hc : selfFirst K C = true)
    (hs : findIn K (.ref C) (PySem.dunder nm) = some (some (.ref f))) (hf : isFn K (.ref f) = true) (h : wpAny (model prog w) A (call (.ref f) [.ref x, b]) (PySem.W.CmpBack Q) E s) :
    wpAny (model prog w) A (binaryOp1 nm (.ref x) b) (fun o s' => ∃ v, o = some v ∧ Q v s') E s := by
  obtain ⟨cd, rest, hcd, hm⟩ := ksp_first hc
  have one := ksp_try X I hs hf h
  unfold binaryOp1
  refine wpAny_bind (I.type.here (wpAny_bind (hb.here (wpAny_bind ((fills_K X hcd hm hs).here ?_)))))
  simp only [beq_self_eq_true, if_true]
  refine wpAny_bind (wpAny_pure ?_)
  simp only [Bool.and_false, Bool.false_eq_true, if_false, Bool.false_and]
  refine wpAny_bind (wpAny_pure ?_)
  simp only [Bool.false_eq_true, if_false]
  refine wpAny_bind (wpAny_mono one (fun o s' ho => ?_) fun _ _ e => e)
  obtain ⟨v, rfl, hq⟩ := ho
  exact wpAny_pure ⟨v, rfl, hq⟩
/-- a op n, n an int -/
theorem b1_int {i : Int} {t : Tok} {fo ro rc : Option Value} {Q : Value → Shared → Prop} (X : K.In s.heap) (I : InstAt s.heap x ox C od) (hc : selfFirst K C = true)
    (hs : findIn K (.ref C) (PySem.dunder nm) = some (some (.ref f))) (hf : isFn K (.ref f) = true) (hr : findIn K (.ref C) (dunderR nm) = some rc) (hp : rc = none ∨ ∃ g : Addr, rc = some (.ref g))
    (h1 : findIn K (.type "int") (PySem.dunder nm) = some fo) (h2 : findIn K (.type "int") (dunderR nm) = some ro) (hsub : subIn K (.type "int") (.ref C) = some false)
    (h : wpAny (model prog w) A (call (.ref f) [.ref x, .int i t]) (PySem.W.CmpBack Q) E s) : wpAny (model prog w) A (binaryOp1 nm (.ref x) (.int i t)) (fun o s' => ∃ v, o = some v ∧ Q v s') E s := by
  obtain ⟨cd, rest, hcd, hm⟩ := ksp_first hc
  have one := ksp_try X I hs hf h
  obtain ⟨hh, g, d, tt, os⟩ := s
  have L1 : Looks (model prog w) hh (typeOf (.ref x)) (.ref C) := I.type
  have L2 : Looks (model prog w) hh (typeOf (.int i t)) (.type "int") := Looks.of_pure rfl
  have L3 : Looks (model prog w) hh (fillsNumberSlot (.ref C) nm) true := fills_K X hcd hm hs
  have L4 : Looks (model prog w) hh (fillsNumberSlot (.type "int") nm) ((fo.isSome && !isSeqSlot fo) || (ro.isSome && !isSeqSlot ro)) := ksp_fillsT X h1 h2
  have L5 : Looks (model prog w) hh (isSubtype (.type "int") (.ref C)) false := looks_subIn X hsub
  have L6 : Looks (model prog w) hh (numberSlotInPython (.ref C) nm) true := ksp_inPy X hs hr hp
  have L7 : Looks (model prog w) hh (numberSlotInPython (.type "int") nm) false := Looks.of_pure rfl
  have L8 : Looks (model prog w) hh (typeLookup (.type "int") (dunderR nm)) ro := looks_findIn X h2
  generalize ((fo.isSome && !isSeqSlot fo) || (ro.isSome && !isSeqSlot ro)) = right at L4
  have hne : (Value.ref C == Value.type "int") = false := Bool.eq_false_iff.mpr fun q => by cases beq_iff_eq.mp q
  unfold binaryOp1
  refine wpAny_bind (L1.at (wpAny_bind (L2.at (wpAny_bind (L3.at ?_)))))
  simp only [hne, Bool.false_eq_true, if_false]
  cases right with
  | false =>
    ksp_lk
    refine wpAny_mono one (fun o s' ho => ?_) fun _ _ e => e
    obtain ⟨v, rfl, hq⟩ := ho
    ksp_lk
    exact ⟨v, rfl, hq⟩
  | true =>
    ksp_lk
    refine wpAny_mono one (fun o s' ho => ?_) fun _ _ e => e
    obtain ⟨v, rfl, hq⟩ := ho
    ksp_lk
    exact ⟨v, rfl, hq⟩
/-- n op a, n an int: int's own way declines, the reflected one serves -/
theorem b1_rint {i : Int} {t : Tok} {id : String} {bi : Builtin} {Q : Value → Shared → Prop} (X : K.In s.heap) (I : InstAt s.heap y oy C od) (hc : selfFirst K C = true)
    (hs : findIn K (.ref C) (PySem.dunder nm) = some (some (.ref f))) (hr : findIn K (.ref C) (dunderR nm) = some (some (.ref r))) (hf : isFn K (.ref r) = true)
    (hfi : fillsNumberSlot (.type "int") nm = pure true) (hsub : subIn K (.ref C) (.type "int") = some false) (slot : Slot "int" (PySem.dunder nm) id) (entry : entryFor table id = some bi)
    (args : argsOk id ⟨[.int i t, .ref y], []⟩) (dec : wpAny (model prog w) A.in1 (bi ⟨[.int i t, .ref y], []⟩) (fun fin s' => fin = .done (.ret .notImplemented) ∧ s' = s) E s)
    (h : wpAny (model prog w) A (call (.ref r) [.ref y, .int i t]) (PySem.W.CmpBack Q) E s) : wpAny (model prog w) A (binaryOp1 nm (.int i t) (.ref y)) (fun o s' => ∃ v, o = some v ∧ Q v s') E s := by
  obtain ⟨cd, rest, hcd, hm⟩ := ksp_first hc
  have one := ksp_try X I hr hf h
  have two : wpAny (model prog w) A (call (.builtin id) [.int i t, .ref y]) (fun v s' => v = .notImplemented ∧ s' = s) E s :=
    wpAny_call_entry slot rfl entry (wpAny_mono dec (fun fin s' z => ⟨_, z.1, rfl, z.2⟩) fun _ _ e => e) args
  obtain ⟨hh, g, d, tt, os⟩ := s
  have L1 : Looks (model prog w) hh (typeOf (.ref y)) (.ref C) := I.type
  have L2 : Looks (model prog w) hh (typeOf (.int i t)) (.type "int") := Looks.of_pure rfl
  have L3 : Looks (model prog w) hh (fillsNumberSlot (.ref C) nm) true := fills_K X hcd hm hs
  have L4 : Looks (model prog w) hh (fillsNumberSlot (.type "int") nm) true := Looks.of_pure hfi
  have L5 : Looks (model prog w) hh (isSubtype (.ref C) (.type "int")) false := looks_subIn X hsub
  have L7 : Looks (model prog w) hh (numberSlotInPython (.type "int") nm) false := Looks.of_pure rfl
  have hne : (Value.type "int" == Value.ref C) = false := Bool.eq_false_iff.mpr fun q => by cases beq_iff_eq.mp q
  unfold binaryOp1
  refine wpAny_bind (L2.at (wpAny_bind (L1.at (wpAny_bind (L4.at ?_)))))
  simp only [hne, Bool.false_eq_true, if_false]
  ksp_lk
  refine wpAny_tryMethod_declines (s := ⟨hh, g, d, tt, os⟩) (T := "int") rfl slot (wpAny_mono two (fun v s' z => ⟨z.1, ?_⟩) fun _ _ e => e)
  obtain ⟨_, rfl⟩ := z
  ksp_lk
  refine wpAny_mono one (fun o s' ho => ?_) fun _ _ e => e
  obtain ⟨v, rfl, hq⟩ := ho
  ksp_lk
  exact ⟨v, rfl, hq⟩
/-- int's own way with an instance declines -/
theorem int_declines {i : Int} {t : Tok} {dx : Addr} {name : String} {g : Int → Int → Sem Fin} (hy : s.heap.get? y = some (instObj C dx)) :
    wpAny (model prog w) A (Builtin.Int.intBinary name g false ⟨[.int i t, .ref y], []⟩) (fun fin s' => fin = .done (.ret .notImplemented) ∧ s' = s) E s := by
  obtain ⟨hh, gg, d, tt, os⟩ := s
  wp_walk using wpAny_load hy
  exact ⟨rfl, rfl⟩
theorem fillsI_no {M : Model} {h : Heap} {add : Bool} (X : K.In h) (hn : noI K C nm = true) : Looks M h (fillsInplaceSlot (.ref C) nm add) false := by
  obtain ⟨cd, hcd, hall⟩ := any_some hn
  intro A Q E s k q
  have Lm : Looks M h (mroOf (.ref C)) cd.mro := (looks_clsIn X hcd).andThen (f := fun cd => pure cd.mro) .now
  unfold fillsInplaceSlot
  refine wpAny_bind (Lm A _ E s k ?_)
  have X' : K.In s.heap := X.keeps k
  generalize cd.mro = l at hall
  induction l with
  | nil => exact wpAny_pure q
  | cons c l ih =>
    rw [List.all_cons, Bool.and_eq_true] at hall
    rw [List.anyM_cons]
    refine wpAny_bind (wpAny_bind ((looks_findIn X' (beq_iff_eq.mp hall.1)).here ?_))
    refine wpAny_pure ?_
    exact ih hall.2
end
section
open PySem.Spec PyProof.Rows
variable {X : Cx} {CX : CXT} {k : Nat} {f r C : Addr} {fd : FuncData} {ps : List Str} {sp : Sp} {E : XK} {nm : String} {op : Operator}
/-- what the written part says of a class with __op__ (f) and __rop__ (r) -/
structure OwnOp (K : PySem.W.Frag) (C f r : Addr) (nm : String) : Prop where
  hc : PySem.W.selfFirst K C = true
  hs : PySem.W.findIn K (.ref C) (PySem.dunder nm) = some (some (.ref f))
  hf : PySem.W.isFn K (.ref f) = true
  hr : PySem.W.findIn K (.ref C) (dunderR nm) = some (some (.ref r))
  hg : PySem.W.isFn K (.ref r) = true
  h1 : ∃ fo, PySem.W.findIn K (.type "int") (PySem.dunder nm) = some fo
  h2 : ∃ ro, PySem.W.findIn K (.type "int") (dunderR nm) = some ro
  sub : PySem.W.subIn K (.type "int") (.ref C) = some false
  sub2 : PySem.W.subIn K (.ref C) (.type "int") = some false
theorem back_of {pins : List (Addr × Obj)} {σ : L2.St} {Q : VK} {u : Value} {s : Shared} (h : EP X pins σ Q u s) : PySem.W.CmpBack (EP X pins σ Q) u s := by
  obtain ⟨v, H', I, rv, q⟩ := h
  have h : EP X pins σ Q u s := ⟨v, H', I, rv, q⟩
  cases v with
  | non => cases rv; exact h
  | bl b => cases rv; exact h
  | int i => obtain ⟨t, rfl⟩ := rv; exact h
  | str i => obtain ⟨t, rfl⟩ := rv; exact h
  | byt i => obtain ⟨t, rfl⟩ := rv; exact h
  | flt i => obtain ⟨t, rfl⟩ := rv; exact h
  | ref a => cases rv; exact h
  | ty n => cases rv; exact h
/-- a op b: the operand's own method -/
def rOwn (C : Addr) (sp : Sp) (E : XK) : R2 := fun x y H Q => Wd (∃ a dx fs, x = .ref a ∧ H a = some (.ins C dx fs) ∧ ((∃ i, y = .int i) ∨ ∃ b dy gs, y = .ref b ∧ H b = some (.ins C dy gs)) ∧ sp [x, y] H Q E)
theorem own1 (O : OwnOp X.K C f r nm) (F : FnOk X.prog X.w X.K X.mg X.base CX k f fd ps sp) (hrm : Room k X.A) (hb : Binds X.K fd ps []) (hx : Passes CX X E) {pins : List (Addr × Obj)} {s : Shared} {σ : L2.St} {H : Hp} {x y : V} {v u : Value} {Q : VK}
    (I : Inv X pins σ H s) (rx : RelV x v) (ry : RelV y u) (h : rOwn C sp E x y H Q) : wpAny (model X.prog X.w) X.A (binaryOp1 nm v u) (fun o s' => ∃ z, o = some z ∧ EP X pins σ Q z s') X.xe s := by
  obtain ⟨a, dx, fs, rfl, ha, hy, h⟩ := h.ok
  obtain rfl : v = Value.ref a := rx
  obtain ⟨mA, O1, _⟩ := ins_get I.hok ha
  obtain ⟨od, J, _⟩ := O1.look
  have fin : wpAny (model X.prog X.w) X.A (call (.ref f) [.ref a, u]) (PySem.W.CmpBack (EP X pins σ Q)) X.xe s :=
    thn (run_fn (us := [.ref a, u]) (vs := [.ref a, y]) F hrm hb .nil hx I (.cons rfl (.cons ry .nil)) h) fun _ _ z => back_of z
  rcases hy with ⟨i, rfl⟩ | ⟨b, dy, gs, rfl, hb2⟩
  · obtain ⟨t, rfl⟩ := ry
    obtain ⟨fo, h1⟩ := O.h1
    obtain ⟨ro, h2⟩ := O.h2
    exact b1_int I.kIn J O.hc O.hs O.hf O.hr (.inr ⟨r, rfl⟩) h1 h2 O.sub fin
  · obtain rfl : u = Value.ref b := ry
    obtain ⟨mB, O2, _⟩ := ins_get I.hok hb2
    obtain ⟨od2, J2, _⟩ := O2.look
    exact b1_same I.kIn J J2.type O.hc O.hs O.hf fin
theorem op_own (hop : op.info.2 = nm) (O : OwnOp X.K C f r nm) (F : FnOk X.prog X.w X.K X.mg X.base CX k f fd ps sp) (hrm : Room k X.A) (hb : Binds X.K fd ps []) (hx : Passes CX X E) : OpR X (binaryOp op) (rOwn C sp E) := by
  intro pins s σ H x y v u Q I rx ry h
  have one := own1 O F hrm hb hx I rx ry h
  rcases hi : op.info with ⟨sym, nm'⟩
  rw [hi] at hop
  cases hop
  simp only [binaryOp, hi]
  refine wpAny_holding (wpAny_bind (wpAny_mono one (fun o s' ho => ?_) fun _ _ e => e))
  obtain ⟨z, rfl, q⟩ := ho
  exact wpAny_pure q
theorem iop_own (hop : op.info.2 = nm) (O : OwnOp X.K C f r nm) (hn : noI X.K C nm = true) (F : FnOk X.prog X.w X.K X.mg X.base CX k f fd ps sp) (hrm : Room k X.A) (hb : Binds X.K fd ps []) (hx : Passes CX X E) : PIp X op (rOwn C sp E) := by
  intro pins s σ H x y v u Q I rx ry h
  have one := own1 O F hrm hb hx I rx ry h
  obtain ⟨a, dx, fs, rfl, ha, hy, h⟩ := h.ok
  obtain rfl : v = Value.ref a := rx
  obtain ⟨mA, O1, _⟩ := ins_get I.hok ha
  obtain ⟨od, J, _⟩ := O1.look
  subst hop
  unfold inplaceOp
  refine wpAny_holding (wpAny_bind (J.type.here (wpAny_bind ((fillsI_no I.kIn hn).here ?_))))
  simp only [Bool.false_eq_true, if_false]
  refine wpAny_bind (wpAny_mono one (fun o s' ho => ?_) fun _ _ e => e)
  obtain ⟨z, rfl, q⟩ := ho
  exact wpAny_pure q
/-- n op a: the reflected method -/
def rROwn (C : Addr) (sp : Sp) (E : XK) : R2 := fun x y H Q => Wd (∃ (i : Int) (b dy : Addr) (gs : List (Str × V)), x = .int i ∧ y = .ref b ∧ H b = some (.ins C dy gs) ∧ sp [y, x] H Q E)
theorem op_rown {id : String} {bi : Builtin} {nm2 : String} {g : Int → Int → Sem PySem.Fin} (hop : op.info.2 = nm) (O : OwnOp X.K C f r nm) (hfi : fillsNumberSlot (.type "int") nm = pure true) (slot : Slot "int" (PySem.dunder nm) id) (entry : entryFor table id = some bi)
    (args : ∀ p q, argsOk id ⟨[p, q], []⟩) (hbi : bi = Builtin.Int.intBinary nm2 g false) (F : FnOk X.prog X.w X.K X.mg X.base CX k r fd ps sp) (hrm : Room k X.A) (hb : Binds X.K fd ps []) (hx : Passes CX X E) : OpR X (binaryOp op) (rROwn C sp E) := by
  intro pins s σ H x y v u Q I rx ry h
  obtain ⟨i, b, dy, gs, rfl, rfl, hb2, h⟩ := h.ok
  obtain ⟨t, rfl⟩ := rx
  obtain rfl : u = Value.ref b := ry
  obtain ⟨mB, O2, _⟩ := ins_get I.hok hb2
  obtain ⟨od2, J2, _⟩ := O2.look
  have fin : wpAny (model X.prog X.w) X.A (call (.ref r) [.ref b, .int i t]) (PySem.W.CmpBack (EP X pins σ Q)) X.xe s :=
    thn (run_fn (us := [.ref b, .int i t]) (vs := [.ref b, .int i]) F hrm hb .nil hx I (.cons rfl (.cons ⟨t, rfl⟩ .nil)) h) fun _ _ z => back_of z
  rcases hi : op.info with ⟨sym, nm'⟩
  rw [hi] at hop
  cases hop
  subst hbi
  have one := b1_rint (prog := X.prog) (w := X.w) (A := X.A) (E := X.xe) (Q := EP X pins σ Q) I.kIn J2 O.hc O.hs O.hr O.hg hfi O.sub2 slot entry (args _ _) (int_declines J2.at_) fin
  simp only [binaryOp, hi]
  refine wpAny_holding (wpAny_bind (wpAny_mono one (fun o s' ho => ?_) fun _ _ e => e))
  obtain ⟨z, rfl, q⟩ := ho
  exact wpAny_pure q
/-- -a -/
theorem un_own (hs : PySem.W.findIn X.K (.ref C) "__neg__" = some (some (.ref f))) (hf : PySem.W.isFn X.K (.ref f) = true) (F : FnOk X.prog X.w X.K X.mg X.base CX k f fd ps sp) (hrm : Room k X.A) (hb : Binds X.K fd ps []) (hx : Passes CX X E) :
    UnR X (unaryOp .USub) (fun x H Q => Wd (∃ a dx fs, x = .ref a ∧ H a = some (.ins C dx fs) ∧ sp [x] H Q E)) := by
  intro pins s σ H x v Q I rx h
  obtain ⟨a, dx, fs, rfl, ha, h⟩ := h.ok
  obtain rfl : v = Value.ref a := rx
  obtain ⟨mA, O1, _⟩ := ins_get I.hok ha
  obtain ⟨od, J, _⟩ := O1.look
  obtain ⟨m, fr⟩ := I.fr
  exact PySem.W.ksp_neg fr I.mod.kin J hs hf (run_fn (us := [.ref a]) (vs := [.ref a]) F hrm hb .nil hx I (.cons rfl .nil) h)
theorem run_fn1 {pins : List (Addr × Obj)} {σ : L2.St} {H : Hp} {s : Shared} {Q : VK} {us : List Value} {vs : List V} (F : FnOk X.prog X.w X.K X.mg X.base CX k f fd ps sp) (hr : Room (k + 1) X.A) (hb : Binds X.K fd ps []) (hx : Passes CX X E)
    (I : Inv X pins σ H s) (rv : Vals vs us) (h : sp vs H Q E) : wpAny (model X.prog X.w) X.A.in1 (call (.ref f) us) (EP X pins σ Q) X.xe s := by
  have hl : us.length = ps.length := by rw [← rv.length]; exact F.len _ _ _ _ h
  have b := hb s us I.kIn (by rw [List.append_nil]; exact hl)
  rw [List.append_nil] at b
  refine wpAny_call (codeAny_mono (F.run X.A.in1 X.stack s H ⟨us, []⟩ us vs Q E hr.in1 I.env0.in1 b rv h) fun o s' z => ?_)
  cases o with
  | error e => exact hx pins σ H s e s' I z
  | ok fl =>
    cases fl with
    | ret u => exact I.after z
    | next => exact z.elim
    | brk => exact z.elim
    | cont => exact z.elim
/-- abs(a) -/
theorem call_absO (hs : PySem.W.findIn X.K (.ref C) "__abs__" = some (some (.ref f))) (hf : PySem.W.isFn X.K (.ref f) = true) (F : FnOk X.prog X.w X.K X.mg X.base CX k f fd ps sp) (hrm : Room (k + 1) X.A) (hb : Binds X.K fd ps []) (hx : Passes CX X E) :
    CallR X (.builtin "abs") (fun xs H Q => Wd (∃ a dx fs, xs = [.ref a] ∧ H a = some (.ins C dx fs) ∧ sp [.ref a] H Q E)) := by
  intro pins s σ H xs us Q I rv h
  obtain ⟨a, dx, fs, rfl, ha, h⟩ := h.ok
  obtain ⟨u, rfl, ru⟩ := vals1 rv
  obtain rfl : u = Value.ref a := ru
  obtain ⟨mA, O1, _⟩ := ins_get I.hok ha
  obtain ⟨od, J, _⟩ := O1.look
  refine PySem.Calls.call_function_entry kind_abs plain_abs entry_abs (args_abs _) ?_
  unfold Builtin.abs
  refine wpAny_bind (m := oneArg "abs" _) (wpAny_pure ?_)
  refine wpAny_bind (m := callSpecial? (.ref a) (Str.ofString "__abs__")) (PySem.W.special_fn I.kIn J hs (beq_iff_eq.mp hf) ?_)
  exact thn (run_fn1 (us := [.ref a]) (vs := [.ref a]) F hrm hb hx I (.cons rfl .nil) h) fun v s' z => wpAny_pure ⟨v, rfl, z⟩
def tSMeth (C : Addr) (sp : Sp) (E : XK) (ta : TE) (t : TA) : TE := fun σ H Q => ta σ H fun x H1 => x = .ref C ∧ t σ H1 fun vs H2 => sp vs H2 Q E
theorem pe_smeth {pl : Sem Bool} {p : Addr} {o e : Expr} {es : List Expr} {m : Str} {apos pos : Pos} {ta : TE} {t : TA} (he : PE X o ta) (S : SMet X.K C m p f) (F : FnOk X.prog X.w X.K X.mg X.base CX k f fd ps sp) (hrm : Room k X.A) (hb : Binds X.K fd ps [])
    (hx : Passes CX X E) (ha : PA X (e :: es) t) (hst : starEach (e :: es) X.env = (false, eval e X.env) :: starEach es X.env := by rfl) (hpl : (backTo pos (starEach es X.env)).any (·.1) = false := by rfl)
    (ht : eval (.Call (.Attribute o m apos) (e :: es) [] pos) X.env = (eval o X.env >>= fun ov => standAt apos.atName >>= fun _ => holding [ov] (getMethod ov m pl) >>= fun (f, first) =>
      callWith pos f first (backTo pos (starEach (e :: es) X.env)) (backToKw pos (keywordEach [] X.env))) := by rfl) :
    PE X (.Call (.Attribute o m apos) (e :: es) [] pos) (tSMeth C sp E ta t) := by
  refine ⟨fun pins s σ H Q I h => ?_⟩
  refine PySem.W.methodCall_KW (pl := pl) (thn (he.run pins s σ H _ I h) fun u s1 ⟨x, H1, I1, rx, ex, q⟩ => ?_) ht
  subst ex
  obtain rfl : u = Value.ref C := rx
  obtain ⟨rest, hp⟩ := S.rc
  refine PySem.W.method_cls I1.kIn S.ga (PySem.W.cls_bind I1.kIn S.rd S.at_ (wpAny_call (PySem.W.sm_get (s := { s1 with toks := s1.toks + 1 }) I1.kIn hp (PySem.W.handed_on rfl ?_))))
  have I2 := I1.tok (s1.toks + 1)
  refine PySem.W.callWith_K (first := []) (h₀ := X.base) I.ok.mod.kin S.kp (thn (ha.run pos pins _ σ H1 _ I2 q) fun us s2 ⟨vs, H2, I3, rv, q2⟩ => ⟨I3.kIn, ?_⟩) hst hpl
  exact run_fn (us := us) (vs := vs) F hrm hb .nil hx I3 rv (by rw [List.append_nil]; exact q2)
end

/-! ### dicts with tuple keys: pop(k), del d[k], sorted(d) -/
section
open PySem DT L2.DX
variable {prog : Program} {w : World} {K : Type} [DecidableEq K] {knd : HeapKind prog w K}
theorem meetsPop1 {d b : Addr} {k : K} (hd : (d == sysModules) = false) :
    MeetsIn prog w (Builtin.«dict.pop» ⟨[.ref d, .ref b], []⟩) (fun A R s => ∃ xs, knd.room A.in1 ∧ knd.is s.heap k b ∧ s.heap.DictOfH knd d xs ∧ xs.length ≤ sizeLine ∧ atKey xs k ≠ none ∧
      ∀ p, atKey xs k = some p → ∀ h' tk, h'.DictOfH knd d (dropH xs k) → Heap.SameBut d s.heap h' → R (.ok (.ret p.2)) { s with heap := h', toks := tk }) :=
  .of_wp fun A R s ⟨xs, hu, hkey, hm, hsz, hthere, hsome⟩ => by
    obtain ⟨o, es, ep, ho, hc, hdat, he, his, hn⟩ := id hm
    have hes : es.size = xs.length := size_of_entries he
    have hpart : (keyPart (Value.ref b)).isSome = false := rfl
    unfold Builtin.«dict.pop»
    refine wpAny_bind ?_
    unfold Builtin.Dict.keyAndDefault
    refine wpAny_bind (wpAny_notOrdered_dict hm.typeIs ?_)
    show wpAny _ _ (pure (d, Value.ref b, none)) _ _ s
    refine wpAny_pure ?_
    simp only [hpart, Bool.false_eq_true, if_false]
    refine wpAny_bind (wpAny_dictEntries ho hdat (wpAny_bind (wpAny_pure ?_)))
    cases hem : es.isEmpty with
    | true =>
      have z : es.size = 0 := by simpa using hem
      have h0 : xs = [] := List.length_eq_zero_iff.mp (by omega)
      exact absurd (by rw [h0]; rfl) hthere
    | false =>
      simp only [Bool.false_eq_true, if_false]
      refine wpAny_bind (takeH hu hkey hm hsz (fun hno => absurd hno hthere) fun p e hp hev h' hm' hs' => ?_)
      simp only [Option.isNone_some, Bool.false_eq_true, if_false]
      exact wpAny_bind (wpAny_letGo (wpAny_pure ⟨e.val, rfl, by rw [hev]; exact hsome p hp h' _ hm' hs'⟩))
theorem meetsDelT {d b : Addr} {k : K} :
    MeetsIn prog w (Builtin.«dict.__delitem__» ⟨[.ref d, .ref b], []⟩) (fun A R s => ∃ xs, knd.room A.in1 ∧ knd.is s.heap k b ∧ s.heap.DictOfH knd d xs ∧ xs.length ≤ sizeLine ∧ atKey xs k ≠ none ∧
      ∀ h' tk, h'.DictOfH knd d (dropH xs k) → Heap.SameBut d s.heap h' → R (.ok (.ret .none)) { s with heap := h', toks := tk }) :=
  .of_wp fun A R s ⟨xs, hu, hkey, hm, hsz, hthere, h⟩ => by
    unfold Builtin.«dict.__delitem__»
    refine wpAny_bind ?_
    unfold Builtin.Dict.dictSlotArgs
    refine wpAny_bind (wpAny_notOrdered_dict hm.typeIs ?_)
    show wpAny _ _ (pure (Value.ref d, Value.ref b)) _ _ s
    refine wpAny_pure ?_
    show wpAny _ _ (Builtin.Dict.takeOut d (.ref b) >>= _) _ _ s
    refine wpAny_bind (takeH hu hkey hm hsz (fun hno => absurd hno hthere) fun p e hp hev h' hm' hs' => ?_)
    exact wpAny_bind (wpAny_letGo (wpAny_pure ⟨.none, rfl, h h' _ hm' hs'⟩))
end
section
open PySem.Spec PyProof.Rows L2.DX
variable {X : Cx}
def rPopT1 : V → List V → Hp → VK → Prop := fun x xs H Q => ∃ (a : Addr) (kvs : List (List L2.Key × V)) (k : List L2.Key) (b : Addr) (v : V), x = .ref a ∧ xs = [.ref b] ∧ H a = some (.dT kvs) ∧ H b = some (.tup (k.map kV)) ∧ valV kvs k = some v ∧ Q v (upd H a (.dT (dropK kvs k)))
theorem mt_popT1 (hu : X.A.units + 1 < cLine) : MtR X "dict.pop" rPopT1 := by
  intro pins s σ H x xs v us Q I rx rxs h
  obtain ⟨a, kvs, k, b, v0, rfl, rfl, ha, hb, ev, q⟩ := h
  cases rx
  obtain ⟨u1, rfl, r1⟩ := vals1 rxs
  cases r1
  obtain ⟨z, hd, xs', rel, dd⟩ := dt_of I.hok ha
  have hz : xs'.length ≤ sizeLine := by rw [← Paired.length rel]; exact z
  have r := rel.val k
  rw [ev] at r
  refine call_meetsIn PySem.F.slot_dict_pop dd.typeIs PySem.F.entry_dict_pop (PySem.F.args_dict_pop_2 _ _) (meetsPop1 (knd := tupleKind (mixKind X.prog X.w)) (k := k) hd)
    ⟨xs', tupleKind_room_in1 hu, key_of I.hok hb, dd, hz, fun e => ?_, fun p hp h' tk dd' hs => ?_⟩
  · rw [e] at r
    exact r
  · rw [hp] at r
    obtain ⟨o, es, ep, hq, h2, h3, h4, _, h5⟩ := dd'
    have I2 : Inv X pins σ (upd H a (.dT (dropK kvs k))) { s with heap := h', toks := tk } :=
      d_write I (by rw [ha]; exact True.intro) hs ⟨o, hq⟩ ⟨Nat.le_trans (dropK_le kvs k) z, hd, _, (KT_drop k rel).keeps (fun c ys ec => (by rw [upd_ne (ne_of ec ha (fun z => nomatch z))]; exact ec)), o, es, ep, hq, h2, h3, h4, h5⟩
    exact ⟨v0, _, I2, r, q⟩
variable {o i : Expr} {tpos pos : Pos} {td ty : TE}
/-- del d[k], k a tuple -/
def sDDelT (td ty : TE) : TS := fun D σ H => td σ H fun x H1 => ty σ H1 fun y H2 => ∃ (a b : Addr) (kvs : List (List L2.Key × V)) (k : List L2.Key), x = .ref a ∧ y = .ref b ∧ H2 a = some (.dT kvs) ∧ H2 b = some (.tup (k.map kV)) ∧ (valV kvs k).isSome = true ∧ D.nx σ (upd H2 a (.dT (dropK kvs k)))
theorem ps_ddelT (hu : X.A.units + 1 < cLine) (ho : PE X o td) (hi : PE X i ty) : PS X (.Delete [.Subscript o i tpos] pos) (sDDelT td ty) := by
  refine ⟨fun pins s σ H D I h => ?_⟩
  refine wpAny_Delete (wpAny_deleteEach_cons (wpAny_delete_Subscript (thn (ho.run pins s σ H _ I h) fun u s1 ⟨x, H1, I1, rx, q1⟩ => thn (hi.run pins s1 σ H1 _ I1 q1) fun iv s2 ⟨y, H2, I2, ry, a, b, kvs, k, ex, ey, ha, hb, l, q2⟩ => ?_)))
  subst ex ey
  obtain rfl : u = Value.ref a := rx
  obtain rfl : iv = Value.ref b := ry
  obtain ⟨z, hd, xs', rel, dd⟩ := dt_of I2.hok ha
  have hz : xs'.length ≤ sizeLine := by rw [← Paired.length rel]; exact z
  have r := rel.val k
  refine wpAny_delItem_slot dd.typeIs (by decide) PySem.F.slot_dict_delitem
    (call_meetsIn PySem.F.slot_dict_delitem dd.typeIs PySem.F.entry_dict_delitem (PySem.F.args_dict_delitem_2 _ _) (meetsDelT (knd := tupleKind (mixKind X.prog X.w)) (k := k))
      ⟨xs', tupleKind_room_in1 hu, key_of I2.hok hb, dd, hz, fun e => ?_, fun h' tk dd' hs => wpAny_deleteEach_nil ⟨σ, _, ?_, q2⟩⟩)
  · rw [e] at r
    cases ev : valV kvs k with
    | none => rw [ev] at l; cases l
    | some v0 => rw [ev] at r; exact r
  · obtain ⟨o, es, ep, hq, h2, h3, h4, _, h5⟩ := dd'
    exact d_write I2 (by rw [ha]; exact True.intro) hs ⟨o, hq⟩ ⟨Nat.le_trans (dropK_le kvs k) z, hd, _, (KT_drop k rel).keeps (fun c ys ec => (by rw [upd_ne (ne_of ec ha (fun z => nomatch z))]; exact ec)), o, es, ep, hq, h2, h3, h4, h5⟩
end
/-- the two ints of the tuple that v is -/
def pairOf (H : Hp) : V → Int × Int
  | .ref b => match H b with
    | some (.tup [.int i, .int j]) => (i, j)
    | _ => (0, 0)
  | _ => (0, 0)
def adOf : Value → Addr
  | .ref a => a
  | _ => 0
theorem pairOf_at {H : Hp} {b : Addr} {i j : Int} (h : H b = some (.tup [.int i, .int j])) : pairOf H (.ref b) = (i, j) := by
  show (match H b with | some (.tup [.int i, .int j]) => (i, j) | _ => ((0, 0) : Int × Int)) = (i, j)
  rw [h]
abbrev kvT (es : List (Int × Int × V)) : List (List L2.Key × V) := es.map fun e => ([.inl e.1, .inl e.2.1], e.2.2)
theorem keysT {H : Hp} : ∀ {es : List (Int × Int × V)} {ks : List (List L2.Key × Addr × Value)}, Paired (fun (p : List L2.Key × V) (q : List L2.Key × Addr × Value) => p.1 = q.1 ∧ H q.2.1 = some (.tup (p.1.map kV)) ∧ RelV p.2 q.2.2) (kvT es) ks →
    (ks.map fun x => pairOf H (.ref x.2.1)) = es.map (fun e => (e.1, e.2.1)) ∧ ∀ x ∈ ks, ∃ i j, H x.2.1 = some (.tup [.int i, .int j])
  | [], ks, h => by
    cases h
    exact ⟨rfl, fun x hx => by cases hx⟩
  | e :: es, ks, h => by
    cases h with
    | cons a t =>
      obtain ⟨h1, h2⟩ := keysT t
      have hq := a.2.1
      refine ⟨?_, fun x hx => ?_⟩
      · rw [List.map_cons, List.map_cons, h1, pairOf_at hq]
      · rcases List.mem_cons.mp hx with rfl | hx
        · exact ⟨_, _, hq⟩
        · exact h2 x hx
section
open PySem.Spec PyProof.Rows L2.DX
variable {X : Cx}
/-- sorted(d), its keys pairs of ints -/
def rSortDT : List V → Hp → VK → Prop := fun xs H Q => Wd (∃ (d : Addr) (es : List (Int × Int × V)), xs = [.ref d] ∧ H d = some (.dT (kvT es)) ∧ ∀ (bs : List Addr) (ps : List (Int × Int)) (p : Addr), H p = none →
  All2 (fun b q => H b = some (.tup [.int q.1, .int q.2])) bs ps → ps.Perm (es.map fun e => (e.1, e.2.1)) → ps.Pairwise (fun a b => SrtO.lexB b a = false) → Q (.ref p) (upd H p (.lst (bs.map V.ref))))
theorem cr_sortedDT (hc : X.calm = true) : CallR X (.builtin "sorted") rSortDT := by
  intro pins s σ H xs us Q I r h
  obtain ⟨d, es, rfl, hd, q⟩ := h.ok
  obtain ⟨u, rfl, rx⟩ := vals1 r
  cases rx
  obtain ⟨z, hs, ks, pr, o, ens, ep, ho, hx, hdt, he, hn⟩ := (show ObjOk X.prog X.w H s.heap d (.dT (kvT es)) from I.hok d _ hd)
  have l1 : ens.size = ks.length := size_of_entries he
  have l2 : (kvT es).length = ks.length := Paired.length pr
  obtain ⟨k1, k2⟩ := keysT pr
  refine Calls.call_function_entry PyProof.Rows.kind_sorted PyProof.Rows.plain_sorted PyProof.Rows.entry_sorted (PyProof.Rows.args_sorted1 _) ?_
  unfold Builtin.«sorted»
  refine wpAny_bind (m := checkCount "sorted" 1 1 _) (wpAny_pure ?_)
  refine wpAny_bind (PySem.W.kdu_collect (A := X.A.in1) (kdl_raw hs hx hdt) (I.ok.hd hc) ho (by omega) fun h' tk acc hk it => ?_)
  have ea : acc.toList = ks.map fun x => Value.ref x.2.1 := by
    have hl : acc.toList.length = ks.length := by rw [Array.length_toList, it.1]; exact l1
    apply List.ext_getElem?
    intro j
    rw [List.getElem?_map]
    cases hj : acc.toList[j]? with
    | none =>
      have h1 := List.getElem?_eq_none_iff.mp hj
      rw [List.getElem?_eq_none (by omega)]
      rfl
    | some v =>
      obtain ⟨en, hen, hv⟩ := it.2 j v (by rw [← Array.getElem?_toList]; exact hj)
      have qe := entry_at he j
      rw [hen] at qe
      cases hb : ks[j]? with
      | none =>
        rw [hb] at qe
        exact nomatch (show some en = none from qe)
      | some b =>
        rw [hb] at qe
        have e2 : en = entryOfKey (tupleKind (mixKind X.prog X.w)) b := Option.some.inj qe
        rw [hv, e2]
        rfl
  have I1 : Inv X pins σ H { s with heap := h', toks := tk } := I.kept hk
  have hz : acc.toList.length ≤ sizeLine := by rw [ea, List.length_map]; omega
  refine wpAny_bind (wpAny_newList ?_ hz)
  have hoL : (h'.push (seqObj "list" acc.toList.toArray 0)).get? h'.objs.size = some (seqObj "list" acc.toList.toArray 0) := Heap.get?_push_size _ rfl
  show wpAny _ _ _ _ _ { s with heap := h'.push (seqObj "list" acc.toList.toArray 0), toks := tk }
  have hmem : ∀ v ∈ acc.toList, ∃ b i j, v = Value.ref b ∧ H b = some (.tup [.int i, .int j]) := fun v hv => by
    rw [ea] at hv
    obtain ⟨x, hx, rfl⟩ := List.mem_map.mp hv
    obtain ⟨i, j, e⟩ := k2 x hx
    exact ⟨_, i, j, rfl, e⟩
  refine wpAny_bind (wpAny_holding (wpAny_call_entry PyProof.Rows.slot_list_sort ⟨_, hoL, rfl⟩ PyProof.Rows.entry_list_sort
    (SrtO.list_sort_ord (SrtO.swo_lex fun u => pairOf H (backV u)) hoL hz (fun h2 => SrtO.pairs_sortableO (by omega) (fun v hv => ?_) fun o e c => ?_) fun out so sb => ⟨_, rfl, ?_⟩) (PyProof.Rows.args_list_sort _)))
  · obtain ⟨b, i, j, rfl, e⟩ := hmem v hv
    obtain ⟨_, its2, r2, o, ho, hc, n, hd⟩ := I1.hok _ _ e
    obtain ⟨u1, u2, rfl, ri, rj⟩ := vals2 r2
    obtain ⟨t1, rfl⟩ := ri
    obtain ⟨t2, rfl⟩ := rj
    have e3 : pairOf H (backV (Value.ref b)) = (i, j) := pairOf_at e
    rw [e3]
    exact ⟨b, o, t1, t2, n, rfl, Heap.get?_push_of_some _ ho, hc, hd⟩
  · rw [hoL] at e
    cases e
    exact absurd (Value.type.inj c) (by decide)
  · obtain ⟨e', he'⟩ := PyProof.Rows.sortedHeap_at (vs := acc.toList) (out := out.toArray) hoL
    have h3 : ∀ u ∈ out, ∃ b i j, u = Value.ref b ∧ H b = some (.tup [.int i, .int j]) := fun u hu => hmem u (sb.perm.mem_iff.mp hu)
    have hlen : (out.map backV).length ≤ sizeLine := by
      rw [List.length_map, sb.perm.length_eq]
      exact hz
    have eo : (out.map adOf).map V.ref = out.map backV := by
      rw [List.map_map]
      refine List.map_congr_left fun u hu => ?_
      obtain ⟨b, i, j, rfl, _⟩ := h3 u hu
      rfl
    have qq := q (out.map adOf) (out.map fun u => pairOf H (backV u)) h'.objs.size (I1.hok.fresh (Nat.le_refl _)) ⟨by rw [List.length_map, List.length_map], fun i x y hx hy => ?_⟩ ?_ ?_
    · rw [eo] at qq
      refine wpAny_pure ⟨_, rfl, .ref h'.objs.size, upd H h'.objs.size (.lst (out.map backV)), I1.laid (t' := tk) (fun b u e => ?_) (Nat.le_refl _)
        (show ObjOk X.prog X.w _ _ _ (.lst (out.map backV)) from ⟨hlen, out, e', vals_back (fun u hu => by obtain ⟨b, _, _, e, _⟩ := h3 u hu; exact ⟨b, e⟩), he'⟩), rfl, qq⟩
      have hb : b < h'.objs.size := Heap.lt_size e
      rw [PyProof.Rows.sortedHeap_old (Nat.ne_of_lt hb) (by rw [size_push']; exact Nat.lt_succ_of_lt hb)]
      exact Heap.get?_push_of_some _ e
    · rw [List.getElem?_map] at hx hy
      cases ho : out[i]? with
      | none => rw [ho] at hx; cases hx
      | some u =>
        rw [ho] at hx hy
        obtain ⟨b, m, n, rfl, e⟩ := h3 u (List.mem_of_getElem? ho)
        have hx : b = x := Option.some.inj hx
        have hy : pairOf H (.ref b) = y := Option.some.inj hy
        rw [pairOf_at e] at hy
        subst hx hy
        exact e
    · have p1 := sb.perm.map (fun u => pairOf H (backV u))
      rw [ea, List.map_map] at p1
      rw [← k1]
      exact p1
    · exact List.pairwise_map.mpr so
end

/-! ### x in o, o[i], o[i] = v, len(o) of an own class; a call of a local that holds a def -/
section
open PySem.Spec PyProof.Rows
variable {X : Cx} {CX : CXT} {k : Nat} {f C : Addr} {fd : FuncData} {ps : List Str} {sp : Sp} {E : L2.St → XK} {a b o i value : Expr} {ta tb td ty tv : TE} {pos pos' : Pos}
/-- the class's special method nm stands at f -/
structure OwnM (K : PySem.W.Frag) (C f : Addr) (nm : Str) : Prop where
  hs : PySem.W.findIn K (.ref C) nm = some (some (.ref f))
  hf : PySem.W.isFn K (.ref f) = true
theorem passAll {E : XK} (h : Passes CX X E) : ∀ σ : L2.St, PassesAt CX X σ ((fun _ => E) σ) := fun σ pins H s e s' I c => h pins σ H s e s' I c
theorem run_fn1S {pins : List (Addr × Obj)} {σ : L2.St} {H : Hp} {s : Shared} {Q : VK} {us : List Value} {vs : List V} (F : FnOk X.prog X.w X.K X.mg X.base CX k f fd ps sp) (hr : Room (k + 1) X.A) (hb : Binds X.K fd ps []) (hx : PassesAt CX X σ (E σ))
    (I : Inv X pins σ H s) (rv : Vals vs us) (h : sp vs H Q (E σ)) : wpAny (model X.prog X.w) X.A.in1 (call (.ref f) us) (EP X pins σ Q) X.xe s := by
  have hl : us.length = ps.length := by rw [← rv.length]; exact F.len _ _ _ _ h
  have b := hb s us I.kIn (by rw [List.append_nil]; exact hl)
  rw [List.append_nil] at b
  refine wpAny_call (codeAny_mono (F.run X.A.in1 X.stack s H ⟨us, []⟩ us vs Q (E σ) hr.in1 I.env0.in1 b rv h) fun o s' z => ?_)
  cases o with
  | error e => exact hx pins H s e s' I z
  | ok fl =>
    cases fl with
    | ret u => exact I.after z
    | next => exact z.elim
    | brk => exact z.elim
    | cont => exact z.elim
/-- x in o -/
def rOwnIn (C : Addr) (sp : Sp) (E : XK) : R2 := fun x y H Q => Wd (∃ p dx fs, y = .ref p ∧ H p = some (.ins C dx fs) ∧ sp [y, x] H (fun v H' => ∃ c, v = .bl c ∧ Q (.bl c) H') E)
theorem op_ownIn {E : XK} (O : OwnM X.K C f "__contains__") (F : FnOk X.prog X.w X.K X.mg X.base CX k f fd ps sp) (hr : Room k X.A) (hb : Binds X.K fd ps []) (hx : Passes CX X E) : OpR X (compareOp .In) (rOwnIn C sp E) := by
  intro pins s σ H x y v u Q I rx ry h
  obtain ⟨p, dx, fs, rfl, hp, h⟩ := h.ok
  obtain rfl : u = Value.ref p := ry
  obtain ⟨mA, O1, _⟩ := ins_get I.hok hp
  obtain ⟨od, J, _⟩ := O1.look
  obtain ⟨m, fr⟩ := I.fr
  refine PySem.W.in_K fr I.mod.kin J O.hs O.hf (thn (run_fn (us := [.ref p, v]) (vs := [.ref p, x]) F hr hb .nil hx I (.cons rfl (.cons rx .nil)) h) fun r s' z => ?_)
  obtain ⟨y, H', J', ry, c, rfl, q⟩ := z
  cases ry
  exact wpAny_truthy_bool ⟨.bl c, H', J', rfl, q⟩
/-- len(o) -/
def rOwnLen (C : Addr) (sp : Sp) (E : XK) : List V → Hp → VK → Prop := fun xs H Q => Wd (∃ p dx fs, xs = [.ref p] ∧ H p = some (.ins C dx fs) ∧ sp [.ref p] H (fun v H' => ∃ n : Int, v = .int n ∧ 0 ≤ n ∧ n < 2 ^ 63 ∧ Q (.int n) H') E)
theorem call_ownLen {E : XK} (O : OwnM X.K C f "__len__") (F : FnOk X.prog X.w X.K X.mg X.base CX k f fd ps sp) (hr : Room (k + 1) X.A) (hb : Binds X.K fd ps []) (hx : Passes CX X E) : CallR X (.builtin "len") (rOwnLen C sp E) := by
  intro pins s σ H xs us Q I r h
  obtain ⟨p, dx, fs, rfl, hp, h⟩ := h.ok
  rw [Vals.ref1 r]
  obtain ⟨mA, O1, _⟩ := ins_get I.hok hp
  obtain ⟨od, J, _⟩ := O1.look
  obtain ⟨m, fr⟩ := I.fr
  refine PySem.W.len_K fr I.mod.kin J O.hs O.hf (thn (run_fn1 (us := [.ref p]) (vs := [.ref p]) F hr hb hx I (.cons rfl .nil) h) fun r s' z => ?_)
  obtain ⟨y, H', J', ry, n, rfl, h0, h1, q⟩ := z
  obtain ⟨t, rfl⟩ := ry
  exact ⟨⟨h0, h1⟩, .int n, H', J'.tok _, ⟨_, rfl⟩, q⟩
/-- o[i] -/
def tOwnIx (C : Addr) (sp : Sp) (E : L2.St → XK) (ta tb : TE) : TE := fun σ H Q => ta σ H fun x H1 => tb σ H1 fun y H2 => ∃ p dx fs, x = .ref p ∧ H2 p = some (.ins C dx fs) ∧ sp [x, y] H2 Q (E σ)
theorem pe_ownIx (O : OwnM X.K C f "__getitem__") (hfn : PySem.W.fnIn X.K f = true) (F : FnOk X.prog X.w X.K X.mg X.base CX k f fd ps sp) (hr : Room (k + 1) X.A) (hb : Binds X.K fd ps []) (hx : ∀ σ, PassesAt CX X σ (E σ)) (ha : PE X a ta) (hi : PE X b tb)
    (hsl : ∀ x i, subscripted b true (.ref x) i = runValue (.builtin "lifetime.subscript" ⟨[.ref x, i], []⟩) := by intro _ _; with_unfolding_all rfl) : PE X (.Subscript a b pos) (tOwnIx C sp E ta tb) := by
  refine ⟨fun pins s σ H Q I h => ?_⟩
  refine Subscript_ (binT ha hi I h fun v u s2 x y H2 I2 rx ry q => ?_)
  obtain ⟨p, dx, fs, rfl, hp, q⟩ := q
  obtain rfl : v = Value.ref p := rx
  obtain ⟨mA, O1, _⟩ := ins_get I2.hok hp
  obtain ⟨od, J, _⟩ := O1.look
  obtain ⟨m, fr⟩ := I2.fr
  exact PySem.W.sub_K fr I2.mod.kin J O.hs hfn O.hf (run_fn1S (us := [.ref p, u]) (vs := [.ref p, y]) F hr hb (hx σ) I2 (.cons rfl (.cons ry .nil)) q) (hsl _ _)
/-- o[i] = v -/
def sOwnSet (C : Addr) (sp : Sp) (E : L2.St → XK) (td ty tv : TE) : TS := fun D σ H => tv σ H fun v H1 => td σ H1 fun x H2 => ty σ H2 fun y H3 => ∃ p dx fs, x = .ref p ∧ H3 p = some (.ins C dx fs) ∧ sp [x, y, v] H3 (fun _ H4 => D.nx σ H4) (E σ)
theorem ps_ownSet (O : OwnM X.K C f "__setitem__") (hq : PySem.W.noSeq X.K C = true) (F : FnOk X.prog X.w X.K X.mg X.base CX k f fd ps sp) (hr : Room k X.A) (hb : Binds X.K fd ps []) (hx : ∀ σ, PassesAt CX X σ (E σ)) (ho : PE X o td) (hi : PE X i ty) (hv : PE X value tv)
    (hs : swapsWith value (some (.Subscript o i pos')) pos.line X.env = pure false) : PS X (.Assign [.Subscript o i pos'] value pos) (sOwnSet C sp E td ty tv) := by
  refine ⟨fun pins s σ H D I h => ?_⟩
  refine wpAny_Assign_Subscript (thn (hv.run pins s σ H _ I h) fun r s1 ⟨v, H1, I1, rv, q1⟩ => thn (ho.run pins s1 σ H1 _ I1 q1) fun u s2 ⟨x, H2, I2, rx, q2⟩ => thn (hi.run pins s2 σ H2 _ I2 q2) fun iv s3 ⟨y, H3, I3, ry, p, dx, fs, ex, hp, q3⟩ => ?_) hs
  subst ex
  obtain rfl : u = Value.ref p := rx
  obtain ⟨mA, O1, _⟩ := ins_get I3.hok hp
  obtain ⟨od, J, _⟩ := O1.look
  obtain ⟨m, fr⟩ := I3.fr
  refine PySem.W.ksp_setItem fr I3.mod.kin J hq O.hs O.hf (thn (run_fnS (E := E) (us := [.ref p, iv, r]) (vs := [.ref p, y, v]) F hr hb (hx σ) I3 (.cons rfl (.cons ry (.cons rv .nil))) q3) fun _ s4 z => ?_)
  obtain ⟨_, H4, I4, _, q4⟩ := z
  exact ⟨σ, H4, I4, q4⟩
end
section
open PySem.Spec PyProof.Rows
variable {X : Cx} {CX : CXT} {k1 k2 i : Nat} {f1 f2 : Addr} {fd1 fd2 : FuncData} {ps1 ps2 : List Str} {sp : Sp} {E : L2.St → XK} {x : Str} {p pos : Pos} {e : Expr} {es : List Expr} {t : TA}
/-- f(e, ..), f a local that holds one of two defs with one promise -/
def tCall2S (i : Nat) (f1 f2 : Addr) (sp : Sp) (E : L2.St → XK) (t : TA) : TE := fun σ H Q => (σ[i]? = some (some (.ref f1)) ∨ σ[i]? = some (some (.ref f2))) ∧ t σ H fun vs H1 => sp vs H1 Q (E σ)
theorem pe_call2S (F1 : FnOk X.prog X.w X.K X.mg X.base CX k1 f1 fd1 ps1 sp) (F2 : FnOk X.prog X.w X.K X.mg X.base CX k2 f2 fd2 ps2 sp) (hr1 : Room k1 X.A) (hr2 : Room k2 X.A) (hN : X.N[i]? = some x) (hv : Vis X.env.scope x) (hk1 : PySem.W.keepIn X.K (.ref f1) = true) (hk2 : PySem.W.keepIn X.K (.ref f2) = true)
    (hb1 : Binds X.K fd1 ps1 []) (hb2 : Binds X.K fd2 ps2 []) (hx : ∀ σ, PassesAt CX X σ (E σ)) (ha : PA X (e :: es) t) (hdb : (x == ("__debug__" : Str)) = false := by decide) (hcd : (x == ("__classdict__" : Str)) = false := by decide)
    (he : starEach (e :: es) X.env = (false, eval e X.env) :: starEach es X.env := by rfl) (hpl : (backTo pos (starEach es X.env)).any (·.1) = false := by rfl) : PE X (.Call (.Name x p) (e :: es) [] pos) (tCall2S i f1 f2 sp E t) := by
  refine ⟨fun pins s σ H Q I h => ?_⟩
  obtain ⟨hs, ht⟩ := h
  rcases hs with hs | hs
  · refine wpAny_Call_Name_kw (thn ((pe_var (pos := p) hN hv hdb hcd).run pins s σ H (fun v H1 => v = .ref f1 ∧ H1 = H) I ⟨.ref f1, hs, rfl, rfl⟩) fun u s1 ⟨v, H1, I1, r1, q1⟩ => ?_)
    obtain ⟨rfl, rfl⟩ := q1
    cases r1
    exact PySem.W.callWith_K (h₀ := X.base) I.ok.mod.kin hk1 (thn (ha.run pos pins s1 σ _ _ I1 ht) fun us s2 ⟨vs, H2, I2, r, q⟩ => ⟨I2.kIn, run_fnS F1 hr1 hb1 (hx σ) I2 r q⟩) he hpl
  · refine wpAny_Call_Name_kw (thn ((pe_var (pos := p) hN hv hdb hcd).run pins s σ H (fun v H1 => v = .ref f2 ∧ H1 = H) I ⟨.ref f2, hs, rfl, rfl⟩) fun u s1 ⟨v, H1, I1, r1, q1⟩ => ?_)
    obtain ⟨rfl, rfl⟩ := q1
    cases r1
    exact PySem.W.callWith_K (h₀ := X.base) I.ok.mod.kin hk2 (thn (ha.run pos pins s1 σ _ _ I1 ht) fun us s2 ⟨vs, H2, I2, r, q⟩ => ⟨I2.kIn, run_fnS F2 hr2 hb2 (hx σ) I2 r q⟩) he hpl
end

/-! ### xs == [], xs != [] -/
section
open PySem.Spec PyProof.Rows
variable {X : Cx}
def rNil (K : PySem.W.Frag) (neg : Bool) : R2 := fun x y H Q => Wd (∃ (a b : Addr) (xs : List V), x = .ref a ∧ y = .ref b ∧ SqL K H a xs ∧ SqL K H b [] ∧ Q (.bl (if neg then !xs.isEmpty else xs.isEmpty)) H)
theorem nil_sizes {xs : List V} {us ws : List Value} (r1 : Vals xs us) (r2 : Vals [] ws) : us.toArray.size = xs.length ∧ ws.toArray.size = 0 := by
  cases r2
  exact ⟨by rw [List.size_toArray, r1.length], rfl⟩
theorem op_eqNil (hu : X.A.units + 64 < cLine) : OpR X (compareOp .Eq) (rNil X.K false) := by
  intro pins s σ H x y v u Q I rx ry h
  obtain ⟨a, b, xs, rfl, rfl, ha, hb, q⟩ := h.ok
  cases rx
  cases ry
  obtain ⟨us, r1, p1, _⟩ := I.list ha
  obtain ⟨ws, r2, p2, _⟩ := I.list hb
  obtain ⟨e1, e2⟩ := nil_sizes r1 r2
  cases xs with
  | nil =>
    have k := SeqAt.RcAt.lists (A := X.A) (e := fun _ => true) p1.isList p2.isList (by rw [e1, e2]; rfl) (by omega) (fun j h1 h2 => by omega)
    refine k X.prog X.w _ _ ?_
    rw [show ((List.range us.toArray.size).all fun _ => true) = true from List.all_eq_true.mpr fun _ _ => rfl]
    exact ⟨.bl true, H, I, rfl, q⟩
  | cons z zs =>
    have k := SeqAt.RcAt.lists_lengths (A := X.A) p1.isList p2.isList (by rw [e1, e2]; rfl) (by omega)
    exact k X.prog X.w _ _ ⟨.bl false, H, I, rfl, q⟩
theorem op_neNil (hu : X.A.units + 64 < cLine) : OpR X (compareOp .NotEq) (rNil X.K true) := by
  intro pins s σ H x y v u Q I rx ry h
  obtain ⟨a, b, xs, rfl, rfl, ha, hb, q⟩ := h.ok
  cases rx
  cases ry
  obtain ⟨us, r1, p1, _⟩ := I.list ha
  obtain ⟨ws, r2, p2, _⟩ := I.list hb
  obtain ⟨e1, e2⟩ := nil_sizes r1 r2
  cases xs with
  | nil =>
    have k := SeqAt.RcNeAt.lists (A := X.A) (e := fun _ => true) p1.isList p2.isList (by rw [e1, e2]; rfl) (by omega) (fun j h1 h2 => by omega)
    refine k X.prog X.w _ _ ?_
    rw [show ((List.range us.toArray.size).all fun _ => true) = true from List.all_eq_true.mpr fun _ _ => rfl]
    exact ⟨.bl false, H, I, rfl, q⟩
  | cons z zs =>
    have k := SeqAt.RcNeAt.lists_lengths (A := X.A) p1.isList p2.isList (by rw [e1, e2]; rfl) (by omega)
    exact k X.prog X.w _ _ ⟨.bl true, H, I, rfl, q⟩
end

/-! ### the hashes of two pairs of small numbers differ: plain law -/
namespace TH
def m : Nat := 2 ^ 64
def P1 : Nat := 11400714785074694791
def P2 : Nat := 14029467366897019727
def P5 : Nat := 2870177450012600261
def i1 : Nat := 614540362697595703
def i2 : Nat := 839798700976720815
def rot (x : Nat) : Nat := (x * 2 ^ 31) % 2 ^ 64 + x / 2 ^ 33
def unrot (y : Nat) : Nat := (y * 2 ^ 33) % 2 ^ 64 + y / 2 ^ 31
theorem rot_eq {a b : Nat} (hb : b < 2 ^ 33) : rot (2 ^ 33 * a + b) = 2 ^ 31 * b + a := by
  unfold rot
  have h1 : (2 ^ 33 * a + b) * 2 ^ 31 % 2 ^ 64 = 2 ^ 31 * b := by omega
  have h2 : (2 ^ 33 * a + b) / 2 ^ 33 = a := by omega
  rw [h1, h2]
theorem split33 {x : Nat} (h : x < 2 ^ 64) : ∃ a b : Nat, x = 2 ^ 33 * a + b ∧ b < 2 ^ 33 ∧ a < 2 ^ 31 := ⟨x / 2 ^ 33, x % 2 ^ 33, by omega, by omega, by omega⟩
theorem rot_lt {x : Nat} (h : x < 2 ^ 64) : rot x < 2 ^ 64 := by
  obtain ⟨a, b, rfl, hb, ha⟩ := split33 h
  rw [rot_eq hb]
  omega
theorem unrot_rot {x : Nat} (h : x < 2 ^ 64) : unrot (rot x) = x := by
  obtain ⟨a, b, rfl, hb, ha⟩ := split33 h
  rw [rot_eq hb]
  unfold unrot
  have h1 : (2 ^ 31 * b + a) * 2 ^ 33 % 2 ^ 64 = 2 ^ 33 * a := by omega
  have h2 : (2 ^ 31 * b + a) / 2 ^ 31 = b := by omega
  rw [h1, h2]
theorem rot_add {x y d : Nat} (hx : x < 2 ^ 64) (hy : y < 2 ^ 64) (hd : d < 2 ^ 64) (e : x = (y + d) % 2 ^ 64) :
    ∃ c c2 : Nat, c ≤ 1 ∧ c2 ≤ 1 ∧ (rot x + c2 * 2 ^ 31) % 2 ^ 64 = (rot y + rot d + c) % 2 ^ 64 := by
  obtain ⟨ya, yb, rfl, hyb, hya⟩ := split33 hy
  obtain ⟨da, db, rfl, hdb, hda⟩ := split33 hd
  obtain ⟨xa, xb, rfl, hxb, hxa⟩ := split33 hx
  rw [rot_eq hyb, rot_eq hdb, rot_eq hxb]
  obtain ⟨q, hq⟩ : ∃ q, 2 ^ 33 * ya + yb + (2 ^ 33 * da + db) = 2 ^ 64 * q + (2 ^ 33 * xa + xb) := ⟨(2 ^ 33 * ya + yb + (2 ^ 33 * da + db)) / 2 ^ 64, by omega⟩
  clear e hx hy hd
  have q1 : q ≤ 1 := by omega
  by_cases c : yb + db < 2 ^ 33
  · refine ⟨0, q, by omega, q1, ?_⟩
    have e1 : xb = yb + db := by omega
    have e2 : ya + da = 2 ^ 31 * q + xa := by omega
    rw [e1]
    have : 2 ^ 31 * (yb + db) + xa + q * 2 ^ 31 = 2 ^ 31 * yb + ya + (2 ^ 31 * db + da) + 0 := by omega
    rw [this]
  · refine ⟨1, q, by omega, q1, ?_⟩
    have e1 : xb + 2 ^ 33 = yb + db := by omega
    have e2 : ya + da + 1 = 2 ^ 31 * q + xa := by omega
    have : 2 ^ 31 * xb + xa + q * 2 ^ 31 + 2 ^ 64 = 2 ^ 31 * yb + ya + (2 ^ 31 * db + da) + 1 := by omega
    rw [← this, Nat.add_mod_right]
def lane (acc h : Nat) : Nat := rot ((acc + h * P2) % 2 ^ 64) * P1 % 2 ^ 64
/-- what a step of d makes of the first lane -/
def zed (D c c2 : Nat) : Nat := (rot D + c + (2 ^ 64 - c2 * 2 ^ 31)) * P1 % 2 ^ 64
theorem lane_lt (acc h : Nat) : lane acc h < 2 ^ 64 := Nat.mod_lt _ (by decide)
theorem step1 {rx rx' rD c c2 : Nat} (hc2 : c2 ≤ 1) (h : (rx + c2 * 2 ^ 31) % 2 ^ 64 = (rx' + rD + c) % 2 ^ 64) :
    (rx * P1 % 2 ^ 64) % 2 ^ 64 = (rx' * P1 % 2 ^ 64 + (rD + c + (2 ^ 64 - c2 * 2 ^ 31)) * P1 % 2 ^ 64) % 2 ^ 64 := by
  unfold P1
  have h1 : (rx + 2 ^ 64) % 2 ^ 64 = (rx' + (rD + c + (2 ^ 64 - c2 * 2 ^ 31))) % 2 ^ 64 := by omega
  generalize rD + c + (2 ^ 64 - c2 * 2 ^ 31) = t at *
  omega
/-- the second lanes: how they differ -/
theorem lanes {d n n' e : Nat} : ∃ c c2 : Nat, c ≤ 1 ∧ c2 ≤ 1 ∧
    ((lane P5 (d + e) + n * P2) % 2 ^ 64 + n' * P2) % 2 ^ 64 = ((lane P5 d + n' * P2) % 2 ^ 64 + zed (e * P2 % 2 ^ 64) c c2 + n * P2) % 2 ^ 64 := by
  have hx : ((P5 + (d + e) * P2) % 2 ^ 64) = ((P5 + d * P2) % 2 ^ 64 + e * P2 % 2 ^ 64) % 2 ^ 64 := by
    rw [Nat.add_mul, ← Nat.add_assoc]
    exact Nat.add_mod _ _ _
  obtain ⟨c, c2, h1, h2, hr⟩ := rot_add (Nat.mod_lt _ (by decide)) (Nat.mod_lt _ (by decide)) (Nat.mod_lt _ (by decide)) hx
  refine ⟨c, c2, h1, h2, ?_⟩
  have s1 := step1 h2 hr
  unfold lane zed
  generalize rot ((P5 + (d + e) * P2) % 2 ^ 64) * P1 % 2 ^ 64 = a at *
  generalize rot ((P5 + d * P2) % 2 ^ 64) * P1 % 2 ^ 64 = a' at *
  generalize (rot (e * P2 % 2 ^ 64) + c + (2 ^ 64 - c2 * 2 ^ 31)) * P1 % 2 ^ 64 = z at *
  unfold P2
  clear hx hr
  omega
def CC : Nat := 2870177450013471924
def GG : Nat := 1546275797
def fin (acc : Nat) : Int := if (acc + CC) % 2 ^ 64 = 2 ^ 64 - 1 then 1546275796 else if (acc + CC) % 2 ^ 64 < 2 ^ 63 then (((acc + CC) % 2 ^ 64 : Nat) : Int) else (((acc + CC) % 2 ^ 64 : Nat) : Int) - 2 ^ 64
theorem fin_eq {a b : Nat} (ha : a < 2 ^ 64) (hb : b < 2 ^ 64) (h : fin a = fin b) : (a + 0) % 2 ^ 64 = b ∨ (a + GG) % 2 ^ 64 = b ∨ (b + GG) % 2 ^ 64 = a := by
  unfold fin CC at h
  unfold GG
  split at h <;> (try split at h) <;> (try split at h) <;> (try split at h) <;> omega
theorem unlane {ru ru' g : Nat} (h : (ru * P1 % 2 ^ 64 + g) % 2 ^ 64 = ru' * P1 % 2 ^ 64) : (ru + g * i1) % 2 ^ 64 = ru' % 2 ^ 64 := by
  unfold P1 at h
  unfold i1
  omega
/-- what the rotation of the difference is -/
def up (c c2 : Nat) : Nat := (c2 * 2 ^ 31 + (2 ^ 64 - c) + GG * i1) % 2 ^ 64
def dn (c c2 : Nat) : Nat := (c2 * 2 ^ 31 + (2 ^ 64 - c) + (2 ^ 64 - GG * i1 % 2 ^ 64)) % 2 ^ 64
def diffs : List Nat := [0, unrot (up 0 0), unrot (up 0 1), unrot (up 1 0), unrot (up 1 1), unrot (dn 0 0), unrot (dn 0 1), unrot (dn 1 0), unrot (dn 1 1)]
theorem du_in {u u' : Nat} (hu : u < 2 ^ 64) (hu' : u' < 2 ^ 64) (h : fin (rot u * P1 % 2 ^ 64) = fin (rot u' * P1 % 2 ^ 64)) : (u + (2 ^ 64 - u')) % 2 ^ 64 ∈ diffs := by
  have r1 := rot_lt hu
  have r2 := rot_lt hu'
  have hD : (u + (2 ^ 64 - u')) % 2 ^ 64 < 2 ^ 64 := Nat.mod_lt _ (by decide)
  obtain ⟨c, c2, h1, h2, hr⟩ := rot_add hu hu' hD (by omega)
  have r3 := rot_lt hD
  rcases fin_eq (Nat.mod_lt _ (by decide)) (Nat.mod_lt _ (by decide)) h with e | e | e
  · have e := unlane e
    have : rot u = rot u' := by omega
    have := congrArg unrot this
    rw [unrot_rot hu, unrot_rot hu'] at this
    subst this
    have : (u + (2 ^ 64 - u)) % 2 ^ 64 = 0 := by omega
    rw [this]
    exact List.mem_cons_self
  · have e := unlane e
    have k : rot ((u + (2 ^ 64 - u')) % 2 ^ 64) = dn c c2 := by
      unfold dn
      generalize GG * i1 = g at *
      omega
    rw [← unrot_rot hD, k]
    have hc : c = 0 ∨ c = 1 := by omega
    have hc2 : c2 = 0 ∨ c2 = 1 := by omega
    unfold diffs
    rcases hc with rfl | rfl <;> rcases hc2 with rfl | rfl <;> simp
  · have e := unlane e
    have k : rot ((u + (2 ^ 64 - u')) % 2 ^ 64) = up c c2 := by
      unfold up
      generalize GG * i1 = g at *
      omega
    rw [← unrot_rot hD, k]
    have hc : c = 0 ∨ c = 1 := by omega
    have hc2 : c2 = 0 ∨ c2 = 1 := by omega
    unfold diffs
    rcases hc with rfl | rfl <;> rcases hc2 with rfl | rfl <;> simp
def yv (F Z : Nat) : Nat := (F + (2 ^ 64 - Z)) % 2 ^ 64 * i2 % 2 ^ 64
def far (y : Nat) : Bool := decide (1000000 < y) && decide (y + 1000000 < 2 ^ 64)
def chk1 (e c c2 : Nat) : Bool := diffs.all fun F => far (yv F (zed (e * P2 % 2 ^ 64) c c2))
theorem chk_all : ((List.range 1000).all fun i => chk1 (i + 1) 0 0 && chk1 (i + 1) 0 1 && chk1 (i + 1) 1 0 && chk1 (i + 1) 1 1) = true := by decide +kernel
theorem chk_0 : (diffs.tail.all fun F => far (yv F 0)) = true := by decide +kernel
theorem yv_eq {F Z n n' : Nat} (hZ : Z < 2 ^ 64) (h : (F + n' * P2) % 2 ^ 64 = (Z + n * P2) % 2 ^ 64) : (yv F Z + n') % 2 ^ 64 = n % 2 ^ 64 := by
  have h1 : ((F + (2 ^ 64 - Z)) % 2 ^ 64 + n' * P2) % 2 ^ 64 = (n * P2) % 2 ^ 64 := by
    unfold P2 at *
    omega
  unfold yv
  generalize (F + (2 ^ 64 - Z)) % 2 ^ 64 = x at *
  unfold P2 at h1
  unfold i2
  omega
theorem far_no {F Z n n' : Nat} (hZ : Z < 2 ^ 64) (h : (F + n' * P2) % 2 ^ 64 = (Z + n * P2) % 2 ^ 64) (hn : n ≤ 1000000) (hn' : n' ≤ 1000000) : far (yv F Z) = false := by
  have e := yv_eq hZ h
  have hy : yv F Z < 2 ^ 64 := Nat.mod_lt _ (by decide)
  cases c : far (yv F Z) with
  | false => rfl
  | true =>
    unfold far at c
    rw [Bool.and_eq_true, decide_eq_true_iff, decide_eq_true_iff] at c
    omega
theorem chk_at {e c c2 : Nat} (h1 : 1 ≤ e) (h2 : e ≤ 1000) (hc : c ≤ 1) (hc2 : c2 ≤ 1) : chk1 e c c2 = true := by
  have h := List.all_eq_true.mp chk_all (e - 1) (List.mem_range.mpr (by omega))
  rw [show e - 1 + 1 = e by omega] at h
  simp only [Bool.and_eq_true] at h
  have hc : c = 0 ∨ c = 1 := by omega
  have hc2 : c2 = 0 ∨ c2 = 1 := by omega
  rcases hc with rfl | rfl <;> rcases hc2 with rfl | rfl
  · exact h.1.1.1
  · exact h.1.1.2
  · exact h.1.2
  · exact h.2
/-- the hash of the pair (d, n) -/
def hash2 (d n : Nat) : Int := fin (lane (lane P5 d) n)
theorem hash2_up {d e n n' : Nat} (he : e ≤ 1000) (hn : n ≤ 1000000) (hn' : n' ≤ 1000000) (h : hash2 (d + e) n = hash2 d n') : e = 0 ∧ n = n' := by
  unfold hash2 at h
  have hu : (lane P5 (d + e) + n * P2) % 2 ^ 64 < 2 ^ 64 := Nat.mod_lt _ (by decide)
  have hu' : (lane P5 d + n' * P2) % 2 ^ 64 < 2 ^ 64 := Nat.mod_lt _ (by decide)
  have hF := du_in hu hu' h
  have hu2 : (lane P5 (d + e) + n * P2) % 2 ^ 64 % 2 ^ 64 = (lane P5 (d + e) + n * P2) % 2 ^ 64 := Nat.mod_mod _ _
  by_cases c0 : e = 0
  · subst c0
    refine ⟨rfl, ?_⟩
    rw [Nat.add_zero] at *
    have cong : ((((lane P5 d + n * P2) % 2 ^ 64) + (2 ^ 64 - (lane P5 d + n' * P2) % 2 ^ 64)) % 2 ^ 64 + n' * P2) % 2 ^ 64 = (0 + n * P2) % 2 ^ 64 := by
      generalize lane P5 d = a at *
      unfold P2
      clear h hF hu2 hu hu'
      omega
    generalize (((lane P5 d + n * P2) % 2 ^ 64) + (2 ^ 64 - (lane P5 d + n' * P2) % 2 ^ 64)) % 2 ^ 64 = F at *
    rcases List.mem_cons.mp (show F ∈ 0 :: diffs.tail from hF) with rfl | hF
    · have e := yv_eq (by decide) cong
      have y0 : yv 0 0 = 0 := by decide +kernel
      rw [y0] at e
      omega
    · have f := far_no (by decide) cong hn hn'
      have g := List.all_eq_true.mp chk_0 F hF
      rw [f] at g
      cases g
  · obtain ⟨c, c2, h1, h2, hl⟩ := lanes (d := d) (n := n) (n' := n') (e := e)
    have hz : zed (e * P2 % 2 ^ 64) c c2 < 2 ^ 64 := Nat.mod_lt _ (by decide)
    have cong : ((((lane P5 (d + e) + n * P2) % 2 ^ 64) + (2 ^ 64 - (lane P5 d + n' * P2) % 2 ^ 64)) % 2 ^ 64 + n' * P2) % 2 ^ 64 = (zed (e * P2 % 2 ^ 64) c c2 + n * P2) % 2 ^ 64 := by
      clear h hF hu2
      generalize (lane P5 (d + e) + n * P2) % 2 ^ 64 = u at *
      generalize (lane P5 d + n' * P2) % 2 ^ 64 = u' at *
      generalize zed (e * P2 % 2 ^ 64) c c2 = z at *
      unfold P2 at *
      omega
    have f := far_no hz cong hn hn'
    have g := List.all_eq_true.mp (chk_at (by omega) he h1 h2) _ hF
    rw [f] at g
    cases g
theorem hash2_inj {d d' n n' : Nat} (h1 : d ≤ d' + 1000) (h2 : d' ≤ d + 1000) (hn : n ≤ 1000000) (hn' : n' ≤ 1000000) (h : hash2 d n = hash2 d' n') : d = d' ∧ n = n' := by
  by_cases c : d' ≤ d
  · obtain ⟨e, rfl⟩ := Nat.exists_eq_add_of_le c
    obtain ⟨a, b⟩ := hash2_up (by omega) hn hn' h
    exact ⟨by omega, b⟩
  · obtain ⟨e, rfl⟩ := Nat.exists_eq_add_of_le (show d ≤ d' by omega)
    obtain ⟨a, b⟩ := hash2_up (by omega) hn' hn h.symm
    exact ⟨by omega, b.symm⟩
end TH

/-! ### dict(d), d with pairs as keys -/
section
open PySem PySem.Spec PyProof.Rows
theorem hash_small {d : Int} (h0 : 0 ≤ d) (h1 : d < 2 ^ 60) : hashInt d = d := by
  have e : rawHash d = d := by
    unfold rawHash
    have h2 : ((d.natAbs : Nat) : Int) = d := by omega
    have h3 : d % ((2 ^ 61 - 1 : Nat) : Int) = d := Int.emod_eq_of_lt h0 (by omega)
    have h4 : (d == -1) = false := by simp; omega
    simp only [h2, h3, show ¬ d < 0 by omega, if_false, h4, Bool.false_eq_true]
  unfold hashInt
  rw [e]
  have : (d == -1) = false := by simp; omega
  rw [this]
  rfl
theorem hc_two : (2 ^^^ (2870177450012600261 ^^^ 3527539) : Nat) = TH.CC := by decide +kernel
def thTail (acc : Nat) : Int := if acc == 2 ^ 64 - 1 then 1546275796 else if acc < 2 ^ 63 then acc else (acc : Int) - ((2 ^ 64 : Nat) : Int)
def thStep (acc : Nat) (h : Int) : Nat :=
  let acc := (acc + (h % ((2 ^ 64 : Nat) : Int)).toNat * 14029467366897019727) % 2 ^ 64
  let acc := (acc * 2 ^ 31) % 2 ^ 64 + acc / 2 ^ 33
  (acc * 11400714785074694791) % 2 ^ 64
theorem th_gen (hs : List Int) : Builtin.Tuple.tupleHashOf hs = thTail ((hs.foldl thStep 2870177450012600261 + (hs.length ^^^ (2870177450012600261 ^^^ 3527539))) % 2 ^ 64) := by
  unfold Builtin.Tuple.tupleHashOf thTail
  have e : thStep = fun acc h => (let m : Nat := 2 ^ 64
    let acc := (acc + (h % (m : Int)).toNat * 14029467366897019727) % m
    let acc := (acc * 2 ^ 31) % m + acc / 2 ^ 33
    (acc * 11400714785074694791) % m) := by
    funext acc h
    unfold thStep
    rfl
  rw [e]
theorem th_step (acc : Nat) (h : Int) : thStep acc h = TH.lane acc (h % ((2 ^ 64 : Nat) : Int)).toNat := by
  unfold thStep TH.lane TH.rot TH.P1 TH.P2
  generalize (h % ((2 ^ 64 : Nat) : Int)).toNat = x
  generalize (acc + x * 14029467366897019727) % 2 ^ 64 = y
  rfl
theorem th_tail (acc : Nat) : thTail ((acc + TH.CC) % 2 ^ 64) = TH.fin acc := by
  unfold thTail TH.fin
  generalize (acc + TH.CC) % 2 ^ 64 = x
  by_cases h : x = 2 ^ 64 - 1
  · rw [if_pos h, if_pos (beq_iff_eq.mpr h)]
  · rw [if_neg h, if_neg fun z => h (beq_iff_eq.mp z)]
    rfl
theorem th2 (a b : Int) : Builtin.Tuple.tupleHashOf [a, b] = TH.fin (TH.lane (TH.lane TH.P5 (a % ((2 ^ 64 : Nat) : Int)).toNat) (b % ((2 ^ 64 : Nat) : Int)).toNat) := by
  have l : ([a, b] : List Int).length = 2 := rfl
  have p5 : (2870177450012600261 : Nat) = TH.P5 := by unfold TH.P5; rfl
  rw [th_gen, List.foldl_cons, List.foldl_cons, List.foldl_nil, l, hc_two, th_tail, th_step, th_step, p5]
theorem reduce_fin (acc : Nat) : reduceHash (TH.fin acc) = TH.fin acc := by
  have h1 : -(2 ^ 63 : Int) ≤ TH.fin acc ∧ TH.fin acc < 2 ^ 63 ∧ TH.fin acc ≠ -1 := by
    unfold TH.fin
    have hx : (acc + TH.CC) % 2 ^ 64 < 2 ^ 64 := Nat.mod_lt _ (by decide)
    generalize (acc + TH.CC) % 2 ^ 64 = x at *
    split
    · decide
    · split <;> omega
  generalize TH.fin acc = i at *
  unfold reduceHash
  have c1 : (decide (-(2 ^ 63 : Int) ≤ i) && decide (i < 2 ^ 63)) = true := by
    rw [decide_eq_true h1.1, decide_eq_true h1.2.1]
    rfl
  rw [if_pos c1, if_neg]
  simp
  exact h1.2.2
theorem key_hash {P : Program} {w : World} {d n : Int} (hd0 : 0 ≤ d) (hd1 : d < 2 ^ 60) (hn0 : 0 ≤ n) (hn1 : n < 2 ^ 60) : (tupleKind (mixKind P w)).hash [Sum.inl d, Sum.inl n] = TH.hash2 d.toNat n.toNat := by
  show reduceHash (Builtin.Tuple.tupleHashOf [hashInt d, hashInt n]) = _
  rw [hash_small hd0 hd1, hash_small hn0 hn1, th2, reduce_fin]
  unfold TH.hash2
  have l1 : (d % ((2 ^ 64 : Nat) : Int)).toNat = d.toNat := by omega
  have l2 : (n % ((2 ^ 64 : Nat) : Int)).toNat = n.toNat := by omega
  rw [l1, l2]
end
section
open PySem PySem.Spec PyProof.Rows
section
variable {prog : Program} {w : World} {K : Type} [DecidableEq K] {knd : HeapKind prog w K} {A : Around} {E : Value → Shared → Prop} {s : Shared}
theorem kt_call_dictT (st : knd.Stays) {o : Addr} {more : List (K × Addr × Value)} {Q : Value → Shared → Prop} (hu : knd.room A.in1.in1) (hoS : (o == sysModules) = false) (ho : s.heap.DictOfH knd o more) (hap : (more.map fun x => knd.hash x.1).Nodup) (hsz : more.length ≤ sizeLine)
    (h : ∀ h', h'.DictOfH knd s.heap.objs.size more → Heap.SameBut s.heap.objs.size (s.heap.push { cls := .type "dict", data := .dict #[] }) h' → Q (.ref s.heap.objs.size) { s with heap := h' }) :
    wpAny (model prog w) A (call (.type "dict") [.ref o]) Q E s := by
  refine callType_codes (Q₁ := fun obj s₁ => obj = .ref s.heap.objs.size ∧ s₁ = { s with heap := s.heap.push { cls := .type "dict", data := .dict #[] } }) F.kt_called_dict (F.kt_typeCall_dict_1 _) F.entry_dict_init (kt_code_dict_new _ ⟨rfl, rfl⟩) ?_
  rintro obj s₁ ⟨rfl, rfl⟩
  have hnew : (s.heap.push { cls := .type "dict", data := .dict #[] }).DictOfH knd s.heap.objs.size [] := Heap.DictOfH.new s.heap
  have hty := PySem.keyed_apart st ho
  obtain ⟨oo, es, ep, ho1, hc, hdat, he, his, hn⟩ := id ho
  have hdo : s.heap.objs.size ≠ o := fun e => absurd (Heap.lt_size ho1) (by rw [e]; exact Nat.lt_irrefl _)
  have kp : ∀ b u, s.heap.get? b = some u → (s.heap.push { cls := .type "dict", data := .dict #[] }).get? b = some u := fun b u e => Heap.get?_push_of_some _ e
  have ho' : (s.heap.push { cls := .type "dict", data := .dict #[] }).DictOfH knd o more := ⟨oo, es, ep, kp _ _ ho1, hc, hdat, he, fun x hx => st.stays (fun b o _ _ e _ => kp b o e) (his x hx), hn⟩
  refine ⟨hnew.typeIs, F.args_dict_init_2 _ _, ?_⟩
  unfold Builtin.«dict.__init__»
  refine wpAny_bind ?_
  unfold Builtin.Dict.selfAndRest
  refine wpAny_bind (wpAny_notOrdered_dict hnew.typeIs ?_)
  show wpAny _ _ (pure (s.heap.objs.size, [Value.ref o])) _ _ _
  refine wpAny_pure ?_
  show wpAny _ _ (Builtin.Dict.updateFrom "dict.__init__" s.heap.objs.size (.ref o) [] .none) _ _ _
  unfold Builtin.Dict.updateFrom
  refine wpAny_bind (wpAny_typeOf ho'.typeIs ?_)
  rw [if_neg (by decide)]
  refine wpAny_bind ?_
  unfold Builtin.Dict.merge
  refine wpAny_bind ?_
  unfold Builtin.Dict.readDirectly
  refine wpAny_bind (wpAny_isInstance ho'.typeIs isSubtype_dict_dict ?_)
  simp only [Bool.not_true, Bool.false_eq_true, if_false]
  refine wpAny_bind (wpAny_specialOf ho'.typeIs F.slot_dict_iter.lookup (wpAny_pure ?_))
  simp only [beq_self_eq_true, if_true]
  refine wpAny_bind (wpAny_pure ?_)
  refine wpAny_mergeDict_heap (hsz := by simpa using hsz) hu hdo hoS hnew ho' (.inr ⟨PySem.keyed_apart st ho', hap⟩) fun h' hd' _ hs' => ?_
  show wpAny _ _ (Builtin.Dict.addKeywords s.heap.objs.size [] >>= _) _ _ _
  rw [storedAllH_nil_of_nodup more hn] at hd'
  exact wpAny_bind (wpAny_pure (wpAny_pure ⟨rfl, h h' hd' hs'⟩))
end
/-- the hashes of the keys are apart -/
def HAp (kvs : List (List Key × V)) : Prop := ∀ (P : Program) (w : World), (kvs.map fun p => (tupleKind (mixKind P w)).hash p.1).Nodup
section
variable {X : Cx}
theorem call_dictT (hu : X.A.units + 64 < cLine) : CallR X (.type "dict") (fun xs H Q => ∃ (a : Addr) (kvs : List (List Key × V)), xs = [.ref a] ∧ Rd H a (.dT kvs) ∧ HAp kvs ∧ ∀ p, H p = none → Q (.ref p) (upd H p (.dT kvs))) := by
  intro pins s σ H xs us Q I r q
  obtain ⟨a, kvs, ex, hd, hap, q⟩ := q
  subst ex
  obtain ⟨u, eu, rx⟩ := vals1 r
  subst eu
  cases rx
  obtain ⟨z, lo, ks, rel, dd⟩ := dt_rd I.hok hd
  have el : ks.map (fun x => (tupleKind (mixKind X.prog X.w)).hash x.1) = kvs.map fun p => (tupleKind (mixKind X.prog X.w)).hash p.1 := by
    clear hap q dd z hd
    induction rel with
    | nil => rfl
    | cons h t ih => rw [List.map_cons, List.map_cons, ih, h.1]
  have ln : kvs.length = ks.length := rel.length
  refine kt_call_dictT tupleKind_stays (by show X.A.units + 1 + 1 < cLine; omega) lo dd (by rw [el]; exact hap _ _) (by rw [← ln]; exact z) fun h' d' hs => ?_
  have hm : (s.heap.objs.size == sysModules) = false := beq_eq_false_iff_ne.mpr (Nat.ne_of_gt I.big)
  obtain ⟨o, es, ep, h1, h2, h3, h4, h5, h6⟩ := d'
  have hn : H s.heap.objs.size = none := I.hok.fresh (Nat.le_refl _)
  have rel2 : KT (upd H s.heap.objs.size (.dT kvs)) kvs ks := rel.keeps fun b ys e => by rw [upd_ne (ne_of_none e hn)]; exact e
  exact ⟨.ref s.heap.objs.size, upd H s.heap.objs.size (.dT kvs), I.laid (t' := s.toks) (fun b u e => (hs.2 b (Nat.ne_of_lt (Heap.lt_size e))).trans (Heap.get?_push_of_some _ e)) (Nat.le_refl _)
    (show ObjOk X.prog X.w _ _ _ (.dT kvs) from ⟨z, hm, ks, rel2, o, es, ep, h1, h2, h3, h4, h6⟩), rfl, q _ hn⟩
end
end

/-! ### a lambda with one parameter handed to a method; with of an own class -/
namespace L1
open PySem PySem.Spec PyProof.Rows L2 LamX
/-- one parameter a, no other name of its own: captured ones and globals -/
structure LamP (sc scope : Scope) (a : Str) : Prop where
  kind : scope.kind = .function
  co : scope.isCoroutine = false
  gen : scope.isGenerator = false
  own : ∀ y ∈ scope.names, y.2 ≠ .cell ∧ (y.2 = .local → y.1 = a)
  par : scope.names.lookup a = some .local
  free : ∀ y ∈ scope.names, y.2 = .free → sc.names.lookup y.1 = some .cell ∨ sc.names.lookup y.1 = some .free
def lamPB (sc scope : Scope) (a : Str) : Bool :=
  decide (scope.kind = .function) && !scope.isCoroutine && !scope.isGenerator && decide (scope.names.lookup a = some .local) && scope.names.all fun y => !decide (y.2 = .cell) && (!decide (y.2 = .local) || decide (y.1 = a)) && (!decide (y.2 = .free) || decide (sc.names.lookup y.1 = some .cell) || decide (sc.names.lookup y.1 = some .free))
theorem lamP_by {sc scope : Scope} {a : Str} (h : lamPB sc scope a = true) : LamP sc scope a := by
  unfold lamPB at h
  simp only [Bool.and_eq_true, Bool.or_eq_true, Bool.not_eq_true', decide_eq_true_eq, decide_eq_false_iff_not, List.all_eq_true] at h
  obtain ⟨⟨⟨⟨h1, h2⟩, h3⟩, h5⟩, h4⟩ := h
  refine ⟨h1, h2, h3, fun y hy => ⟨(h4 y hy).1.1, fun e => ?_⟩, h5, fun y hy e => ?_⟩
  · rcases (h4 y hy).1.2 with z | z
    · exact absurd e z
    · exact z
  · rcases (h4 y hy).2 with (z | z) | z
    · exact absurd e z
    · exact .inl z
    · exact .inr z
theorem LamP.has {X : Cx} {scope : Scope} {a : Str} (L : LamP X.env.scope scope a) (ok : X.Ok) : ∀ y ∈ scope.names, y.2 = .free → ∃ c, X.env.cells.lookup y.1 = some c := fun y hy e => by
  rcases L.free y hy e with k | k
  · exact ok.has _ (.inl k)
  · exact ok.has _ (.inr k)
/-- the context of the lambda's body, entered at s from the frames outer; nothing leaves it -/
def lamCx1 (X : Cx) (A : Around) (outer : List Env) (s : Shared) (H : Hp) (scope : Scope) (f c' : Addr) (a : Str) : Cx where
  prog := X.prog
  w := X.w
  K := X.K
  mg := X.mg
  base := X.base
  A := A.deeper (lamEnv X scope s.heap.objs.size f c')
  N := X.N ++ [a]
  s_0 := s
  H_0 := H
  env := lamEnv X scope s.heap.objs.size f c'
  outer := outer
  stack := lamEnv X scope s.heap.objs.size f c' :: outer
  ex := []
  fn := fun _ => false
  calm := true
  pn := []
  xe := fun _ _ => False
section
variable {X : Cx} {pins : List (Addr × Obj)} {σ : L2.St} {H HZ : Hp} {s s1 : Shared}
theorem lam_start3 {A : Around} {outer : List Env} {scope : Scope} {f c' : Addr} {h₁ : Heap} {tk : Nat} {a : Str} {v : V} {u : Value} (I : Inv X pins σ H s) (L : LamP X.env.scope scope a) (hna : a ∉ X.N) (rv : RelV v u) (e0 : Env0 X.prog X.w X.K X.mg X.base A outer s1 HZ) (hd : A.handled = none)
    (un : Un (frs X.stack) [] H HZ s.heap s1.heap) (hns : h₁.Ns s1.heap.objs.size fun y => ([(a, u)] : List (Str × Value)).reverse.lookup y) (kp : ∀ b o, s1.heap.get? b = some o → h₁.get? b = some o) :
    Inv (lamCx1 X A outer s1 HZ scope f c' a) [] (σ ++ [some v]) HZ { s1 with heap := h₁, toks := tk } := by
  have hfree := L.has I.ok
  have cm : ∀ {y c}, (cloFrom X.env.cells scope.names []).lookup y = some c → X.env.cells.lookup y = some c := fun {y c} e => by
    rcases cloFrom_mem (PySem.mem_of_lookup e) with hm | ⟨h1, h2⟩
    · cases hm
    · obtain ⟨c1, hc⟩ := hfree _ h1 rfl
      have hc : X.env.cells.lookup y = some c1 := hc
      have e2 : c = c1 := by
        rw [h2, hc] <;> rfl
      rw [e2]
      exact hc
  have look : ∀ {y}, scope.names.lookup y = some .free → ∃ c, (cloFrom X.env.cells scope.names []).lookup y = some c := fun {y} hl => by
    have hy : (y, NameKind.free) ∈ scope.names := PySem.mem_of_lookup hl
    exact mem_lookup (cloFrom_has (cells := X.env.cells) (acc := []) hy)
  have cellK : ∀ {c : Addr} {v : Option Value}, H c = none → s.heap.IsCell c v → h₁.IsCell c v := fun {c v} n ⟨o, ho, hd⟩ => by
    obtain ⟨sl, q⟩ := un.any ho n (by simp)
    exact ⟨_, kp _ _ q, hd⟩
  have noA : ∀ b : Addr, b ∉ (lamCx1 X A outer s1 HZ scope f c' a).ex := fun b z => absurd (show b ∈ ([] : List Addr) from z) (by simp)
  refine ⟨⟨e0.mod, L.kind, rfl, rfl, Nat.le_refl _, fun y z c e1 e2 => I.ok.inj y z c (cm e1) (cm e2), fun y hy => ?_, fun y c z _ => ?_, fun _ => hd, Around.frames_deeper e0.frames, .inr ⟨rfl, rfl⟩, fun b z => absurd z (noA b), e0.bs, e0.bsz, fun b _ _ => noA b,
      fun b z => absurd z (noA b), e0.funs, e0.frf⟩,
    rfl, e0.bare, Un.kept kp, ⟨_, hns, fun i y w e1 e2 e3 => ?_⟩, fun y c e => ?_, e0.hok.fresh (Nat.le_refl _), fun y c e => ?_, fun q hq => absurd (show q ∈ ([] : List (Addr × Obj)) ++ [] from hq) (by simp), e0.hok.kept kp, ?_⟩
  · have hy : scope.names.lookup y = some .cell ∨ scope.names.lookup y = some .free := hy
    rcases hy with hy | hy
    · exact absurd rfl (L.own _ (PySem.mem_of_lookup hy)).1
    · exact look hy
  · have z : false = true := z
    cases z
  · have e3 : Vis scope y := e3
    have e1 : (X.N ++ [a])[i]? = some y := e1
    have hl := I.len
    by_cases hi : i < X.N.length
    · rw [List.getElem?_append_left hi] at e1
      rw [List.getElem?_append_left (by omega)] at e2
      have yne : y ≠ a := fun z => hna (z ▸ List.mem_of_getElem? e1)
      rcases e3 with k | k | k
      · exact absurd ((L.own _ (PySem.mem_of_lookup k)).2 rfl) yne
      · exact absurd rfl (L.own _ (PySem.mem_of_lookup k)).1
      · obtain ⟨m, hn, hl⟩ := I.loc
        have hvis : Vis X.env.scope y := (L.free _ (PySem.mem_of_lookup k) rfl).elim (fun k => .inr (.inl k)) (fun k => .inr (.inr k))
        obtain ⟨w', r, q⟩ := hl i y w e1 e2 hvis
        obtain ⟨c2, h2⟩ := look k
        refine ⟨w', r, .inr ⟨.inr k, c2, h2, ?_⟩⟩
        have c1 := cm h2
        rcases q with ⟨k', _⟩ | ⟨_, c3, e', z⟩
        · have k' : X.env.scope.names.lookup y = some .local := k'
          rcases L.free _ (PySem.mem_of_lookup k) rfl with k2 | k2 <;> rw [show X.env.scope.names.lookup y = _ from k2] at k' <;> cases k'
        · rw [c1] at e'
          cases e'
          exact cellK (I.freeC y _ c1) z
    · rw [List.getElem?_append_right (by omega)] at e1 e2
      have ei : i = X.N.length := by
        have h1 : i - X.N.length < 1 := by
          have := (List.getElem?_eq_some_iff.mp e1).1
          simpa using this
        omega
      subst ei
      rw [Nat.sub_self] at e1
      rw [← hl, Nat.sub_self] at e2
      cases e1
      cases e2
      refine ⟨u, rv, .inl ⟨L.par, ?_⟩⟩
      show ([(a, u)] : List (Str × Value)).reverse.lookup a = some u
      simp
  · obtain ⟨w', z⟩ := I.cell y c (cm e)
    exact ⟨w', cellK (I.freeC y c (cm e)) z⟩
  · obtain ⟨v, o, ho, hd⟩ := I.cell y c (cm e)
    exact un.free c o ho (I.freeC y c (cm e)) (by simp)
  · show (σ ++ [some v]).length = (X.N ++ [a]).length
    rw [List.length_append, List.length_append, I.len]
    rfl
/-- x(e), in the method that got the lambda: Z is that method's context, entered at s -/
theorem pe_act1 {Ng : List Str} {qg : Str} {sg : Scope} {g f c' : Addr} {cdg pm ctv : Value} {params : Arguments} {body : Expr} {scope : Scope} {k i : Nat} {a b : Str} {te tb : TE} {e : Expr} {Eg : XK} {p1 p2 : Pos}
    (I : Inv X pins σ H s) (L : LamP X.env.scope scope a) (hna : a ∉ X.N) (hf : s.heap.get? f = some (PySem.W.kla_obj "<lambda>" (X.env.qual ++ "<lambda>") params body scope (cloFrom X.env.cells scope.names []) pm c' ctv)) (hfn : H f = none) (hfr : f ∉ frs X.stack)
    (hbind : ∀ u : Value, bindArgs (PySem.W.kla_fn "<lambda>" (X.env.qual ++ "<lambda>") params body scope (cloFrom X.env.cells scope.names []) pm (.ref c') ctv) ⟨[u], []⟩ = pure [(a, u)])
    (hr : Room (k + 1) (X.A.deeper (envOfC qg sg s.heap.objs.size g cdg)))
    (hbody : ∀ (A : Around) (outer : List Env) (s : Shared) (H : Hp), Room k (A.deeper (lamEnv X scope s.heap.objs.size f c')) → PE (lamCx1 X A outer s H scope f c' a) body tb)
    (he : PE (cxOf CX0 X.prog X.w X.K X.mg X.base Ng qg sg g cdg X.A X.stack s H Eg).nox e te)
    (hN : Ng[i]? = some b) (hv : Vis sg b) (hd : (b == ("__debug__" : Str)) = false := by decide) (hcd : (b == ("__classdict__" : Str)) = false := by decide)
    (hse : starEach [e] (cxOf CX0 X.prog X.w X.K X.mg X.base Ng qg sg g cdg X.A X.stack s H Eg).nox.env = (false, eval e (cxOf CX0 X.prog X.w X.K X.mg X.base Ng qg sg g cdg X.A X.stack s H Eg).nox.env) :: starEach [] (cxOf CX0 X.prog X.w X.K X.mg X.base Ng qg sg g cdg X.A X.stack s H Eg).nox.env := by rfl) :
    PE (cxOf CX0 X.prog X.w X.K X.mg X.base Ng qg sg g cdg X.A X.stack s H Eg).nox (.Call (.Name b p1) [e] [] p2)
      (fun σZ HZ Q => σZ[i]? = some (some (.ref f)) ∧ te σZ HZ fun v H1 => H1 c' = some (CodeO c' (X.env.qual ++ "<lambda>")) ∧ tb (σ ++ [some v]) H1 Q) := by
  refine ⟨fun pinsZ sZ σZ HZ Q IZ h => ?_⟩
  obtain ⟨hs, ht⟩ := h
  refine wpAny_Call_Name_kw (thn ((pe_var (pos := p1) (i := i) hN hv hd hcd).run pinsZ sZ σZ HZ (fun v H1 => v = .ref f ∧ H1 = HZ) IZ ⟨.ref f, hs, rfl, rfl⟩) fun u s1 ⟨v, H1, I1, r1, q1⟩ => ?_)
  obtain ⟨ev, eH⟩ := q1
  subst ev
  rw [eH] at I1
  obtain rfl : u = Value.ref f := r1
  have ofA : ∀ {σ' : L2.St} {H' : Hp} {s' : Shared} {pins' : List (Addr × Obj)}, Inv (cxOf CX0 X.prog X.w X.K X.mg X.base Ng qg sg g cdg X.A X.stack s H Eg).nox pins' σ' H' s' → s'.heap.get? f = some (PySem.W.kla_obj "<lambda>" (X.env.qual ++ "<lambda>") params body scope (cloFrom X.env.cells scope.names []) pm c' ctv) :=
    fun I' => I'.base.keep f _ hf hfn hfr (fun z => nomatch (show f ∈ ([] : List Addr) from z))
  refine PySem.W.callWith_F (first := []) ⟨_, _, _, _, ofA I1⟩ (thn ((pa_cons (hs := hse) he pa_nil).run p2 pinsZ s1 σZ HZ (fun vs H2 => match vs with
    | [v] => H2 c' = some (CodeO c' (X.env.qual ++ "<lambda>")) ∧ tb (σ ++ [some v]) H2 Q
    | _ => False) I1 ht) fun us s2 ⟨vs, H2, I2, r, h2⟩ => ⟨⟨_, _, _, _, ofA I2⟩, ?_⟩) hse rfl
  match vs, r, h2 with
  | [v], .cons (b := u) rv .nil, ⟨hc, hb2⟩ =>
  have un : Un (frs X.stack) [] H H2 s.heap s2.heap := I2.base
  obtain ⟨⟨oc, vs0, t, hoc, hdc, hvc⟩, _, _⟩ := I2.hok c' _ hc
  have rc : codeAny (model X.prog X.w) (X.A.deeper (envOfC qg sg s.heap.objs.size g cdg)) (.call (.ref f) ⟨[u], []⟩) (CR CX0 (envOfC qg sg s.heap.objs.size g cdg :: X.stack) X.prog X.w H2 s2 Q E0) s2 := by
    refine PySem.W.kla_callFunE hr.depth (ofA I2) rfl L.co L.gen rfl ⟨c', oc, vs0, t, rfl, hoc, hdc, hvc⟩ ?_
    rw [hbind]
    refine wpAny_pure (wpAny_newFunctionEnv (fun y hy => (L.own y hy).1) (fun y hy => ?_) (fun h₁ hns hsb => ⟨I2.nolimit.fresh _ hsb, ?_⟩) L.kind)
    · rw [List.mem_singleton] at hy
      rw [hy]
      exact L.par
    show codeAny _ _ (.expr body (lamEnv X scope s2.heap.objs.size f c')) _ _
    have kp : ∀ b o, s2.heap.get? b = some o → h₁.get? b = some o := fun b o e => hsb.extBut b o (Nat.ne_of_lt (Heap.lt_size e)) (Heap.get?_push_of_some _ e)
    have J : Inv (lamCx1 X (X.A.deeper (envOfC qg sg s.heap.objs.size g cdg)) (envOfC qg sg s.heap.objs.size g cdg :: X.stack) s2 H2 scope f c' a) [] (σ ++ [some v]) H2 { s2 with heap := h₁, toks := s2.toks + ([(a, u)] : List (Str × Value)).length } :=
      lam_start3 I L hna rv I2.env0 hr.hd un hns kp
    refine PySem.W.kla_codeExpr (wpAny_mono ((hbody _ _ s2 H2 (hr.deeper _)).run [] _ _ H2 Q J hb2) (fun v s' hq => ?_) fun e s' hq => hq.elim)
    obtain ⟨w', H', J', rv', q⟩ := hq
    exact ⟨w', H', J'.os, J'.bare, J'.base, J'.hok, rv', q⟩
  show wpAny _ _ (call (.ref f) [u]) _ _ _
  refine wpAny_call (codeAny_mono rc fun r s' hq => ?_)
  cases r with
  | error e => exact hq.elim
  | ok fl =>
    cases fl with
    | ret u => exact I2.after hq
    | next => exact False.elim hq
    | brk => exact False.elim hq
    | cont => exact False.elim hq
/-- the method's body, told with what the call of its parameter does -/
def GivesM (X : Cx) (k : Nat) (Ng : List Str) (qg : Str) (sg : Scope) (g : Addr) (bg : List Stmt) (b : Str) (q : Str) (TT : (V → Hp → VK → Prop) → Addr → Hp → VK → Prop) : Prop :=
  ∀ (cdg : Value) (f c' x : Addr) (s : Shared) (H : Hp) (Q : VK) (tl : V → Hp → VK → Prop), Room (k + 1) (X.A.deeper (envOfC qg sg s.heap.objs.size g cdg)) →
    (∀ (e : Expr) (te : TE) (p1 p2 : Pos), PE (cxOf CX0 X.prog X.w X.K X.mg X.base Ng qg sg g cdg X.A X.stack s H E0).nox e te →
      starEach [e] (cxOf CX0 X.prog X.w X.K X.mg X.base Ng qg sg g cdg X.A X.stack s H E0).nox.env = (false, eval e (cxOf CX0 X.prog X.w X.K X.mg X.base Ng qg sg g cdg X.A X.stack s H E0).nox.env) :: starEach [] (cxOf CX0 X.prog X.w X.K X.mg X.base Ng qg sg g cdg X.A X.stack s H E0).nox.env →
      PE (cxOf CX0 X.prog X.w X.K X.mg X.base Ng qg sg g cdg X.A X.stack s H E0).nox (.Call (.Name b p1) [e] [] p2) (fun σZ HZ Q => σZ[1]? = some (some (.ref f)) ∧ te σZ HZ fun v H1 => H1 c' = some (CodeO c' q) ∧ tl v H1 Q)) →
    H c' = some (CodeO c' q) → TT tl x H Q →
    ∃ t, PSs (cxOf CX0 X.prog X.w X.K X.mg X.base Ng qg sg g cdg X.A X.stack s H E0).nox bg t ∧ t { nx := fun _ H' => Q .non H', rt := Q } (L2.start Ng [.ref x, .ref f]) H
/-- o.m(lambda a: body) -/
def tMethLam (C : Addr) (m : Str) (T : List (Addr × Str)) (TT : (V → Hp → VK → Prop) → Addr → Hp → VK → Prop) (ta tb : TE) : TE := fun σ H Q => ta σ H fun x H1 => ∃ b dx fs, x = .ref b ∧ H1 b = some (.ins C dx fs) ∧ fs.lookup m = none ∧ Tabs T H1 ∧
  ∀ H2, ExtN H1 H2 → Tabs T H2 → TT (fun v H' Q' => tb (σ ++ [some v]) H' Q') b H2 Q
theorem pe_methlam {T : List (Addr × Str)} {TT : (V → Hp → VK → Prop) → Addr → Hp → VK → Prop} {m xg qg a sn b : Str} {C g c P : Addr} {k : Nat} {st : Stmt} {fd : FuncData} {Ng : List Str} {pl : Sem Bool}
    {params : Arguments} {body o : Expr} {scope : Scope} {ta tb : TE} {lpos apos pos : Pos} (he : PE X o ta) (cl : Cls X.K C) (hm : Meth X.K C m g) (F : Fun X.K xg qg st g fd) (hb : L2.Binds X.K fd [sn, b] []) (Sg : FnScope Ng [sn, b] (defScope st)) (hNg : Ng[1]? = some b) (hva : Vis (defScope st) b)
    (hG : GivesM X k Ng qg (defScope st) g (defBody st) b (X.env.qual ++ "<lambda>") TT)
    (TB : TabB X.base X.mg c P) (hcode : X.env.code = .ref c) (hmT : (P, X.env.qual ++ "<lambda>") ∈ T) (hu : ∀ p ∈ T, p.1 = P → p.2 = X.env.qual ++ "<lambda>") (hr : Room (k + 2) X.A) (L : LamP X.env.scope scope a) (hna : a ∉ X.N) (hdef : defaultsOf params X.env = ([], []))
    (hbind : ∀ (q : Str) (cl : List (Str × Addr)) (pm cv ctv u : Value), bindArgs (PySem.W.kla_fn "<lambda>" q params body scope cl pm cv ctv) ⟨[u], []⟩ = pure [(a, u)])
    (hbody : ∀ (A : Around) (outer : List Env) (s : Shared) (H : Hp) (f c' : Addr), Room k (A.deeper (lamEnv X scope s.heap.objs.size f c')) → PE (lamCx1 X A outer s H scope f c' a) body tb)
    (hd : (b == ("__debug__" : Str)) = false := by decide) (hcd : (b == ("__classdict__" : Str)) = false := by decide)
    (ht : eval (.Call (.Attribute o m apos) [.Lambda params body scope lpos] [] pos) X.env = (do
      let ov ← eval o X.env
      standAt apos.atName
      let (f, first) ← holding [ov] (getMethod ov m pl)
      callWith pos f first (backTo pos (starEach [.Lambda params body scope lpos] X.env)) (backToKw pos (keywordEach [] X.env))) := by rfl) :
    PE X (.Call (.Attribute o m apos) [.Lambda params body scope lpos] [] pos) (tMethLam C m T TT ta tb) := by
  refine ⟨fun pins s σ H Q I h => ?_⟩
  refine PySem.W.methodCall_KW (pl := pl) (thn (he.run pins s σ H _ I h) fun u s1 ⟨x, H1, I1, rx, b0, dx, fs, ex, ea, l, hT, h⟩ => ?_) ht
  subst ex
  obtain rfl : u = Value.ref b0 := rx
  refine getmeth_ok I1 ea cl hm l ?_
  refine PySem.W.callWith_K (first := [.ref b0]) (h₀ := X.base) I.ok.mod.kin hm.kp ?_ (by rfl) (by rfl)
  show wpAny _ _ (spliced ((false, eval (.Lambda params body scope lpos) X.env) :: backTo pos (starEach [] X.env))) _ _ s1
  refine Calls.spliced_cons (lam_make2 I1 TB hcode hmT hu hT hdef (L.has I1.ok) fun f c' pm' ctv H2 s' I2 eN T2 hf hfn hfr hco => ?_)
  refine Calls.spliced_nil ⟨I2.kIn, ?_⟩
  obtain ⟨oc, od, kV, doc, pm, an, cdv, ct, osl, rfl, lk, hcg⟩ := F.ex
  have rc : codeAny (model X.prog X.w) X.A (.call (.ref g) ⟨[.ref b0, .ref f], []⟩) (CR CX0 X.stack X.prog X.w H2 s' Q E0) s' := by
    refine run_ofS (N := Ng) (ps := [sn, b]) (us := [.ref b0, .ref f]) (vs := [.ref b0, .ref f]) lk hcg Sg hr I2.env0 (hb s' [.ref b0, .ref f] I2.kIn rfl) (.cons rfl (.cons rfl .nil)) rfl fun hr' => ?_
    obtain ⟨t', ht', hq'⟩ := hG cdv f c' b0 s' H2 Q (fun v H' Q' => tb (σ ++ [some v]) H' Q') hr' (fun e te p1 p2 hpe hse => pe_act1 (i := 1) I2 L hna hf hfn hfr (hbind _ _ _ _ _) hr' (fun A outer s H hr2 => hbody A outer s H f c' hr2) hpe hNg hva hd hcd hse) hco (h H2 eN T2)
    exact ⟨t', ht'.nox, hq'⟩
  show wpAny _ _ (call (.ref g) [.ref b0, .ref f]) _ _ _
  refine wpAny_call (codeAny_mono rc fun r s2 hq => ?_)
  cases r with
  | error e => exact (show False from hq).elim
  | ok fl =>
    cases fl with
    | ret u => exact I2.after hq
    | next => exact False.elim hq
    | brk => exact False.elim hq
    | cont => exact False.elim hq
/-! ### with, by an own class whose __enter__ and __exit__ don't raise; nothing leaves the body -/
def tWith (C : Addr) (spE spX : Sp) (tc : TE) (tb : TS) : TS := fun D σ H => tc σ H fun v H1 => ∃ x dx fs, v = .ref x ∧ H1 x = some (.ins C dx fs) ∧ spE [.ref x] H1 (fun _ H2 =>
  tb { nx := fun σ' H3 => spX [.ref x, .non, .non, .non] H3 (fun _ H4 => D.nx σ' H4) E0, rt := fun v H3 => spX [.ref x, .non, .non, .non] H3 (fun _ H4 => D.rt v H4) E0,
       bk := fun σ' H3 => spX [.ref x, .non, .non, .non] H3 (fun _ H4 => D.bk σ' H4) E0, ct := fun σ' H3 => spX [.ref x, .non, .non, .non] H3 (fun _ H4 => D.ct σ' H4) E0 } σ H2) E0
theorem ps_with0 {C fe fx : Addr} {ctx : Expr} {body : List Stmt} {tc : TE} {tb : TS} {pos : Pos} {k : Nat} {fde fdx : FuncData} {p0 p1 p2 p3 p4 : Str} {spE spX : Sp} (hc : PE X ctx tc) (he : PySem.W.findIn X.K (.ref C) "__enter__" = some (some (.ref fe))) (hfe : PySem.W.isFn X.K (.ref fe) = true)
    (hx : PySem.W.findIn X.K (.ref C) "__exit__" = some (some (.ref fx))) (hfx : PySem.W.isFn X.K (.ref fx) = true) (Fe : FnOk X.prog X.w X.K X.mg X.base CX0 k fe fde [p0] spE) (be : Binds X.K fde [p0] []) (Fx : FnOk X.prog X.w X.K X.mg X.base CX0 k fx fdx [p1, p2, p3, p4] spX) (bx : Binds X.K fdx [p1, p2, p3, p4] [])
    (hr : Room k X.A) (hb : PSs X.nox body tb) : PS X (.With [⟨ctx, none⟩] body pos) (tWith C spE spX tc tb) := by
  refine ⟨fun pins s σ H D I h => ?_⟩
  refine PySem.W.kw_exec0 (thn (hc.run pins s σ H _ I h) fun u s1 ⟨v, H1, I1, rv, x, dx, fs, ev, ex, q⟩ => ?_)
  subst ev
  obtain rfl : u = Value.ref x := rv
  obtain ⟨mA, O, _, _, _, _⟩ := ins_get I1.hok ex
  obtain ⟨od, IA, _⟩ := O.look
  refine PySem.W.kw_core0 I1.kIn IA he hfe hx hfx ?_
  refine thn (run_fn (us := [.ref x]) (vs := [.ref x]) Fe hr be .nil pass0 I1 (.cons rfl .nil) q) fun u2 s2 ⟨v2, H2, I2, _, q2⟩ => ?_
  have out : ∀ {σ' : L2.St} {H3 : Hp} {s3 : Shared} {R : Hp → Prop} {Z : Value → Shared → Prop}, Inv X pins σ' H3 s3 → spX [.ref x, .non, .non, .non] H3 (fun _ H4 => R H4) E0 → (∀ H4 s4 u, Inv X pins σ' H4 s4 → R H4 → Z u s4) →
      wpAny (model X.prog X.w) X.A (call (.ref fx) [.ref x, .none, .none, .none]) Z X.xe s3 := fun J q hZ =>
    thn (run_fn (us := [.ref x, .none, .none, .none]) (vs := [.ref x, .non, .non, .non]) Fx hr bx .nil pass0 J (.cons rfl (.cons rfl (.cons rfl (.cons rfl .nil)))) q) fun u4 s4 ⟨v4, H4, I4, _, q4⟩ => hZ H4 s4 u4 I4 q4
  refine wpAny_mono (hb.run pins s2 σ H2 _ (I2.wish _) q2) (fun fl s3 h3 => ?_) fun _ _ z => z
  have h3 := h3.unwish
  cases fl with
  | next =>
    obtain ⟨σ', H3, J, q⟩ := h3
    exact out J q fun H4 s4 u J4 q4 => ⟨σ', H4, J4, q4⟩
  | brk =>
    obtain ⟨σ', H3, J, q⟩ := h3
    exact out J q fun H4 s4 u J4 q4 => ⟨σ', H4, J4, q4⟩
  | cont =>
    obtain ⟨σ', H3, J, q⟩ := h3
    exact out J q fun H4 s4 u J4 q4 => ⟨σ', H4, J4, q4⟩
  | ret u =>
    obtain ⟨v, σ', H3, J, r, q⟩ := h3
    exact out J q fun H4 s4 u J4 q4 => ⟨v, σ', H4, J4, r, q4⟩
end
end L1

/-! ### match o: case ['a' | 'b' | 'c', _, n]: .. case ['d', _, m]: .. -/
section
open PySem.Spec PyProof.Rows
variable {X : Cx}
/-- a written text as a pattern, beside a flat value -/
theorem mp_val {pins : List (Addr × Obj)} {σ : L2.St} {H : Hp} {s : Shared} {v0 : V} {u0 : Value} {z : Str} {j : Nat} {q r : Pos} {Q : Option (List (Str × Value)) → Shared → Prop} (I : Inv X pins σ H s) (r0 : RelV v0 u0) (fl : flatV v0 = true) (hu : X.A.units + 64 < cLine)
    (h : ∀ s', Inv X pins σ H s' → if eqV v0 (.str z) = true then Q (some []) s' else Q none s') : wpAny (model X.prog X.w) X.A (matchPattern (.MatchValue (.Constant (.str z) j q) r) X.env u0) Q X.xe s := by
  refine wpAny_matchPattern_Value (thn ((pe_str (X := X) (x := z) (j := j) (pos := q)).run pins s σ H (fun v H1 => v = .str z ∧ H1 = H) I ⟨rfl, rfl⟩) fun x s1 ⟨v, H1, I1, r1, q1⟩ => ?_)
  obtain ⟨rfl, rfl⟩ := q1
  obtain ⟨d, hd, e⟩ : ∃ d : PyData, Dp X.K H1 v0 d ∧ d.plain = true ∧ d.depth ≤ 64 ∧ PyData.eqv d (.str z) = eqV v0 (.str z) := by
    cases v0 with
    | non => exact ⟨_, .non, rfl, Nat.le_of_ble_eq_true rfl, rfl⟩
    | bl b => exact ⟨_, .bl b, rfl, Nat.le_of_ble_eq_true rfl, rfl⟩
    | int i => exact ⟨_, .int i, rfl, Nat.le_of_ble_eq_true rfl, rfl⟩
    | str y => exact ⟨_, .str y, rfl, Nat.le_of_ble_eq_true rfl, rfl⟩
    | byt _ => cases fl
    | flt _ => cases fl
    | ref _ => cases fl
    | ty _ => cases fl
  refine thn (op_eqP hu pins s1 σ H1 v0 (.str z) u0 x (fun v H2 => v = .bl (eqV v0 (.str z)) ∧ H2 = H1) I1 r0 r1 ⟨d, .str z, hd, .str z, e.1, rfl, e.2.1, by rw [e.2.2], rfl⟩) fun c s2 ⟨v, H2, I2, r2, q2⟩ => ?_
  obtain ⟨rfl, rfl⟩ := q2
  cases r2
  exact wpAny_truthy_bool (h s2 I2)
variable {te : TE} {e : Expr} {t1 t2 : TS} {b1 b2 : List Stmt} {w1 w2 w3 w4 n1 n2 : Str} {j1 j2 j3 j4 : Nat} {q1 q2 q3 q4 r1 r2 r3 r4 p1 p2 p3 p4 p5 p6 p7 pos : Pos} {i1 i2 : Nat}
def tMatch3 (te : TE) (w1 w2 w3 w4 : Str) (i1 i2 : Nat) (t1 t2 : TS) : TS := fun D σ H => te σ H fun x H1 => ∃ (p : Addr) (v0 v1 v2 : V), x = .ref p ∧ H1 p = some (.tup [v0, v1, v2]) ∧ flatV v0 = true ∧
  if (eqV v0 (.str w1) || eqV v0 (.str w2) || eqV v0 (.str w3)) = true then t1 D (σ.set i1 (some v2)) H1 else if eqV v0 (.str w4) = true then t2 D (σ.set i2 (some v2)) H1 else D.nx σ H1
theorem bind_ok {pins : List (Addr × Obj)} {σ : L2.St} {H : Hp} {s : Shared} {i : Nat} {x : Str} {v : V} {u : Value} {Q : Unit → Shared → Prop} (I : Inv X pins σ H s) (hN : X.N.Nodup) (hi : X.N[i]? = some x) (hx : Loc X.env.scope x)
    (hf : X.fn x = true ∨ X.env.scope.names.lookup x = some .local) (r : RelV v u) (h : ∀ s', Inv X pins (σ.set i (some v)) H s' → Q () s') :
    wpAny (model X.prog X.w) X.A (assignInOrder ([(x, u)].map fun (n, _) => bindName X.env n) ([(x, u)].map (·.2))) Q X.xe s :=
  wpAny_assignInOrder_more (wpAny_bindName (store_ok I hN hi hx r (fun s1 I1 => wpAny_assignInOrder_none (h s1 I1)) hf))
theorem ps_match3 (hc : X.calm = true) (hu : X.A.units + 64 < cLine) (hN : X.N.Nodup) (hi1 : X.N[i1]? = some n1) (hx1 : Loc X.env.scope n1) (hi2 : X.N[i2]? = some n2) (hx2 : Loc X.env.scope n2) (he : PE X e te) (h1 : PSs X b1 t1) (h2 : PSs X b2 t2)
    (hf1 : X.fn n1 = true ∨ X.env.scope.names.lookup n1 = some .local := by first | exact .inl rfl | exact .inr rfl) (hf2 : X.fn n2 = true ∨ X.env.scope.names.lookup n2 = some .local := by first | exact .inl rfl | exact .inr rfl) :
    PS X (.Match e [⟨.MatchSequence [.MatchOr [.MatchValue (.Constant (.str w1) j1 q1) r1, .MatchValue (.Constant (.str w2) j2 q2) r2, .MatchValue (.Constant (.str w3) j3 q3) r3] p1, .MatchAs none none p2, .MatchAs none (some n1) p3] p4, none, b1⟩,
      ⟨.MatchSequence [.MatchValue (.Constant (.str w4) j4 q4) r4, .MatchAs none none p5, .MatchAs none (some n2) p6] p7, none, b2⟩] pos) (tMatch3 te w1 w2 w3 w4 i1 i2 t1 t2) := by
  refine ⟨fun pins s σ H D I h => ?_⟩
  refine wpAny_Match (thn (he.run pins s σ H _ I h) fun u s1 ⟨x, H1, I1, rx, p, v0, v1, v2, ex, hp, fl, q⟩ => ?_)
  subst ex
  obtain rfl : u = Value.ref p := rx
  have hit : ∀ {ps : List Pattern} {pos : Pos} {Q : Option (List (Str × Value)) → Shared → Prop} {s : Shared}, Inv X pins σ H1 s → ps.length = 3 → (∀ u0 u1 u2 s', Inv X pins σ H1 s' → RelV v0 u0 → RelV v1 u1 → RelV v2 u2 → wpAny (model X.prog X.w) X.A (matchEach ps X.env [u0, u1, u2]) Q X.xe s') →
      (ps.findIdx? (·.isStar) = none) → ((ps.all fun p => p.isWildcard || (p.isStar && p.names.isEmpty)) = false) → wpAny (model X.prog X.w) X.A (matchPattern (.MatchSequence ps pos) X.env (.ref p)) Q X.xe s := by
    intro ps pos Q s I hl h3 hs hw
    obtain ⟨its, rv, ht, hz⟩ := I.tuple (SqT.of hp)
    obtain ⟨u0, u1, u2, rfl, a0, a1, a2⟩ : ∃ u0 u1 u2, its = [u0, u1, u2] ∧ RelV v0 u0 ∧ RelV v1 u1 ∧ RelV v2 u2 := by
      cases rv with
      | cons a0 t0 =>
        cases t0 with
        | cons a1 t1 =>
          cases t1 with
          | cons a2 t2 =>
            cases t2
            exact ⟨_, _, _, rfl, a0, a1, a2⟩
    refine matchSeq_tuple_hit ht (show ((3 : Nat) : Int) < 2 ^ 63 by decide) (by rw [hl]; rfl) ?_ hs hw
    rw [hl]
    refine unpackItems_tuple (items := #[u0, u1, u2]) (I.ok.hd hc) ht fun h' hx => ?_
    exact h3 u0 u1 u2 _ (I.kept (t' := s.toks + 1 + 1) fun b o e => hx b o (Nat.ne_of_lt (Heap.lt_size e)) e) a0 a1 a2
  refine wpAny_matchCases_cons (hit I1 rfl ?_ rfl rfl)
  intro u0 u1 u2 s2 I2 a0 a1 a2
  have no : (eqV v0 (.str w1) || eqV v0 (.str w2) || eqV v0 (.str w3)) = false → ∀ s3, Inv X pins σ H1 s3 →
      wpAny (model X.prog X.w) X.A (matchCases [⟨.MatchSequence [.MatchValue (.Constant (.str w4) j4 q4) r4, .MatchAs none none p5, .MatchAs none (some n2) p6] p7, none, b2⟩] X.env (.ref p) false) (SP X pins D) X.xe s3 := by
    intro hn s3 I3
    rw [hn] at q
    refine wpAny_matchCases_cons (hit I3 rfl ?_ rfl rfl)
    intro u0 u1 u2 s4 I4 a0 a1 a2
    refine wpAny_matchEach_cons (mp_val I4 a0 fl hu fun s5 I5 => ?_)
    split
    · next h4 =>
      refine wpAny_matchEach_cons (wpAny_matchPattern_Capture (wpAny_matchEach_cons (wpAny_matchPattern_Capture (wpAny_matchEach_nil ?_))))
      refine bind_ok I5 hN hi2 hx2 hf2 a2 fun s6 I6 => ?_
      rw [h4] at q
      exact h2.run pins s6 _ H1 D I6 q
    · next h4 =>
      rw [if_neg h4] at q
      exact wpAny_matchCases_nil ⟨σ, H1, I5, q⟩
  have yes : (eqV v0 (.str w1) || eqV v0 (.str w2) || eqV v0 (.str w3)) = true → ∀ s3, Inv X pins σ H1 s3 →
      wpAny (model X.prog X.w) X.A (matchEach [.MatchAs none none p2, .MatchAs none (some n1) p3] X.env [u1, u2]) (fun (r' : Option (List (Str × Value))) s₂ => match r' with
        | none => wpAny (model X.prog X.w) X.A (matchCases [⟨.MatchSequence [.MatchValue (.Constant (.str w4) j4 q4) r4, .MatchAs none none p5, .MatchAs none (some n2) p6] p7, none, b2⟩] X.env (.ref p) false) (SP X pins D) X.xe s₂
        | some more => wpAny (model X.prog X.w) X.A (assignInOrder ((([] : List (Str × Value)) ++ more).map fun (n, _) => bindName X.env n) ((([] : List (Str × Value)) ++ more).map (·.2))) (fun _ s₂ => wpAny (model X.prog X.w) X.A (execs b1 X.env) (SP X pins D) X.xe s₂) X.xe s₂) X.xe s3 := by
    intro hy s3 I3
    rw [hy] at q
    refine wpAny_matchEach_cons (wpAny_matchPattern_Capture (wpAny_matchEach_cons (wpAny_matchPattern_Capture (wpAny_matchEach_nil ?_))))
    exact bind_ok I3 hN hi1 hx1 hf1 a2 fun s6 I6 => h1.run pins s6 _ H1 D I6 q
  refine wpAny_matchEach_cons (wpAny_matchPattern_Or (wpAny_matchFirst_cons (mp_val I2 a0 fl hu fun s3 I3 => ?_)))
  split
  · next h4 => exact yes (by rw [h4]; rfl) s3 I3
  · next h4 =>
    refine wpAny_matchFirst_cons (mp_val I3 a0 fl hu fun s5 I5 => ?_)
    split
    · next h5 => exact yes (by rw [h5]; simp) s5 I5
    · next h5 =>
      refine wpAny_matchFirst_cons (mp_val I5 a0 fl hu fun s6 I6 => ?_)
      split
      · next h6 => exact yes (by rw [h6]; simp) s6 I6
      · next h6 => exact wpAny_matchFirst_nil (no (by simp [h4, h5, h6]) s6 I6)
end

/-! ### the law's own helpers: bag, integer, divisor, lowest -/
def spBag (K : PySem.W.Frag) : Sp := fun vs H Q _ => ∃ (a : Addr) (ns : List Int), vs = [.ref a] ∧ SqL K H a (ns.map V.int) ∧ ∀ (g l : Addr) (H' : Hp), Same H H' → H g = none → H l = none → Bag H' g l → Q (.ref g) H'
def spInteger : Sp := fun vs H Q _ => ∃ g l : Addr, vs = [.ref g] ∧ Bag H g l ∧ ∀ (n : Int) (H' : Hp), n.natAbs ≤ 10 ^ 49 → Bag H' g l → Kp g H H' → Q (.int n) H'
def spLowest : Sp := fun vs H Q _ => ∃ t b : Int, vs = [.int t, .int b] ∧ b ≠ 0 ∧ b.natAbs < 2 ^ 9000 ∧ ∀ p, H p = none → Q (.ref p) (upd H p (.tup [.int (Rat.divInt t b).num, .int ((Rat.divInt t b).den : Int)]))
theorem Bag.keep {H H' : Hp} {g l : Addr} (b : Bag H g l) (s : Same H H') : Bag H' g l := by
  obtain ⟨i, r, sd, c, ns, hg, hl, hi⟩ := b
  exact ⟨i, r, sd, c, ns, s _ _ hg, s _ _ hl, hi⟩
theorem Bag.lst {H : Hp} {g l : Addr} (b : Bag H g l) : ∃ xs, H g = some (.lst xs) := by
  obtain ⟨i, r, sd, c, ns, hg, hl, hi⟩ := b
  exact ⟨_, hg⟩
theorem Bag.ne {H : Hp} {g l p : Addr} (b : Bag H g l) (hp : H p = none) : p ≠ g ∧ p ≠ l := by
  obtain ⟨i, r, sd, c, ns, hg, hl, hi⟩ := b
  exact ⟨(ne_of_none hg hp).symm, (ne_of_none hl hp).symm⟩
/-- a bag stands where nothing of it is written -/
theorem Bag.put {H : Hp} {g l p : Addr} {o : HO} (b : Bag H g l) (n : p ≠ g ∧ p ≠ l) : Bag (upd H p o) g l := by
  obtain ⟨i, r, sd, c, ns, hg, hl, hi⟩ := b
  exact ⟨i, r, sd, c, ns, by rw [upd_ne n.1.symm]; exact hg, by rw [upd_ne n.2.symm]; exact hl, hi⟩
theorem Bag.new {H : Hp} {g l p : Addr} {o : HO} (b : Bag H g l) (hp : H p = none) : Bag (upd H p o) g l := b.keep fun c u e => by
  rw [upd_ne (ne_of_none e hp)]
  exact e
theorem Kp.new {g p : Addr} {H H' : Hp} {o : HO} (k : Kp g H H') (hp : H' p = none) : Kp g H (upd H' p o) := fun b u e n => by
  have e1 := k b u e n
  rw [upd_ne (ne_of_none e1 hp)]
  exact e1
theorem Kp.put {g p : Addr} {H H' : Hp} {o : HO} (k : Kp g H H') (hp : H p = none) : Kp g H (upd H' p o) := fun b u e n => by
  rw [upd_ne (ne_of_none e hp)]
  exact k b u e n
theorem Kp.same {g : Addr} {H H' : Hp} (s : Same H H') : Kp g H H' := fun b u e _ => s b u e
theorem Same.new {H : Hp} {p : Addr} {o : HO} (hp : H p = none) : Same H (upd H p o) := fun b u e => by
  rw [upd_ne (ne_of_none e hp)]
  exact e
theorem size_at {c : Int} (h0 : 0 ≤ c) (h6 : c < 6) (hc : c ≠ 0) : ∃ z : Int, atI [V.int 1, V.int 2, V.int 3, V.int 12, V.int 1000, V.int (10 ^ (49 : Int).toNat)] c = some (.int z) ∧ 0 < z ∧ z ≤ 10 ^ 49 := by
  have : c = 1 ∨ c = 2 ∨ c = 3 ∨ c = 4 ∨ c = 5 := by omega
  rcases this with rfl | rfl | rfl | rfl | rfl
  · exact ⟨2, rfl, by decide, by decide⟩
  · exact ⟨3, rfl, by decide, by decide⟩
  · exact ⟨12, rfl, by decide, by decide⟩
  · exact ⟨1000, rfl, by decide, by decide⟩
  · exact ⟨10 ^ 49, rfl, by decide, by decide⟩
theorem big49 : (10 : Nat) ^ 49 < 2 ^ 200 := by decide
theorem pow_mono {a b : Nat} (h : a ≤ b) : (2 : Nat) ^ a ≤ 2 ^ b := Nat.pow_le_pow_right (by decide) h
theorem lt_pow {n a b : Nat} (h : n < 2 ^ a) (hab : a ≤ b) : n < 2 ^ b := Nat.lt_of_lt_of_le h (pow_mono hab)
theorem lt200 {n : Nat} (h : n ≤ 10 ^ 49) : n < 2 ^ 200 := Nat.lt_of_le_of_lt h big49
theorem lt9000 {n : Nat} (h : n ≤ 10 ^ 49) : n < 2 ^ 9000 := lt_pow (lt200 h) (by decide)
def spLaw (K : PySem.W.Frag) : Sp := fun vs H Q _ => ∃ (a : Addr) (ns : List Int), vs = [.ref a] ∧ SqL K H a (ns.map V.int) ∧ ns.length ≤ 63 ∧ ∀ H', Q (.bl true) H'
theorem neD_same {K : PySem.W.Frag} {H : Hp} {p q : Addr} {a b : Int} {Q : VK} (hp : H p = some (.tup [.int a, .int b])) (hq : H q = some (.tup [.int a, .int b])) (h : Q (.bl false) H) : rNeD K (.ref p) (.ref q) H Q := by
  refine ⟨.tuple [.int a, .int b], .tuple [.int a, .int b], .tup (SqT.of hp) (.cons (.int a) (.cons (.int b) .nil)), .tup (SqT.of hq) (.cons (.int a) (.cons (.int b) .nil)), rfl, rfl, ?_⟩
  have e : PyData.eqv (.tuple [.int a, .int b]) (.tuple [.int a, .int b]) = true := by simp [PyData.eqv, PyData.eqvAll]
  rw [e]
  exact h
theorem or_go {K : PySem.W.Frag} {H : Hp} {σ : L2.St} {Q : VK} {n d : Int} (hd : d ≠ 0) (h : ∀ m : Int, m ≠ 0 → (m = n ∨ m = d) → Q (.int m) H) : ∃ k, TruV K (.int n) H k ∧ if k = true then Q (.int n) H else tC (.int d) σ H Q := by
  by_cases e : n = 0
  · exact ⟨false, by rw [e]; rfl, iteF (h d hd (.inr rfl))⟩
  · exact ⟨true, (show true = (n != 0) by simp [e]), iteT (h n e (.inl rfl))⟩
theorem kit_self {K : PySem.W.Frag} {C : Addr} : PySem.W.kitOne K (.ref C) (.ref C) = some true := by simp [PySem.W.kitOne]
def spNumber : Sp := fun vs H Q _ => ∃ n : Int, vs = [.int n] ∧ Q (.bl true) H
section
variable {P : Program} {w : World} {K : PySem.W.Frag} {mg : Str → Option Value} {base : Heap} {A : Ad}
theorem ok_l_bag (T : Txt K mg A) : FnOk P w K mg base CX0 1 A.l_bag A.fd_l_bag P_l_bag (spBag K) := by
  refine T.F_l_bag.ok sc_l_bag (fun vs H Q E h => ?_) (fun cdv Ar outer s H vs Q E hr h => ?_)
  · obtain ⟨a, ns, rfl, _⟩ := h
    rfl
  · obtain ⟨a, ns, rfl, hS, k⟩ := h
    refine ⟨_, (pss_one (ps_ret (pe_lst (pa_cons (pe_callTy call_list_of (by rfl) T.z_list (by decide +kernel) (pa_cons (pv 0) pa_nil)) (pa_cons pe_int (pa_cons pe_int (pa_cons pe_int (pa_cons pe_int pa_nil)))))))), ?_⟩
    refine ⟨_, rfl, a, _, rfl, .inl hS, fun l hl => ⟨by walk_at "fact", fun g hg => ?_⟩⟩
    have nlg : l ≠ g := fun z => by
      rw [z, upd_same] at hg
      cases hg
    have hg0 : H g = none := by
      rw [upd_ne nlg.symm] at hg
      exact hg
    exact k g l _ ((Same.new hl).trans (Same.new hg)) hg0 hl ⟨0, 0, 17, 0, ns, upd_same, by rw [upd_ne nlg]; exact upd_same, by decide⟩
end

theorem Same.at_new {H H' : Hp} {D : Addr} {o : HO} (hD : H D = none) (s : Same H H') : Same H (upd H' D o) := fun b u e => by
  rw [upd_ne (ne_of_none e hD)]
  exact s b u e
/-- [.. for .. in a list], its parts keep what stands -/
theorem lc_same {K : PySem.W.Frag} {a : Addr} {xs : List V} {g : TG} {tt : TT} {te : TE} {vs : List Nat} {σ : L2.St} {H1 : Hp} {D : Addr} {Qd : Hp → Prop} (f : Nat → V) (hl : H1 a = some (.lst xs)) (hz : xs.length ≤ 1000) (hD : H1 D = none)
    (hs : ∀ i x H' (N : VK) (M : Hp → Prop), xs[i]? = some x → Same H1 H' → (∀ H4, Same H' H4 → N (f i) H4) → g x (wipe σ vs) H' fun σ2 H2 => wipe σ2 vs = wipe σ vs ∧ tt σ2 H2 fun b H3 => if b = true then te σ2 H3 N else M H3)
    (hd : ∀ H', Same H1 H' → H' D = some (.lst ((List.range xs.length).map f)) → Qd H') :
    ∃ W : Nat → Nat → Hp → Prop, (∃ m, W 0 m (upd H1 D (.lst []))) ∧ ∀ i m H, W i m H →
      ((Itl K a).stop i H ∧ Qd H) ∨ ((Itl K a).go i H ∧ ∃ Nx : Hp → Prop, (∀ H', Nx H' → ∃ m', m' < m ∧ W (i + 1) m' H') ∧ ∀ x H', (Itl K a).yld i H x H' → g x (wipe σ vs) H' fun σ2 H2 => wipe σ2 vs = wipe σ vs ∧ tt σ2 H2 fun b H3 =>
        if b = true then te σ2 H3 fun y H4 => ∃ acc, H4 D = some (.lst acc) ∧ acc.length < sizeLine ∧ Nx (upd H4 D (.lst (acc ++ [y]))) else Nx H3) := by
  refine lc_list (K := K) (a := a) (xs := xs) (fun i H' => Wd (Same H1 H' ∧ H' D = some (.lst ((List.range i).map f)))) ⟨Same.new hD, upd_same⟩ (fun i H' _ h => SqL.of (h.ok.1 _ _ hl)) ?_ (fun H' h => hd H' h.ok.1 h.ok.2)
  rintro i x H' hi ⟨s, hd'⟩
  refine hs i x H' _ _ hi s fun H4 s4 => ⟨_, s4 _ _ hd', ?_, Same.at_new hD (s.trans s4), ?_⟩
  · rw [List.length_map, List.length_range]
    have := (List.getElem?_eq_some_iff.mp hi).1
    exact Nat.lt_of_lt_of_le (Nat.lt_of_lt_of_le this hz) (by decide)
  · rw [upd_same, List.range_succ, List.map_append]
    rfl
theorem Same.none {H H' : Hp} {p : Addr} (s : Same H H') (h : H' p = none) : H p = none := by
  cases e : H p with
  | none => rfl
  | some o =>
    rw [s _ _ e] at h
    cases h

/-- what stands anywhere but at the list D is kept -/
theorem kp_of_same {D : Addr} {H H' : Hp} (s : Same H H') : Kp D H H' := fun b o e _ => s b o e
/-- [.. for .. in a list], its parts keep what stands; R tells of each item that is made -/
theorem lc_sameP {K : PySem.W.Frag} {a : Addr} {xs : List V} {g : TG} {tt : TT} {te : TE} {vs : List Nat} {σ : L2.St} {H1 : Hp} {D : Addr} {Qd : Hp → Prop} (R : Nat → V → Hp → Prop) (hl : H1 a = some (.lst xs)) (hz : xs.length ≤ 1000) (hD : H1 D = none)
    (mono : ∀ i y H H' acc, H D = some (.lst acc) → Kp D H H' → R i y H → R i y H')
    (hs : ∀ i x H' (N : VK) (M : Hp → Prop), xs[i]? = some x → Same H1 H' → (∀ y H4, Same H' H4 → R i y H4 → N y H4) → g x (wipe σ vs) H' fun σ2 H2 => wipe σ2 vs = wipe σ vs ∧ tt σ2 H2 fun b H3 => if b = true then te σ2 H3 N else M H3)
    (hd : ∀ ys H', Same H1 H' → ys.length = xs.length → (∀ i y, ys[i]? = some y → R i y H') → H' D = some (.lst ys) → Qd H') :
    ∃ W : Nat → Nat → Hp → Prop, (∃ m, W 0 m (upd H1 D (.lst []))) ∧ ∀ i m H, W i m H →
      ((Itl K a).stop i H ∧ Qd H) ∨ ((Itl K a).go i H ∧ ∃ Nx : Hp → Prop, (∀ H', Nx H' → ∃ m', m' < m ∧ W (i + 1) m' H') ∧ ∀ x H', (Itl K a).yld i H x H' → g x (wipe σ vs) H' fun σ2 H2 => wipe σ2 vs = wipe σ vs ∧ tt σ2 H2 fun b H3 =>
        if b = true then te σ2 H3 fun y H4 => ∃ acc, H4 D = some (.lst acc) ∧ acc.length < sizeLine ∧ Nx (upd H4 D (.lst (acc ++ [y]))) else Nx H3) := by
  refine lc_list (K := K) (a := a) (xs := xs) (fun i H' => Wd (∃ ys : List V, Same H1 H' ∧ ys.length = i ∧ H' D = some (.lst ys) ∧ ∀ j y, ys[j]? = some y → R j y H')) ⟨[], Same.new hD, rfl, upd_same, fun j y h => by cases h⟩ (fun i H' _ h => ?_) ?_ (fun H' h => ?_)
  · obtain ⟨ys, s, _⟩ := h.ok
    exact SqL.of (s _ _ hl)
  · rintro i x H' hi ⟨ys, s, hyl, hd', hR⟩
    refine hs i x H' _ _ hi s fun y H4 s4 r4 => ⟨_, s4 _ _ hd', ?_, ys ++ [y], Same.at_new hD (s.trans s4), ?_, upd_same, fun j z hz => ?_⟩
    · rw [hyl]
      have := (List.getElem?_eq_some_iff.mp hi).1
      exact Nat.lt_of_lt_of_le (Nat.lt_of_lt_of_le this hz) (by decide)
    · rw [List.length_append, hyl]
      rfl
    · have kp : Kp D H4 (upd H4 D (.lst (ys ++ [y]))) := (Kp.refl D H4).up
      rw [List.getElem?_append] at hz
      split at hz
      · exact mono _ _ _ _ _ (s4 _ _ hd') kp (mono _ _ _ _ _ hd' (kp_of_same s4) (hR j z hz))
      · have e : j - ys.length = 0 := by
          cases e : j - ys.length with
          | zero => rfl
          | succ n => rw [e] at hz; cases hz
        rw [e] at hz
        cases hz
        have : j = i := by omega
        subst this
        exact mono _ _ _ _ _ (s4 _ _ hd') kp r4
  · obtain ⟨ys, s, hyl, hd', hR⟩ := h.ok
    exact hd ys H' s hyl hR hd'
/-- an if by a question whose answer is p; the heap may grow -/
theorem tIf_of {t : TT} {a b : TS} {D : Ends} {σ : L2.St} {H : Hp} {p : Prop} (ht : ∀ Q : Bool → Hp → Prop, (∀ H', Same H H' → p → Q true H') → (∀ H', Same H H' → ¬ p → Q false H') → t σ H Q) (ha : ∀ H', Same H H' → p → a D σ H') (hb : ∀ H', Same H H' → ¬ p → b D σ H') : tIfS t a b D σ H :=
  ht _ (fun H' s hp => iteT (ha H' s hp)) (fun H' s hn => iteF (hb H' s hn))
theorem q_dec {p : Prop} [Decidable p] {Q : Bool → Hp → Prop} {H : Hp} (h1 : p → Q true H) (h2 : ¬ p → Q false H) : Q (decide p) H := by
  by_cases e : p
  · rw [decide_eq_true e]
    exact h1 e
  · rw [decide_eq_false e]
    exact h2 e

/-! ### the __init__ of the errors -/
/-- C.__init__(self, v, ..): the error gets its dict; fs: the fields, the last one first -/
def spExcF (C : Addr) (n : Nat) (fs : List V → List (Str × V)) : Sp := fun vs H Q _ => ∃ (a : Addr) (ws : List V), vs = .ref a :: ws ∧ ws.length = n ∧ H a = some (exo a C none) ∧
  ∀ (d : Addr) (H' : Hp), H d = none → d ≠ a → (∀ b o, H b = some o → b ≠ a → H' b = some o) → H' a = some (exo a C (some d)) → H' d = some (exd d (fs ws)) → Q .non H'
section
variable {P : Program} {w : World} {K : PySem.W.Frag} {mg : Str → Option Value} {base : Heap} {A : Ad}
def fs_BadEntry : List V → List (Str × V)
  | [v0, v1] => [("number", v1), ("day", v0)]
  | _ => []
theorem ok_m_BadEntry_init (T : Txt K mg A) : FnOk P w K mg base CX0 3 A.m_BadEntry_init A.fd_m_BadEntry_init P_m_BadEntry_init (spExcF A.BadEntry 2 fs_BadEntry) := by
  refine T.F_m_BadEntry_init.ok sc_m_BadEntry_init (fun vs H Q E h => ?_) (fun cdv Ar outer s H vs Q E hr h => ?_)
  · obtain ⟨a, ws, rfl, hl, _⟩ := h
    rw [List.length_cons, hl]
    rfl
  · obtain ⟨a, ws, rfl, hl, ha, k⟩ := h
    match ws, hl with
    | [v0, v1], _ =>
      refine ⟨_, (pss_cons (ps_expr (pe_ceinit (by rfl) T.g_CostError T.rd_CostError T.cg_CostError T.vi_CostError (pa_cons (pv 0) (pa_cons pe_str pa_nil))))
      (pss_cons (ps_ost (pv 0) (pv 1))
      (pss_one (ps_ost (pv 0) (pv 2))))), ?_⟩
      refine ⟨_, rfl, a, A.BadEntry, _, rfl, by show 1 ≤ 1000; decide, T.ox_BadEntry, ha, ?_⟩
      refine ⟨_, rfl, _, rfl, a, A.BadEntry, rfl, T.ox_BadEntry, T.n_BadEntry_day, .inl ⟨ha, fun d hd nd => ?_⟩⟩
      have ea : upd (upd H d (exd d [("day", v0)])) a (exo a A.BadEntry (some d)) a = some (exo a A.BadEntry (some d)) := upd_same
      have ed : upd (upd H d (exd d [("day", v0)])) a (exo a A.BadEntry (some d)) d = some (exd d [("day", v0)]) := by rw [upd_ne nd, upd_same]
      refine ⟨_, rfl, _, rfl, a, A.BadEntry, rfl, T.ox_BadEntry, T.n_BadEntry_number, .inr ⟨d, _, ea, ed, by show 1 ≤ 900; decide, ?_⟩⟩
      exact k d _ hd nd (fun b o e n => by rw [upd_ne (ne_of_none e hd), upd_ne n, upd_ne (ne_of_none e hd)]; exact e) (by rw [upd_ne nd.symm]; exact ea) upd_same
def fs_NoEntry : List V → List (Str × V)
  | [v0, v1] => [("number", v1), ("day", v0)]
  | _ => []
theorem ok_m_NoEntry_init (T : Txt K mg A) : FnOk P w K mg base CX0 3 A.m_NoEntry_init A.fd_m_NoEntry_init P_m_NoEntry_init (spExcF A.NoEntry 2 fs_NoEntry) := by
  refine T.F_m_NoEntry_init.ok sc_m_NoEntry_init (fun vs H Q E h => ?_) (fun cdv Ar outer s H vs Q E hr h => ?_)
  · obtain ⟨a, ws, rfl, hl, _⟩ := h
    rw [List.length_cons, hl]
    rfl
  · obtain ⟨a, ws, rfl, hl, ha, k⟩ := h
    match ws, hl with
    | [v0, v1], _ =>
      refine ⟨_, (pss_cons (ps_expr (pe_ceinit (by rfl) T.g_CostError T.rd_CostError T.cg_CostError T.vi_CostError (pa_cons (pv 0) (pa_cons pe_str pa_nil))))
      (pss_cons (ps_ost (pv 0) (pv 1))
      (pss_one (ps_ost (pv 0) (pv 2))))), ?_⟩
      refine ⟨_, rfl, a, A.NoEntry, _, rfl, by show 1 ≤ 1000; decide, T.ox_NoEntry, ha, ?_⟩
      refine ⟨_, rfl, _, rfl, a, A.NoEntry, rfl, T.ox_NoEntry, T.n_NoEntry_day, .inl ⟨ha, fun d hd nd => ?_⟩⟩
      have ea : upd (upd H d (exd d [("day", v0)])) a (exo a A.NoEntry (some d)) a = some (exo a A.NoEntry (some d)) := upd_same
      have ed : upd (upd H d (exd d [("day", v0)])) a (exo a A.NoEntry (some d)) d = some (exd d [("day", v0)]) := by rw [upd_ne nd, upd_same]
      refine ⟨_, rfl, _, rfl, a, A.NoEntry, rfl, T.ox_NoEntry, T.n_NoEntry_number, .inr ⟨d, _, ea, ed, by show 1 ≤ 900; decide, ?_⟩⟩
      exact k d _ hd nd (fun b o e n => by rw [upd_ne (ne_of_none e hd), upd_ne n, upd_ne (ne_of_none e hd)]; exact e) (by rw [upd_ne nd.symm]; exact ea) upd_same
def fs_BadRule : List V → List (Str × V)
  | [v0] => [("word", v0)]
  | _ => []
theorem ok_m_BadRule_init (T : Txt K mg A) : FnOk P w K mg base CX0 3 A.m_BadRule_init A.fd_m_BadRule_init P_m_BadRule_init (spExcF A.BadRule 1 fs_BadRule) := by
  refine T.F_m_BadRule_init.ok sc_m_BadRule_init (fun vs H Q E h => ?_) (fun cdv Ar outer s H vs Q E hr h => ?_)
  · obtain ⟨a, ws, rfl, hl, _⟩ := h
    rw [List.length_cons, hl]
    rfl
  · obtain ⟨a, ws, rfl, hl, ha, k⟩ := h
    match ws, hl with
    | [v0], _ =>
      refine ⟨_, (pss_cons (ps_expr (pe_ceinit (by rfl) T.g_CostError T.rd_CostError T.cg_CostError T.vi_CostError (pa_cons (pv 0) (pa_cons pe_str pa_nil))))
      (pss_one (ps_ost (pv 0) (pv 1)))), ?_⟩
      refine ⟨_, rfl, a, A.BadRule, _, rfl, by show 1 ≤ 1000; decide, T.ox_BadRule, ha, ?_⟩
      refine ⟨_, rfl, _, rfl, a, A.BadRule, rfl, T.ox_BadRule, T.n_BadRule_word, .inl ⟨ha, fun d hd nd => ?_⟩⟩
      have ea : upd (upd H d (exd d [("word", v0)])) a (exo a A.BadRule (some d)) a = some (exo a A.BadRule (some d)) := upd_same
      have ed : upd (upd H d (exd d [("word", v0)])) a (exo a A.BadRule (some d)) d = some (exd d [("word", v0)]) := by rw [upd_ne nd, upd_same]
      exact k d _ hd nd (fun b o e n => by rw [upd_ne n, upd_ne (ne_of_none e hd)]; exact e) ea ed
def fs_Short : List V → List (Str × V)
  | [v0] => [("missing", v0)]
  | _ => []
theorem ok_m_Short_init (T : Txt K mg A) : FnOk P w K mg base CX0 3 A.m_Short_init A.fd_m_Short_init P_m_Short_init (spExcF A.Short 1 fs_Short) := by
  refine T.F_m_Short_init.ok sc_m_Short_init (fun vs H Q E h => ?_) (fun cdv Ar outer s H vs Q E hr h => ?_)
  · obtain ⟨a, ws, rfl, hl, _⟩ := h
    rw [List.length_cons, hl]
    rfl
  · obtain ⟨a, ws, rfl, hl, ha, k⟩ := h
    match ws, hl with
    | [v0], _ =>
      refine ⟨_, (pss_cons (ps_expr (pe_ceinit (by rfl) T.g_CostError T.rd_CostError T.cg_CostError T.vi_CostError (pa_cons (pv 0) (pa_cons pe_str pa_nil))))
      (pss_one (ps_ost (pv 0) (pv 1)))), ?_⟩
      refine ⟨_, rfl, a, A.Short, _, rfl, by show 1 ≤ 1000; decide, T.ox_Short, ha, ?_⟩
      refine ⟨_, rfl, _, rfl, a, A.Short, rfl, T.ox_Short, T.n_Short_missing, .inl ⟨ha, fun d hd nd => ?_⟩⟩
      have ea : upd (upd H d (exd d [("missing", v0)])) a (exo a A.Short (some d)) a = some (exo a A.Short (some d)) := upd_same
      have ed : upd (upd H d (exd d [("missing", v0)])) a (exo a A.Short (some d)) d = some (exd d [("missing", v0)]) := by rw [upd_ne nd, upd_same]
      exact k d _ hd nd (fun b o e n => by rw [upd_ne n, upd_ne (ne_of_none e hd)]; exact e) ea ed
end

/-! ### names that the law draws -/
section
open PySem.Spec PyProof.Rows
variable {X : Cx}
/-- a text times 0 or 1 -/
theorem op_mul01 : OpR X (binaryOp .Mult) (fun x y H Q => ∃ (z : Str) (n : Int), x = .str z ∧ y = .int n ∧ (n = 0 ∨ n = 1) ∧ Q (.str (if n = 0 then Str.empty else z)) H) := by
  intro pins s σ H x y v u Q I rx ry h
  obtain ⟨z, n, rfl, rfl, hn, q⟩ := h
  obtain ⟨t, rfl⟩ := rx
  obtain ⟨t', rfl⟩ := ry
  rcases hn with rfl | rfl
  · exact PySem.P.mul_str_none (by decide) (by decide) ⟨.str Str.empty, H, I.tok _, ⟨_, rfl⟩, q⟩
  · refine PySem.P.mul_str (by decide) (fun _ h => absurd h (by simp)) (fun _ h => absurd h (by simp)) ?_
    show (Made.val (.str z t)).post _ s
    exact ⟨.str z, H, I, ⟨_, rfl⟩, q⟩
end
/-- a name: a few small letters -/
def NmOk (n : List Nat) : Prop := 1 ≤ n.length ∧ n.length ≤ 12 ∧ ∀ c ∈ n, 97 ≤ c ∧ c < 123
def vS (l : List Nat) : V := .str (SX.S l)
/-- the k-th name -/
def nmAt (st : List Nat) (wh : Nat) (sh lo : Int) (k : Nat) : List Nat := st.take wh ++ [97 + ((sh + 7 * (k : Int)) % 26).toNat] ++ st.drop wh ++ (if (k : Int) % 3 = lo then [97 + sh.toNat] else [])
theorem nm_len {st : List Nat} {wh : Nat} {sh lo : Int} {k : Nat} : (nmAt st wh sh lo k).length = st.length + 1 + (if (k : Int) % 3 = lo then 1 else 0) := by
  unfold nmAt
  rw [List.length_append, List.length_append, List.length_append, List.length_take, List.length_drop, List.length_singleton]
  split
  · rw [List.length_singleton]
    omega
  · rw [List.length_nil]
    omega
theorem nm_at {st : List Nat} {wh : Nat} {sh lo : Int} {k : Nat} (hw : wh ≤ st.length) : (nmAt st wh sh lo k)[wh]? = some (97 + ((sh + 7 * (k : Int)) % 26).toNat) := by
  have h1 : (st.take wh).length = wh := by
    rw [List.length_take]
    omega
  unfold nmAt
  rw [List.append_assoc, List.append_assoc, List.getElem?_append_right (by omega), h1, Nat.sub_self]
  rfl
theorem nm_inj {st : List Nat} {wh : Nat} {sh lo : Int} {k j : Nat} (hw : wh ≤ st.length) (hk : k < 26) (hj : j < 26) (e : nmAt st wh sh lo k = nmAt st wh sh lo j) : k = j := by
  have h := nm_at (sh := sh) (lo := lo) (k := k) hw
  rw [e, nm_at hw] at h
  have h := Option.some.inj h
  omega
theorem nm_ok {st : List Nat} {wh : Nat} {sh lo : Int} {k : Nat} (hs : st.length ≤ 10) (hc : ∀ c ∈ st, 97 ≤ c ∧ c < 123) (h0 : 0 ≤ sh) (h1 : sh < 26) : NmOk (nmAt st wh sh lo k) := by
  refine ⟨by rw [nm_len]; omega, by rw [nm_len]; split <;> omega, fun c hm => ?_⟩
  unfold nmAt at hm
  simp only [List.mem_append, List.mem_singleton] at hm
  rcases hm with ((hm | hm) | hm) | hm
  · exact hc c (List.mem_of_mem_take hm)
  · omega
  · exact hc c (List.mem_of_mem_drop hm)
  · split at hm
    · rw [List.mem_singleton] at hm
      omega
    · cases hm
def lettersZ : Str := "abcdefghijklmnopqrstuvwxyz"
theorem letter_at {c : Int} (h0 : 0 ≤ c) (h1 : c < 26) : atI lettersZ.cps.toList c = some (97 + c.toNat) := by
  have : ∀ n : Fin 26, atI lettersZ.cps.toList ((n.val : Nat) : Int) = some (97 + n.val) := by decide +kernel
  have h := this ⟨c.toNat, by omega⟩
  rw [show ((c.toNat : Nat) : Int) = c by omega] at h
  exact h
def spNames : Sp := fun vs H Q _ => ∃ (g l q : Addr) (cnt : Int) (ws : List (List Nat)), vs = [.ref g, .int cnt, .ref q] ∧ Bag H g l ∧ q ≠ g ∧ 1 ≤ cnt ∧ cnt ≤ 26 ∧ H q = some (.lst (ws.map vS)) ∧ 1 ≤ ws.length ∧ ws.length ≤ 1000 ∧ (∀ w ∈ ws, w.length ≤ 1000) ∧
  ∀ (p : Addr) (ns : List (List Nat)) (H' : Hp), H p = none → H' p = some (.lst (ns.map vS)) → ns.length = cnt.toNat → ns.Nodup → (∀ n ∈ ns, NmOk n ∨ n ∈ ws) → Bag H' g l → Kp g H H' → Q (.ref p) H'
theorem len_at {c : Int} (h0 : 0 ≤ c) (h5 : c < 5) : ∃ z : Int, atI [V.int 0, .int 1, .int 2, .int 3, .int 10] c = some (.int z) ∧ 0 ≤ z ∧ z ≤ 10 := by
  have : c = 0 ∨ c = 1 ∨ c = 2 ∨ c = 3 ∨ c = 4 := by omega
  rcases this with rfl | rfl | rfl | rfl | rfl
  · exact ⟨0, rfl, by decide, by decide⟩
  · exact ⟨1, rfl, by decide, by decide⟩
  · exact ⟨2, rfl, by decide, by decide⟩
  · exact ⟨3, rfl, by decide, by decide⟩
  · exact ⟨10, rfl, by decide, by decide⟩
theorem kp_none {g p : Addr} {H H' : Hp} (k : Kp g H H') (h : H' p = none) (n : p ≠ g) : H p = none := by
  cases e : H p with
  | none => rfl
  | some o =>
    rw [k _ _ e n] at h
    cases h
theorem joinL_chars : ∀ cs : List Nat, TL.joinL [] (cs.map fun c => [c]) = cs
  | [] => rfl
  | [c] => rfl
  | c :: d :: cs => by
    have ih := joinL_chars (d :: cs)
    show [c] ++ ([] ++ TL.joinL [] ((d :: cs).map fun c => [c])) = _
    rw [ih]
    rfl
theorem join_chars (cs : List Nat) : Txt.join (Str.ofString "") (cs.map fun c => SX.S [c]) = SX.S cs := by
  have h := SX.join_S [] (cs.map fun c => [c])
  rw [List.map_map, joinL_chars] at h
  exact h
theorem cut_to {st : List Nat} {wh : Int} (h0 : 0 ≤ wh) (h1 : wh.toNat ≤ st.length) : cutS (SX.S st) none (some wh) = SX.S (st.take wh.toNat) := by
  have e : HT.sIx (SX.S st).length (SX.S st).length (some wh) = wh.toNat := by
    show (if wh < 0 then _ else min wh.toNat _) = _
    rw [if_neg (by omega), SX.S_len]
    omega
  unfold cutS
  rw [HT.sIx_none, e, Nat.sub_zero, List.drop_zero]
theorem cut_from {st : List Nat} {wh : Int} (h0 : 0 ≤ wh) (h1 : wh.toNat ≤ st.length) : cutS (SX.S st) (some wh) none = SX.S (st.drop wh.toNat) := by
  have e : HT.sIx (SX.S st).length 0 (some wh) = wh.toNat := by
    show (if wh < 0 then _ else min wh.toNat _) = _
    rw [if_neg (by omega), SX.S_len]
    omega
  unfold cutS
  rw [HT.sIx_none, e, SX.S_len, List.take_of_length_le (by rw [List.length_drop]; exact Nat.le_refl _)]
theorem nodup_set {α : Type} {l : List α} {j : Nat} {x : α} (h : l.Nodup) (hx : x ∉ l) : (l.set j x).Nodup := by
  unfold List.Nodup at *
  rw [List.pairwise_iff_getElem] at *
  intro a b ha hb hab
  rw [List.length_set] at ha hb
  rw [List.getElem_set, List.getElem_set]
  split
  · rw [if_neg (by omega)]
    exact fun e => hx (e ▸ List.getElem_mem _)
  · split
    · exact fun e => hx (e ▸ List.getElem_mem _)
    · exact h a b ha hb hab
theorem ixN_in {n : Nat} {i : Int} (h0 : 0 ≤ i) (h1 : i < (n : Int)) : ixN n i = some i.toNat := by
  unfold ixN
  rw [if_pos h0, if_pos h1]
theorem mem_set_of {α : Type} {l : List α} {j : Nat} {x y : α} (h : y ∈ l.set j x) : y = x ∨ y ∈ l := by
  rcases List.mem_or_eq_of_mem_set h with h | h
  · exact .inr h
  · exact .inl h
theorem inV_names {ns : List (List Nat)} {x : List Nat} : inV (vS x) (ns.map vS) = decide (x ∈ ns) := by
  unfold inV
  rw [List.any_map, Bool.eq_iff_iff, List.any_eq_true, decide_eq_true_iff]
  constructor
  · rintro ⟨y, hy, e⟩
    have e2 : (SX.S y == SX.S x) = true := e
    rw [SX.S_beq, beq_iff_eq] at e2
    exact e2 ▸ hy
  · intro h
    refine ⟨x, h, ?_⟩
    show (SX.S x == SX.S x) = true
    rw [SX.S_beq, beq_iff_eq]
theorem flat_names (ns : List (List Nat)) : (ns.map vS).all flatV = true := by
  rw [List.all_map, List.all_eq_true]
  intro x _
  rfl
/-- what the names are, once they stand -/
def NmsOk (ns ws : List (List Nat)) (cnt : Int) : Prop := ns.length = cnt.toNat ∧ ns.Nodup ∧ ∀ n ∈ ns, NmOk n ∨ n ∈ ws
theorem nms_set {ns ws : List (List Nat)} {cnt : Int} {j : Nat} {x : List Nat} (h : NmsOk ns ws cnt) (hx : x ∉ ns) (ok : NmOk x ∨ x ∈ ws) : NmsOk (ns.set j x) ws cnt :=
  ⟨by rw [List.length_set]; exact h.1, nodup_set h.2.1 hx, fun n hn => by
    rcases mem_set_of hn with rfl | hn
    · exact ok
    · exact h.2.2 n hn⟩
theorem nms_range {st : List Nat} {wh : Nat} {sh lo cnt : Int} {ws : List (List Nat)} (hw : wh ≤ st.length) (hs : st.length ≤ 10) (hc : ∀ c ∈ st, 97 ≤ c ∧ c < 123) (h0 : 0 ≤ sh) (h1 : sh < 26) (hcn : cnt ≤ 26) :
    NmsOk ((List.range cnt.toNat).map fun k => nmAt st wh sh lo k) ws cnt := by
  refine ⟨by rw [List.length_map, List.length_range], ?_, fun n hn => ?_⟩
  · unfold List.Nodup
    rw [List.pairwise_map]
    refine List.Pairwise.imp_of_mem ?_ List.nodup_range
    intro a b ha hb hab e
    rw [List.mem_range] at ha hb
    exact hab (nm_inj hw (by omega) (by omega) e)
  · obtain ⟨k, _, rfl⟩ := List.mem_map.mp hn
    exact .inl (nm_ok hs hc h0 h1)
section
variable {P : Program} {w : World} {K : PySem.W.Frag} {mg : Str → Option Value} {base : Heap} {A : Ad}
theorem ok_l_names (T : Txt K mg A) : FnOk P w K mg base CX0 2 A.l_names A.fd_l_names P_l_names spNames := by
  refine T.F_l_names.ok sc_l_names (fun vs H Q E h => ?_) (fun cdv Ar outer s H vs Q E hr h => ?_)
  · obtain ⟨g, l, q, cnt, ws, rfl, _⟩ := h
    rfl
  · obtain ⟨g, l, q, cnt, ws, rfl, hB, nqg, hc1, hc26, hq, hw1, hw2, hw3, k⟩ := h
    refine ⟨_, (pss_cons (ps_set (i := 3) sc_l_names.nd rfl (Or.inr rfl) pe_str)
      (pss_cons (ps_set (i := 4) sc_l_names.nd rfl (Or.inl rfl) (pe_ix ix_list (pe_lst (pa_cons pe_int (pa_cons pe_int (pa_cons pe_int (pa_cons pe_int (pa_cons pe_int pa_nil)))))) (pe_call (ok_l_draw T) (hr.mono (by decide)) (by rfl) T.g__law_draw T.F_l_draw.kp T.b_l_draw .nil pass0 (pa_cons (pv 0) (pa_cons pe_int pa_nil))) (fun _ _ => rfl)))
      (pss_cons (ps_set (i := 5) sc_l_names.nd rfl (Or.inl rfl) (pe_join pe_str (pe_g (pe_lcV (own := [("_law_k", 10)]) rfl sc_l_names.nd (pi_range1 rfl T.z_range (pa_cons (pv 4) pa_nil)) (blkOk_by (own := [("_law_k", 10)]) (N := N_l_names) (sc := defScope s_l_names) (by decide +kernel)) (fun _ _ _ _ _ => (pg_name (i := 10) sc_l_names.nd rfl (Or.inl rfl))) (fun _ _ _ _ _ => pts_nil) (fun _ _ _ _ _ => (pe_ix ix_str (pv 3) (pe_call (ok_l_draw T) (hr.mono (by decide)) (by rfl) T.g__law_draw T.F_l_draw.kp T.b_l_draw .nil pass0 (pa_cons (pv 0) (pa_cons pe_int pa_nil))) (fun _ _ => rfl))) (fun _ _ _ _ _ => rfl) (fun _ _ _ _ _ => rfl) (fun _ _ _ _ _ => rfl)))))
      (pss_cons (ps_set (i := 6) sc_l_names.nd rfl (Or.inl rfl) (pe_call (ok_l_draw T) (hr.mono (by decide)) (by rfl) T.g__law_draw T.F_l_draw.kp T.b_l_draw .nil pass0 (pa_cons (pv 0) (pa_cons (pe_op op_add (pv 4) pe_int) pa_nil))))
      (pss_cons (ps_set (i := 7) sc_l_names.nd rfl (Or.inl rfl) (pe_call (ok_l_draw T) (hr.mono (by decide)) (by rfl) T.g__law_draw T.F_l_draw.kp T.b_l_draw .nil pass0 (pa_cons (pv 0) (pa_cons pe_int pa_nil))))
      (pss_cons (ps_set (i := 8) sc_l_names.nd rfl (Or.inl rfl) (pe_call (ok_l_draw T) (hr.mono (by decide)) (by rfl) T.g__law_draw T.F_l_draw.kp T.b_l_draw .nil pass0 (pa_cons (pv 0) (pa_cons pe_int pa_nil))))
      (pss_cons (ps_set (i := 9) sc_l_names.nd rfl (Or.inl rfl) (pe_lst pa_nil))
      (pss_cons (ps_g (ps_for PassesOwn.never rfl (pi_range1 rfl T.z_range (pa_cons (pv 1) pa_nil)) (pg_name (i := 10) sc_l_names.nd rfl (Or.inl rfl)) (pss_cons (ps_set (i := 11) sc_l_names.nd rfl (Or.inl rfl) (pe_op op_add_str (pe_op op_add_str (pe_slice sl_str (pv 5) po_none (po_some (pv 6))) (pe_ix ix_str (pv 3) (pe_op op_mod (pe_callTy call_int1 (by rfl) T.z_int (by decide +kernel) (pa_cons (pe_op op_add (pv 7) (pe_op op_mul pe_int (pv 10))) pa_nil)) pe_int) (fun _ _ => rfl))) (pe_slice sl_str (pv 5) (po_some (pv 6)) po_none)))
      (pss_one (ps_expr (pe_bm PySem.F.plainAttrs_list PySem.F.slot_list_append PySem.F.type_list_append mt_append (pv 9) (pa_cons (pe_op op_add_str (pv 11) (pe_op op_mul01 (pe_ix ix_str (pv 3) (pv 7) (fun _ _ => rfl)) (pe_callTy call_int1 (by rfl) T.z_int (by decide +kernel) (pa_cons (pe_cmpR op_eq (pe_op op_mod (pe_callTy call_int1 (by rfl) T.z_int (by decide +kernel) (pa_cons (pv 10) pa_nil)) pe_int) (pv 8) (nomark _)) pa_nil)))) pa_nil)))))))
      (pss_g (Evl.pss_cut (ps_if (PW.pt (pw_and (pt_cmpR op_gt (pv 1) pe_int (nomark _)) (pw_and (pt_cmpR op_lt (pv 4) pe_int (nomark _)) (pw_and1 (pt_cmpR op_eq (pv 8) pe_int (nomark _)))))) (pss_one (ps_asg (pe_op op_add_str (pe_ix ix_list (pv 9) pe_int (fun _ _ => rfl)) (pe_ix ix_str (pv 3) (pe_call (ok_l_draw T) (hr.mono (by decide)) (by rfl) T.g__law_draw T.F_l_draw.kp T.b_l_draw .nil pass0 (pa_cons (pv 0) (pa_cons pe_int pa_nil))) (fun _ _ => rfl))) (pg_sub (pv 9) pe_int set_list))) pss_nil)
      (pss_cons (ps_set (i := 12) sc_l_names.nd rfl (Or.inl rfl) (pe_call (ok_l_draw T) (hr.mono (by decide)) (by rfl) T.g__law_draw T.F_l_draw.kp T.b_l_draw .nil pass0 (pa_cons (pv 0) (pa_cons (pe_op op_mul pe_int (pv 1)) pa_nil))))
      (pss_cons (ps_set (i := 13) sc_l_names.nd rfl (Or.inl rfl) (pe_ix ix_list (pv 2) (pe_call (ok_l_draw T) (hr.mono (by decide)) (by rfl) T.g__law_draw T.F_l_draw.kp T.b_l_draw .nil pass0 (pa_cons (pv 0) (pa_cons (pe_callB call_len_seq (by rfl) T.z_len (by decide +kernel) (pa_cons (pv 2) pa_nil)) pa_nil))) (fun _ _ => rfl)))
      (pss_g (Evl.pss_cut (ps_if (PW.pt (pw_and (pt_cmpR op_lt (pv 12) (pv 1) (nomark _)) (pw_and1 (pt_cmpR op_notIn_seq (pv 13) (pv 9) (by rfl))))) (pss_one (ps_asg (pv 13) (pg_sub (pv 9) (pv 12) set_list))) pss_nil)
      (pss_one (ps_ret (pv 9))))))))))))))))), ?_⟩
    walk_at "go"
    intro p1 hp1
    have B1 := hB.new (o := .lst [V.int 0, .int 1, .int 2, .int 3, .int 10]) hp1
    have nq1 := ne_of_none hq hp1
    have hq1 := Same.new (o := .lst [V.int 0, .int 1, .int 2, .int 3, .int 10]) hp1 _ _ hq
    walk_at "go"
    intro c0 H2 c00 c01 B2 K2
    obtain ⟨sz, hsz, hsz0, hsz1⟩ := len_at c00 c01
    have hl2 := K2 _ _ upd_same (hB.ne hp1).1
    have hq2 := K2 _ _ hq1 nqg
    have K02 : Kp g H H2 := (Kp.same (Same.new hp1)).trans K2
    refine ⟨p1, _, _, _, rfl, rfl, SqL.of hl2, hsz, ?_⟩
    refine ⟨⟨_, rfl⟩, ?_⟩
    refine ⟨⟨_, rfl, _, rfl, by omega, by omega, fun D hD => ?_⟩⟩
    have nD := (B2.ne hD).1
    have hD0 : H D = none := kp_none K02 hD nD
    refine lc_range (fun i H' => Wd (∃ cs : List Nat, cs.length = i ∧ (∀ c ∈ cs, 97 ≤ c ∧ c < 123) ∧ H' D = some (.lst (cs.map fun c => vS [c])) ∧ Bag H' g l ∧ Kp g H H')) ⟨[], rfl, fun c h => (by cases h), upd_same, B2.new hD, K02.new hD⟩ ?_ ?_
    · rintro i H3 hi ⟨cs, hcl, hcs, hD3, B3, K3⟩
      refine ⟨rfl, ⟨_, rfl, _, rfl, g, l, _, rfl, B3, by decide, by decide, fun n H4 n0 n1 B4 K4 => ?_⟩⟩
      refine ⟨_, _, _, rfl, rfl, (by decide : lettersZ.length ≤ sizeLine), letter_at n0 n1, _, K4 _ _ hD3 nD, ?_, ?_⟩
      · rw [List.length_map, hcl]
        exact Nat.lt_of_lt_of_le (by omega : i < 100) (by decide)
      · refine ⟨cs ++ [97 + n.toNat], by rw [List.length_append, hcl]; rfl, fun c hm => ?_, ?_, B4.put (B2.ne hD), (K3.trans K4).put hD0⟩
        · rcases List.mem_append.mp hm with hm | hm
          · exact hcs c hm
          · rw [List.mem_singleton] at hm
            omega
        · rw [upd_same, List.map_append]
          rfl
    · rintro H3 ⟨st, hsl, hst, hD3, B3, K3⟩
      have hq3 := K3 _ _ hq nqg
      refine ⟨_, D, st.map fun c => SX.S [c], rfl, rfl, .inl (SqL.of (by rw [List.map_map]; exact hD3)), ?_, ?_⟩
      · have e : ∀ cs : List Nat, ((cs.map fun c => SX.S [c]).map (·.length)).sum = cs.length := fun cs => by
          induction cs with
          | nil => rfl
          | cons c cs ih =>
            rw [List.map_cons, List.map_cons, List.sum_cons, ih, List.length_cons, Nat.add_comm]
            rfl
        rw [e, List.length_map, hsl]
        show sz.toNat + sz.toNat * 0 ≤ _
        omega
      · rw [join_chars]
        have hz9 : (sz + 1).natAbs < 2 ^ 9000 := lt_pow (a := 10) (by omega) (by decide)
        walk_at "go"
        intro wh H4 wh0 wh1 B4 K4
        walk_at "go"
        intro sh H5 sh0 sh1 B5 K5
        walk_at "go"
        intro lo H6 lo0 lo1 B6 K6
        walk_at "go"
        intro f hf
        have K36 := K4.trans (K5.trans K6)
        have K6' := K3.trans K36
        have nf := B6.ne hf
        have hf0 : H f = none := kp_none K6' hf nf.1
        have hq6 := K6' _ _ hq nqg
        have hwl : wh.toNat ≤ st.length := by omega
        have c1 : cutS (SX.S st) none (some wh) = SX.S (st.take wh.toNat) := cut_to wh0 hwl
        have c2 : cutS (SX.S st) (some wh) none = SX.S (st.drop wh.toNat) := cut_from wh0 hwl
        have sl : ∀ l : List Nat, l.length ≤ 1000 → (SX.S l).length ≤ sizeLine := fun l h => by
          rw [SX.S_len]
          exact Nat.le_trans h (by decide)
        refine ⟨⟨_, rfl, _, rfl, by omega, by omega, for_range (lo := 0) (n := cnt.toNat) (fun i σ' H' => Wd (∃ o10 o11 : Option V, σ' = [some (.ref g), some (.int cnt), some (.ref q), some (.str lettersZ), some (.int sz), some (vS st), some (.int wh), some (.int sh), some (.int lo), some (.ref f), o10, o11, none, none] ∧
          H' = upd H6 f (.lst ((List.range i).map fun k => vS (nmAt st wh.toNat sh lo k))))) ⟨none, none, rfl, rfl⟩ ?_ ?_⟩⟩
        · rintro i σ' H7 hi ⟨o10, o11, rfl, rfl⟩
          refine ⟨_, rfl, _, rfl, wh, rfl, _, rfl, sl st (by omega), ?_⟩
          rw [c1]
          have hi26 : (i : Int) < 26 := by omega
          refine ⟨_, rfl, _, rfl, _, rfl, _, _, rfl, rfl, .inl ⟨by decide, by decide⟩, _, _, rfl, rfl, .inl ⟨_, rfl, _, _, rfl, rfl, (show (0 : Int) < 26 by decide), _, _, _, rfl, rfl, (by decide : lettersZ.length ≤ sizeLine), letter_at (Int.emod_nonneg _ (by decide)) (Int.emod_lt_of_pos _ (by decide)), ?_⟩⟩
          have e1 : SX.S (st.take wh.toNat) ++ (⟨#[97 + ((sh + 7 * (0 + (i : Int))) % 26).toNat]⟩ : Str) = SX.S (st.take wh.toNat ++ [97 + ((sh + 7 * (i : Int)) % 26).toNat]) := by
            rw [Int.zero_add]
            exact SX.S_cat _ _
          have l1 : (st.take wh.toNat).length ≤ 10 := by
            rw [List.length_take]
            omega
          have l2 : (st.drop wh.toNat).length ≤ 10 := by
            rw [List.length_drop]
            omega
          refine ⟨_, _, rfl, rfl, ?_, ?_⟩
          · rw [SX.S_len]
            exact Nat.le_trans (by show _ + 1 ≤ 1000; omega) (by decide : 1000 ≤ sizeLine)
          rw [e1]
          refine ⟨_, rfl, _, rfl, wh, rfl, _, rfl, sl st (by omega), ?_⟩
          rw [c2]
          refine ⟨_, _, rfl, rfl, ?_, ?_⟩
          · rw [SX.S_len, SX.S_len, List.length_append]
            exact Nat.le_trans (by rw [List.length_singleton]; omega) (by decide : 1000 ≤ sizeLine)
          rw [SX.S_cat]
          refine ⟨_, rfl, .inl ⟨rfl, _, SqL.of upd_same⟩, _, rfl, _, rfl, _, rfl, _, _, _, rfl, rfl, (by decide : lettersZ.length ≤ sizeLine), letter_at sh0 sh1, ?_⟩
          refine ⟨_, rfl, .inl ⟨_, rfl, _, _, rfl, rfl, (show (0 : Int) < 3 by decide), _, rfl, rfl, .inr ⟨_, rfl, ?_⟩⟩⟩
          refine ⟨_, _, rfl, rfl, ?_, ?_⟩
          · split
            · exact .inr rfl
            · exact .inl rfl
          have e2 : SX.S (st.take wh.toNat ++ [97 + ((sh + 7 * (i : Int)) % 26).toNat] ++ st.drop wh.toNat) ++ (if (if (decide (V.int ((0 + (i : Int)) % 3) = V.int lo)) = true then (1 : Int) else 0) = 0 then Str.empty else (⟨#[97 + sh.toNat]⟩ : Str)) = SX.S (nmAt st wh.toNat sh lo i) := by
            unfold nmAt
            rw [Int.zero_add]
            by_cases e : (i : Int) % 3 = lo
            · rw [if_pos (decide_eq_true (congrArg V.int e)), if_neg (by decide), if_pos e]
              exact SX.S_cat _ _
            · rw [if_neg (fun z => e (V.int.inj (of_decide_eq_true z))), if_pos rfl, if_neg e]
              exact SX.S_cat _ []
          refine ⟨_, _, rfl, rfl, ?_, ?_⟩
          · rw [SX.S_len, List.length_append, List.length_append, List.length_singleton]
            refine Nat.le_trans (Nat.add_le_add_left (m := 1) ?_ _) (Nat.le_trans (by omega : _ ≤ 1000) (by decide : 1000 ≤ sizeLine))
            split
            · rw [if_neg (by decide)]
              exact Nat.le_refl 1
            · rw [if_pos rfl]
              exact Nat.zero_le 1
          rw [e2]
          refine ⟨f, _, _, rfl, rfl, upd_same, ?_, _, _, rfl, ?_⟩
          · rw [List.length_map, List.length_range]
            exact Nat.lt_of_lt_of_le (by omega : i < 1000) (by decide)
          · rw [upd_upd, List.range_succ, List.map_append]
            rfl
        · rintro σ' H7 ⟨o10, o11, rfl, rfl⟩
          have hnm := nms_range (st := st) (wh := wh.toNat) (sh := sh) (lo := lo) (cnt := cnt) (ws := ws) hwl (by omega) hst sh0 sh1 hc26
          have nfq : f ≠ q := fun e => by rw [e, hq6] at hf; cases hf
          refine ⟨⟨fun σ' H' => Wd (∃ (ns : List (List Nat)), σ' = [some (.ref g), some (.int cnt), some (.ref q), some (.str lettersZ), some (.int sz), some (vS st), some (.int wh), some (.int sh), some (.int lo), some (.ref f), o10, o11, none, none] ∧
            H' f = some (.lst (ns.map vS)) ∧ NmsOk ns ws cnt ∧ Bag H' g l ∧ Kp g H H'), ?_, ?_⟩⟩
          · have B7 := B6.new (o := .lst ((List.range cnt.toNat).map fun k => vS (nmAt st wh.toNat sh lo k))) hf
            have K7 : Kp g H (upd H6 f (.lst ((List.range cnt.toNat).map fun k => vS (nmAt st wh.toNat sh lo k)))) := K6'.put hf0
            have stay : Wd (∃ (ns : List (List Nat)), [some (.ref g), some (.int cnt), some (.ref q), some (.str lettersZ), some (.int sz), some (vS st), some (.int wh), some (.int sh), some (.int lo), some (.ref f), o10, o11, none, none] = [some (.ref g), some (.int cnt), some (.ref q), some (.str lettersZ), some (.int sz), some (vS st), some (.int wh), some (.int sh), some (.int lo), some (.ref f), o10, o11, none, none] ∧
              (upd H6 f (.lst ((List.range cnt.toNat).map fun k => vS (nmAt st wh.toNat sh lo k)))) f = some (.lst (ns.map vS)) ∧ NmsOk ns ws cnt ∧ Bag (upd H6 f (.lst ((List.range cnt.toNat).map fun k => vS (nmAt st wh.toNat sh lo k)))) g l ∧ Kp g H (upd H6 f (.lst ((List.range cnt.toNat).map fun k => vS (nmAt st wh.toNat sh lo k))))) :=
              ⟨_, rfl, by rw [upd_same, List.map_map]; rfl, hnm, B7, K7⟩
            walk_at "go"
            refine if_dec (fun e1 => ?_) (fun _ => stay)
            walk_at "go"
            refine if_dec (fun e2 => ?_) (fun _ => stay)
            walk_at "go"
            refine if_int (fun e3 => ?_) (fun _ => stay)
            subst e3
            obtain ⟨m, hm⟩ : ∃ m, cnt.toNat = m + 2 := ⟨cnt.toNat - 2, by omega⟩
            refine ⟨_, rfl, f, _, _, vS (nmAt st wh.toNat sh 3 0), rfl, rfl, SqL.of upd_same, ?_, _, rfl, _, rfl, g, l, _, rfl, B7, by decide, by decide, fun n H8 n0 n1 B8 K8 => ?_⟩
            · refine atI_nat (j := 0) ?_
              rw [List.getElem?_map, List.getElem?_range (by omega)]
              rfl
            have hf8 := K8 _ _ upd_same nf.1
            refine ⟨_, _, _, rfl, rfl, (by decide : lettersZ.length ≤ sizeLine), letter_at n0 n1, _, _, rfl, rfl, ?_, ?_⟩
            · show (SX.S _).length + 1 ≤ _
              rw [SX.S_len, nm_len]
              refine Nat.le_trans ?_ (by decide : 1000 ≤ sizeLine)
              split <;> omega
            have e4 : SX.S (nmAt st wh.toNat sh 3 0) ++ (⟨#[97 + n.toNat]⟩ : Str) = SX.S (nmAt st wh.toNat sh 3 0 ++ [97 + n.toNat]) := SX.S_cat _ _
            have n3 : ∀ k : Nat, ((k : Int) % 3 = 3) = False := fun k => by
              rw [eq_iff_iff]
              exact ⟨fun h => by omega, fun h => h.elim⟩
            have le : ∀ k, (nmAt st wh.toNat sh 3 k).length = st.length + 1 := fun k => by
              rw [nm_len, if_neg (by rw [n3]; exact fun h => h)]
            refine ⟨_, rfl, f, _, _, 1, rfl, rfl, hf8, ?_, ?_⟩
            · rw [List.length_map, List.length_range, hm]
              exact ixN_in (by decide) (by show (1 : Int) < ((m + 2 : Nat) : Int); omega)
            · refine ⟨((List.range cnt.toNat).map fun k => nmAt st wh.toNat sh 3 k).set 1 (nmAt st wh.toNat sh 3 0 ++ [97 + n.toNat]), rfl, ?_, nms_set hnm ?_ (.inl ?_), B8.put nf, (K7.trans K8).put hf0⟩
              · rw [upd_same, List.map_set, List.map_map]
                show some (HO.lst (List.set _ 1 (V.str (SX.S (nmAt st wh.toNat sh 3 0) ++ (⟨#[97 + n.toNat]⟩ : Str))))) = _
                rw [e4]
                rfl
              · intro hm
                obtain ⟨k, _, e⟩ := List.mem_map.mp hm
                have e5 := congrArg List.length e
                rw [List.length_append, le, le, List.length_singleton] at e5
                omega
              · have ok := nm_ok (st := st) (wh := wh.toNat) (sh := sh) (lo := 3) (k := 0) (by omega) hst sh0 sh1
                refine ⟨by rw [List.length_append, le]; omega, by rw [List.length_append, le, List.length_singleton]; omega, fun c hc => ?_⟩
                rcases List.mem_append.mp hc with hc | hc
                · exact ok.2.2 c hc
                · rw [List.mem_singleton] at hc
                  omega
          · rintro σ' H8 ⟨ns, rfl, hf8, hnm8, B8, K8⟩
            have hc9 : (4 * cnt).natAbs < 2 ^ 9000 := lt_pow (a := 10) (by omega) (by decide)
            walk_at "go"
            intro sp H9 sp0 sp1 B9 K9
            have hq9 := (K8.trans K9) _ _ hq nqg
            have hf9 := K9 _ _ hf8 nf.1
            have hw9 : ((ws.map vS).length : Int).natAbs < 2 ^ 9000 := lt_pow (a := 10) (by rw [List.length_map]; omega) (by decide)
            refine ⟨_, rfl, _, rfl, _, rfl, q, _, rfl, .inl (SqL.of hq9), g, l, _, rfl, B9, ?_, hw9, fun wi H10 wi0 wi1 B10 K10 => ?_⟩
            · rw [List.length_map]
              omega
            rw [List.length_map] at wi1
            obtain ⟨j, rfl⟩ := Int.eq_ofNat_of_zero_le wi0
            have hj : j < ws.length := by omega
            have hwj : (ws.map vS)[j]? = some (vS ws[j]) := by rw [List.getElem?_map, List.getElem?_eq_getElem hj]; rfl
            have hq10 := K10 _ _ hq9 nqg
            have hf10 := K10 _ _ hf9 nf.1
            have K10' := (K8.trans K9).trans K10
            refine ⟨q, _, _, _, rfl, rfl, SqL.of hq10, atI_nat hwj, ?_⟩
            refine ⟨⟨fun σ' H' => Wd (∃ (ns : List (List Nat)) (o : List (Option V)), σ' = [some (.ref g), some (.int cnt), some (.ref q), some (.str lettersZ), some (.int sz), some (vS st), some (.int wh), some (.int sh), some (.int lo), some (.ref f)] ++ o ∧
              H' f = some (.lst (ns.map vS)) ∧ NmsOk ns ws cnt ∧ Bag H' g l ∧ Kp g H H'), ?_, ?_⟩⟩
            · walk_at "go"
              refine if_dec (fun e1 => ?_) (fun _ => ⟨ns, [_, _, _, _], rfl, hf10, hnm8, B10, K10'⟩)
              refine ⟨_, rfl, _, rfl, f, _, rfl, .inl (SqL.of hf10), rfl, flat_names ns, _, rfl, ?_⟩
              show if (!inV (vS ws[j]) (ns.map vS)) = true then _ else _
              rw [inV_names]
              by_cases hm : ws[j] ∈ ns
              · rw [decide_eq_true hm]
                exact iteF ⟨ns, [_, _, _, _], rfl, hf10, hnm8, B10, K10'⟩
              · rw [decide_eq_false hm]
                refine iteT ⟨_, rfl, _, rfl, _, rfl, f, _, _, sp.toNat, rfl, rfl, hf10, ?_, ?_⟩
                · rw [List.length_map, hnm8.1]
                  exact ixN_in sp0 (by omega)
                · refine ⟨ns.set sp.toNat ws[j], [_, _, _, _], rfl, ?_, nms_set hnm8 hm (.inr (List.getElem_mem _)), B10.put nf, K10'.put hf0⟩
                  rw [upd_same, List.map_set]
            · rintro σ' H11 ⟨ns, o, rfl, hf11, hnm11, B11, K11⟩
              exact ⟨_, rfl, k f ns H11 hf0 hf11 hnm11.1 hnm11.2.1 hnm11.2.2 B11 K11⟩
end

/-! ### is_name, is_number -/
/-- a plain value: an int, a text or nothing -/
inductive Pl : V → Prop
  | int (i : Int) : Pl (.int i)
  | str (s : Str) : Pl (.str s)
  | non : Pl .non
theorem Pl.flat {v : V} (h : Pl v) : flatV v = true := by cases h <;> rfl
def nameL (cs : List Nat) : Bool := decide (1 ≤ cs.length) && (decide (cs.length ≤ 12) && cs.all fun c => decide (c ∈ lettersZ.cps.toList))
def nameV : V → Bool
  | .str z => nameL z.cps.toList
  | _ => false
def numV (lo : Int) : V → Bool
  | .int n => decide (lo ≤ n) && decide (n ≤ 1000000)
  | _ => false
def spIsName : Sp := fun vs H Q _ => ∃ v : V, vs = [v] ∧ Pl v ∧ (∀ z, v = .str z → z.length ≤ 1000) ∧ ∀ H', Same H H' → Q (.bl (nameV v)) H'
/-- a plain value or a tuple -/
def Pn (H : Hp) (v : V) : Prop := Pl v ∨ ∃ p xs, v = .ref p ∧ H p = some (.tup xs)
def spIsNumber : Sp := fun vs H Q _ => ∃ (v : V) (lo : Int), vs = [v, .int lo] ∧ Pn H v ∧ Q (.bl (numV lo v)) H
section
variable {P : Program} {w : World} {K : PySem.W.Frag} {mg : Str → Option Value} {base : Heap} {A : Ad}
theorem ok_f_is_number (T : Txt K mg A) : FnOk P w K mg base CX0 1 A.f_is_number A.fd_f_is_number P_f_is_number spIsNumber := by
  refine T.F_f_is_number.ok sc_f_is_number (fun vs H Q E h => ?_) (fun cdv Ar outer s H vs Q E hr h => ?_)
  · obtain ⟨v, lo, rfl, _⟩ := h
    rfl
  · obtain ⟨v, lo, rfl, hv, k⟩ := h
    refine ⟨_, (pss_one (ps_ret (pe_and (pe_callB call_isi (by rfl) T.z_isinstance (by decide +kernel) (pa_cons (pv 0) (pa_cons (pe_bltn (v := .ty "int") (by rfl) T.z_int (by decide +kernel) rfl) pa_nil))) (pe_and (pe_not (pe_callB call_isi (by rfl) T.z_isinstance (by decide +kernel) (pa_cons (pv 0) (pa_cons (pe_bltn (v := .ty "bool") (by rfl) T.z_bool (by decide +kernel) rfl) pa_nil)))) (pe_one (pe_chain op_le op_le (pv 1) (pv 0) (pe_glob (v := .int 1000000) (by rfl) T.g_MOST.choose_spec ⟨_, rfl⟩))))))), ?_⟩
    rcases hv with hv | ⟨p, xs, rfl, hp⟩
    case inr => exact ⟨_, rfl, _, _, _, _, _, rfl, .ty "int", .base (.tup hp), kit_ty (b := "int") (r := false) (by decide +kernel), false, rfl, iteF k⟩
    cases hv with
    | int i =>
      refine ⟨_, rfl, _, _, _, _, _, rfl, .ty "int", .base (.int i), kit_ty (b := "int") (r := true) (by decide +kernel), true, rfl, iteT ?_⟩
      refine ⟨_, rfl, _, _, _, _, _, rfl, .ty "bool", .base (.int i), kit_ty (b := "bool") (r := false) (by decide +kernel), ?_⟩
      refine ⟨_, rfl, true, rfl, iteT ?_⟩
      have e : numV lo (.int i) = (decide (lo ≤ i) && decide (i ≤ 1000000)) := rfl
      by_cases h0 : lo ≤ i
      · refine ⟨_, rfl, _, rfl, _, _, rfl, rfl, true, congrArg V.bl (decide_eq_true h0), iteT ?_⟩
        rw [e, decide_eq_true h0, Bool.true_and] at k
        exact ⟨_, _, rfl, rfl, k⟩
      · refine ⟨_, rfl, _, rfl, _, _, rfl, rfl, false, congrArg V.bl (decide_eq_false h0), iteF ?_⟩
        rw [e, decide_eq_false h0, Bool.false_and] at k
        exact k
    | str z => exact ⟨_, rfl, _, _, _, _, _, rfl, .ty "int", .base (.str z), kit_ty (b := "int") (r := false) (by decide +kernel), false, rfl, iteF k⟩
    | non => exact ⟨_, rfl, _, _, _, _, _, rfl, .ty "int", .base .non, kit_ty (b := "int") (r := false) (by decide +kernel), false, rfl, iteF k⟩
theorem ok_f_is_name (T : Txt K mg A) : FnOk P w K mg base CX0 1 A.f_is_name A.fd_f_is_name P_f_is_name spIsName := by
  refine T.F_f_is_name.ok sc_f_is_name (fun vs H Q E h => ?_) (fun cdv Ar outer s H vs Q E hr h => ?_)
  · obtain ⟨v, rfl, _⟩ := h
    rfl
  · obtain ⟨v, rfl, hv, hz, k⟩ := h
    refine ⟨_, (pss_one (ps_ret (pe_and (pe_callB call_isi (by rfl) T.z_isinstance (by decide +kernel) (pa_cons (pv 0) (pa_cons (pe_bltn (v := .ty "str") (by rfl) T.z_str (by decide +kernel) rfl) pa_nil))) (pe_and (pe_chain op_le op_le pe_int (pe_callB (call_len_str) (by rfl) T.z_len (by decide +kernel) (pa_cons (pv 0) pa_nil)) (pe_glob (v := .int 12) (by rfl) T.g_LONGEST.choose_spec ⟨_, rfl⟩)) (pe_one (pe_callB (cr_all rfl) (by rfl) T.z_all (by decide +kernel) (pa_cons (pe_g (pe_lcV (own := [("letter", 1)]) rfl sc_f_is_name.nd (pi_str (pv 0)) (blkOk_by (own := [("letter", 1)]) (N := N_f_is_name) (sc := defScope s_f_is_name) (by decide +kernel)) (fun _ _ _ _ _ => (pg_name (i := 1) sc_f_is_name.nd rfl (Or.inl rfl))) (fun _ _ _ _ _ => pts_nil) (fun _ _ _ _ _ => (pe_cmpR op_in_sign (pv 1) (pe_glob (v := .str "abcdefghijklmnopqrstuvwxyz") (by rfl) T.g_LETTERS.choose_spec ⟨_, rfl⟩) (by rfl))) (fun _ _ _ _ _ => rfl) (fun _ _ _ _ _ => rfl) (fun _ _ _ _ _ => rfl))) pa_nil))))))), ?_⟩
    cases hv with
    | int i => exact ⟨_, rfl, _, _, _, _, _, rfl, .ty "str", .base (.int i), kit_ty (b := "str") (r := false) (by decide +kernel), false, rfl, iteF (k H fun _ _ h => h)⟩
    | non => exact ⟨_, rfl, _, _, _, _, _, rfl, .ty "str", .base .non, kit_ty (b := "str") (r := false) (by decide +kernel), false, rfl, iteF (k H fun _ _ h => h)⟩
    | str z =>
      have hz := hz z rfl
      have hzs : z.length ≤ sizeLine := Nat.le_trans hz (by decide)
      refine ⟨_, rfl, _, _, _, _, _, rfl, .ty "str", .base (.str z), kit_ty (b := "str") (r := true) (by decide +kernel), true, rfl, iteT ?_⟩
      have e : nameV (.str z) = (decide (1 ≤ z.length) && (decide (z.length ≤ 12) && z.cps.toList.all fun c => decide (c ∈ lettersZ.cps.toList))) := rfl
      have e1 : decide ((1 : Int) ≤ (z.length : Int)) = decide (1 ≤ z.length) := by
        rw [decide_eq_decide]
        omega
      have e2 : decide ((z.length : Int) ≤ 12) = decide (z.length ≤ 12) := by
        rw [decide_eq_decide]
        omega
      refine ⟨_, rfl, _, rfl, hzs, _, _, rfl, rfl, decide (1 ≤ z.length), congrArg V.bl e1, ?_⟩
      by_cases h1 : 1 ≤ z.length
      · rw [decide_eq_true h1]
        refine iteT ⟨_, _, rfl, rfl, decide (z.length ≤ 12), congrArg V.bl e2, ?_⟩
        by_cases h2 : z.length ≤ 12
        · rw [decide_eq_true h2]
          refine iteT ⟨⟨_, rfl, z, rfl, fun D hD => ?_⟩⟩
          refine lc_it walk_str (fun i H' => Wd (Same H H' ∧ H' D = some (.lst ((z.cps.toList.take i).map fun c => V.bl (decide (c ∈ lettersZ.cps.toList)))))) ⟨Same.new hD, upd_same⟩ (fun _ _ _ _ => trivial) ?_ ?_
          · rintro i x H1 H2 hi ⟨s1, h1'⟩ ⟨rfl, c, hc, rfl⟩
            have hi' : i < z.cps.toList.length := by simpa using hi
            have hc' : z.cps.toList[i]? = some c := by rw [Array.getElem?_toList]; exact hc
            refine ⟨rfl, _, rfl, c, _, rfl, rfl, _, h1', ?_, Same.at_new hD s1, ?_⟩
            · rw [List.length_map, List.length_take]
              exact Nat.lt_of_lt_of_le (by have : z.cps.toList.length = z.length := by simp [Str.length]
                                           omega : _ < 1000) (by decide)
            · rw [upd_same, take_more hc', List.map_append]
              rfl
          · rintro H1 ⟨s1, h1'⟩
            refine ⟨D, z.cps.toList.map fun c => decide (c ∈ lettersZ.cps.toList), rfl, SqL.of ?_, ?_⟩
            · rw [h1', List.take_of_length_le (by simp), List.map_map]
              rfl
            · have kk := k H1 s1
              rw [e, decide_eq_true h1, decide_eq_true h2, Bool.true_and, Bool.true_and] at kk
              rw [List.all_map]
              exact kk
        · rw [decide_eq_false h2]
          refine iteF ?_
          have kk := k H fun _ _ h => h
          rw [e, decide_eq_false h2, Bool.false_and, Bool.and_false] at kk
          exact kk
      · rw [decide_eq_false h1]
        refine iteF ⟨_, rfl, iteF ?_⟩
        have kk := k H fun _ _ h => h
        rw [e, decide_eq_false h1, Bool.false_and] at kk
        exact kk
end

/-! ### is_entry -/
def entOk (v0 v1 v2 : V) : Bool := nameV v1 && (if (eqV v0 (.str "buy") || eqV v0 (.str "sell") || eqV v0 (.str "back")) = true then numV 1 v2 else if eqV v0 (.str "late") = true then nameV v2 else false)
def shortV (v : V) : Prop := ∀ z, v = .str z → z.length ≤ 1000
def EntTup (H : Hp) (v v0 v1 v2 : V) : Prop := ∃ p, v = .ref p ∧ H p = some (.tup [v0, v1, v2]) ∧ Pl v0 ∧ Pl v1 ∧ Pl v2 ∧ shortV v1 ∧ shortV v2
/-- what is no tuple of three things -/
def NoEnt (H : Hp) (v : V) : Prop := Pl v ∨ ∃ p xs, v = .ref p ∧ (H p = some (.lst xs) ∨ (H p = some (.tup xs) ∧ xs.length ≠ 3 ∧ xs.length ≤ 1000))
def spIsEntry : Sp := fun vs H Q _ => ∃ v : V, vs = [v] ∧ ((∃ v0 v1 v2, EntTup H v v0 v1 v2 ∧ ∀ H', Same H H' → Q (.bl (entOk v0 v1 v2)) H') ∨ (NoEnt H v ∧ ∀ H', Same H H' → Q (.bl false) H'))
section
variable {P : Program} {w : World} {K : PySem.W.Frag} {mg : Str → Option Value} {base : Heap} {A : Ad}
theorem ok_f_is_entry (T : Txt K mg A) : FnOk P w K mg base CX0 2 A.f_is_entry A.fd_f_is_entry P_f_is_entry spIsEntry := by
  refine T.F_f_is_entry.ok sc_f_is_entry (fun vs H Q E h => ?_) (fun cdv Ar outer s H vs Q E hr h => ?_)
  · obtain ⟨v, rfl, _⟩ := h
    rfl
  · obtain ⟨v, rfl, h⟩ := h
    refine ⟨_, (pss_cons (ps_if (PW.pt (pw_or (pt_not (pt_val (pe_callB call_isi (by rfl) T.z_isinstance (by decide +kernel) (pa_cons (pv 0) (pa_cons (pe_bltn (v := .ty "tuple") (by rfl) T.z_tuple (by decide +kernel) rfl) pa_nil))))) (pw_or (pt_cmpR op_ne (pe_callB call_len_seq (by rfl) T.z_len (by decide +kernel) (pa_cons (pv 0) pa_nil)) pe_int (nomark _)) (pw_or1 (pt_not (pt_val (pe_call (ok_f_is_name T) (hr.mono (by decide)) (by rfl) T.g_is_name T.F_f_is_name.kp T.b_f_is_name .nil pass0 (pa_cons (pe_ix ix_tup (pv 0) pe_int (fun _ _ => rfl)) pa_nil)))))))) (pss_one (ps_ret pe_bl)) pss_nil)
      (pss_cons (ps_match3 (w1 := "buy") (w2 := "sell") (w3 := "back") (w4 := "late") (i1 := 1) (i2 := 2) rfl hr.units sc_f_is_entry.nd rfl (Or.inl rfl) rfl (Or.inl rfl) (pv 0) (pss_one (ps_ret (pe_call (ok_f_is_number T) (hr.mono (by decide)) (by rfl) T.g_is_number T.F_f_is_number.kp T.b_f_is_number .nil pass0 (pa_cons (pv 1) (pa_cons pe_int pa_nil))))) (pss_one (ps_ret (pe_call (ok_f_is_name T) (hr.mono (by decide)) (by rfl) T.g_is_name T.F_f_is_name.kp T.b_f_is_name .nil pass0 (pa_cons (pv 2) pa_nil)))))
      (pss_one (ps_ret pe_bl)))), ?_⟩
    rcases h with ⟨v0, v1, v2, ⟨p, rfl, hp, h0, h1, h2, s1, s2⟩, k⟩ | ⟨hN, k⟩
    · refine ⟨_, rfl, _, _, _, _, _, rfl, .ty "tuple", .base (.tup hp), kit_ty (b := "tuple") (r := true) (by decide +kernel), _, rfl, iteF ?_⟩
      refine ⟨_, rfl, p, _, rfl, .inr (SqT.of hp), rfl, _, rfl, iteF ?_⟩
      refine ⟨_, rfl, p, _, _, v1, rfl, rfl, SqT.of hp, rfl, v1, rfl, h1, s1, fun H1 e1 => ⟨_, rfl, ?_⟩⟩
      cases n1 : nameV v1 with
      | false =>
        refine iteT ?_
        have kk := k H1 e1
        unfold entOk at kk
        rw [n1, Bool.false_and] at kk
        exact kk
      | true =>
        have hp1 := e1 _ _ hp
        refine iteF ⟨_, rfl, p, v0, v1, v2, rfl, hp1, h0.flat, ?_⟩
        have kk := fun H' (e : Same H1 H') => k H' (e1.trans e)
        unfold entOk at kk
        rw [n1, Bool.true_and] at kk
        split
        · next e =>
          rw [if_pos e] at kk
          exact ⟨_, rfl, v2, 1, rfl, .inl h2, kk H1 fun _ _ h => h⟩
        · next e =>
          rw [if_neg e] at kk
          split
          · next e' =>
            rw [if_pos e'] at kk
            exact ⟨_, rfl, v2, rfl, h2, s2, fun H' s' => kk H' s'⟩
          · next e' =>
            rw [if_neg e'] at kk
            exact kk H1 fun _ _ h => h
    · rcases hN with hv | ⟨p, xs, rfl, hp | ⟨hp, hl, hz⟩⟩
      · cases hv with
        | int i => exact ⟨_, rfl, _, _, _, _, _, rfl, .ty "tuple", .base (.int i), kit_ty (b := "tuple") (r := false) (by decide +kernel), _, rfl, iteT (k H fun _ _ h => h)⟩
        | str z => exact ⟨_, rfl, _, _, _, _, _, rfl, .ty "tuple", .base (.str z), kit_ty (b := "tuple") (r := false) (by decide +kernel), _, rfl, iteT (k H fun _ _ h => h)⟩
        | non => exact ⟨_, rfl, _, _, _, _, _, rfl, .ty "tuple", .base .non, kit_ty (b := "tuple") (r := false) (by decide +kernel), _, rfl, iteT (k H fun _ _ h => h)⟩
      · exact ⟨_, rfl, _, _, _, _, _, rfl, .ty "tuple", .base (.lst hp), kit_ty (b := "tuple") (r := false) (by decide +kernel), _, rfl, iteT (k H fun _ _ h => h)⟩
      · refine ⟨_, rfl, _, _, _, _, _, rfl, .ty "tuple", .base (.tup hp), kit_ty (b := "tuple") (r := true) (by decide +kernel), _, rfl, iteF ?_⟩
        refine ⟨_, rfl, p, _, rfl, .inr (SqT.of hp), rfl, _, rfl, ?_⟩
        refine ifNF (fun e => hl ?_) (k H fun _ _ h => h)
        have := V.int.inj e
        omega
end

/-! ### a book's entries -/
structure En where
  d : Int
  n : Int
  e : Addr
  kd : Str
  nm : Str
  x : V
def kvE (es : List En) : List (List L2.Key × V) := kvT (es.map fun t => (t.d, t.n, V.ref t.e))
abbrev keyE (d n : Int) : List L2.Key := [.inl d, .inl n]
def isE (d n : Int) (t : En) : Bool := decide (t.d = d) && decide (t.n = n)
theorem isE_iff {d n : Int} {t : En} : isE d n t = true ↔ t.d = d ∧ t.n = n := by
  unfold isE
  rw [Bool.and_eq_true, decide_eq_true_iff, decide_eq_true_iff]
theorem keyE_eq {d n : Int} {t : En} : (([.inl t.d, .inl t.n] : List L2.Key) = keyE d n) ↔ isE d n t = true := by
  rw [isE_iff]
  constructor
  · intro h
    injection h with h1 h2
    injection h2 with h2 _
    exact ⟨Sum.inl.inj h1, Sum.inl.inj h2⟩
  · rintro ⟨rfl, rfl⟩
    rfl
def atE (es : List En) (d n : Int) : Option En := es.find? (isE d n)
def dropE (es : List En) (d n : Int) : List En := es.filter fun t => !isE d n t
def putE (es : List En) (t : En) : List En := if (atE es t.d t.n).isSome = true then es.map (fun u => if isE t.d t.n u = true then t else u) else es ++ [t]
theorem val_kvE {d n : Int} : ∀ es : List En, valV (kvE es) (keyE d n) = (atE es d n).map fun t => V.ref t.e
  | [] => rfl
  | t :: es => by
    have ih := val_kvE (d := d) (n := n) es
    by_cases h : isE d n t = true
    · rw [show kvE (t :: es) = ([.inl t.d, .inl t.n], V.ref t.e) :: kvE es from rfl, valV_pos (keyE_eq.mpr h)]
      unfold atE
      rw [List.find?_cons, h]
      rfl
    · rw [show kvE (t :: es) = ([.inl t.d, .inl t.n], V.ref t.e) :: kvE es from rfl, valV_neg (fun e => h (keyE_eq.mp e)), ih]
      unfold atE
      rw [List.find?_cons, (by simpa using h : isE d n t = false)]
theorem drop_kvE {d n : Int} : ∀ es : List En, dropK (kvE es) (keyE d n) = kvE (dropE es d n)
  | [] => rfl
  | t :: es => by
    have ih := drop_kvE (d := d) (n := n) es
    unfold dropK at ih ⊢
    unfold dropE at ih ⊢
    rw [show kvE (t :: es) = ([.inl t.d, .inl t.n], V.ref t.e) :: kvE es from rfl]
    by_cases h : isE d n t = true
    · rw [List.filter_cons_of_neg (by simp [keyE_eq.mpr h]), List.filter_cons_of_neg (by simp [h]), ih]
    · have hk : decide ((([.inl t.d, .inl t.n] : List L2.Key), V.ref t.e).1 ≠ keyE d n) = true := decide_eq_true fun e => h (keyE_eq.mp e)
      rw [List.filter_cons_of_pos (p := fun kv : List L2.Key × V => decide (kv.1 ≠ keyE d n)) hk, List.filter_cons_of_pos (by simpa using h), ih]
      rfl
theorem put_kvE {es : List En} {t : En} : putK (kvE es) (keyE t.d t.n) (.ref t.e) = kvE (putE es t) := by
  have hany : ((kvE es).any fun kv => decide (kv.1 = keyE t.d t.n)) = (atE es t.d t.n).isSome := by
    rw [valV_any, val_kvE, Option.isSome_map]
  unfold putK putE
  rw [hany]
  split
  · unfold kvE kvT
    rw [List.map_map, List.map_map, List.map_map, List.map_map]
    refine List.map_congr_left fun u _ => ?_
    show (if ([.inl u.d, .inl u.n] : List L2.Key) = keyE t.d t.n then _ else _) = _
    by_cases h : isE t.d t.n u = true
    · rw [if_pos (keyE_eq.mpr h)]
      show _ = (fun t : En => (([.inl t.d, .inl t.n] : List L2.Key), V.ref t.e)) (if isE t.d t.n u = true then t else u)
      rw [if_pos h]
      show (([.inl u.d, .inl u.n] : List L2.Key), V.ref t.e) = ([.inl t.d, .inl t.n], V.ref t.e)
      rw [(isE_iff.mp h).1, (isE_iff.mp h).2]
    · rw [if_neg (fun e => h (keyE_eq.mp e))]
      show _ = (fun t : En => (([.inl t.d, .inl t.n] : List L2.Key), V.ref t.e)) (if isE t.d t.n u = true then t else u)
      rw [if_neg h]
  · unfold kvE kvT
    rw [List.map_append, List.map_append]
    rfl
/-- by day and number -/
def leK (a b : Int × Int) : Bool := !SrtO.lexB b a
theorem leK_iff {a b : Int × Int} : leK a b = true ↔ a.1 < b.1 ∨ (a.1 = b.1 ∧ a.2 ≤ b.2) := by
  unfold leK
  rw [Bool.not_eq_true', SrtO.lexB_no]
  omega
def keysE (es : List En) : List (Int × Int) := es.map fun t => (t.d, t.n)
def srtK (es : List En) : List (Int × Int) := (keysE es).mergeSort leK
theorem srtK_uniq {es : List En} {ps : List (Int × Int)} (h : ps.Perm (keysE es)) (hs : ps.Pairwise (fun a b => SrtO.lexB b a = false)) : ps = srtK es := by
  refine List.Perm.eq_of_pairwise (le := fun a b => leK a b = true) (fun a b _ _ h1 h2 => ?_) (hs.imp fun {a b} z => by unfold leK; rw [z]; rfl) ?_ (h.trans (List.mergeSort_perm _ _).symm)
  · rw [leK_iff] at h1 h2
    exact Prod.ext (by omega) (by omega)
  · refine List.pairwise_mergeSort (le := leK) (fun a b c h1 h2 => ?_) (fun a b => ?_) _
    · rw [leK_iff] at h1 h2 ⊢
      omega
    · rw [Bool.or_eq_true, leK_iff, leK_iff]
      omega
theorem mem_srtK {es : List En} {p : Int × Int} : p ∈ srtK es ↔ ∃ t ∈ es, (t.d, t.n) = p := by
  unfold srtK
  rw [(List.mergeSort_perm _ _).mem_iff]
  unfold keysE
  rw [List.mem_map]
theorem len_srtK {es : List En} : (srtK es).length = es.length := by
  unfold srtK keysE
  rw [List.length_mergeSort, List.length_map]
theorem atE_some {es : List En} {d n : Int} {t : En} (h : atE es d n = some t) : t ∈ es ∧ t.d = d ∧ t.n = n := by
  have h1 := List.find?_some h
  exact ⟨List.mem_of_find?_eq_some h, isE_iff.mp h1⟩
theorem atE_mem {es : List En} {t : En} (h : t ∈ es) : ∃ u, atE es t.d t.n = some u := by
  cases e : atE es t.d t.n with
  | some u => exact ⟨u, rfl⟩
  | none =>
    have := List.find?_eq_none.mp e t h
    exact absurd (isE_iff.mpr ⟨rfl, rfl⟩) this
/-- the names of a kind, in the order of the places, each once -/
def namedE (es : List En) (kd : Str) : List (Int × Int) → List Str → List Str
  | [], acc => acc
  | p :: ps, acc => namedE es kd ps (match atE es p.1 p.2 with
    | some t => if t.kd = kd ∧ t.nm ∉ acc then acc ++ [t.nm] else acc
    | none => acc)
def EntsAt (H : Hp) (es : List En) : Prop := ∀ t ∈ es, H t.e = some (.tup [.str t.kd, .str t.nm, t.x])
theorem EntsAt.keep {H H' : Hp} {es : List En} (h : EntsAt H es) (s : ∀ b xs, H b = some (.tup xs) → H' b = some (.tup xs)) : EntsAt H' es := fun t ht => s _ _ (h t ht)
/-- the book at b, its dict at dd -/
def BookAt (C : Addr) (H : Hp) (b dd : Addr) (es : List En) : Prop := (∃ dx, H b = some (.ins C dx [("entries", .ref dd)])) ∧ H dd = some (.dT (kvE es))
theorem BookAt.same {C : Addr} {H H' : Hp} {b dd : Addr} {es : List En} (h : BookAt C H b dd es) (s : Same H H') : BookAt C H' b dd es := by
  obtain ⟨⟨dx, h1⟩, h2⟩ := h
  exact ⟨⟨dx, s _ _ h1⟩, s _ _ h2⟩
theorem mk_excF {C : Addr} {n : Nat} {fs : List V → List (Str × V)} {H : Hp} {ws : List V} {Q : XK} (h : ∀ d H', Same H H' → H d = none → H' d = some (.xd (fs ws)) → Q (.ref C) (some d) H') {a : Addr} (ha : H a = none) (hl : ws.length = n := by rfl) :
    spExcF C n fs (.ref a :: ws) (upd H a (exo a C none)) (fun v H2 => v = .non ∧ ∃ (d : Addr) (fs : List (Str × V)), H2 a = some (exo a C (some d)) ∧ H2 d = some (exd d fs) ∧ H d = none ∧ Q (.ref C) (some d) (upd (del H2 a) d (.xd fs))) (fun _ _ _ => False) := by
  refine ⟨a, ws, rfl, hl, upd_same, fun d H' hd nd keep ea ed => ⟨rfl, d, _, ea, ed, ?_, ?_⟩⟩
  · rw [upd_ne nd] at hd
    exact hd
  · rw [upd_ne nd] at hd
    refine h d _ (fun b o e => ?_) hd upd_same
    have n1 := ne_of_none e ha
    have n2 := ne_of_none e hd
    rw [upd_ne n2, del_ne n1]
    exact keep b o (by rw [upd_ne n1]; exact e) n1

theorem mem_putE {es : List En} {t u : En} (h : u ∈ putE es t) : u = t ∨ u ∈ es := by
  unfold putE at h
  split at h
  · obtain ⟨v, hv, e⟩ := List.mem_map.mp h
    split at e
    · exact .inl e.symm
    · exact .inr (e ▸ hv)
  · rcases List.mem_append.mp h with h | h
    · exact .inr h
    · exact .inl (List.mem_singleton.mp h)
theorem len_putE {es : List En} {t : En} : (putE es t).length ≤ es.length + 1 := by
  unfold putE
  split
  · rw [List.length_map]
    exact Nat.le_succ _
  · rw [List.length_append]
    exact Nat.le_refl _

/-- the places of the entries lie close together: their hashes are apart -/
structure Near (es : List En) : Prop where
  d0 : ∀ u ∈ es, 0 ≤ u.d ∧ u.d < 2 ^ 60
  n0 : ∀ u ∈ es, 0 ≤ u.n ∧ u.n ≤ 1000000
  dd : ∀ u ∈ es, ∀ v ∈ es, u.d ≤ v.d + 1000
theorem Near.sub {es fs : List En} (h : Near es) (s : ∀ u ∈ fs, ∃ v ∈ es, u.d = v.d ∧ u.n = v.n) : Near fs := by
  refine ⟨fun u hu => ?_, fun u hu => ?_, fun u hu v hv => ?_⟩
  · obtain ⟨w, hw, e1, _⟩ := s u hu
    rw [e1]
    exact h.d0 w hw
  · obtain ⟨w, hw, _, e2⟩ := s u hu
    rw [e2]
    exact h.n0 w hw
  · obtain ⟨w, hw, e1, _⟩ := s u hu
    obtain ⟨w2, hw2, e2, _⟩ := s v hv
    rw [e1, e2]
    exact h.dd w hw w2 hw2
theorem key_hashU {P : Program} {w : World} {es : List En} (h : Near es) {u : En} (hu : u ∈ es) : (PySem.tupleKind (mixKind P w)).hash (keyE u.d u.n) = TH.hash2 u.d.toNat u.n.toNat := by
  have a := h.d0 u hu
  have b := h.n0 u hu
  have c : u.n < 2 ^ 60 := Int.lt_of_le_of_lt b.2 (by decide)
  rw [show keyE u.d u.n = [Sum.inl u.d, Sum.inl u.n] from rfl]
  rw [key_hash a.1 a.2 b.1 c]
theorem near_inj {es : List En} (h : Near es) {u v : En} (hu : u ∈ es) (hv : v ∈ es) (z : TH.hash2 u.d.toNat u.n.toNat = TH.hash2 v.d.toNat v.n.toNat) : (u.d, u.n) = (v.d, v.n) := by
  have a := h.d0 u hu
  have b := h.n0 u hu
  have a2 := h.d0 v hv
  have b2 := h.n0 v hv
  have c := h.dd u hu v hv
  have c2 := h.dd v hv u hu
  obtain ⟨e1, e2⟩ := TH.hash2_inj (by omega) (by omega) (by omega) (by omega) z
  have h1 : u.d = v.d := by omega
  have h2 : u.n = v.n := by omega
  rw [h1, h2]
theorem hap_kvE {es : List En} (nd : (keysE es).Nodup) (h : Near es) : HAp (kvE es) := by
  intro P w
  unfold keysE List.Nodup at nd
  rw [List.pairwise_map] at nd
  unfold kvE kvT List.Nodup
  rw [List.pairwise_map, List.pairwise_map, List.pairwise_map]
  refine nd.imp_of_mem fun {u v} hu hv ne z => ne (near_inj h hu hv ?_)
  rw [← key_hashU (P := P) (w := w) h hu, ← key_hashU (P := P) (w := w) h hv]
  exact z

/-! ### the book -/
section
variable {P : Program} {w : World} {K : PySem.W.Frag} {mg : Str → Option Value} {base : Heap} {A : Ad}
def spBookInit (C : Addr) : Sp := fun vs H Q _ => ∃ b dx, vs = [.ref b] ∧ H b = some (.ins C dx []) ∧ ∀ d, H d = none → Q .non (upd (upd H d (.dT [])) b (.ins C dx [("entries", .ref d)]))
theorem ok_m_Book_init (T : Txt K mg A) : FnOk P w K mg base CX0 1 A.m_Book_init A.fd_m_Book_init P_m_Book_init (spBookInit A.Book) := by
  refine T.F_m_Book_init.ok sc_m_Book_init (fun vs H Q E h => ?_) (fun cdv Ar outer s H vs Q E hr h => ?_)
  · obtain ⟨b, dx, rfl, _⟩ := h
    rfl
  · obtain ⟨b, dx, rfl, hb, k⟩ := h
    refine ⟨_, (pss_one (ps_fld (pv 0) (pe_dnewT) rfl)), ?_⟩
    intro d hd
    exact ⟨_, rfl, b, A.Book, dx, [], rfl, by rw [upd_ne (ne_of_none hb hd)]; exact hb, T.cl_Book, T.n_Book_entries, by show 0 < 1000; decide, k d hd⟩
def spContains (C : Addr) : Sp := fun vs H Q _ => ∃ b dd t es d n, vs = [.ref b, .ref t] ∧ BookAt C H b dd es ∧ H t = some (.tup [.int d, .int n]) ∧ Q (.bl (atE es d n).isSome) H
theorem ok_m_Book_contains (T : Txt K mg A) : FnOk P w K mg base CX0 1 A.m_Book_contains A.fd_m_Book_contains P_m_Book_contains (spContains A.Book) := by
  refine T.F_m_Book_contains.ok sc_m_Book_contains (fun vs H Q E h => ?_) (fun cdv Ar outer s H vs Q E hr h => ?_)
  · obtain ⟨b, dd, t, es, d, n, rfl, _⟩ := h
    rfl
  · obtain ⟨b, dd, t, es, d, n, rfl, ⟨⟨dx, hb⟩, hd⟩, ht, k⟩ := h
    refine ⟨_, (pss_one (ps_ret (pe_cmp (pc_din (hu_of hr) (pv 1) (pe_fld (pv 0) rfl)) rfl))), ?_⟩
    refine ⟨_, rfl, _, rfl, b, A.Book, dx, _, _, rfl, hb, T.cl_Book, T.n_Book_entries, rfl, dd, _, rfl, DGet.t (k := keyE d n) hd ht, ?_⟩
    rw [val_kvE, Option.isSome_map]
    exact k
def spLen (C : Addr) : Sp := fun vs H Q _ => ∃ b dd es, vs = [.ref b] ∧ BookAt C H b dd es ∧ Q (.int (es.length : Nat)) H
theorem ok_m_Book_len (T : Txt K mg A) : FnOk P w K mg base CX0 1 A.m_Book_len A.fd_m_Book_len P_m_Book_len (spLen A.Book) := by
  refine T.F_m_Book_len.ok sc_m_Book_len (fun vs H Q E h => ?_) (fun cdv Ar outer s H vs Q E hr h => ?_)
  · obtain ⟨b, dd, es, rfl, _⟩ := h
    rfl
  · obtain ⟨b, dd, es, rfl, ⟨⟨dx, hb⟩, hd⟩, k⟩ := h
    refine ⟨_, (pss_one (ps_ret (pe_callB (call_len_dT) (by rfl) T.z_len (by decide +kernel) (pa_cons (pe_fld (pv 0) rfl) pa_nil)))), ?_⟩
    refine ⟨_, rfl, b, A.Book, dx, _, _, rfl, hb, T.cl_Book, T.n_Book_entries, rfl, dd, _, rfl, hd, ?_⟩
    have e : (kvE es).length = es.length := by unfold kvE kvT; rw [List.length_map, List.length_map]
    rw [e]
    exact k
def noE (n d : V) : List (Str × V) := [("number", n), ("day", d)]
def spGetItem (C CE : Addr) : Sp := fun vs H Q E => ∃ b dd t es d n, vs = [.ref b, .ref t] ∧ BookAt C H b dd es ∧ H t = some (.tup [.int d, .int n]) ∧ (∀ u, atE es d n = some u → Q (.ref u.e) H) ∧
  (atE es d n = none → ∀ x H', Same H H' → H' x = some (.xd (noE (.int n) (.int d))) → E (.ref CE) (some x) H')
theorem ok_m_Book_getitem (T : Txt K mg A) : FnOk P w K mg base (L2.CX P w) 5 A.m_Book_getitem A.fd_m_Book_getitem P_m_Book_getitem (spGetItem A.Book A.NoEntry) := by
  refine T.F_m_Book_getitem.okX sc_m_Book_getitem (fun vs H Q E h => ?_) (fun cdv Ar outer s H vs Q E hr h => ?_)
  · obtain ⟨b, dd, t, es, d, n, rfl, _⟩ := h
    rfl
  · obtain ⟨b, dd, t, es, d, n, rfl, ⟨⟨dx, hb⟩, hd⟩, ht, k1, k2⟩ := h
    refine ⟨_, (pss_cons (ps_asg (pv 1) (pg_tup (n := 2) rfl (pgs_cons (pg_name (i := 2) sc_m_Book_getitem.nd rfl (Or.inl rfl)) (pgs_cons (pg_name (i := 3) sc_m_Book_getitem.nd rfl (Or.inl rfl)) pgs_nil))))
      (pss_cons (ps_if (pt_cmp (pc_dnotin (hu_of hr) (pv 1) (pe_fld (pv 0) rfl))) (pss_one (ps_raise rfl (takes_of rfl rfl rfl rfl) (pmk_oex T.ox_NoEntry T.oi_NoEntry T.ot_NoEntry (ok_m_NoEntry_init T) (hr.mono (by decide)) T.b_m_NoEntry_init .nil pass0 (by rfl) T.g_NoEntry (pa_cons (pv 2) (pa_cons (pv 3) pa_nil))))) pss_nil)
      (pss_one (ps_ret (pe_dget (hu_of hr) (pe_fld (pv 0) rfl) (pv 1) (fun _ _ => rfl)))))), ?_⟩
    refine ⟨_, rfl, t, _, rfl, SqT.of ht, rfl, _, _, rfl, _, _, rfl, rfl, ?_⟩
    refine ⟨_, rfl, _, rfl, b, A.Book, dx, _, _, rfl, hb, T.cl_Book, T.n_Book_entries, rfl, dd, _, rfl, DGet.t (k := keyE d n) hd ht, _, rfl, ?_⟩
    rw [val_kvE, Option.isSome_map]
    cases e : atE es d n with
    | none => exact iteT ⟨_, rfl, _, rfl, (by show 2 ≤ 1000; decide), fun a ha => mk_excF (fun x H' s _ h => k2 e x H' s h) ha⟩
    | some u =>
      refine iteF ⟨_, rfl, b, A.Book, dx, _, _, rfl, hb, T.cl_Book, T.n_Book_entries, rfl, _, rfl, dd, V.ref u.e, rfl, ?_, k1 u e⟩
      have g := DGet.t (k := keyE d n) hd ht
      rw [val_kvE, e] at g
      exact g
def spRemove (C CE : Addr) : Sp := fun vs H Q E => ∃ b dd es d n, vs = [.ref b, .int d, .int n] ∧ BookAt C H b dd es ∧ ((atE es d n).isSome = true → ∀ H', Same H H' → Q .non (upd H' dd (.dT (kvE (dropE es d n))))) ∧
  (atE es d n = none → ∀ x H', Same H H' → H' x = some (.xd (noE (.int n) (.int d))) → E (.ref CE) (some x) H')
theorem ok_m_Book_remove (T : Txt K mg A) : FnOk P w K mg base (L2.CX P w) 5 A.m_Book_remove A.fd_m_Book_remove P_m_Book_remove (spRemove A.Book A.NoEntry) := by
  refine T.F_m_Book_remove.okX sc_m_Book_remove (fun vs H Q E h => ?_) (fun cdv Ar outer s H vs Q E hr h => ?_)
  · obtain ⟨b, dd, es, d, n, rfl, _⟩ := h
    rfl
  · obtain ⟨b, dd, es, d, n, rfl, ⟨⟨dx, hb⟩, hd⟩, k1, k2⟩ := h
    refine ⟨_, (pss_cons (ps_if (pt_cmp (pc_dnotin (hu_of hr) (pe_tup (pa_cons (pv 1) (pa_cons (pv 2) pa_nil))) (pe_fld (pv 0) rfl))) (pss_one (ps_raise rfl (takes_of rfl rfl rfl rfl) (pmk_oex T.ox_NoEntry T.oi_NoEntry T.ot_NoEntry (ok_m_NoEntry_init T) (hr.mono (by decide)) T.b_m_NoEntry_init .nil pass0 (by rfl) T.g_NoEntry (pa_cons (pv 1) (pa_cons (pv 2) pa_nil))))) pss_nil)
      (pss_one (ps_ddelT (hu_of hr) (pe_fld (pv 0) rfl) (pe_tup (pa_cons (pv 1) (pa_cons (pv 2) pa_nil)))))), ?_⟩
    refine ⟨_, rfl, _, rfl, (by show 2 ≤ sizeLine; decide), fun t ht => ?_⟩
    have s1 := Same.new (o := .tup [V.int d, .int n]) ht
    refine ⟨_, rfl, b, A.Book, dx, _, _, rfl, s1 _ _ hb, T.cl_Book, T.n_Book_entries, rfl, dd, _, rfl, DGet.t (k := keyE d n) (s1 _ _ hd) upd_same, _, rfl, ?_⟩
    rw [val_kvE, Option.isSome_map]
    cases e : atE es d n with
    | none => exact iteT ⟨_, rfl, _, rfl, (by show 2 ≤ 1000; decide), fun a ha => mk_excF (fun x H' s _ h => k2 e x H' (s1.trans s) h) ha⟩
    | some u =>
      refine iteF ⟨_, rfl, b, A.Book, dx, _, _, rfl, s1 _ _ hb, T.cl_Book, T.n_Book_entries, rfl, _, rfl, _, rfl, (by show 2 ≤ sizeLine; decide), fun t2 ht2 => ?_⟩
      have s2 := Same.new (o := .tup [V.int d, .int n]) ht2
      refine ⟨dd, t2, _, keyE d n, rfl, rfl, s2 _ _ (s1 _ _ hd), upd_same, ?_, ?_⟩
      · rw [val_kvE, e]
        rfl
      · rw [drop_kvE]
        exact k1 (by rw [e]; rfl) _ (s1.trans s2)
def spPlaces (C : Addr) : Sp := fun vs H Q _ => ∃ b dd es, vs = [.ref b] ∧ BookAt C H b dd es ∧ ∀ bs p, H p = none → All2 (fun b q => H b = some (.tup [.int q.1, .int q.2])) bs (srtK es) → Q (.ref p) (upd H p (.lst (bs.map V.ref)))
theorem ok_m_Book_places (T : Txt K mg A) : FnOk P w K mg base CX0 1 A.m_Book_places A.fd_m_Book_places P_m_Book_places (spPlaces A.Book) := by
  refine T.F_m_Book_places.ok sc_m_Book_places (fun vs H Q E h => ?_) (fun cdv Ar outer s H vs Q E hr h => ?_)
  · obtain ⟨b, dd, es, rfl, _⟩ := h
    rfl
  · obtain ⟨b, dd, es, rfl, ⟨⟨dx, hb⟩, hd⟩, k⟩ := h
    refine ⟨_, (pss_one (ps_ret (pe_callB (cr_sortedDT rfl) (by rfl) T.z_sorted (by decide +kernel) (pa_cons (pe_fld (pv 0) rfl) pa_nil)))), ?_⟩
    refine ⟨_, rfl, b, A.Book, dx, _, _, rfl, hb, T.cl_Book, T.n_Book_entries, rfl, ⟨dd, es.map fun t : En => (t.d, t.n, V.ref t.e), rfl, hd, fun bs ps p hp h2 hperm hs => ?_⟩⟩
    rw [List.map_map] at hperm
    have e := srtK_uniq (es := es) hperm hs
    subst e
    exact k bs p hp h2
def SetOk (H : Hp) (v : V) (ok : Bool) : Prop := (∃ v0 v1 v2, EntTup H v v0 v1 v2 ∧ ok = entOk v0 v1 v2) ∨ (NoEnt H v ∧ ok = false)
def spSetItem (C CE : Addr) : Sp := fun vs H Q E => ∃ b dd t es vd vn v ok, vs = [.ref b, .ref t, v] ∧ BookAt C H b dd es ∧ es.length < 1000 ∧ H t = some (.tup [vd, vn]) ∧ Pn H vd ∧ Pn H vn ∧ SetOk H v ok ∧
  (∀ d n, vd = .int d → vn = .int n → (numV 0 vd && (numV 0 vn && ok)) = true → ∀ H', Same H H' → Q .non (upd H' dd (.dT (putK (kvE es) (keyE d n) v)))) ∧
  ((numV 0 vd && (numV 0 vn && ok)) = false → ∀ x H', Same H H' → H' x = some (.xd (noE vn vd)) → E (.ref CE) (some x) H')
theorem num_int {lo : Int} {v : V} (h : numV lo v = true) : ∃ i, v = .int i := by
  cases v with
  | int i => exact ⟨i, rfl⟩
  | _ => cases h
theorem ok_m_Book_setitem (T : Txt K mg A) : FnOk P w K mg base (L2.CX P w) 5 A.m_Book_setitem A.fd_m_Book_setitem P_m_Book_setitem (spSetItem A.Book A.BadEntry) := by
  refine T.F_m_Book_setitem.okX sc_m_Book_setitem (fun vs H Q E h => ?_) (fun cdv Ar outer s H vs Q E hr h => ?_)
  · obtain ⟨b, dd, t, es, vd, vn, v, ok, rfl, _⟩ := h
    rfl
  · obtain ⟨b, dd, t, es, vd, vn, v, ok, rfl, ⟨⟨dx, hb⟩, hd⟩, hz, ht, hvd, hvn, hok, k1, k2⟩ := h
    refine ⟨_, (pss_cons (ps_asg (pv 1) (pg_tup (n := 2) rfl (pgs_cons (pg_name (i := 3) sc_m_Book_setitem.nd rfl (Or.inl rfl)) (pgs_cons (pg_name (i := 4) sc_m_Book_setitem.nd rfl (Or.inl rfl)) pgs_nil))))
      (pss_cons (ps_if (PW.pt (pw_or (pt_not (pt_val (pe_call (ok_f_is_number T) (hr.mono (by decide)) (by rfl) T.g_is_number T.F_f_is_number.kp T.b_f_is_number .nil pass0 (pa_cons (pv 3) (pa_cons pe_int pa_nil))))) (pw_or (pt_not (pt_val (pe_call (ok_f_is_number T) (hr.mono (by decide)) (by rfl) T.g_is_number T.F_f_is_number.kp T.b_f_is_number .nil pass0 (pa_cons (pv 4) (pa_cons pe_int pa_nil))))) (pw_or1 (pt_not (pt_val (pe_call (ok_f_is_entry T) (hr.mono (by decide)) (by rfl) T.g_is_entry T.F_f_is_entry.kp T.b_f_is_entry .nil pass0 (pa_cons (pv 2) pa_nil)))))))) (pss_one (ps_raise rfl (takes_of rfl rfl rfl rfl) (pmk_oex T.ox_BadEntry T.oi_BadEntry T.ot_BadEntry (ok_m_BadEntry_init T) (hr.mono (by decide)) T.b_m_BadEntry_init .nil pass0 (by rfl) T.g_BadEntry (pa_cons (pv 3) (pa_cons (pv 4) pa_nil))))) pss_nil)
      (pss_one (ps_dput (hu_of hr) (pe_fld (pv 0) rfl) (pv 1) (pv 2) rfl)))), ?_⟩
    refine ⟨_, rfl, t, _, rfl, SqT.of ht, rfl, _, _, rfl, _, _, rfl, rfl, ?_⟩
    refine ⟨_, rfl, vd, 0, rfl, hvd, _, rfl, ?_⟩
    have bad : (numV 0 vd && (numV 0 vn && ok)) = false → ∀ H1, Same H H1 → ∀ a, H1 a = none → _ := fun e H1 s1 a ha => mk_excF (C := A.BadEntry) (n := 2) (fs := fs_BadEntry) (H := H1) (ws := [vd, vn]) (Q := E) (fun x H' s _ h => k2 e x H' (s1.trans s) h) ha
    cases n1 : numV 0 vd with
    | false => exact iteT ⟨_, rfl, _, rfl, (by show 2 ≤ 1000; decide), bad (by rw [n1]; rfl) H fun _ _ h => h⟩
    | true =>
      refine iteF ⟨_, rfl, vn, 0, rfl, hvn, _, rfl, ?_⟩
      cases n2 : numV 0 vn with
      | false => exact iteT ⟨_, rfl, _, rfl, (by show 2 ≤ 1000; decide), bad (by rw [n1, n2]; rfl) H fun _ _ h => h⟩
      | true =>
        refine iteF ⟨_, rfl, v, rfl, ?_⟩
        obtain ⟨d, rfl⟩ := num_int n1
        obtain ⟨n, rfl⟩ := num_int n2
        have hzl : (kvE es).length < sizeLine := by
          unfold kvE kvT
          rw [List.length_map, List.length_map]
          exact Nat.lt_of_lt_of_le hz (by decide)
        rcases hok with ⟨v0, v1, v2, hE, rfl⟩ | ⟨hN, rfl⟩
        · refine .inl ⟨v0, v1, v2, hE, fun H1 s1 => ⟨_, rfl, ?_⟩⟩
          cases e : entOk v0 v1 v2 with
          | false => exact iteT ⟨_, rfl, _, rfl, (by show 2 ≤ 1000; decide), bad (by rw [n1, n2, e]; rfl) H1 s1⟩
          | true =>
            refine iteF ⟨_, rfl, _, rfl, b, A.Book, dx, _, _, rfl, s1 _ _ hb, T.cl_Book, T.n_Book_entries, rfl, _, rfl, dd, _, rfl, DPut.t (k := keyE d n) (s1 _ _ hd) (s1 _ _ ht) hzl, ?_⟩
            exact k1 d n rfl rfl (by rw [n1, n2, e]; rfl) H1 s1
        · refine .inr ⟨hN, fun H1 s1 => ⟨_, rfl, iteT ⟨_, rfl, _, rfl, (by show 2 ≤ 1000; decide), bad (by rw [n1, n2]; rfl) H1 s1⟩⟩⟩
theorem upd_idem {H : Hp} {a : Addr} {o : HO} (h : H a = some o) : H = upd H a o := funext fun b => by
  by_cases e : b = a
  · rw [e, upd_same, h]
  · rw [upd_ne e]
def stepE (es : List En) (kd : Str) (acc : List Str) (p : Int × Int) : List Str := match atE es p.1 p.2 with
  | some t => if t.kd = kd ∧ t.nm ∉ acc then acc ++ [t.nm] else acc
  | none => acc
theorem named_app {es : List En} {kd : Str} {p : Int × Int} : ∀ {ps : List (Int × Int)} {acc : List Str}, namedE es kd (ps ++ [p]) acc = stepE es kd (namedE es kd ps acc) p
  | [], acc => rfl
  | q :: ps, acc => named_app (ps := ps)
theorem step_len {es : List En} {kd : Str} {acc : List Str} {p : Int × Int} : (stepE es kd acc p).length ≤ acc.length + 1 := by
  unfold stepE
  split
  · split
    · rw [List.length_append, List.length_singleton]
      exact Nat.le_refl _
    · exact Nat.le_succ _
  · exact Nat.le_succ _
theorem named_len {es : List En} {kd : Str} : ∀ (ps : List (Int × Int)) {acc : List Str}, (namedE es kd ps acc).length ≤ ps.length + acc.length
  | [], acc => by rw [List.length_nil, Nat.zero_add]; exact Nat.le_refl _
  | p :: ps, acc => by
    have h := named_len (es := es) (kd := kd) ps (acc := stepE es kd acc p)
    have h2 := step_len (es := es) (kd := kd) (acc := acc) (p := p)
    rw [List.length_cons]
    exact Nat.le_trans h (by omega)
theorem inV_strs {ns : List Str} {x : Str} : inV (.str x) (ns.map V.str) = decide (x ∈ ns) := by
  unfold inV
  rw [List.any_map, Bool.eq_iff_iff, List.any_eq_true, decide_eq_true_iff]
  constructor
  · rintro ⟨y, hy, e⟩
    have e2 : (y == x) = true := e
    rw [beq_iff_eq] at e2
    exact e2 ▸ hy
  · intro h
    refine ⟨x, h, ?_⟩
    show (x == x) = true
    rw [beq_iff_eq]
theorem flat_strs (ns : List Str) : (ns.map V.str).all flatV = true := by
  rw [List.all_map, List.all_eq_true]
  intro x _
  rfl
end

/-! ### names that are valid; what is picked -/
theorem letter_mem {c : Nat} (h : 97 ≤ c ∧ c < 123) : c ∈ lettersZ.cps.toList := by
  have : ∀ n : Fin 26, (97 + n.val) ∈ lettersZ.cps.toList := by decide +kernel
  have h2 := this ⟨c - 97, by omega⟩
  rw [show 97 + (c - 97) = c by omega] at h2
  exact h2
theorem name_ok {n : List Nat} (h : NmOk n) : nameV (vS n) = true := by
  show nameL (SX.S n).cps.toList = true
  have e : (SX.S n).cps.toList = n := rfl
  rw [e]
  unfold nameL
  rw [decide_eq_true h.1, decide_eq_true h.2.1, Bool.true_and, Bool.true_and, List.all_eq_true]
  intro c hc
  exact decide_eq_true (letter_mem (h.2.2 c hc))
def spPick : Sp := fun vs H Q _ => ∃ (g l q : Addr) (xs : List V), vs = [.ref g, .ref q] ∧ Bag H g l ∧ q ≠ g ∧ H q = some (.lst xs) ∧ 1 ≤ xs.length ∧ xs.length ≤ 1000 ∧ ∀ (v : V) (H' : Hp), v ∈ xs → Bag H' g l → Kp g H H' → Q v H'
section
variable {P : Program} {w : World} {K : PySem.W.Frag} {mg : Str → Option Value} {base : Heap} {A : Ad}
theorem ok_l_pick (T : Txt K mg A) : FnOk P w K mg base CX0 2 A.l_pick A.fd_l_pick P_l_pick spPick := by
  refine T.F_l_pick.ok sc_l_pick (fun vs H Q E h => ?_) (fun cdv Ar outer s H vs Q E hr h => ?_)
  · obtain ⟨g, l, q, xs, rfl, _⟩ := h
    rfl
  · obtain ⟨g, l, q, xs, rfl, B, nq, hq, h1, h2, k⟩ := h
    refine ⟨_, (pss_one (ps_ret (pe_ix ix_list (pv 1) (pe_call (ok_l_draw T) (hr.mono (by decide)) (by rfl) T.g__law_draw T.F_l_draw.kp T.b_l_draw .nil pass0 (pa_cons (pv 0) (pa_cons (pe_callB call_len_seq (by rfl) T.z_len (by decide +kernel) (pa_cons (pv 1) pa_nil)) pa_nil))) (fun _ _ => rfl)))), ?_⟩
    refine ⟨_, rfl, _, rfl, _, rfl, q, _, rfl, .inl (SqL.of hq), g, l, _, rfl, B, by omega, lt_pow (a := 10) (by omega) (by decide), fun c H1 c0 c1 B1 K1 => ?_⟩
    have hq1 := K1 _ _ hq nq
    obtain ⟨j, rfl⟩ := Int.eq_ofNat_of_zero_le c0
    have hj : j < xs.length := by omega
    exact ⟨q, _, _, _, rfl, rfl, SqL.of hq1, atI_nat (List.getElem?_eq_getElem hj), k _ H1 (List.getElem_mem hj) B1 K1⟩
end

/-! ### the law's next place -/
/-- the drawn entries: a list of triples -/
def Tri (H : Hp) (t : Addr) (u : En) : Prop := H t = some (.tup [.int u.d, .int u.n, .ref u.e])
def ltE (a b : En) : Prop := a.d < b.d ∨ (a.d = b.d ∧ a.n < b.n)
def spNext : Sp := fun vs H Q _ => ∃ (g l q : Addr) (ts : List Addr) (es : List En), vs = [.ref g, .ref q] ∧ Bag H g l ∧ q ≠ g ∧ H q = some (.lst (ts.map V.ref)) ∧ All2 (Tri H) ts es ∧ (∀ u ∈ es, 0 ≤ u.d ∧ 0 ≤ u.n) ∧
  ∀ (p : Addr) (d n : Int) (H' : Hp), H' p = some (.tup [.int d, .int n]) → 0 ≤ d → 0 ≤ n → (es = [] → d ≤ 3 ∧ n ≤ 2) → (∀ u, es.getLast? = some u → (u.d < d ∨ (u.d = d ∧ u.n < n)) ∧ d ≤ u.d + 9 ∧ n ≤ u.n + 3) → Bag H' g l → Kp g H H' → Q (.ref p) H'
theorem last_at {α : Type} {xs : List α} {x : α} (h : xs.getLast? = some x) : atI xs (-1) = some x := by
  have hl : 0 < xs.length := List.length_pos_iff.mpr fun e => by rw [e] at h; cases h
  unfold atI ixN
  rw [if_neg (by decide), if_pos (by omega)]
  rw [List.getLast?_eq_getElem?] at h
  show xs[(-1 + (xs.length : Int)).toNat]? = _
  rw [show (-1 + (xs.length : Int)).toNat = xs.length - 1 by omega]
  exact h
theorem All2.last {α β : Type} {R : α → β → Prop} {xs : List α} {ys : List β} {y : β} (h : All2 R xs ys) (hy : ys.getLast? = some y) : ∃ x, xs.getLast? = some x ∧ R x y := by
  rw [List.getLast?_eq_getElem?] at hy
  have hl : 0 < ys.length := List.length_pos_iff.mpr fun e => by rw [e] at hy; cases hy
  have hx : ys.length - 1 < xs.length := by rw [h.1]; omega
  refine ⟨xs[ys.length - 1], ?_, h.2 _ _ _ (List.getElem?_eq_getElem hx) hy⟩
  rw [List.getLast?_eq_getElem?, h.1]
  exact List.getElem?_eq_getElem hx
section
variable {P : Program} {w : World} {K : PySem.W.Frag} {mg : Str → Option Value} {base : Heap} {A : Ad}
theorem ok_l_next (T : Txt K mg A) : FnOk P w K mg base CX0 2 A.l_next A.fd_l_next P_l_next spNext := by
  refine T.F_l_next.ok sc_l_next (fun vs H Q E h => ?_) (fun cdv Ar outer s H vs Q E hr h => ?_)
  · obtain ⟨g, l, q, ts, es, rfl, _⟩ := h
    rfl
  · obtain ⟨g, l, q, ts, es, rfl, B, nq, hq, h2, hp, k⟩ := h
    refine ⟨_, (pss_cons (ps_if (pt_cmpR (op_eqNil hr.units) (pv 1) (pe_lst pa_nil) (nomark _)) (pss_one (ps_ret (pe_tup (pa_cons (pe_call (ok_l_draw T) (hr.mono (by decide)) (by rfl) T.g__law_draw T.F_l_draw.kp T.b_l_draw .nil pass0 (pa_cons (pv 0) (pa_cons pe_int pa_nil))) (pa_cons (pe_call (ok_l_draw T) (hr.mono (by decide)) (by rfl) T.g__law_draw T.F_l_draw.kp T.b_l_draw .nil pass0 (pa_cons (pv 0) (pa_cons pe_int pa_nil))) pa_nil))))) pss_nil)
      (pss_cons (ps_set (i := 2) sc_l_next.nd rfl (Or.inl rfl) (pe_ix ix_list (pe_lst (pa_cons pe_int (pa_cons pe_int (pa_cons pe_int (pa_cons pe_int (pa_cons pe_int (pa_cons pe_int (pa_cons pe_int pa_nil)))))))) (pe_call (ok_l_draw T) (hr.mono (by decide)) (by rfl) T.g__law_draw T.F_l_draw.kp T.b_l_draw .nil pass0 (pa_cons (pv 0) (pa_cons pe_int pa_nil))) (fun _ _ => rfl)))
      (pss_cons (ps_if (pt_cmpR op_eq (pv 2) pe_int (nomark _)) (pss_one (ps_ret (pe_tup (pa_cons (pe_ix ix_tup (pe_ix ix_list (pv 1) (pe_un un_neg pe_int) (fun _ _ => rfl)) pe_int (fun _ _ => rfl)) (pa_cons (pe_op op_add (pe_op op_add (pe_ix ix_tup (pe_ix ix_list (pv 1) (pe_un un_neg pe_int) (fun _ _ => rfl)) pe_int (fun _ _ => rfl)) pe_int) (pe_call (ok_l_draw T) (hr.mono (by decide)) (by rfl) T.g__law_draw T.F_l_draw.kp T.b_l_draw .nil pass0 (pa_cons (pv 0) (pa_cons pe_int pa_nil)))) pa_nil))))) pss_nil)
      (pss_one (ps_ret (pe_tup (pa_cons (pe_op op_add (pe_ix ix_tup (pe_ix ix_list (pv 1) (pe_un un_neg pe_int) (fun _ _ => rfl)) pe_int (fun _ _ => rfl)) (pv 2)) (pa_cons (pe_call (ok_l_draw T) (hr.mono (by decide)) (by rfl) T.g__law_draw T.F_l_draw.kp T.b_l_draw .nil pass0 (pa_cons (pv 0) (pa_cons pe_int pa_nil))) pa_nil)))))))), ?_⟩
    refine ⟨_, rfl, Nat.zero_le _, fun z hz => ⟨q, z, _, rfl, rfl, SqL.of (Same.new hz _ _ hq), SqL.of upd_same, _, rfl, ?_⟩⟩
    have B1 := B.new (o := .lst []) hz
    have s1 := Same.new (o := .lst []) hz
    have hq1 := s1 _ _ hq
    rcases hes : es with _ | ⟨u0, us⟩
    · have ht : ts = [] := List.eq_nil_of_length_eq_zero (by rw [h2.1, hes]; rfl)
      subst ht
      refine iteT ⟨_, rfl, g, l, _, rfl, B1, by decide, by decide, fun d H2 d0 d1 B2 K2 => ?_⟩
      refine ⟨_, rfl, g, l, _, rfl, B2, by decide, by decide, fun n H3 n0 n1 B3 K3 => ⟨(by show 2 ≤ sizeLine; decide), fun p hp' => ?_⟩⟩
      exact k p d n _ upd_same d0 n0 (fun _ => ⟨by omega, by omega⟩) (fun u hu => by rw [hes] at hu; cases hu) (B3.new hp') (((Kp.same s1).trans (K2.trans K3)).new hp')
    · obtain ⟨u, hu⟩ : ∃ u, es.getLast? = some u := ⟨_, by rw [hes]; exact List.getLast?_eq_some_getLast (by simp)⟩
      obtain ⟨t, htl, htu⟩ := h2.last hu
      have hum : u ∈ es := List.mem_of_getLast? hu
      have hn : ts ≠ [] := fun e => by rw [e] at htl; cases htl
      have he : (ts.map V.ref).isEmpty = false := by
        cases ts with
        | nil => exact absurd rfl hn
        | cons _ _ => rfl
      have htl' : (ts.map V.ref).getLast? = some (.ref t) := by rw [List.getLast?_map, htl]; rfl
      show if (ts.map V.ref).isEmpty = true then _ else _
      rw [he]
      refine iteF ⟨(by show 7 ≤ sizeLine; decide), fun z2 hz2 => ?_⟩
      have s2 := Same.new (o := .lst [V.int 0, .int 0, .int 0, .int 1, .int 1, .int 2, .int 9]) hz2
      have B2 := B1.new (o := .lst [V.int 0, .int 0, .int 0, .int 1, .int 1, .int 2, .int 9]) hz2
      refine ⟨_, rfl, g, l, _, rfl, B2, by decide, by decide, fun c H3 c0 c1 B3 K3 => ?_⟩
      have hz3 := K3 _ _ upd_same (B1.ne hz2).1
      have K03 : Kp g H H3 := (Kp.same (s1.trans s2)).trans K3
      have hq3 := K03 _ _ hq nq
      obtain ⟨xs, hg⟩ := B.lst
      have ht3 : H3 t = some (.tup [.int u.d, .int u.n, .ref u.e]) := K03 _ _ htu (ne_of htu hg (by intro z; cases z))
      obtain ⟨st, hst, st0, st9⟩ : ∃ st : Int, atI [V.int 0, .int 0, .int 0, .int 1, .int 1, .int 2, .int 9] c = some (.int st) ∧ 0 ≤ st ∧ st ≤ 9 := by
        have : c = 0 ∨ c = 1 ∨ c = 2 ∨ c = 3 ∨ c = 4 ∨ c = 5 ∨ c = 6 := by omega
        rcases this with rfl | rfl | rfl | rfl | rfl | rfl | rfl <;> exact ⟨_, rfl, by decide, by decide⟩
      refine ⟨z2, _, _, _, rfl, rfl, SqL.of hz3, hst, _, rfl, rfl, _, rfl, if_int (fun e => ?_) (fun e => ?_)⟩
      · refine ⟨_, rfl, 1, rfl, q, _, _, _, rfl, rfl, SqL.of hq3, last_at htl', t, _, _, _, rfl, rfl, SqT.of ht3, rfl, ?_⟩
        refine ⟨_, rfl, 1, rfl, q, _, _, _, rfl, rfl, SqL.of hq3, last_at htl', t, _, _, _, rfl, rfl, SqT.of ht3, rfl, _, _, rfl, rfl, ?_⟩
        refine ⟨_, rfl, g, l, _, rfl, B3, by decide, by decide, fun c2 H4 e0 e1 B4 K4 => ⟨_, _, rfl, rfl, (by show 2 ≤ sizeLine; decide), fun p hp' => ?_⟩⟩
        refine k p u.d (u.n + 1 + c2) _ upd_same (hp u hum).1 (by have := (hp u hum).2; omega) (fun z => by rw [hes] at z; cases z) (fun u' hu' => ?_) (B4.new hp') ((K03.trans K4).new hp')
        rw [hu] at hu'
        cases hu'
        exact ⟨.inr ⟨rfl, by omega⟩, by omega, by omega⟩
      · refine ⟨_, rfl, 1, rfl, q, _, _, _, rfl, rfl, SqL.of hq3, last_at htl', t, _, _, _, rfl, rfl, SqT.of ht3, rfl, _, rfl, _, _, rfl, rfl, ?_⟩
        refine ⟨_, rfl, g, l, _, rfl, B3, by decide, by decide, fun c2 H4 e0 e1 B4 K4 => ⟨(by show 2 ≤ sizeLine; decide), fun p hp' => ?_⟩⟩
        have hs1 : 1 ≤ st := by omega
        refine k p (u.d + st) c2 _ upd_same (by have := (hp u hum).1; omega) e0 (fun z => by rw [hes] at z; cases z) (fun u' hu' => ?_) (B4.new hp') ((K03.trans K4).new hp')
        rw [hu] at hu'
        cases hu'
        have := (hp u hum).2
        exact ⟨.inl (by omega), by omega, by omega⟩
end

/-! ### a drawn order -/
def spMixed : Sp := fun vs H Q _ => ∃ (g l q : Addr) (xs : List V), vs = [.ref g, .ref q] ∧ Bag H g l ∧ H q = some (.lst xs) ∧ xs.length ≤ 1000 ∧
  ∀ (p : Addr) (ys : List V) (H' : Hp), ys.Perm xs → H p = none → H' p = some (.lst ys) → Bag H' g l → Kp g H H' → Q (.ref p) H'
theorem perm_pop {α : Type} : ∀ {zs : List α} {k : Nat} {y : α}, zs[k]? = some y → (y :: zs.eraseIdx k).Perm zs
  | z :: zs, 0, y, h => by
    simp at h
    subst h
    exact .refl _
  | z :: zs, k + 1, y, h => by
    have ih := perm_pop (zs := zs) (k := k) (y := y) (by simpa using h)
    exact (List.Perm.swap z y _).trans (ih.cons z)
theorem seq_ix {i : Int} {n : Nat} (h0 : 0 ≤ i) (h1 : i < n) : seqIndex? i n = some i.toNat := by
  have e : (if i < 0 then i + (n : Int) else i) = i := if_neg (by omega)
  unfold seqIndex?
  simp only [e, h0, h1, decide_true, Bool.and_self, if_true]
section
variable {P : Program} {w : World} {K : PySem.W.Frag} {mg : Str → Option Value} {base : Heap} {A : Ad}
theorem ok_l_mixed (T : Txt K mg A) : FnOk P w K mg base CX0 2 A.l_mixed A.fd_l_mixed P_l_mixed spMixed := by
  refine T.F_l_mixed.ok sc_l_mixed (fun vs H Q E h => ?_) (fun cdv Ar outer s H vs Q E hr h => ?_)
  · obtain ⟨g, l, q, xs, rfl, _⟩ := h
    rfl
  · obtain ⟨g, l, q, xs, rfl, hB, hq, hlen, k⟩ := h
    refine ⟨_, (pss_cons (ps_set (i := 2) sc_l_mixed.nd rfl (Or.inl rfl) (pe_callTy call_list_of (by rfl) T.z_list (by decide +kernel) (pa_cons (pv 1) pa_nil)))
      (pss_cons (ps_set (i := 3) sc_l_mixed.nd rfl (Or.inl rfl) (pe_lst pa_nil))
      (pss_cons (ps_g (ps_for PassesOwn.never rfl (pi_range1 rfl T.z_range (pa_cons (pe_callB call_len_seq (by rfl) T.z_len (by decide +kernel) (pa_cons (pv 1) pa_nil)) pa_nil)) (pg_name (i := 4) sc_l_mixed.nd rfl (Or.inl rfl)) (pss_one (ps_expr (pe_bm PySem.F.plainAttrs_list PySem.F.slot_list_append PySem.F.type_list_append mt_append (pv 3) (pa_cons (pe_bm PySem.F.plainAttrs_list PySem.F.slot_list_pop PySem.F.type_list_pop mt_popAt (pv 2) (pa_cons (pe_call (ok_l_draw T) (hr.mono (by decide)) (by rfl) T.g__law_draw T.F_l_draw.kp T.b_l_draw .nil pass0 (pa_cons (pv 0) (pa_cons (pe_callB call_len_seq (by rfl) T.z_len (by decide +kernel) (pa_cons (pv 2) pa_nil)) pa_nil))) pa_nil)) pa_nil))))))
      (pss_one (ps_ret (pv 3)))))), ?_⟩
    refine ⟨_, rfl, q, xs, rfl, .inl (SqL.of hq), fun a ha => ⟨Nat.zero_le _, fun f hf => ?_⟩⟩
    have naf : a ≠ f := fun z => by
      rw [z, upd_same] at hf
      cases hf
    have hf0 : H f = none := by
      rw [upd_ne naf.symm] at hf
      exact hf
    have na := hB.ne ha
    have nf := hB.ne hf0
    have nqa := ne_of_none hq ha
    have nqf := ne_of_none hq hf0
    refine ⟨⟨_, rfl, q, xs, rfl, .inl (SqL.of (by rw [upd_ne nqf, upd_ne nqa]; exact hq)), _, rfl, by omega, by omega, for_range (lo := 0) (n := xs.length) (fun i σ' H' => Wd (∃ (ys zs : List V) (v : Option V),
      σ' = [some (.ref g), some (.ref q), some (.ref a), some (.ref f), v] ∧ H' a = some (.lst zs) ∧ H' f = some (.lst ys) ∧ (ys ++ zs).Perm xs ∧ zs.length + i = xs.length ∧ Bag H' g l ∧ Kp g H H'))
      ⟨[], xs, none, rfl, by rw [upd_ne naf, upd_same], upd_same, .refl _, rfl, (hB.put na).put nf, ((Kp.refl g H).put ha).put hf0⟩ ?_ ?_⟩⟩
    · rintro i σ' H' hi ⟨ys, zs, v, rfl, h1, h2, hp, hz, B1, K1⟩
      have z9 : ((zs.length : Nat) : Int).natAbs < 2 ^ 9000 := lt_pow (a := 10) (by omega) (by decide)
      have yl : ys.length ≤ 1000 := by
        have := hp.length_eq
        rw [List.length_append] at this
        omega
      refine ⟨_, rfl, .inl ⟨rfl, _, SqL.of h2⟩, _, rfl, .inl ⟨rfl, _, SqL.of h1⟩, _, rfl, _, rfl, a, zs, rfl, .inl (SqL.of h1), g, l, _, rfl, B1, by omega, z9, fun n H2 n0 n1 B2 K2 => ?_⟩
      have h1' := K2 _ _ h1 na.1
      have h2' := K2 _ _ h2 nf.1
      have hk : n.toNat < zs.length := by omega
      have hy : zs[n.toNat]? = some zs[n.toNat] := List.getElem?_eq_getElem hk
      refine ⟨a, zs, n, n.toNat, zs[n.toNat], rfl, rfl, h1', by omega, by omega, seq_ix n0 n1, hy, f, ys, _, rfl, rfl, (by rw [upd_ne naf.symm]; exact h2'), Nat.lt_of_le_of_lt yl (by decide), ?_⟩
      refine ⟨ys ++ [zs[n.toNat]], zs.eraseIdx n.toNat, _, rfl, by rw [upd_ne naf, upd_same], upd_same, ?_, ?_, (B2.put na).put nf, ((K1.trans K2).put ha).put hf0⟩
      · rw [List.append_assoc]
        exact ((perm_pop hy).append_left ys).trans hp
      · rw [List.length_eraseIdx, if_pos hk]
        omega
    · rintro σ' H' ⟨ys, zs, v, rfl, h1, h2, hp, hz, B1, K1⟩
      have e : zs = [] := List.eq_nil_of_length_eq_zero (by omega)
      subst e
      rw [List.append_nil] at hp
      exact ⟨_, rfl, k f ys H' hp hf0 h2 B1 K1⟩
end

def words4 : List (List Nat) := [[98, 117, 121], [115, 101, 108, 108], [98, 97, 99, 107], [108, 97, 116, 101]]
theorem words_ok : ∀ n ∈ words4, nameV (vS n) = true ∧ n.length ≤ 1000 := by
  intro n hn
  simp only [words4, List.mem_cons, List.not_mem_nil, or_false] at hn
  rcases hn with rfl | rfl | rfl | rfl <;> exact ⟨by decide +kernel, by decide⟩
theorem late_no : (eqV (.str "late") (.str "buy") || eqV (.str "late") (.str "sell") || eqV (.str "late") (.str "back")) = false := by decide +kernel
theorem late_yes : eqV (.str "late") (.str "late") = true := by decide +kernel
theorem ent_units {kd nm : Str} {i : Int} (hk : (eqV (.str kd) (.str "buy") || eqV (.str kd) (.str "sell") || eqV (.str kd) (.str "back")) = true) (hn : nameV (.str nm) = true) (h1 : 1 ≤ i) (h2 : i ≤ 1000000) : entOk (.str kd) (.str nm) (.int i) = true := by
  unfold entOk
  rw [hn, if_pos hk]
  show (true && (decide (1 ≤ i) && decide (i ≤ 1000000))) = true
  rw [decide_eq_true h1, decide_eq_true h2]
  rfl
theorem ent_late {nm lot : Str} (hn : nameV (.str nm) = true) (hl : nameV (.str lot) = true) : entOk (.str "late") (.str nm) (.str lot) = true := by
  unfold entOk
  rw [hn, if_neg (by rw [late_no]; decide), if_pos late_yes, hl]
  rfl

/-! ### the entries that the law draws -/
def NamesOk (ns : List (List Nat)) : Prop := ∀ n ∈ ns, nameV (vS n) = true ∧ n.length ≤ 1000
def EnOk (u : En) : Prop := entOk (.str u.kd) (.str u.nm) u.x = true ∧ Pl u.x ∧ shortV (.str u.nm) ∧ shortV u.x
structure EL (H : Hp) (g l nq sq eq bq lq : Addr) (ns bs : List (List Nat)) (ts : List Addr) (es : List En) (kvs : List (L2.Key × V)) : Prop where
  bag : Bag H g l
  N : H nq = some (.lst (ns.map vS))
  S : H sq = some (.lst (ns.map vS).reverse)
  E : H eq = some (.lst (ts.map V.ref))
  T : All2 (Tri H) ts es
  ent : EntsAt H es
  B : H bq = some (.lst (bs.map vS))
  L : H lq = some (.dK kvs)
  gn : nq ≠ g ∧ sq ≠ g
  ge : eq ≠ g ∧ eq ≠ l
  gb : bq ≠ g ∧ bq ≠ l
  dd : eq ≠ nq ∧ eq ≠ sq ∧ eq ≠ bq ∧ bq ≠ nq ∧ bq ≠ sq
structure ELp (ns bs : List (List Nat)) (es : List En) (kvs : List (L2.Key × V)) (i : Nat) (stock costs : Int) : Prop where
  nl : ns.length = 9
  nok : NamesOk ns
  bl : bs.length ≤ 6
  bm : ∀ b ∈ bs, b ∈ ns
  eok : ∀ u ∈ es, EnOk u
  rng : ∀ u ∈ es, 0 ≤ u.d ∧ 0 ≤ u.n ∧ u.d ≤ 9 * i + 3 ∧ u.n ≤ 3 * i + 3
  inc : es.Pairwise ltE
  el : es.length ≤ i
  kl : kvs.length ≤ i
  kv : ∀ p ∈ kvs, ∃ m ∈ ns, p.1 = Sum.inr (SX.S m) ∧ ∃ j : Int, p.2 = .int j ∧ 0 ≤ j ∧ j ≤ 1000000
  s0 : 0 ≤ stock
  s1 : stock ≤ i * 1000000
  c0 : 0 ≤ costs
  c3 : costs ≤ 3
  z : i = 0 → stock = 0 ∧ bs = []
theorem EL.move {H H' : Hp} {g l nq sq eq bq lq : Addr} {ns bs : List (List Nat)} {ts : List Addr} {es : List En} {kvs : List (L2.Key × V)} (h : EL H g l nq sq eq bq lq ns bs ts es kvs) (bag : Bag H' g l) (k : Kp g H H') : EL H' g l nq sq eq bq lq ns bs ts es kvs := by
  obtain ⟨xs, hg⟩ := h.bag.lst
  exact ⟨bag, k _ _ h.N h.gn.1, k _ _ h.S h.gn.2, k _ _ h.E h.ge.1, h.T.mono fun x y z => k _ _ z (ne_of z hg (by intro z; cases z)), fun t ht => k _ _ (h.ent t ht) (ne_of (h.ent t ht) hg (by intro z; cases z)), k _ _ h.B h.gb.1, k _ _ h.L (ne_of h.L hg (by intro z; cases z)), h.gn, h.ge, h.gb, h.dd⟩
theorem EL.same {H H' : Hp} {g l nq sq eq bq lq : Addr} {ns bs : List (List Nat)} {ts : List Addr} {es : List En} {kvs : List (L2.Key × V)} (h : EL H g l nq sq eq bq lq ns bs ts es kvs) (s : Same H H') : EL H' g l nq sq eq bq lq ns bs ts es kvs := h.move (h.bag.keep s) (Kp.same s)
theorem EL.bput {H : Hp} {g l nq sq eq bq lq : Addr} {ns bs : List (List Nat)} {ts : List Addr} {es : List En} {kvs : List (L2.Key × V)} (h : EL H g l nq sq eq bq lq ns bs ts es kvs) (bs' : List (List Nat)) : EL (upd H bq (.lst (bs'.map vS))) g l nq sq eq bq lq ns bs' ts es kvs := by
  have n : ∀ {a : Addr} {xs : List V}, H a = some (.tup xs) → a ≠ bq := fun z => ne_of z h.B (by intro z; cases z)
  exact ⟨h.bag.put h.gb, by rw [upd_ne h.dd.2.2.2.1.symm]; exact h.N, by rw [upd_ne h.dd.2.2.2.2.symm]; exact h.S, by rw [upd_ne h.dd.2.2.1]; exact h.E, h.T.mono fun x y z => (by unfold Tri; rw [upd_ne (n z)]; exact z), fun t ht => by rw [upd_ne (n (h.ent t ht))]; exact h.ent t ht, upd_same, by rw [upd_ne (ne_of h.L h.B (by intro z; cases z))]; exact h.L, h.gn, h.ge, h.gb, h.dd⟩
theorem EL.lput {H : Hp} {g l nq sq eq bq lq : Addr} {ns bs : List (List Nat)} {ts : List Addr} {es : List En} {kvs : List (L2.Key × V)} (h : EL H g l nq sq eq bq lq ns bs ts es kvs) (kvs' : List (L2.Key × V)) : EL (upd H lq (.dK kvs')) g l nq sq eq bq lq ns bs ts es kvs' := by
  have k : ∀ c o, H c = some o → (∀ kvs, o ≠ .dK kvs) → upd H lq (.dK kvs') c = some o := fun c o e n => by
    rw [upd_ne fun z => by rw [z, h.L] at e; exact n _ (Option.some.inj e).symm]
    exact e
  obtain ⟨i, r, s, c, xs, h1, h2, h3⟩ := h.bag.ex
  exact ⟨⟨i, r, s, c, xs, k _ _ h1 (by intro _ z; cases z), k _ _ h2 (by intro _ z; cases z), h3⟩, k _ _ h.N (by intro _ z; cases z), k _ _ h.S (by intro _ z; cases z), k _ _ h.E (by intro _ z; cases z), h.T.mono fun x y z => k _ _ z (by intro _ z; cases z), fun t ht => k _ _ (h.ent t ht) (by intro _ z; cases z), k _ _ h.B (by intro _ z; cases z), upd_same, h.gn, h.ge, h.gb, h.dd⟩
theorem EL.eput {H : Hp} {g l nq sq eq bq lq t : Addr} {ns bs : List (List Nat)} {ts : List Addr} {es : List En} {kvs : List (L2.Key × V)} {u : En} (h : EL H g l nq sq eq bq lq ns bs ts es kvs) (ht : Tri H t u) (hu : H u.e = some (.tup [.str u.kd, .str u.nm, u.x])) : EL (upd H eq (.lst ((ts ++ [t]).map V.ref))) g l nq sq eq bq lq ns bs (ts ++ [t]) (es ++ [u]) kvs := by
  have n : ∀ {a : Addr} {xs : List V}, H a = some (.tup xs) → a ≠ eq := fun z => ne_of z h.E (by intro z; cases z)
  refine ⟨h.bag.put h.ge, by rw [upd_ne h.dd.1.symm]; exact h.N, by rw [upd_ne h.dd.2.1.symm]; exact h.S, upd_same, (h.T.app (.one ht)).mono fun x y z => (by unfold Tri; rw [upd_ne (n z)]; exact z), fun v hv => ?_, by rw [upd_ne h.dd.2.2.1.symm]; exact h.B, by rw [upd_ne (ne_of h.L h.E (by intro z; cases z))]; exact h.L, h.gn, h.ge, h.gb, h.dd⟩
  rcases List.mem_append.mp hv with hv | hv
  · rw [upd_ne (n (h.ent v hv))]
    exact h.ent v hv
  · rw [List.mem_singleton] at hv
    subst hv
    rw [upd_ne (n hu)]
    exact hu
theorem upd_back {H : Hp} {a d : Addr} {u x y : HO} (h : H a = some u) (n : d ≠ a) : upd (upd (upd H a x) d y) a u = upd H d y := funext fun b => by
  by_cases e : b = a
  · rw [e, upd_same, upd_ne n.symm, h]
  · rw [upd_ne e]
    by_cases e2 : b = d
    · rw [e2, upd_same, upd_same]
    · rw [upd_ne e2, upd_ne e2, upd_ne e]
theorem mem_putK {kvs : List (L2.Key × V)} {k : L2.Key} {v : V} {p : L2.Key × V} (h : p ∈ putK kvs k v) : p = (k, v) ∨ p ∈ kvs := by
  unfold putK at h
  split at h
  · obtain ⟨q, hq, e⟩ := List.mem_map.mp h
    split at e
    · next ek => exact .inl (by rw [← e, ek])
    · exact .inr (e ▸ hq)
  · rcases List.mem_append.mp h with h | h
    · exact .inr h
    · exact .inl (List.mem_singleton.mp h)
theorem len_putK {kvs : List (L2.Key × V)} {k : L2.Key} {v : V} : (putK kvs k v).length ≤ kvs.length + 1 := by
  unfold putK
  split
  · rw [List.length_map]
    exact Nat.le_succ _
  · rw [List.length_append]
    exact Nat.le_refl _
theorem valV_mem {kvs : List (L2.Key × V)} {k : L2.Key} {v : V} (h : valV kvs k = some v) : (k, v) ∈ kvs := by
  unfold valV at h
  obtain ⟨p, hp, rfl⟩ := Option.map_eq_some_iff.mp h
  have h1 := List.find?_some hp
  have h2 : p.1 = k := of_decide_eq_true h1
  rw [← h2]
  exact List.mem_of_find?_eq_some hp
theorem mem_valV {kvs : List (L2.Key × V)} {k : L2.Key} {v : V} (h : (k, v) ∈ kvs) : ∃ v', valV kvs k = some v' := by
  cases e : valV kvs k with
  | some v' => exact ⟨v', rfl⟩
  | none =>
    unfold valV at e
    rw [Option.map_eq_none_iff] at e
    have := List.find?_eq_none.mp e _ h
    exact absurd (decide_eq_true rfl) this
theorem buy_yes : (eqV (.str "buy") (.str "buy") || eqV (.str "buy") (.str "sell") || eqV (.str "buy") (.str "back")) = true := by decide +kernel
theorem sell_yes : (eqV (.str "sell") (.str "buy") || eqV (.str "sell") (.str "sell") || eqV (.str "sell") (.str "back")) = true := by decide +kernel
theorem back_yes : (eqV (.str "back") (.str "buy") || eqV (.str "back") (.str "sell") || eqV (.str "back") (.str "back")) = true := by decide +kernel
theorem at_mem {xs : List V} {j : Nat} (h : j < xs.length) : ∃ x ∈ xs, atI xs (j : Int) = some x := ⟨xs[j], List.getElem_mem h, atI_nat (List.getElem?_eq_getElem h)⟩
theorem lt_last {es : List En} {u : En} {v : En} (hp : es.Pairwise ltE) (hu : u ∈ es) (h : ∀ w, es.getLast? = some w → w.d < v.d ∨ (w.d = v.d ∧ w.n < v.n)) : ltE u v := by
  cases hl : es.getLast? with
  | none => rw [List.getLast?_eq_none_iff.mp hl] at hu; cases hu
  | some w =>
    have hw := h w hl
    by_cases e : u = w
    · rw [e]
      exact hw
    · obtain ⟨l, rfl⟩ := List.getLast?_eq_some_iff.mp hl
      rw [List.pairwise_append] at hp
      have hul : u ∈ l := by
        rcases List.mem_append.mp hu with z | z
        · exact z
        · exact absurd (List.mem_singleton.mp z) e
      have := hp.2.2 u hul w (List.mem_singleton.mpr rfl)
      unfold ltE at this ⊢
      omega
def spEntries : Sp := fun vs H Q _ => ∃ (g l : Addr) (most : Int), vs = [.ref g, .int most] ∧ Bag H g l ∧ 1 ≤ most ∧ most ≤ 100 ∧
  ∀ (q : Addr) (ts : List Addr) (es : List En) (H' : Hp), H q = none → H' q = some (.lst (ts.map V.ref)) → All2 (Tri H') ts es → EntsAt H' es → (∀ u ∈ es, EnOk u) → (∀ u ∈ es, 0 ≤ u.d ∧ 0 ≤ u.n ∧ u.d ≤ 1000 ∧ u.n ≤ 1000) → es.Pairwise ltE → es ≠ [] → (es.length : Int) ≤ most → Bag H' g l → Kp g H H' → Q (.ref q) H'
section
variable {P : Program} {w : World} {K : PySem.W.Frag} {mg : Str → Option Value} {base : Heap} {A : Ad}
theorem ok_l_entries (T : Txt K mg A) : FnOk P w K mg base CX0 3 A.l_entries A.fd_l_entries P_l_entries spEntries := by
  refine T.F_l_entries.ok sc_l_entries (fun vs H Q E h => ?_) (fun cdv Ar outer s H vs Q E hr h => ?_)
  · obtain ⟨g, l, most, rfl, _⟩ := h
    rfl
  · obtain ⟨g, l, most, rfl, B, m1, m2, k⟩ := h
    refine ⟨_, (pss_cons (ps_set (i := 2) sc_l_entries.nd rfl (Or.inl rfl) (pe_op op_add pe_int (pe_call (ok_l_draw T) (hr.mono (by decide)) (by rfl) T.g__law_draw T.F_l_draw.kp T.b_l_draw .nil pass0 (pa_cons (pv 0) (pa_cons (pv 1) pa_nil)))))
      (pss_cons (ps_set (i := 3) sc_l_entries.nd rfl (Or.inl rfl) (pe_ix ix_list (pe_lst (pa_cons pe_int (pa_cons pe_int pa_nil))) (pe_op op_fdiv (pe_call (ok_l_draw T) (hr.mono (by decide)) (by rfl) T.g__law_draw T.F_l_draw.kp T.b_l_draw .nil pass0 (pa_cons (pv 0) (pa_cons pe_int pa_nil))) pe_int) (fun _ _ => rfl)))
      (pss_cons (ps_set (i := 4) sc_l_entries.nd rfl (Or.inl rfl) (pe_call (ok_l_names T) (hr.mono (by decide)) (by rfl) T.g__law_names T.F_l_names.kp T.b_l_names .nil pass0 (pa_cons (pv 0) (pa_cons pe_int (pa_cons (pe_lst (pa_cons pe_str (pa_cons pe_str (pa_cons pe_str (pa_cons pe_str pa_nil))))) pa_nil)))))
      (pss_cons (ps_set (i := 5) sc_l_entries.nd rfl (Or.inl rfl) (pe_revL (pv 4)))
      (pss_cons (ps_set (i := 6) sc_l_entries.nd rfl (Or.inl rfl) (pe_lst pa_nil))
      (pss_cons (ps_set (i := 7) sc_l_entries.nd rfl (Or.inl rfl) (pe_lst pa_nil))
      (pss_cons (ps_set (i := 8) sc_l_entries.nd rfl (Or.inr rfl) (pe_dnewK))
      (pss_cons (ps_set (i := 9) sc_l_entries.nd rfl (Or.inl rfl) pe_int)
      (pss_cons (ps_set (i := 10) sc_l_entries.nd rfl (Or.inl rfl) pe_int)
      (pss_cons (ps_g (ps_for PassesOwn.never rfl (pi_range1 rfl T.z_range (pa_cons (pv 2) pa_nil)) (pg_name (i := 11) sc_l_entries.nd rfl (Or.inl rfl)) (pss_cons (ps_set (i := 12) sc_l_entries.nd rfl (Or.inl rfl) (pe_call (ok_l_draw T) (hr.mono (by decide)) (by rfl) T.g__law_draw T.F_l_draw.kp T.b_l_draw .nil pass0 (pa_cons (pv 0) (pa_cons pe_int pa_nil))))
      (pss_cons (ps_g (ps_lock (ps_setLcV (i := 13) (own := [("_law_sale", 16)]) rfl sc_l_entries.nd rfl rfl (sw_true rfl rfl rfl (by decide +kernel)) (pi_keys (pv 8)) (blkOk_by (own := [("_law_sale", 16)]) (N := N_l_entries) (sc := defScope s_l_entries) (by decide +kernel)) (fun _ _ _ _ _ => (pg_name (i := 16) sc_l_entries.nd rfl (Or.inl rfl))) (fun _ _ _ _ _ => (pts_one (pt_cmpR op_gt (pe_dget (hu_of hr) (pv 8) (pv 16) (fun _ _ => rfl)) pe_int (nomark _)))) (fun _ _ _ _ _ => (pv 16)) (fun _ _ _ _ _ => rfl) (fun _ _ _ _ _ => rfl) (fun _ _ _ _ _ => rfl))))
      (pss_cons (ps_set (i := 14) sc_l_entries.nd rfl (Or.inl rfl) pe_non)
      (pss_g (Evl.pss_cut (ps_if (PW.pt (pw_and (pt_cmpR op_lt (pe_callB call_len_seq (by rfl) T.z_len (by decide +kernel) (pa_cons (pv 7) pa_nil)) pe_int (nomark _)) (pw_and1 (PW.pt (pw_or (pt_cmpR op_eq (pv 9) pe_int (nomark _)) (pw_or1 (pt_cmpR op_lt (pv 12) pe_int (nomark _)))))))) (pss_cons (ps_set (i := 15) sc_l_entries.nd rfl (Or.inl rfl) (pe_op op_add pe_int (pe_call (ok_l_draw T) (hr.mono (by decide)) (by rfl) T.g__law_draw T.F_l_draw.kp T.b_l_draw .nil pass0 (pa_cons (pv 0) (pa_cons (pv 3) pa_nil)))))
      (pss_cons (ps_set (i := 14) sc_l_entries.nd rfl (Or.inl rfl) (pe_tup (pa_cons pe_str (pa_cons (pe_ix ix_list (pv 4) (pe_callB call_len_seq (by rfl) T.z_len (by decide +kernel) (pa_cons (pv 7) pa_nil)) (fun _ _ => rfl)) (pa_cons (pv 15) pa_nil)))))
      (pss_cons (ps_expr (pe_bm PySem.F.plainAttrs_list PySem.F.slot_list_append PySem.F.type_list_append mt_append (pv 7) (pa_cons (pe_ix ix_list (pv 4) (pe_callB call_len_seq (by rfl) T.z_len (by decide +kernel) (pa_cons (pv 7) pa_nil)) (fun _ _ => rfl)) pa_nil)))
      (pss_one (ps_set (i := 9) sc_l_entries.nd rfl (Or.inl rfl) (pe_op op_add (pv 9) (pv 15))))))) (pss_one (ps_if (PW.pt (pw_and (pt_cmpR op_gt (pv 9) pe_int (nomark _)) (pw_and (pt_cmpR op_lt (pv 12) pe_int (nomark _)) (pw_and1 (pt_cmpR op_lt (pe_callB (call_lenD) (by rfl) T.z_len (by decide +kernel) (pa_cons (pv 8) pa_nil)) pe_int (nomark _)))))) (pss_cons (ps_set (i := 15) sc_l_entries.nd rfl (Or.inl rfl) (pe_op op_add pe_int (pe_call (ok_l_draw T) (hr.mono (by decide)) (by rfl) T.g__law_draw T.F_l_draw.kp T.b_l_draw .nil pass0 (pa_cons (pv 0) (pa_cons (pv 9) pa_nil)))))
      (pss_g (Evl.pss_cut (ps_if (PW.pt (pw_and (pt_cmpR op_eq (pv 12) pe_int (nomark _)) (pw_and1 (pt_cmpR op_le (pv 9) pe_int (nomark _))))) (pss_one (ps_set (i := 15) sc_l_entries.nd rfl (Or.inl rfl) (pv 9))) pss_nil)
      (pss_cons (ps_set (i := 15) sc_l_entries.nd rfl (Or.inl rfl) (pe_callB (call_min2 rfl) (by rfl) T.z_min (by decide +kernel) (pa_cons (pv 15) (pa_cons pe_int pa_nil))))
      (pss_cons (ps_set (i := 14) sc_l_entries.nd rfl (Or.inl rfl) (pe_tup (pa_cons pe_str (pa_cons (pe_ix ix_list (pv 5) (pe_callB (call_lenD) (by rfl) T.z_len (by decide +kernel) (pa_cons (pv 8) pa_nil)) (fun _ _ => rfl)) (pa_cons (pv 15) pa_nil)))))
      (pss_cons (ps_dput (hu_of hr) (pv 8) (pe_ix ix_list (pv 5) (pe_callB call_lenD (by rfl) T.z_len (by decide +kernel) (pa_cons (pv 8) pa_nil)) (fun _ _ => rfl)) (pv 15) rfl)
      (pss_one (ps_set (i := 9) sc_l_entries.nd rfl (Or.inl rfl) (pe_op op_sub (pv 9) (pv 15)))))))))) (pss_one (ps_if (PW.pt (pw_and (pt_cmpR (op_neNil hr.units) (pv 13) (pe_lst pa_nil) (nomark _)) (pw_and1 (pt_cmpR op_lt (pv 12) pe_int (nomark _))))) (pss_cons (ps_set (i := 16) sc_l_entries.nd rfl (Or.inl rfl) (pe_call (ok_l_pick T) (hr.mono (by decide)) (by rfl) T.g__law_pick T.F_l_pick.kp T.b_l_pick .nil pass0 (pa_cons (pv 0) (pa_cons (pv 13) pa_nil))))
      (pss_cons (ps_set (i := 15) sc_l_entries.nd rfl (Or.inl rfl) (pe_op op_add pe_int (pe_call (ok_l_draw T) (hr.mono (by decide)) (by rfl) T.g__law_draw T.F_l_draw.kp T.b_l_draw .nil pass0 (pa_cons (pv 0) (pa_cons (pe_dget (hu_of hr) (pv 8) (pv 16) (fun _ _ => rfl)) pa_nil)))))
      (pss_cons (ps_set (i := 14) sc_l_entries.nd rfl (Or.inl rfl) (pe_tup (pa_cons pe_str (pa_cons (pv 16) (pa_cons (pv 15) pa_nil)))))
      (pss_cons (ps_dput (hu_of hr) (pv 8) (pv 16) (pe_op op_sub (pe_dget (hu_of hr) (pv 8) (pv 16) (fun _ _ => rfl)) (pv 15)) rfl)
      (pss_one (ps_set (i := 9) sc_l_entries.nd rfl (Or.inl rfl) (pe_op op_add (pv 9) (pv 15)))))))) (pss_one (ps_if (PW.pt (pw_and (pt_cmpR (op_neNil hr.units) (pv 7) (pe_lst pa_nil) (nomark _)) (pw_and1 (pt_cmpR op_lt (pv 10) pe_int (nomark _))))) (pss_cons (ps_set (i := 14) sc_l_entries.nd rfl (Or.inl rfl) (pe_tup (pa_cons pe_str (pa_cons (pe_ix ix_list (pv 4) (pe_op op_add pe_int (pv 10)) (fun _ _ => rfl)) (pa_cons (pe_call (ok_l_pick T) (hr.mono (by decide)) (by rfl) T.g__law_pick T.F_l_pick.kp T.b_l_pick .nil pass0 (pa_cons (pv 0) (pa_cons (pv 7) pa_nil))) pa_nil)))))
      (pss_one (ps_set (i := 10) sc_l_entries.nd rfl (Or.inl rfl) (pe_op op_add (pv 10) pe_int)))) pss_nil)))))))
      (pss_one (ps_if (pt_cmpR op_notN (pv 14) pe_non (nomark _)) (pss_cons (ps_asg (pe_call (ok_l_next T) (hr.mono (by decide)) (by rfl) T.g__law_next T.F_l_next.kp T.b_l_next .nil pass0 (pa_cons (pv 0) (pa_cons (pv 6) pa_nil))) (pg_tup (n := 2) rfl (pgs_cons (pg_name (i := 17) sc_l_entries.nd rfl (Or.inl rfl)) (pgs_cons (pg_name (i := 18) sc_l_entries.nd rfl (Or.inl rfl)) pgs_nil))))
      (pss_one (ps_expr (pe_bm PySem.F.plainAttrs_list PySem.F.slot_list_append PySem.F.type_list_append mt_append (pv 6) (pa_cons (pe_tup (pa_cons (pv 17) (pa_cons (pv 18) (pa_cons (pv 14) pa_nil)))) pa_nil))))) pss_nil)))))))))
      (pss_one (ps_ret (pv 6))))))))))))), ?_⟩
    refine ⟨_, rfl, _, rfl, g, l, _, rfl, B, by omega, lt_pow (a := 10) (by omega) (by decide), fun c1 H1 c10 c11 B1 K1 => ⟨_, _, rfl, rfl, ?_⟩⟩
    refine ⟨(by show 2 ≤ sizeLine; decide), fun z1 hz1 => ?_⟩
    have B1' := B1.new (o := .lst [V.int 6, .int 1000000]) hz1
    refine ⟨_, rfl, g, l, _, rfl, B1', by decide, by decide, fun c2 H2 c20 c21 B2 K2 => ?_⟩
    have hz2 := K2 _ _ upd_same (B1.ne hz1).1
    have K02 : Kp g H H2 := (K1.new hz1).trans K2
    obtain ⟨sz, hsz, sz1, sz2⟩ : ∃ sz : Int, atI [V.int 6, .int 1000000] (c2 / 7) = some (.int sz) ∧ 1 ≤ sz ∧ sz ≤ 1000000 := by
      have : c2 / 7 = 0 ∨ c2 / 7 = 1 := by omega
      rcases this with h | h <;> rw [h] <;> exact ⟨_, rfl, by decide, by decide⟩
    refine ⟨_, _, rfl, rfl, ⟨by decide, by decide⟩, z1, _, _, _, rfl, rfl, SqL.of hz2, hsz, ?_⟩
    refine ⟨_, rfl, (by show 4 ≤ sizeLine; decide), fun wq hwq => ?_⟩
    have B2' := B2.new (o := .lst [V.str "buy", .str "sell", .str "back", .str "late"]) hwq
    refine ⟨g, l, wq, 9, words4, rfl, B2', (B2.ne hwq).1, by decide, by decide, upd_same, by decide, by decide, by decide, fun nq ns H3 nnq hnq hnl hnd hno B3 K3 => ?_⟩
    have NO : NamesOk ns := fun n hn => by
      rcases hno n hn with h | h
      · exact ⟨name_ok h, Nat.le_trans h.2.1 (by decide)⟩
      · exact words_ok n h
    have K03 : Kp g H H3 := (K02.new hwq).trans K3
    have nqg : nq ≠ g := fun e => by
      obtain ⟨xs, hg⟩ := B2'.lst
      rw [e, hg] at nnq
      cases nnq
    refine ⟨_, rfl, nq, _, rfl, SqL.of hnq, fun sq hsq => ?_⟩
    refine ⟨Nat.zero_le _, fun eq heq => ⟨Nat.zero_le _, fun bq hbq lq hlq => ?_⟩⟩
    have v1 := Same.new (o := .lst (ns.map vS).reverse) hsq
    have v2 := Same.new (o := .lst []) heq
    have v3 := Same.new (o := .lst []) hbq
    have v4 := Same.new (o := .dK []) hlq
    have v14 := v1.trans (v2.trans (v3.trans v4))
    have q1 : H3 eq = none := Same.none v1 heq
    have q2 : H3 bq = none := Same.none (v1.trans v2) hbq
    have st : EL (upd (upd (upd (upd H3 sq (.lst (ns.map vS).reverse)) eq (.lst [])) bq (.lst [])) lq (.dK [])) g l nq sq eq bq lq ns [] [] [] [] :=
      ⟨B3.keep v14, v14 _ _ hnq, (v2.trans (v3.trans v4)) _ _ upd_same, (v3.trans v4) _ _ upd_same, .nil, fun t ht => (by cases ht), v4 _ _ upd_same, upd_same, ⟨nqg, (B3.ne hsq).1⟩, B3.ne q1, B3.ne q2,
        ⟨(ne_of_none hnq q1).symm, (ne_of_none upd_same heq).symm, ne_of_none upd_same hbq, (ne_of_none hnq q2).symm, (ne_of_none (v2 _ _ upd_same) hbq).symm⟩⟩
    have KS : Kp g H (upd (upd (upd (upd H3 sq (.lst (ns.map vS).reverse)) eq (.lst [])) bq (.lst [])) lq (.dK [])) := K03.trans (Kp.same v14)
    have feq : H eq = none := kp_none K03 q1 (B3.ne q1).1
    have fbq : H bq = none := kp_none K03 q2 (B3.ne q2).1
    have flq : H lq = none := kp_none (K03.trans (Kp.same (v1.trans (v2.trans v3)))) hlq ((B3.keep (v1.trans (v2.trans v3))).ne hlq).1
    generalize upd (upd (upd (upd H3 sq (.lst (ns.map vS).reverse)) eq (.lst [])) bq (.lst [])) lq (.dK []) = H4 at st KS ⊢
    have pp : ELp ns [] [] [] 0 0 0 := ⟨hnl, NO, by decide, fun b hb => (by cases hb), fun u hu => (by cases hu), fun u hu => (by cases hu), .nil, Nat.le_refl _, Nat.le_refl _, fun p hp => (by cases hp), by decide, by decide, by decide, by decide, fun _ => ⟨rfl, rfl⟩⟩
    refine ⟨⟨_, rfl, 1 + c1, rfl, by omega, by omega, for_range (lo := 0) (n := (1 + c1).toNat) (fun i σ' H' => Wd (∃ (bs : List (List Nat)) (ts : List Addr) (es : List En) (kvs : List (L2.Key × V)) (stock costs : Int) (o : List (Option V)), o.length = 8 ∧
      σ' = [some (.ref g), some (.int most), some (.int (1 + c1)), some (.int sz), some (.ref nq), some (.ref sq), some (.ref eq), some (.ref bq), some (.ref lq), some (.int stock), some (.int costs)] ++ o ∧ EL H' g l nq sq eq bq lq ns bs ts es kvs ∧ ELp ns bs es kvs i stock costs ∧ (i = 0 ∨ es ≠ []) ∧ Kp g H H'))
      ⟨[], [], [], [], 0, 0, [none, none, none, none, none, none, none, none], rfl, rfl, st, pp, .inl rfl, KS⟩ ?_ ?_⟩⟩
    · rintro i σ' H5 hi ⟨bs, ts, es, kvs, stock, costs, o, hol, rfl, st, pp, hne, KH⟩
      match o, hol with
      | [o11, o12, o13, o14, o15, o16, o17, o18], _ =>
        have i100 : i < 100 := by omega
        refine ⟨_, rfl, g, l, _, rfl, st.bag, by decide, by decide, fun ch H6 ch0 ch1 B6 K6 => ?_⟩
        have st6 := st.move B6 K6
        refine ⟨⟨lq, _, st6.L, trivial, fun od => ⟨_, rfl, lq, od, rfl, .inl ⟨kvs, upd_same, fun D hD => ?_⟩⟩⟩⟩
        have nDl : D ≠ lq := fun e => by rw [e, upd_same] at hD; cases hD
        refine lc_it walk_keys (fun j H' => Wd (∃ zs : List Str, zs.length ≤ j ∧ (∀ z ∈ zs, ∃ n : Int, valV kvs (.inr z) = some (.int n) ∧ 0 < n) ∧ H' = upd (upd H6 lq (.frz od (.dK kvs))) D (.lst (zs.map V.str)))) ⟨[], Nat.le_refl _, fun z hz => (by cases hz), rfl⟩ (fun j H' _ h => ?_) ?_ ?_
        · obtain ⟨zs, _, _, rfl⟩ := h.ok
          rw [upd_ne nDl.symm, upd_same]
        · rintro j x H7 H8 hj ⟨zs, hzl, hz, rfl⟩ ⟨rfl, kk, v, hkv, rfl⟩
          obtain ⟨m, hm, ek, _⟩ := pp.kv (kk, v) (List.mem_of_getElem? hkv)
          obtain ⟨v', hv'⟩ := mem_valV (List.mem_of_getElem? hkv)
          obtain ⟨_, _, _, n', ev', n0', n1'⟩ := pp.kv _ (valV_mem hv')
          have ek : kk = Sum.inr (SX.S m) := ek
          have ev' : v' = .int n' := ev'
          subst ek ev'
          have gg : DGet (upd (upd H6 lq (.frz od (.dK kvs))) D (.lst (zs.map V.str))) lq (.str (SX.S m)) (some (.int n')) := .inl ⟨kvs, Sum.inr (SX.S m), .inr ⟨od, by rw [upd_ne nDl.symm, upd_same]⟩, rfl, hv'.symm⟩
          refine ⟨rfl, _, rfl, _, rfl, lq, .int n', rfl, gg, _, _, rfl, rfl, _, rfl, if_dec (fun e => ?_) (fun e => ?_)⟩
          · refine ⟨_, rfl, _, upd_same, ?_, zs ++ [SX.S m], by rw [List.length_append]; exact Nat.succ_le_succ hzl, fun z hz' => ?_, by rw [upd_upd, List.map_append]; rfl⟩
            · rw [List.length_map]
              exact Nat.lt_of_lt_of_le (by have := pp.kl; omega : zs.length < 1000) (by decide)
            · rcases List.mem_append.mp hz' with hz' | hz'
              · exact hz z hz'
              · rw [List.mem_singleton] at hz'
                subst hz'
                exact ⟨n', hv', e⟩
          · exact ⟨zs, Nat.le_succ_of_le hzl, hz, rfl⟩
        rintro H7 ⟨zs, hzl, hz, rfl⟩
        refine ⟨by rw [upd_ne nDl.symm, upd_same], ?_⟩
        rw [upd_back st6.L nDl]
        have hD6 : H6 D = none := by
          rw [upd_ne nDl] at hD
          exact hD
        have sD := Same.new (o := .lst (zs.map V.str)) hD6
        have st7 := st6.same sD
        have KD : Kp g H (upd H6 D (.lst (zs.map V.str))) := (KH.trans K6).trans (Kp.same sD)
        have hDD : upd H6 D (.lst (zs.map V.str)) D = some (.lst (zs.map V.str)) := upd_same
        have nDg := B6.ne hD6
        generalize upd H6 D (.lst (zs.map V.str)) = H7 at st7 KD hDD ⊢
        clear sD hD st6 hD6
        have rng' : ∀ u ∈ es, 0 ≤ u.d ∧ 0 ≤ u.n ∧ u.d ≤ 9 * ((i + 1 : Nat) : Int) + 3 ∧ u.n ≤ 3 * ((i + 1 : Nat) : Int) + 3 := fun u hu => by
          have := pp.rng u hu
          refine ⟨this.1, this.2.1, by omega, by omega⟩
        have s1i := pp.s1
        have s0i := pp.s0
        have mid : ∀ (bs' : List (List Nat)) (kvs' : List (L2.Key × V)) (stock' costs' : Int), bs'.length ≤ 6 → (∀ b ∈ bs', b ∈ ns) → kvs'.length ≤ i + 1 → (∀ p ∈ kvs', ∃ m ∈ ns, p.1 = Sum.inr (SX.S m) ∧ ∃ j : Int, p.2 = .int j ∧ 0 ≤ j ∧ j ≤ 1000000) → 0 ≤ stock' → stock' ≤ stock + 1000000 → 0 ≤ costs' → costs' ≤ 3 → ELp ns bs' es kvs' (i + 1) stock' costs' := fun bs' kvs' stock' costs' a1 a2 a3 a4 a5 a6 a7 a8 =>
          ⟨pp.nl, pp.nok, a1, a2, pp.eok, rng', pp.inc, Nat.le_succ_of_le pp.el, a3, a4, a5, by omega, a7, a8, fun z => by omega⟩
        refine ⟨⟨fun σ' H' => Wd (∃ (bs' : List (List Nat)) (kvs' : List (L2.Key × V)) (stock' costs' : Int) (ev : V) (o : List (Option V)), o.length = 4 ∧
          σ' = [some (.ref g), some (.int most), some (.int (1 + c1)), some (.int sz), some (.ref nq), some (.ref sq), some (.ref eq), some (.ref bq), some (.ref lq), some (.int stock'), some (.int costs'), some (.int (0 + (i : Int))), some (.int ch), some (.ref D), some ev] ++ o ∧ EL H' g l nq sq eq bq lq ns bs' ts es kvs' ∧ ELp ns bs' es kvs' (i + 1) stock' costs' ∧
          ((ev = .non ∧ es ≠ []) ∨ ∃ e kd nm x, ev = .ref e ∧ H' e = some (.tup [.str kd, .str nm, x]) ∧ EnOk ⟨0, 0, e, kd, nm, x⟩) ∧ Kp g H H'), ?_, ?_⟩⟩
        · refine tIf_of (p := bs.length < 6 ∧ (stock = 0 ∨ ch < 2)) (H := H7) (fun Q hT hF => ?_) (fun H8 s8 hp => ?_) (fun H8 s8 hp => ?_)
          · refine ⟨_, rfl, bq, _, rfl, .inl (SqL.of st7.B), _, _, rfl, rfl, _, rfl, if_dec (fun e => ?_) (fun e => hF H7 (fun _ _ h => h) fun z => e ?_)⟩
            · have e' : bs.length < 6 := by
                rw [List.length_map] at e
                omega
              refine ⟨_, rfl, rfl, _, rfl, if_int (fun e1 => hT H7 (fun _ _ h => h) ⟨e', .inl e1⟩) (fun e1 => ?_)⟩
              exact ⟨_, rfl, _, _, rfl, rfl, _, rfl, q_dec (fun e2 => hT H7 (fun _ _ h => h) ⟨e', .inr e2⟩) (fun e2 => hF H7 (fun _ _ h => h) fun z => z.2.elim e1 e2)⟩
            · rw [List.length_map]
              have := z.1
              omega
          · have st8 := st7.same s8
            refine ⟨_, rfl, _, rfl, g, l, _, rfl, st8.bag, by omega, lt_pow (a := 20) (by omega) (by decide), fun c3 H9 c30 c31 B9 K9 => ⟨_, _, rfl, rfl, ?_⟩⟩
            have st9 := st8.move B9 K9
            have hbl := pp.nl
            have hb6 := hp.1
            have hlt : bs.length < ns.length := by omega
            have hat : atI (ns.map vS) (((bs.map vS).length : Nat) : Int) = some (vS ns[bs.length]) := by
              rw [List.length_map]
              refine atI_nat ?_
              rw [List.getElem?_map, List.getElem?_eq_getElem hlt]
              rfl
            have hmem : ns[bs.length] ∈ ns := List.getElem_mem hlt
            obtain ⟨hn1, hn2⟩ := pp.nok _ hmem
            refine ⟨_, rfl, _, rfl, bq, _, rfl, .inl (SqL.of st9.B), nq, _, _, _, rfl, rfl, SqL.of st9.N, hat, _, rfl, (by show 3 ≤ sizeLine; decide), fun e he => ?_⟩
            have sE := Same.new (o := .tup [V.str "buy", vS ns[bs.length], .int (1 + c3)]) he
            have stA := st9.same sE
            refine ⟨_, rfl, .inl ⟨rfl, _, SqL.of stA.B⟩, _, rfl, _, rfl, bq, _, rfl, .inl (SqL.of stA.B), nq, _, _, _, rfl, rfl, SqL.of stA.N, hat, bq, _, _, rfl, rfl, stA.B, ?_, ?_⟩
            · rw [List.length_map]
              exact Nat.lt_of_lt_of_le (by omega : bs.length < 1000) (by decide)
            refine ⟨_, rfl, _, rfl, _, _, rfl, rfl, bs ++ [ns[bs.length]], kvs, stock + (1 + c3), costs, .ref e, [_, _, _, _], rfl, rfl, ?_, mid _ kvs _ costs (by rw [List.length_append]; show bs.length + 1 ≤ 6; omega) (fun b hb => ?_) (Nat.le_succ_of_le pp.kl) pp.kv (by omega) (by omega) pp.c0 pp.c3, .inr ⟨e, "buy", SX.S ns[bs.length], .int (1 + c3), rfl, ?_, ent_units buy_yes hn1 (by omega) (by omega), .int _, fun z ez => by rw [← V.str.inj ez, SX.S_len]; exact hn2, fun z ez => by cases ez⟩, ?_⟩
            · have := stA.bput (bs ++ [ns[bs.length]])
              rw [List.map_append] at this
              exact this
            · rcases List.mem_append.mp hb with hb | hb
              · exact pp.bm b hb
              · rw [List.mem_singleton] at hb
                rw [hb]
                exact hmem
            · rw [upd_ne (ne_of_none st9.B he).symm, upd_same]
              rfl
            · exact (((KD.trans (Kp.same s8)).trans K9).trans (Kp.same sE)).put fbq
          · have hes : es ≠ [] := hne.resolve_left fun z => hp (by
              obtain ⟨z1, z2⟩ := pp.z z
              rw [z1, z2]
              exact ⟨by decide, .inl rfl⟩)
            have st8 := st7.same s8
            have hD8 := s8 _ _ hDD
            refine tIf_of (p := 0 < stock ∧ ch < 5 ∧ kvs.length < 9) (H := H8) (fun Q hT hF => ?_) (fun H9 s9 hp2 => ?_) (fun H9 s9 hp2 => ?_)
            · refine ⟨_, rfl, _, _, rfl, rfl, _, rfl, if_dec (fun e => ?_) (fun e => hF H8 (fun _ _ h => h) fun z => e z.1)⟩
              refine ⟨_, rfl, _, _, rfl, rfl, _, rfl, if_dec (fun e2 => ?_) (fun e2 => hF H8 (fun _ _ h => h) fun z => e2 z.2.1)⟩
              refine ⟨_, rfl, lq, _, rfl, st8.L, _, _, rfl, rfl, _, rfl, q_dec (fun e3 => hT H8 (fun _ _ h => h) ⟨e, e2, by omega⟩) (fun e3 => hF H8 (fun _ _ h => h) fun z => e3 (by have := z.2.2; omega))⟩
            · have st9 := st8.same s9
              have hk9 := hp2.2.2
              have hst : stock < 2 ^ 40 := by omega
              refine ⟨_, rfl, _, rfl, g, l, _, rfl, st9.bag, hp2.1, lt_pow (a := 40) (by omega) (by decide), fun c3 HA c30 c31 BA KA => ⟨_, _, rfl, rfl, ?_⟩⟩
              have stA := st9.move BA KA
              refine ⟨⟨fun σ' H' => Wd (∃ u : Int, 1 ≤ u ∧ u ≤ stock ∧ H' = HA ∧ σ' = [some (.ref g), some (.int most), some (.int (1 + c1)), some (.int sz), some (.ref nq), some (.ref sq), some (.ref eq), some (.ref bq), some (.ref lq), some (.int stock), some (.int costs), some (.int (0 + (i : Int))), some (.int ch), some (.ref D), some .non, some (.int u), o16, o17, o18]), ?_, ?_⟩⟩
              · refine ⟨_, rfl, rfl, _, rfl, if_int (fun e => ?_) (fun e => iteF ⟨1 + c3, by omega, by omega, rfl, rfl⟩)⟩
                exact ⟨_, rfl, _, _, rfl, rfl, _, rfl, if_dec (fun e2 => ⟨_, rfl, stock, by omega, Int.le_refl _, rfl, rfl⟩) (fun e2 => ⟨1 + c3, by omega, by omega, rfl, rfl⟩)⟩
              · rintro σ' H' ⟨u, u1, u2, rfl, rfl⟩
                refine ⟨_, rfl, _, _, rfl, ?_⟩
                obtain ⟨v, hv, v1, v2, v3⟩ : ∃ v : Int, (if (1000000 : Int) < u then 1000000 else u) = v ∧ 1 ≤ v ∧ v ≤ 1000000 ∧ v ≤ stock := by
                  split
                  · exact ⟨_, rfl, by omega, by omega, by omega⟩
                  · exact ⟨_, rfl, by omega, by omega, by omega⟩
                rw [hv]
                obtain ⟨x, hxm, hat⟩ := at_mem (xs := (ns.map vS).reverse) (j := kvs.length) (by rw [List.length_reverse, List.length_map, pp.nl]; exact hk9)
                obtain ⟨m, hm, rfl⟩ := List.mem_map.mp (List.mem_reverse.mp hxm)
                obtain ⟨hn1, hn2⟩ := pp.nok m hm
                refine ⟨_, rfl, _, rfl, lq, _, rfl, stA.L, sq, _, _, _, rfl, rfl, SqL.of stA.S, hat, _, rfl, (by show 3 ≤ sizeLine; decide), fun e he => ?_⟩
                have sE := Same.new (o := .tup [V.str "sell", vS m, .int v]) he
                have stB := stA.same sE
                have hkl := pp.kl
                refine ⟨_, rfl, _, rfl, _, rfl, _, rfl, lq, _, rfl, stB.L, sq, _, _, _, rfl, rfl, SqL.of stB.S, hat, lq, _, rfl, DPut.k (k := Sum.inr (SX.S m)) stB.L (Nat.lt_of_lt_of_le (by omega : kvs.length < 1000) (by decide)), ?_⟩
                refine ⟨_, rfl, _, rfl, _, _, rfl, rfl, bs, putK kvs (Sum.inr (SX.S m)) (.int v), stock - v, costs, .ref e, [_, _, _, _], rfl, rfl, stB.lput _, mid bs _ _ costs pp.bl pp.bm (Nat.le_trans len_putK (Nat.succ_le_succ hkl)) (fun p hp' => ?_) (by omega) (by omega) pp.c0 pp.c3, .inr ⟨e, "sell", SX.S m, .int v, rfl, ?_, ent_units sell_yes hn1 v1 v2, .int _, fun z ez => by rw [← V.str.inj ez, SX.S_len]; exact hn2, fun z ez => by cases ez⟩, ?_⟩
                · rcases mem_putK hp' with rfl | hp'
                  · exact ⟨m, hm, rfl, v, rfl, by omega, v2⟩
                  · exact pp.kv p hp'
                · rw [upd_ne (ne_of_none stA.L he).symm, upd_same]
                  rfl
                · exact ((((KD.trans (Kp.same s8)).trans (Kp.same s9)).trans KA).trans (Kp.same sE)).put flq
            · have st9 := st8.same s9
              have hD9 := s9 _ _ hD8
              refine tIf_of (p := zs ≠ [] ∧ ch < 7) (H := H9) (fun Q hT hF => ?_) (fun HA sA hp3 => ?_) (fun HA sA hp3 => ?_)
              · refine ⟨_, rfl, Nat.zero_le _, fun z hz' => ⟨D, z, _, rfl, rfl, SqL.of (Same.new hz' _ _ hD9), SqL.of upd_same, _, rfl, ?_⟩⟩
                have sz' := Same.new (o := .lst []) hz'
                cases zs with
                | nil => exact iteF (hF _ sz' fun z => z.1 rfl)
                | cons z0 zs0 => exact iteT ⟨_, rfl, _, _, rfl, rfl, _, rfl, q_dec (fun e2 => hT _ sz' ⟨by simp, e2⟩) (fun e2 => hF _ sz' fun z => e2 z.2)⟩
              · have stA := st9.same sA
                have hDA := sA _ _ hD9
                have hzl' : zs.length ≤ 1000 := by have := pp.kl; omega
                refine ⟨_, rfl, _, rfl, g, l, D, _, rfl, stA.bag, nDg.1, hDA, by rw [List.length_map]; exact List.length_pos_iff.mpr hp3.1, by rw [List.length_map]; exact hzl', fun v HB hv BB KB => ?_⟩
                obtain ⟨z, hzm, rfl⟩ := List.mem_map.mp hv
                obtain ⟨n, hn, n0⟩ := hz z hzm
                obtain ⟨m, hm, em, n', en', _, n1⟩ := pp.kv _ (valV_mem hn)
                obtain rfl : n = n' := V.int.inj en'
                obtain rfl : z = SX.S m := Sum.inr.inj em
                obtain ⟨hn1, hn2⟩ := pp.nok m hm
                have stB := stA.move BB KB
                have gB : ∀ {HH : Hp}, HH lq = some (.dK kvs) → DGet HH lq (.str (SX.S m)) (some (.int n)) := fun h => by
                  have g0 := DGet.k (k := Sum.inr (SX.S m)) h
                  rw [hn] at g0
                  exact g0
                refine ⟨_, rfl, _, rfl, _, rfl, lq, .int n, rfl, gB stB.L, g, l, _, rfl, stB.bag, n0, lt_pow (a := 40) (by omega) (by decide), fun c3 HC c30 c31 BC KC => ⟨_, _, rfl, rfl, ?_⟩⟩
                have stC := stB.move BC KC
                refine ⟨_, rfl, _, rfl, (by show 3 ≤ sizeLine; decide), fun e he => ?_⟩
                have sE := Same.new (o := .tup [V.str "back", .str (SX.S m), .int (1 + c3)]) he
                have stD := stC.same sE
                have hkl := pp.kl
                refine ⟨_, rfl, _, rfl, lq, .int n, rfl, gB stD.L, _, rfl, _, _, rfl, rfl, _, rfl, _, rfl, lq, _, rfl, DPut.k (k := Sum.inr (SX.S m)) stD.L (Nat.lt_of_lt_of_le (by omega : kvs.length < 1000) (by decide)), ?_⟩
                refine ⟨_, rfl, _, rfl, _, _, rfl, rfl, bs, putK kvs (Sum.inr (SX.S m)) (.int (n - (1 + c3))), stock + (1 + c3), costs, .ref e, [_, _, _, _], rfl, rfl, stD.lput _, mid bs _ _ costs pp.bl pp.bm (Nat.le_trans len_putK (Nat.succ_le_succ hkl)) (fun p hp' => ?_) (by omega) (by omega) pp.c0 pp.c3, .inr ⟨e, "back", SX.S m, .int (1 + c3), rfl, ?_, ent_units back_yes hn1 (by omega) (by omega), .int _, fun z ez => by rw [← V.str.inj ez, SX.S_len]; exact hn2, fun z ez => by cases ez⟩, ?_⟩
                · rcases mem_putK hp' with rfl | hp'
                  · exact ⟨m, hm, rfl, _, rfl, by omega, by omega⟩
                  · exact pp.kv p hp'
                · rw [upd_ne (ne_of_none stC.L he).symm, upd_same]
                · exact ((((((KD.trans (Kp.same s8)).trans (Kp.same s9)).trans (Kp.same sA)).trans KB).trans KC).trans (Kp.same sE)).put flq
              · have stA := st9.same sA
                refine tIf_of (p := bs ≠ [] ∧ costs < 3) (H := HA) (fun Q hT hF => ?_) (fun HB sB hp4 => ?_) (fun HB sB hp4 => ?_)
                · refine ⟨_, rfl, Nat.zero_le _, fun z hz' => ⟨bq, z, _, rfl, rfl, SqL.of (Same.new hz' _ _ stA.B), SqL.of upd_same, _, rfl, ?_⟩⟩
                  have sz' := Same.new (o := .lst []) hz'
                  cases bs with
                  | nil => exact iteF (hF _ sz' fun z => z.1 rfl)
                  | cons z0 zs0 => exact iteT ⟨_, rfl, _, _, rfl, rfl, _, rfl, q_dec (fun e2 => hT _ sz' ⟨by simp, e2⟩) (fun e2 => hF _ sz' fun z => e2 z.2)⟩
                · have stB := stA.same sB
                  have hc0 := pp.c0
                  obtain ⟨j, hj⟩ : ∃ j : Nat, 6 + costs = (j : Int) := ⟨(6 + costs).toNat, by omega⟩
                  obtain ⟨x, hxm, hat⟩ := at_mem (xs := ns.map vS) (j := j) (by rw [List.length_map, pp.nl]; have := hp4.2; omega)
                  obtain ⟨m, hm, rfl⟩ := List.mem_map.mp hxm
                  obtain ⟨hn1, hn2⟩ := pp.nok m hm
                  rw [← hj] at hat
                  refine ⟨_, rfl, _, rfl, _, _, rfl, rfl, nq, _, _, _, rfl, rfl, SqL.of stB.N, hat, _, rfl, _, rfl, g, l, bq, _, rfl, stB.bag, stB.gb.1, stB.B, by rw [List.length_map]; exact List.length_pos_iff.mpr hp4.1, by rw [List.length_map]; have := pp.bl; omega, fun v HC hv BC KC => ?_⟩
                  obtain ⟨lot, hlm, rfl⟩ := List.mem_map.mp hv
                  obtain ⟨hl1, hl2⟩ := pp.nok lot (pp.bm lot hlm)
                  have stC := stB.move BC KC
                  refine ⟨(by show 3 ≤ sizeLine; decide), fun e he => ?_⟩
                  have sE := Same.new (o := .tup [V.str "late", vS m, vS lot]) he
                  refine ⟨_, rfl, _, _, rfl, rfl, bs, kvs, stock, costs + 1, .ref e, [_, _, _, _], rfl, rfl, stC.same sE, mid bs kvs stock _ pp.bl pp.bm (Nat.le_succ_of_le pp.kl) pp.kv s0i (by omega) (by omega) (by have := hp4.2; omega), .inr ⟨e, "late", SX.S m, vS lot, rfl, upd_same, ent_late hn1 hl1, .str _, fun z ez => by rw [← V.str.inj ez, SX.S_len]; exact hn2, fun z ez => by rw [← V.str.inj ez, SX.S_len]; exact hl2⟩, ?_⟩
                  exact ((((((KD.trans (Kp.same s8)).trans (Kp.same s9)).trans (Kp.same sA)).trans (Kp.same sB)).trans KC).trans (Kp.same sE))
                · exact ⟨bs, kvs, stock, costs, .non, [_, _, _, _], rfl, rfl, stA.same sB, mid bs kvs stock costs pp.bl pp.bm (Nat.le_succ_of_le pp.kl) pp.kv s0i (by omega) pp.c0 pp.c3, .inl ⟨rfl, hes⟩, (((KD.trans (Kp.same s8)).trans (Kp.same s9)).trans (Kp.same sA)).trans (Kp.same sB)⟩
        · rintro σ' H8 ⟨bs', kvs', stock', costs', ev, o, hol, rfl, st8, pp8, hev, K8⟩
          match o, hol with
          | [p15, p16, p17, p18], _ =>
            rcases hev with ⟨rfl, hes⟩ | ⟨e, kd, nm, x, rfl, he, hok⟩
            · refine ⟨_, rfl, rfl, _, rfl, ifNT rfl ?_⟩
              exact ⟨bs', ts, es, kvs', stock', costs', [_, _, _, _, _, _, _, _], rfl, rfl, st8, pp8, .inr hes, K8⟩
            · refine ⟨_, rfl, rfl, _, rfl, ifNF (fun z => by cases z) ?_⟩
              refine ⟨_, rfl, _, rfl, g, l, eq, ts, es, rfl, st8.bag, st8.ge.1, st8.E, st8.T, fun u hu => ⟨(pp.rng u hu).1, (pp.rng u hu).2.1⟩, fun p d n H9 hp d0 n0 hnil hlast B9 K9 => ?_⟩
              have st9 := st8.move B9 K9
              obtain ⟨xs, hg⟩ := st8.bag.lst
              have he9 := K9 _ _ he (ne_of he hg (by intro z; cases z))
              refine ⟨p, _, rfl, SqT.of hp, rfl, _, _, rfl, _, _, rfl, rfl, ?_⟩
              refine ⟨_, rfl, .inl ⟨rfl, _, SqL.of st9.E⟩, _, rfl, _, rfl, _, rfl, (by show 3 ≤ sizeLine; decide), fun t ht => ?_⟩
              have sT := Same.new (o := .tup [V.int d, .int n, .ref e]) ht
              have stA := st9.same sT
              refine ⟨eq, _, _, rfl, rfl, stA.E, ?_, bs', ts ++ [t], es ++ [⟨d, n, e, kd, nm, x⟩], kvs', stock', costs', [_, _, _, _, _, _, _, _], rfl, rfl, ?_, ?_, .inr (by simp), ?_⟩
              · rw [List.length_map, st9.T.1]
                exact Nat.lt_of_lt_of_le (by have := pp.el; omega : es.length < 1000) (by decide)
              · have := stA.eput (t := t) (u := ⟨d, n, e, kd, nm, x⟩) upd_same (sT _ _ he9)
                rw [List.map_append] at this
                exact this
              · have hbound : d ≤ 9 * ((i + 1 : Nat) : Int) + 3 ∧ n ≤ 3 * ((i + 1 : Nat) : Int) + 3 := by
                  cases hl : es.getLast? with
                  | none =>
                    have := hnil (List.getLast?_eq_none_iff.mp hl)
                    omega
                  | some u =>
                    have h1 := hlast u hl
                    have h2 := pp.rng u (List.mem_of_getLast? hl)
                    omega
                refine ⟨pp8.nl, pp8.nok, pp8.bl, pp8.bm, fun u hu => ?_, fun u hu => ?_, ?_, by rw [List.length_append]; exact Nat.succ_le_succ pp.el, pp8.kl, pp8.kv, pp8.s0, pp8.s1, pp8.c0, pp8.c3, pp8.z⟩
                · rcases List.mem_append.mp hu with hu | hu
                  · exact pp.eok u hu
                  · rw [List.mem_singleton] at hu
                    subst hu
                    exact hok
                · rcases List.mem_append.mp hu with hu | hu
                  · exact rng' u hu
                  · rw [List.mem_singleton] at hu
                    subst hu
                    exact ⟨d0, n0, hbound.1, hbound.2⟩
                · rw [List.pairwise_append]
                  refine ⟨pp.inc, List.pairwise_singleton _ _, fun a ha b hb => ?_⟩
                  rw [List.mem_singleton] at hb
                  subst hb
                  exact lt_last pp.inc ha fun u hu => (hlast u hu).1
              · exact ((K8.trans K9).trans (Kp.same sT)).put feq
    · rintro σ' H5 ⟨bs, ts, es, kvs, stock, costs, o, hol, rfl, st, pp, hne, KH⟩
      refine ⟨_, rfl, k eq ts es H5 feq st.E st.T st.ent pp.eok (fun u hu => ?_) pp.inc (hne.resolve_left (by omega)) ?_ st.bag KH⟩
      · have := pp.rng u hu
        have h100 : ((1 + c1).toNat : Int) ≤ 100 := by omega
        refine ⟨this.1, this.2.1, by omega, by omega⟩
      · have := pp.el
        omega
end

/-! ### lists as data -/
theorem depthAll_le {k : Nat} : ∀ {xs : List PyData}, (∀ x ∈ xs, x.depth ≤ k) → PyData.depthAll xs ≤ k
  | [], _ => by unfold PyData.depthAll; exact Nat.zero_le _
  | x :: xs, h => by
    unfold PyData.depthAll
    exact Nat.max_le.mpr ⟨h x List.mem_cons_self, depthAll_le fun y hy => h y (List.mem_cons_of_mem _ hy)⟩
theorem depth_list {k : Nat} {xs : List PyData} (h : ∀ x ∈ xs, x.depth ≤ k) : (PyData.list xs).depth ≤ k + 1 := by
  unfold PyData.depth
  exact Nat.succ_le_succ (depthAll_le h)
theorem plainAll_of : ∀ {xs : List PyData}, (∀ x ∈ xs, x.plain = true) → PyData.plainAll xs = true
  | [], _ => rfl
  | x :: xs, h => by
    unfold PyData.plainAll
    rw [h x List.mem_cons_self, plainAll_of fun y hy => h y (List.mem_cons_of_mem _ hy)]
    rfl
theorem dpAll_of {K : PySem.W.Frag} {H : Hp} {α : Type} {f : α → V} {g : α → PyData} : ∀ {l : List α}, (∀ x ∈ l, Dp K H (f x) (g x)) → DpAll K H (l.map f) (l.map g)
  | [], _ => .nil
  | x :: l, h => .cons (h x List.mem_cons_self) (dpAll_of fun y hy => h y (List.mem_cons_of_mem _ hy))
/-- a list whose items are data -/
structure DL (K : PySem.W.Frag) (H : Hp) (v : V) (d : PyData) (k : Nat) : Prop where
  dp : Dp K H v d
  pl : d.plain = true
  de : d.depth ≤ k
theorem dl_strs {K : PySem.W.Frag} {H : Hp} {p : Addr} {ns : List Str} (h : H p = some (.lst (ns.map V.str))) : DL K H (.ref p) (.list (ns.map PyData.str)) 1 :=
  ⟨.lst (SqL.of h) (dpAll_of fun x _ => .str x), by unfold PyData.plain; exact plainAll_of fun x hx => by obtain ⟨y, _, rfl⟩ := List.mem_map.mp hx; rfl, depth_list fun x hx => by obtain ⟨y, _, rfl⟩ := List.mem_map.mp hx; exact Nat.le_refl _⟩
def pairD (p : Int × Int) : PyData := .tuple [.int p.1, .int p.2]
theorem dpAll_pairs {K : PySem.W.Frag} {H : Hp} : ∀ {bs : List Addr} {ps : List (Int × Int)}, All2 (fun b q => H b = some (.tup [.int q.1, .int q.2])) bs ps → DpAll K H (bs.map V.ref) (ps.map pairD)
  | [], [], _ => .nil
  | [], _ :: _, h => by cases h.1
  | _ :: _, [], h => by cases h.1
  | b :: bs, p :: ps, h => .cons (.tup (SqT.of (h.2 0 b p rfl rfl)) (.cons (.int _) (.cons (.int _) .nil))) (dpAll_pairs ⟨by have := h.1; simpa using this, fun i x y hx hy => h.2 (i + 1) x y hx hy⟩)
theorem dl_pairs {K : PySem.W.Frag} {H : Hp} {p : Addr} {bs : List Addr} {ps : List (Int × Int)} (h : H p = some (.lst (bs.map V.ref))) (h2 : All2 (fun b q => H b = some (.tup [.int q.1, .int q.2])) bs ps) : DL K H (.ref p) (.list (ps.map pairD)) 2 :=
  ⟨.lst (SqL.of h) (dpAll_pairs h2), by unfold PyData.plain; exact plainAll_of fun x hx => by obtain ⟨y, _, rfl⟩ := List.mem_map.mp hx; rfl, depth_list fun x hx => by obtain ⟨y, _, rfl⟩ := List.mem_map.mp hx; exact Nat.le_of_ble_eq_true rfl⟩
theorem dl_list3 {K : PySem.W.Frag} {H : Hp} {p : Addr} {a b c : V} {da db dc : PyData} {k : Nat} (h : H p = some (.lst [a, b, c])) (ha : DL K H a da k) (hb : DL K H b db k) (hc : DL K H c dc k) : DL K H (.ref p) (.list [da, db, dc]) (k + 1) :=
  ⟨.lst (SqL.of h) (.cons ha.dp (.cons hb.dp (.cons hc.dp .nil))), by unfold PyData.plain PyData.plainAll PyData.plainAll PyData.plainAll PyData.plainAll; rw [ha.pl, hb.pl, hc.pl]; rfl, depth_list fun x hx => by
    simp only [List.mem_cons, List.not_mem_nil, or_false] at hx
    rcases hx with rfl | rfl | rfl
    · exact ha.de
    · exact hb.de
    · exact hc.de⟩
theorem ne_dl {K : PySem.W.Frag} {H : Hp} {x y : V} {d : PyData} {k : Nat} {Q : VK} (hx : DL K H x d k) (hy : DL K H y d k) (hk : k ≤ 64) (h : Q (.bl false) H) : rNeP K x y H Q := neP_same hx.dp hy.dp hx.pl (Nat.le_trans hx.de hk) h
theorem eq_dl {K : PySem.W.Frag} {H : Hp} {x y : V} {d : PyData} {k : Nat} {Q : VK} (hx : DL K H x d k) (hy : DL K H y d k) (hk : k ≤ 64) (h : Q (.bl true) H) : rEqP K x y H Q := eqP_same hx.dp hy.dp hx.pl (Nat.le_trans hx.de hk) h

def pdV : V → PyData
  | .int i => .int i
  | .str z => .str z
  | _ => .none
theorem dl_pl {K : PySem.W.Frag} {H : Hp} {v : V} (h : Pl v) : DL K H v (pdV v) 0 := by
  cases h with
  | int i => exact ⟨.int i, rfl, Nat.le_refl _⟩
  | str z => exact ⟨.str z, rfl, Nat.le_refl _⟩
  | non => exact ⟨.non, rfl, Nat.le_refl _⟩
theorem dl_ent {K : PySem.W.Frag} {H : Hp} {p : Addr} {kd nm : Str} {x : V} (h : H p = some (.tup [.str kd, .str nm, x])) (hx : Pl x) : DL K H (.ref p) (.tuple [.str kd, .str nm, pdV x]) 1 := by
  have d := dl_pl (K := K) (H := H) hx
  refine ⟨.tup (SqT.of h) (.cons (.str _) (.cons (.str _) (.cons d.dp .nil))), ?_, ?_⟩
  · unfold PyData.plain PyData.plainAll PyData.plainAll PyData.plainAll PyData.plainAll
    rw [d.pl]
    rfl
  · unfold PyData.depth
    refine Nat.succ_le_succ (depthAll_le fun y hy => ?_)
    simp only [List.mem_cons, List.not_mem_nil, or_false] at hy
    rcases hy with rfl | rfl | rfl
    · exact Nat.le_refl _
    · exact Nat.le_refl _
    · exact d.de
theorem All2.keep {H H' : Hp} {bs : List Addr} {ps : List (Int × Int)} (h : All2 (fun b q => H b = some (.tup [.int q.1, .int q.2])) bs ps) (s : Same H H') : All2 (fun b q => H' b = some (.tup [.int q.1, .int q.2])) bs ps := h.mono fun _ _ z => s _ _ z

/-! ### books of drawn entries -/
def keyN (es : List En) : Prop := (keysE es).Nodup
theorem fold_len : ∀ (es acc : List En), (es.foldl putE acc).length ≤ acc.length + es.length
  | [], acc => Nat.le_refl _
  | t :: es, acc => by
    have h := fold_len es (putE acc t)
    have h2 := len_putE (es := acc) (t := t)
    rw [List.foldl_cons, List.length_cons]
    omega
theorem atE_none {es : List En} {d n : Int} (h : ∀ u ∈ es, (u.d, u.n) ≠ (d, n)) : atE es d n = none := by
  unfold atE
  rw [List.find?_eq_none]
  intro u hu e
  exact h u hu (by rw [(isE_iff.mp e).1, (isE_iff.mp e).2])
theorem put_new {es : List En} {t : En} (h : ∀ u ∈ es, (u.d, u.n) ≠ (t.d, t.n)) : putE es t = es ++ [t] := by
  unfold putE
  rw [atE_none h]
  rfl
theorem fold_new : ∀ (es acc : List En), (keysE (acc ++ es)).Nodup → es.foldl putE acc = acc ++ es
  | [], acc, _ => by rw [List.foldl_nil, List.append_nil]
  | t :: es, acc, h => by
    have hn : ∀ u ∈ acc, (u.d, u.n) ≠ (t.d, t.n) := fun u hu e => by
      unfold keysE at h
      rw [List.map_append, List.nodup_append] at h
      exact h.2.2 _ (List.mem_map.mpr ⟨u, hu, rfl⟩) _ (List.mem_map.mpr ⟨t, List.mem_cons_self, rfl⟩) e
    rw [List.foldl_cons, put_new hn, fold_new es (acc ++ [t]) (by rw [List.append_assoc]; exact h), List.append_assoc]
    rfl
theorem inc_nodup {es : List En} (h : es.Pairwise ltE) : keyN es := by
  unfold keyN keysE List.Nodup
  rw [List.pairwise_map]
  refine h.imp fun {a b} z e => ?_
  unfold ltE at z
  have e1 := congrArg Prod.fst e
  have e2 := congrArg Prod.snd e
  simp only at e1 e2
  omega
def spBook (C : Addr) : Sp := fun vs H Q _ => ∃ (q : Addr) (ts : List Addr) (es : List En), vs = [.ref q] ∧ H q = some (.lst (ts.map V.ref)) ∧ All2 (Tri H) ts es ∧ EntsAt H es ∧ (∀ u ∈ es, EnOk u) ∧ (∀ u ∈ es, 0 ≤ u.d ∧ 0 ≤ u.n ∧ u.d ≤ 1000000 ∧ u.n ≤ 1000000) ∧ es.length < 900 ∧
  ∀ (b bd : Addr) (H' : Hp), Same H H' → H b = none → H bd = none → BookAt C H' b bd (es.foldl putE []) → Q (.ref b) H'
theorem same_mk2 {H : Hp} {x dx C : Addr} (hx : H x = none) (hd : H dx = none) : Same H (upd (upd H dx (.own x)) x (.ins C dx [])) := fun b o e => by
  rw [upd_ne (ne_of_none e hx), upd_ne (ne_of_none e hd)]
  exact e
section
variable {P : Program} {w : World} {K : PySem.W.Frag} {mg : Str → Option Value} {base : Heap} {A : Ad}
theorem own_get (T : Txt K mg A) : OwnM K A.Book A.m_Book_getitem "__getitem__" := ⟨T.m_Book___getitem__.at_, T.m_Book___getitem__.fn⟩
theorem own_set (T : Txt K mg A) : OwnM K A.Book A.m_Book_setitem "__setitem__" := ⟨T.m_Book___setitem__.at_, T.m_Book___setitem__.fn⟩
theorem ok_l_book (T : Txt K mg A) : FnOk P w K mg base CX0 9 A.l_book A.fd_l_book P_l_book (spBook A.Book) := by
  refine T.F_l_book.ok sc_l_book (fun vs H Q E h => ?_) (fun cdv Ar outer s H vs Q E hr h => ?_)
  · obtain ⟨q, ts, es, rfl, _⟩ := h
    rfl
  · obtain ⟨q, ts, es, rfl, hq, hT, hE, hok, hrg, hz, k⟩ := h
    refine ⟨_, (pss_cons (ps_set (i := 1) sc_l_book.nd rfl (Or.inl rfl) (pe_make0 T.mk_Book (ok_m_Book_init T) (hr.mono (by decide)) (by rfl) T.g_Book T.b_m_Book_init .nil pass0))
      (pss_cons (ps_g (ps_for PassesOwn.never rfl (pi_list (pv 0)) (pg_tup (n := 3) rfl (pgs_cons (pg_name (i := 2) sc_l_book.nd rfl (Or.inl rfl)) (pgs_cons (pg_name (i := 3) sc_l_book.nd rfl (Or.inl rfl)) (pgs_cons (pg_name (i := 4) sc_l_book.nd rfl (Or.inl rfl)) pgs_nil)))) (pss_one (ps_ownSet (E := fun _ => E0) (own_set T) T.nsq_Book (ok_m_Book_setitem T) (hr.mono (by decide)) T.b_m_Book_setitem (passAll passL) (pv 1) (pe_tup (pa_cons (pv 2) (pa_cons (pv 3) pa_nil))) (pv 4) rfl))))
      (pss_one (ps_ret (pv 1))))), ?_⟩
    refine fun b dx hb hdx ndx => ⟨b, dx, rfl, upd_same, fun bd hbd => ⟨rfl, ?_⟩⟩
    have u1 := same_mk2 (C := A.Book) hb hdx
    have nbb : bd ≠ b := fun e => by rw [e, upd_same] at hbd; cases hbd
    have fbd : H bd = none := Same.none u1 hbd
    have S7 : Same H (upd (upd (upd (upd H dx (.own b)) b (.ins A.Book dx [])) bd (.dT [])) b (.ins A.Book dx [("entries", .ref bd)])) := Same.at_new hb (u1.trans (Same.new hbd))
    have b7 : BookAt A.Book (upd (upd (upd (upd H dx (.own b)) b (.ins A.Book dx [])) bd (.dT [])) b (.ins A.Book dx [("entries", .ref bd)])) b bd [] := ⟨⟨dx, upd_same⟩, by rw [upd_ne nbb, upd_same]; rfl⟩
    generalize upd (upd (upd (upd H dx (.own b)) b (.ins A.Book dx [])) bd (.dT [])) b (.ins A.Book dx [("entries", .ref bd)]) = H7 at S7 b7 ⊢
    refine ⟨⟨_, rfl, q, rfl, ⟨_, SqL.of (S7 _ _ hq)⟩, for_list (xs := ts.map V.ref) (fun i σ' H' => Wd (∃ o2 o3 o4 : Option V, σ' = [some (.ref q), some (.ref b), o2, o3, o4] ∧ Same H H' ∧ BookAt A.Book H' b bd ((es.take i).foldl putE []))) ⟨none, none, none, rfl, S7, b7⟩ ?_ ?_ ?_⟩⟩
    · rintro i σ' H' _ ⟨o2, o3, o4, rfl, s8, _⟩
      exact SqL.of (s8 _ _ hq)
    · rintro i x σ' H' hx ⟨o2, o3, o4, rfl, s8, B8⟩
      rw [List.getElem?_map] at hx
      obtain ⟨t, ht, rfl⟩ := Option.map_eq_some_iff.mp hx
      obtain ⟨u, hu, htu⟩ := hT.get ht
      have hum := List.mem_of_getElem? hu
      have ht8 : H' t = some (.tup [.int u.d, .int u.n, .ref u.e]) := s8 _ _ htu
      obtain ⟨ok1, ok2, ok3, ok4⟩ := hok u hum
      have hr4 := hrg u hum
      refine ⟨t, _, rfl, SqT.of ht8, rfl, _, _, rfl, _, _, rfl, _, _, rfl, rfl, ?_⟩
      obtain ⟨⟨dx2, hb8⟩, hd8⟩ := B8
      refine ⟨_, rfl, _, rfl, _, rfl, _, rfl, (by show 2 ≤ sizeLine; decide), fun r hr' => ?_⟩
      have sr := Same.new (o := .tup [V.int u.d, .int u.n]) hr'
      have hel : ((es.take i).foldl putE []).length < 1000 := by
        have := fold_len (es.take i) []
        rw [List.length_take] at this
        simp only [List.length_nil] at this
        omega
      have e8 : H' u.e = some (.tup [.str u.kd, .str u.nm, u.x]) := s8 _ _ (hE u hum)
      refine ⟨b, dx2, _, rfl, sr _ _ hb8, b, bd, r, _, .int u.d, .int u.n, .ref u.e, true, rfl, ⟨⟨dx2, sr _ _ hb8⟩, sr _ _ hd8⟩, hel, upd_same, .inl (.int _), .inl (.int _), .inl ⟨.str u.kd, .str u.nm, u.x, ⟨u.e, rfl, sr _ _ e8, .str _, .str _, ok2, ok3, ok4⟩, ok1.symm⟩, fun d' n' e1 e2 _ Hg sg => ?_, fun e => ?_⟩
      · obtain rfl := V.int.inj e1
        obtain rfl := V.int.inj e2
        refine ⟨_, _, _, rfl, ?_, ⟨dx2, ?_⟩, ?_⟩
        · exact fun c o ec => by
            rw [upd_ne (ne_of_none ec fbd)]
            exact sg _ _ (sr _ _ (s8 _ _ ec))
        · rw [upd_ne (ne_of (sg _ _ (sr _ _ hb8)) (sg _ _ (sr _ _ hd8)) (by intro z; cases z))]
          exact sg _ _ (sr _ _ hb8)
        · rw [upd_same, put_kvE (t := u), take_more hu, List.foldl_append]
          rfl
      · have en : (numV 0 (.int u.d) && (numV 0 (.int u.n) && true)) = true := by
          show ((decide (0 ≤ u.d) && decide (u.d ≤ 1000000)) && ((decide (0 ≤ u.n) && decide (u.n ≤ 1000000)) && true)) = true
          rw [decide_eq_true hr4.1, decide_eq_true hr4.2.2.1, decide_eq_true hr4.2.1, decide_eq_true hr4.2.2.2]
          rfl
        rw [en] at e
        cases e
    · rintro σ' H' ⟨o2, o3, o4, rfl, s8, B8⟩
      rw [List.length_map, hT.1, List.take_of_length_le (Nat.le_refl _)] at B8
      exact ⟨_, rfl, k b bd H' s8 hb fbd B8⟩
end

/-! ### rules as data -/
/-- the rule as data -/
structure Ru where
  t : Str
  p : Str
  n : Int
def Ru.Ok (r : Ru) : Prop := (r.t = "oldest" ∨ r.t = "newest" ∨ r.t = "even") ∧ (r.p = "own" ∨ r.p = "top" ∨ r.p = "bottom") ∧ 0 ≤ r.n ∧ r.n ≤ 1000000
def rlF (t p n : V) : List (Str × V) := putF "period" n (putF "place" p (putF "take" t []))
theorem rl_take (t p n : V) : (rlF t p n).lookup ("take" : Str) = some t := by
  unfold rlF
  rw [lookup_putF, if_neg (by decide +kernel), lookup_putF, if_neg (by decide +kernel), lookup_putF, if_pos rfl]
theorem rl_place (t p n : V) : (rlF t p n).lookup ("place" : Str) = some p := by
  unfold rlF
  rw [lookup_putF, if_neg (by decide +kernel), lookup_putF, if_pos rfl]
theorem rl_period (t p n : V) : (rlF t p n).lookup ("period" : Str) = some n := by
  unfold rlF
  rw [lookup_putF, if_pos rfl]
def Ru.fs (r : Ru) : List (Str × V) := rlF (.str r.t) (.str r.p) (.int r.n)
def IsRu (C : Addr) (H : Hp) (x : Addr) (r : Ru) : Prop := ∃ dx : Addr, H x = some (.ins C dx r.fs)
theorem IsRu.mono {C : Addr} {H H' : Hp} {x : Addr} {r : Ru} (s : Same H H') (h : IsRu C H x r) : IsRu C H' x r := by
  obtain ⟨d, e⟩ := h
  exact ⟨d, s _ _ e⟩
def spNumI : Sp := fun vs H Q _ => ∃ i : Int, vs = [.int i, .int 0] ∧ 0 ≤ i ∧ i ≤ 1000000 ∧ Q (.bl true) H
def spRuleG (C : Addr) : Sp := fun vs H Q _ => ∃ (x dx : Addr) (r : Ru), vs = [.ref x, .str r.t, .str r.p, .int r.n] ∧ H x = some (.ins C dx []) ∧ r.Ok ∧ Q .non (upd H x (.ins C dx r.fs))
theorem same_mk1 {H : Hp} {x dx C : Addr} {fs : List (Str × V)} (hx : H x = none) (hd : H dx = none) : Same H (upd (upd H dx (.own x)) x (.ins C dx fs)) := fun b o e => by
  rw [upd_ne (ne_of_none e hx), upd_ne (ne_of_none e hd)]
  exact e
theorem mk_ruleG {C x dx : Addr} {H : Hp} {r : Ru} {R : VK} {E : XK} (hx : H x = none) (hd : H dx = none) (hr : r.Ok)
    (hQ : ∀ H', Same H H' → H' x = some (.ins C dx r.fs) → R .non H') :
    spRuleG C [.ref x, .str r.t, .str r.p, .int r.n] (upd (upd H dx (.own x)) x (.ins C dx [])) R E := by
  refine ⟨x, dx, r, rfl, upd_same, hr, hQ _ ?_ upd_same⟩
  rw [upd_upd]
  exact same_mk1 hx hd
theorem inTok {t : Str} (h : t = "oldest" ∨ t = "newest" ∨ t = "even") : inV (.str t) [.str "oldest", .str "newest", .str "even"] = true := by
  obtain rfl | rfl | rfl := h <;> decide +kernel
theorem inSok {t : Str} (h : t = "own" ∨ t = "top" ∨ t = "bottom") : inV (.str t) [.str "own", .str "top", .str "bottom"] = true := by
  obtain rfl | rfl | rfl := h <;> decide +kernel

/-! ### Rule.__init__, the book's is_number beside it -/
section
variable {P : Program} {w : World} {K : PySem.W.Frag} {mg : Str → Option Value} {base : Heap} {A : Ad}
theorem ok_m_Rule_init (T : Txt K mg A) : FnOk P w K mg base (L2.CX P w) 5 A.m_Rule_init A.fd_m_Rule_init P_m_Rule_init (spRuleG A.Rule) := by
  refine T.F_m_Rule_init.ok sc_m_Rule_init (fun vs H Q E h => ?_) (fun cdv Ar outer s H vs Q E hr h => ?_)
  · obtain ⟨x, dx, r, rfl, _⟩ := h
    rfl
  · obtain ⟨x, dx, r, rfl, hx, ⟨ht, hp, h0, h1⟩, kq⟩ := h
    refine ⟨_, (pss_cons (ps_if (pt_cmpR op_notIn_seq (pv 1) (pe_glob (v := .ref A.TAKES) (by rfl) T.g_TAKES rfl) (by rfl)) (pss_one (ps_raise rfl (takes_of rfl rfl rfl rfl) (pmk_oex T.ox_BadRule T.oi_BadRule T.ot_BadRule (ok_m_BadRule_init T) (hr.mono (by decide)) T.b_m_BadRule_init .nil pass0 (by rfl) T.g_BadRule (pa_cons pe_str pa_nil)))) pss_nil)
      (pss_cons (ps_if (pt_cmpR op_notIn_seq (pv 2) (pe_glob (v := .ref A.SPOTS) (by rfl) T.g_SPOTS rfl) (by rfl)) (pss_one (ps_raise rfl (takes_of rfl rfl rfl rfl) (pmk_oex T.ox_BadRule T.oi_BadRule T.ot_BadRule (ok_m_BadRule_init T) (hr.mono (by decide)) T.b_m_BadRule_init .nil pass0 (by rfl) T.g_BadRule (pa_cons pe_str pa_nil)))) pss_nil)
      (pss_cons (ps_if (pt_not (pt_val (pe_call (ok_f_is_number T) (hr.mono (by decide)) (by rfl) T.g_is_number T.F_f_is_number.kp T.b_f_is_number .nil pass0 (pa_cons (pv 3) (pa_cons pe_int pa_nil))))) (pss_one (ps_raise rfl (takes_of rfl rfl rfl rfl) (pmk_oex T.ox_BadRule T.oi_BadRule T.ot_BadRule (ok_m_BadRule_init T) (hr.mono (by decide)) T.b_m_BadRule_init .nil pass0 (by rfl) T.g_BadRule (pa_cons pe_str pa_nil)))) pss_nil)
      (pss_cons (ps_fld (pv 0) (pv 1) rfl)
      (pss_cons (ps_fld (pv 0) (pv 2) rfl)
      (pss_one (ps_fld (pv 0) (pv 3) rfl))))))), ?_⟩
    refine ⟨_, rfl, A.TAKES, _, rfl, .inr (.inr T.tq_TAKES), rfl, rfl, _, rfl, ?_⟩
    show if (!inV (.str r.t) [.str "oldest", .str "newest", .str "even"]) = true then _ else _
    rw [inTok ht]
    refine iteF ⟨_, rfl, A.SPOTS, _, rfl, .inr (.inr T.tq_SPOTS), rfl, rfl, _, rfl, ?_⟩
    show if (!inV (.str r.p) [.str "own", .str "top", .str "bottom"]) = true then _ else _
    rw [inSok hp]
    refine iteF ⟨_, rfl, .int r.n, 0, rfl, .inl (.int _), _, rfl, ?_⟩
    have hn : numV 0 (.int r.n) = true := by show (decide (0 ≤ r.n) && decide (r.n ≤ 1000000)) = true; rw [decide_eq_true h0, decide_eq_true h1]; rfl
    rw [hn]
    refine iteF ⟨_, rfl, _, rfl, x, A.Rule, dx, [], rfl, hx, T.cl_Rule, T.n_Rule_take, (by show 0 < 1000; decide), ?_⟩
    refine ⟨_, rfl, _, rfl, x, A.Rule, dx, _, rfl, upd_same, T.cl_Rule, T.n_Rule_place, (by show 1 < 1000; decide), ?_⟩
    refine ⟨_, rfl, _, rfl, x, A.Rule, dx, _, rfl, upd_same, T.cl_Rule, T.n_Rule_period, (by show 2 < 1000; decide), ?_⟩
    rw [upd_upd, upd_upd]
    exact kq
theorem kb_rule (T : Txt K mg A) : ∃ g, KBn K A.fd_m_Rule_init P_m_Rule_init 2 ["place", "period"] g (fun vs zs => vs ++ zs) := by
  obtain ⟨mv, h⟩ := T.F_m_Rule_init.kbinds0 (ps := P_m_Rule_init) 2 ["place", "period"] [] (fun us mz ws => us ++ ws) (by simp) (by simp) (fun r1 r2 r3 => r1.append r3) (fun D doc pm an cdv ct us mv ws h1 h2 h3 => by
    match us, h1, mv, h2, ws, h3 with
    | [_, _], _, [], _, [_, _], _ => exact rfl)
  exact ⟨_, h⟩
end

/-! ### drawn rules, made -/
def spMade (C : Addr) : Sp := fun vs H Q _ => ∃ (q : Addr) (r : Ru), vs = [.ref q] ∧ H q = some (.tup [.str r.t, .str r.p, .int r.n]) ∧ r.Ok ∧ ∀ (x : Addr) (H' : Hp), Same H H' → H x = none → IsRu C H' x r → Q (.ref x) H'
theorem at_memC {xs : List V} {c : Int} (h0 : 0 ≤ c) (h1 : c < (xs.length : Int)) : ∃ v, v ∈ xs ∧ atI xs c = some v := by
  obtain ⟨j, rfl⟩ := Int.eq_ofNat_of_zero_le h0
  have hj : j < xs.length := by omega
  exact ⟨_, List.getElem_mem hj, atI_nat (List.getElem?_eq_getElem hj)⟩
def spRuleT : Sp := fun vs H Q _ => ∃ (g l : Addr), vs = [.ref g] ∧ Bag H g l ∧ ∀ (q : Addr) (r : Ru) (H' : Hp), r.Ok → Kp g H H' → Bag H' g l → H q = none → q ≠ g → H' q = some (.tup [.str r.t, .str r.p, .int r.n]) → Q (.ref q) H'
section
variable {P : Program} {w : World} {K : PySem.W.Frag} {mg : Str → Option Value} {base : Heap} {A : Ad}
theorem ok_l_rule (T : Txt K mg A) : FnOk P w K mg base CX0 2 A.l_rule A.fd_l_rule P_l_rule spRuleT := by
  refine T.F_l_rule.ok sc_l_rule (fun vs H Q E h => ?_) (fun cdv Ar outer s H vs Q E hr h => ?_)
  · obtain ⟨g, l, rfl, _⟩ := h
    rfl
  · obtain ⟨g, l, rfl, hb, k⟩ := h
    refine ⟨_, (pss_cons (ps_set (i := 1) sc_l_rule.nd rfl (Or.inl rfl) (pe_ix ix_list (pe_lst (pa_cons pe_str (pa_cons pe_str (pa_cons pe_str pa_nil)))) (pe_call (ok_l_draw T) (hr.mono (by decide)) (by rfl) T.g__law_draw T.F_l_draw.kp T.b_l_draw .nil pass0 (pa_cons (pv 0) (pa_cons pe_int pa_nil))) (fun _ _ => rfl)))
      (pss_cons (ps_set (i := 2) sc_l_rule.nd rfl (Or.inl rfl) (pe_ix ix_list (pe_lst (pa_cons pe_str (pa_cons pe_str (pa_cons pe_str pa_nil)))) (pe_call (ok_l_draw T) (hr.mono (by decide)) (by rfl) T.g__law_draw T.F_l_draw.kp T.b_l_draw .nil pass0 (pa_cons (pv 0) (pa_cons pe_int pa_nil))) (fun _ _ => rfl)))
      (pss_cons (ps_set (i := 3) sc_l_rule.nd rfl (Or.inl rfl) (pe_ix ix_list (pe_lst (pa_cons pe_int (pa_cons pe_int (pa_cons pe_int (pa_cons pe_int (pa_cons pe_int (pa_cons (pe_op op_add pe_int (pe_call (ok_l_draw T) (hr.mono (by decide)) (by rfl) T.g__law_draw T.F_l_draw.kp T.b_l_draw .nil pass0 (pa_cons (pv 0) (pa_cons pe_int pa_nil)))) pa_nil))))))) (pe_call (ok_l_draw T) (hr.mono (by decide)) (by rfl) T.g__law_draw T.F_l_draw.kp T.b_l_draw .nil pass0 (pa_cons (pv 0) (pa_cons pe_int pa_nil))) (fun _ _ => rfl)))
      (pss_one (ps_ret (pe_tup (pa_cons (pv 1) (pa_cons (pv 2) (pa_cons (pv 3) pa_nil))))))))), ?_⟩
    walk_at "go"
    intro p1 h1
    refine ⟨_, rfl, g, l, _, rfl, hb.new h1, by decide, lt_pow (a := 10) (by decide) (by decide), fun c1 H1 c10 c11 B1 K1 => ?_⟩
    have e1 := K1 _ _ upd_same (hb.ne h1).1
    obtain ⟨t, ht, et⟩ := at_memC (xs := [.str "oldest", .str "newest", .str "even"]) c10 c11
    refine ⟨p1, _, c1, t, rfl, rfl, SqL.of e1, et, ?_⟩
    have kk1 : Kp g H H1 := (Kp.same (Same.new h1)).trans K1
    walk_at "go"
    intro p2 h2
    refine ⟨_, rfl, g, l, _, rfl, B1.new h2, by decide, lt_pow (a := 10) (by decide) (by decide), fun c2 H2 c20 c21 B2 K2 => ?_⟩
    have e2 := K2 _ _ upd_same (B1.ne h2).1
    obtain ⟨pv', hpv, ep⟩ := at_memC (xs := [.str "own", .str "top", .str "bottom"]) c20 c21
    refine ⟨p2, _, c2, pv', rfl, rfl, SqL.of e2, ep, ?_⟩
    have kk2 : Kp g H H2 := kk1.trans ((Kp.same (Same.new h2)).trans K2)
    walk_at "go"
    intro n H3 n0 n1 B3 K3
    walk_at "go"
    intro p3 h3
    refine ⟨_, rfl, g, l, _, rfl, B3.new h3, by decide, lt_pow (a := 10) (by decide) (by decide), fun c3 H4 c30 c31 B4 K4 => ?_⟩
    have e3 := K4 _ _ upd_same (B3.ne h3).1
    obtain ⟨nv, hnv, en⟩ := at_memC (xs := [.int 0, .int 0, .int 1, .int 2, .int 7, .int (1 + n)]) c30 c31
    refine ⟨p3, _, c3, nv, rfl, rfl, SqL.of e3, en, ?_⟩
    have kk4 : Kp g H H4 := kk2.trans (K3.trans ((Kp.same (Same.new h3)).trans K4))
    walk_at "go"
    intro p4 h4
    obtain ⟨ts, rfl, hts⟩ : ∃ ts : Str, t = .str ts ∧ (ts = "oldest" ∨ ts = "newest" ∨ ts = "even") := by
      simp only [List.mem_cons, List.not_mem_nil, or_false] at ht
      rcases ht with rfl | rfl | rfl
      · exact ⟨_, rfl, .inl rfl⟩
      · exact ⟨_, rfl, .inr (.inl rfl)⟩
      · exact ⟨_, rfl, .inr (.inr rfl)⟩
    obtain ⟨ps, rfl, hps⟩ : ∃ ts : Str, pv' = .str ts ∧ (ts = "own" ∨ ts = "top" ∨ ts = "bottom") := by
      simp only [List.mem_cons, List.not_mem_nil, or_false] at hpv
      rcases hpv with rfl | rfl | rfl
      · exact ⟨_, rfl, .inl rfl⟩
      · exact ⟨_, rfl, .inr (.inl rfl)⟩
      · exact ⟨_, rfl, .inr (.inr rfl)⟩
    obtain ⟨m, rfl, m0, m1⟩ : ∃ m : Int, nv = .int m ∧ 0 ≤ m ∧ m ≤ 1000000 := by
      simp only [List.mem_cons, List.not_mem_nil, or_false] at hnv
      rcases hnv with rfl | rfl | rfl | rfl | rfl | rfl
      all_goals exact ⟨_, rfl, by omega, by omega⟩
    have np : p4 ≠ g := (B4.ne h4).1
    refine k p4 ⟨ts, ps, m⟩ _ ⟨hts, hps, m0, m1⟩ (kk4.new h4) (B4.new h4) ?_ np upd_same
    cases ez : H p4 with
    | none => rfl
    | some o => exact absurd (kk4 _ _ ez np) (by rw [h4]; exact fun z => nomatch z)
theorem ok_l_made (T : Txt K mg A) : FnOk P w K mg base CX0 7 A.l_made A.fd_l_made P_l_made (spMade A.Rule) := by
  refine T.F_l_made.ok sc_l_made (fun vs H Q E h => ?_) (fun cdv Ar outer s H vs Q E hr h => ?_)
  · obtain ⟨q, r, rfl, _⟩ := h
    rfl
  · obtain ⟨q, r, rfl, hq, ok, k⟩ := h
    refine ⟨_, (pss_one (ps_ret (pe_makeKS (E := fun _ => E0) T.mk_Rule (ok_m_Rule_init T) (hr.mono (by decide)) (by rfl) T.g_Rule (kb_rule T).choose_spec (fun σ pins H s e s' I c => passL pins σ H s e s' I c) (pa_cons (pe_ix ix_tup (pv 0) pe_int (fun _ _ => rfl)) pa_nil) (pk_cons (pe_ix ix_tup (pv 0) pe_int (fun _ _ => rfl)) (pk_cons (pe_ix ix_tup (pv 0) pe_int (fun _ _ => rfl)) pk_nil))))), ?_⟩
    walk_at "go"
    exact fun x dx hx hd _ => mk_ruleG hx hd ok fun H' s h => ⟨rfl, k x H' s hx ⟨dx, h⟩⟩
end

section
open PySem.Spec PyProof.Rows PpSet
variable {X : Cx} {α : Type} {O : Addr → α → HO} {x0 : α} {fits : V → α → α → Prop}
/-- the readings of its parts free of what they can't hang on -/
theorem pe_setcV (S : SetW X.prog X.w O x0 fits) {el tg it0 : Expr} {ifs : List Expr} {sc : Scope} {own : List (PySem.Str × Nat)} {pos : Pos} {wi : TI} {g : Bk TG} {tt : Bk TT} {te : Bk TE} (calm : X.calm = true) (nd : X.N.Nodup) (hi : PI X tg it0 wi) (ok : BlkOk X.N X.env.scope sc own)
    (hg : ∀ t h C cl fp, PG (X.blk t h sc (compEnvC sc cl C X.env) fp) tg (g t h C cl fp)) (ht : ∀ t h C cl fp, PTs (X.blk t h sc (compEnvC sc cl C X.env) fp) ifs (tt t h C cl fp)) (he : ∀ t h C cl fp, PE (X.blk t h sc (compEnvC sc cl C X.env) fp) el (te t h C cl fp))
    (e1 : ∀ t h C cl fp, g t h C cl fp = g.at0 X) (e2 : ∀ t h C cl fp, tt t h C cl fp = tt.at0 X) (e3 : ∀ t h C cl fp, te t h C cl fp = te.at0 X) (hs : ∀ x, foldedSetIterable it0 X.env x = pure x := by intro _; rfl) :
    PE X (.SetComp el [⟨tg, it0, ifs, 0⟩] sc pos) (tSetc O x0 fits wi (g.at0 X) (tt.at0 X) (te.at0 X) (own.map (·.2))) :=
  pe_setc S calm nd hi ok (fun t h C cl fp => by rw [← e1 t h C cl fp]; exact hg t h C cl fp) (fun t h C cl fp => by rw [← e2 t h C cl fp]; exact ht t h C cl fp) (fun t h C cl fp => by rw [← e3 t h C cl fp]; exact he t h C cl fp) hs
end
section
/-- {.. for .. in a list}, its parts keep what stands: the set of what f tells of the items -/
theorem setc_ints {K : PySem.W.Frag} {w : World} {a : Addr} {xs : List V} {g : TG} {tt : TT} {te : TE} {vs : List Nat} {σ : L2.St} {H1 : Hp} {D : Addr} {Qd : Hp → Prop} (f : Nat → Int) (hl : H1 a = some (.lst xs)) (hz : xs.length ≤ 1000) (hD : H1 D = none)
    (hs : ∀ (i : Nat) (x : V) (H' : Hp) (N : VK) (M : Hp → Prop), xs[i]? = some x → Same H1 H' → (∀ H4, Same H' H4 → N (.int (f i)) H4) → g x (wipe σ vs) H' fun σ2 H2 => wipe σ2 vs = wipe σ vs ∧ tt σ2 H2 fun b H3 => if b = true then te σ2 H3 N else M H3)
    (hd : ∀ (S : Int → Bool) (c : Nat) (H' : Hp), Same H1 H' → (∀ k, S k = true ↔ ∃ i, i < xs.length ∧ f i = k) → c ≤ xs.length → H' D = some (SetO w D S c) → Qd H') :
    ∃ W : Nat → Nat → Hp → Prop, (∃ m, W 0 m (upd H1 D (SetI w D (fun _ => false, 0)))) ∧ ∀ i m H, W i m H →
      ((Itl K a).stop i H ∧ Qd H) ∨ ((Itl K a).go i H ∧ ∃ Nx : Hp → Prop, (∀ H', Nx H' → ∃ m', m' < m ∧ W (i + 1) m' H') ∧ ∀ x H', (Itl K a).yld i H x H' → g x (wipe σ vs) H' fun σ2 H2 => wipe σ2 vs = wipe σ vs ∧ tt σ2 H2 fun b H3 =>
        if b = true then te σ2 H3 fun y H4 => ∃ z z', H4 D = some (SetI w D z) ∧ fitI y z z' ∧ Nx (upd H4 D (SetI w D z')) else Nx H3) := by
  have st : ∀ (i m : Nat) (H : Hp), Wd (m = xs.length - i ∧ i ≤ xs.length ∧ Same H1 H ∧ ∃ (S : Int → Bool) (c : Nat), H D = some (SetO w D S c) ∧ c ≤ i ∧ ∀ k, S k = true ↔ ∃ j, j < i ∧ f j = k) → Wd (m = xs.length - i ∧ i ≤ xs.length ∧ Same H1 H ∧ ∃ (S : Int → Bool) (c : Nat), H D = some (SetO w D S c) ∧ c ≤ i ∧ ∀ k, S k = true ↔ ∃ j, j < i ∧ f j = k) := fun _ _ _ h => h
  refine ⟨fun i m H => Wd (m = xs.length - i ∧ i ≤ xs.length ∧ Same H1 H ∧ ∃ (S : Int → Bool) (c : Nat), H D = some (SetO w D S c) ∧ c ≤ i ∧ ∀ k, S k = true ↔ ∃ j, j < i ∧ f j = k), ⟨xs.length, ⟨rfl, Nat.zero_le _, Same.new hD, _, 0, upd_same, Nat.le_refl _, fun k => ⟨fun z => (nomatch z), fun ⟨j, h, _⟩ => absurd h (Nat.not_lt_zero _)⟩⟩⟩, ?_⟩
  rintro i m H ⟨rfl, le, s, S, c, hS, hc, mem⟩
  have q := s _ _ hl
  by_cases lt : i < xs.length
  · refine .inr ⟨⟨xs, xs[i], SqL.of q, by simp [lt]⟩, fun H' => Wd (i + 1 ≤ xs.length ∧ Same H1 H' ∧ ∃ (S : Int → Bool) (c : Nat), H' D = some (SetO w D S c) ∧ c ≤ i + 1 ∧ ∀ k, S k = true ↔ ∃ j, j < i + 1 ∧ f j = k), fun H' ⟨h1, h2, h3⟩ => ⟨xs.length - (i + 1), by omega, ⟨rfl, h1, h2, h3⟩⟩, fun x H' y => ?_⟩
    obtain ⟨e, y⟩ := y
    subst e
    refine hs i x _ _ _ (y xs (SqL.of q)) s fun H4 s4 => ?_
    refine ⟨(S, c), _, s4 _ _ hS, ⟨f i, rfl, ?_, rfl⟩, lt, Same.at_new hD (s.trans s4), _, _, upd_same, ?_, fun k => ?_⟩
    · show c + 1 < scanBound
      unfold scanBound
      omega
    · dsimp only
      split <;> omega
    · dsimp only
      rw [Bool.or_eq_true, mem, decide_eq_true_eq]
      constructor
      · rintro (⟨j, h1, h2⟩ | rfl)
        · exact ⟨j, by omega, h2⟩
        · exact ⟨i, by omega, rfl⟩
      · rintro ⟨j, h1, h2⟩
        by_cases e : j = i
        · subst e
          exact .inr h2.symm
        · exact .inl ⟨j, by omega, h2⟩
  · have e : i = xs.length := by omega
    subst e
    exact .inl ⟨⟨xs, SqL.of q, Nat.le_refl _⟩, hd S c H s mem hc hS⟩
end

/-! ### Rule.worked -/
def ownE (es : List En) (T q : Int) : List En := es.filter fun u => decide (u.d / T = q)
def buyB (u : En) : Bool := decide (u.kd = "buy")
def partE (es : List En) (T q : Int) : List En := (ownE es T q).filter buyB ++ (ownE es T q).filter fun u => !buyB u
def wrkE (es : List En) (T : Int) (qs : List Int) : List En := if T = 0 then es else qs.flatMap (partE es T)
/-- the periods of the entries, in order -/
structure Prd (es : List En) (T : Int) (qs : List Int) : Prop where
  s : qs.Pairwise (· < ·)
  m : ∀ k, k ∈ qs ↔ ∃ u ∈ es, u.d / T = k
theorem Prd.uniq {es : List En} {T : Int} {a b : List Int} (ha : Prd es T a) (hb : Prd es T b) : a = b := by
  refine List.Perm.eq_of_pairwise (le := (· ≤ ·)) (fun x y _ _ h1 h2 => Int.le_antisymm h1 h2) (ha.s.imp Int.le_of_lt) (hb.s.imp Int.le_of_lt) ((List.perm_ext_iff_of_nodup (ha.s.imp Int.ne_of_lt) (hb.s.imp Int.ne_of_lt)).mpr fun k => (ha.m k).trans (hb.m k).symm)
/-- the places of entries, as pairs -/
def PlcAt (H : Hp) (q : Addr) (us : List En) : Prop := ∃ bs : List Addr, H q = some (.lst (bs.map V.ref)) ∧ All2 (fun b u => H b = some (.tup [.int u.d, .int u.n])) bs us
theorem PlcAt.same {H H' : Hp} {q : Addr} {us : List En} (h : PlcAt H q us) (s : Same H H') : PlcAt H' q us := by
  obtain ⟨bs, h1, h2⟩ := h
  exact ⟨bs, s _ _ h1, h2.mono fun _ _ z => s _ _ z⟩
/-- ss: the book's entries by their places -/
structure SrtE (es ss : List En) : Prop where
  k : keysE ss = srtK es
  a : ∀ u ∈ ss, atE es u.d u.n = some u
theorem SrtE.len {es ss : List En} (h : SrtE es ss) : ss.length = es.length := by
  have := congrArg List.length h.k
  rw [len_srtK] at this
  unfold keysE at this
  rw [List.length_map] at this
  exact this
/-- [x for x in xs if p], x told by R and an item of us: what is kept -/
theorem lc_filt {K : PySem.W.Frag} {α : Type} {a : Addr} {bs : List Addr} {us : List α} {R : Addr → α → Prop} {g : TG} {tt : TT} {te : TE} {vs : List Nat} {σ : L2.St} {H1 : Hp} {D : Addr} {Qd : Hp → Prop} (f : α → Bool) (hl : H1 a = some (.lst (bs.map V.ref))) (h2 : All2 R bs us) (hz : bs.length ≤ 1000) (hD : H1 D = none)
    (hs : ∀ (b : Addr) (u : α) (H' : Hp) (N : VK) (M : Hp → Prop), u ∈ us → R b u → Same H1 H' → (f u = true → ∀ H4, Same H' H4 → N (.ref b) H4) → (f u = false → ∀ H4, Same H' H4 → M H4) → g (.ref b) (wipe σ vs) H' fun σ2 H2 => wipe σ2 vs = wipe σ vs ∧ tt σ2 H2 fun b H3 => if b = true then te σ2 H3 N else M H3)
    (hd : ∀ (cs : List Addr) (H' : Hp), Same H1 H' → H' D = some (.lst (cs.map V.ref)) → All2 R cs (us.filter f) → Qd H') :
    ∃ W : Nat → Nat → Hp → Prop, (∃ m, W 0 m (upd H1 D (.lst []))) ∧ ∀ i m H, W i m H →
      ((Itl K a).stop i H ∧ Qd H) ∨ ((Itl K a).go i H ∧ ∃ Nx : Hp → Prop, (∀ H', Nx H' → ∃ m', m' < m ∧ W (i + 1) m' H') ∧ ∀ x H', (Itl K a).yld i H x H' → g x (wipe σ vs) H' fun σ2 H2 => wipe σ2 vs = wipe σ vs ∧ tt σ2 H2 fun b H3 =>
        if b = true then te σ2 H3 fun y H4 => ∃ acc, H4 D = some (.lst acc) ∧ acc.length < sizeLine ∧ Nx (upd H4 D (.lst (acc ++ [y]))) else Nx H3) := by
  refine lc_list (K := K) (a := a) (xs := bs.map V.ref) (fun i H' => Wd (∃ cs : List Addr, Same H1 H' ∧ H' D = some (.lst (cs.map V.ref)) ∧ cs.length ≤ i ∧ All2 R cs ((us.take i).filter f))) ⟨[], Same.new hD, upd_same, Nat.le_refl _, .nil⟩ (fun i H' _ h => ?_) ?_ ?_
  · obtain ⟨cs, s, _⟩ := h.ok
    exact SqL.of (s _ _ hl)
  · rintro i x H' hi ⟨cs, s, hcs, hle, A⟩
    rw [List.getElem?_map] at hi
    obtain ⟨b, hb, rfl⟩ := Option.map_eq_some_iff.mp hi
    obtain ⟨u, hu, hR⟩ := h2.get hb
    have hil := (List.getElem?_eq_some_iff.mp hb).1
    refine hs b u H' _ _ (List.mem_of_getElem? hu) hR s (fun e H4 s4 => ⟨_, s4 _ _ hcs, ?_, cs ++ [b], Same.at_new hD (s.trans s4), ?_, ?_, ?_⟩) (fun e H4 s4 => ⟨cs, s.trans s4, s4 _ _ hcs, by omega, ?_⟩)
    · rw [List.length_map]
      exact Nat.lt_of_le_of_lt (by omega : _ ≤ 1000) (by decide)
    · rw [upd_same, List.map_append]
      rfl
    · rw [List.length_append]
      exact Nat.succ_le_succ hle
    · rw [take_more hu, List.filter_append, List.filter_cons_of_pos (p := f) e]
      exact A.app (.one hR)
    · rw [take_more hu, List.filter_append, List.filter_cons_of_neg (p := f) (by rw [e]; decide)]
      rw [List.filter_nil, List.append_nil]
      exact A
  · rintro H' ⟨cs, s, hcs, hle, A⟩
    rw [List.length_map, h2.1, List.take_length] at A
    exact hd cs H' s hcs A
theorem part_len {es : List En} {T q : Int} {n : Nat} (h : 2 * es.length ≤ n) : (partE es T q).length ≤ n := by
  unfold partE ownE
  rw [List.length_append]
  have h1 := List.length_filter_le (fun u : En => decide (u.d / T = q)) es
  have h2 := List.length_filter_le buyB (es.filter fun u : En => decide (u.d / T = q))
  have h3 := List.length_filter_le (fun u => !buyB u) (es.filter fun u : En => decide (u.d / T = q))
  omega
theorem flat_len {α β : Type} {f : α → List β} {B : Nat} (h : ∀ x, (f x).length ≤ B) : ∀ {l : List α}, (l.flatMap f).length ≤ l.length * B
  | [] => Nat.zero_le _
  | x :: l => by
    rw [List.flatMap_cons, List.length_append, List.length_cons, Nat.add_mul, Nat.one_mul]
    have := flat_len (f := f) h (l := l)
    have := h x
    omega
theorem ne_of_none' {H : Hp} {a b : Addr} {o : HO} (ha : H a = none) (hb : H b = some o) : a ≠ b := fun z => by
  rw [z, hb] at ha
  cases ha
def spWorked (CR CB : Addr) : Sp := fun vs H Q _ => ∃ (x b bd : Addr) (r : Ru) (es ss : List En), vs = [.ref x, .ref b] ∧ IsRu CR H x r ∧ r.Ok ∧ BookAt CB H b bd es ∧ EntsAt H es ∧ es.length < 60 ∧ SrtE es ss ∧ ∀ (q : Addr) (qs : List Int) (H' : Hp), Same H H' → H q = none → (r.n ≠ 0 → Prd ss r.n qs) → PlcAt H' q (wrkE ss r.n qs) → Q (.ref q) H'
section
variable {P : Program} {w : World} {K : PySem.W.Frag} {mg : Str → Option Value} {base : Heap} {A : Ad}
theorem ok_m_Rule_worked (T : Txt K mg A) : FnOk P w K mg base CX0 9 A.m_Rule_worked A.fd_m_Rule_worked P_m_Rule_worked (spWorked A.Rule A.Book) := by
  refine T.F_m_Rule_worked.ok sc_m_Rule_worked (fun vs H Q E h => ?_) (fun cdv Ar outer s H vs Q E hr h => ?_)
  · obtain ⟨x, b, bd, r, es, ss, rfl, _⟩ := h
    rfl
  · obtain ⟨x, b, bd, r, es, ss, rfl, ⟨dxr, hx⟩, ok, B, hE, hz, S, k⟩ := h
    refine ⟨_, (pss_cons (ps_set (i := 2) sc_m_Rule_worked.nd rfl (Or.inl rfl) (pe_meth0 (pv 1) T.cl_Book T.m_Book_places (ok_m_Book_places T) (hr.mono (by decide)) T.b_m_Book_places .nil pass0))
      (pss_cons (ps_if (pt_cmpR op_eq (pe_fld (pv 0) rfl) pe_int (nomark _)) (pss_one (ps_ret (pv 2))) pss_nil)
      (pss_cons (ps_set (i := 3) sc_m_Rule_worked.nd rfl (Or.inl rfl) (pe_lst pa_nil))
      (pss_cons (ps_g (ps_for PassesOwn.never rfl (pi_list (pe_callB (cr_sortedSetW (w := w) rfl rfl) (by rfl) T.z_sorted (by decide +kernel) (pa_cons (pe_g (pe_setcV (O := SetI w) (x0 := (fun _ => false, 0)) (fits := fitI) setW_int (own := [("day", 6), ("number", 7)]) rfl sc_m_Rule_worked.nd (pi_list (pv 2)) (blkOk_by (own := [("day", 6), ("number", 7)]) (N := N_m_Rule_worked) (sc := defScope s_m_Rule_worked) (by decide +kernel)) (fun _ _ _ _ _ => (pg_tup (n := 2) rfl (pgs_cons (pg_name (i := 6) sc_m_Rule_worked.nd rfl (Or.inl rfl)) (pgs_cons (pg_name (i := 7) sc_m_Rule_worked.nd rfl (Or.inl rfl)) pgs_nil)))) (fun _ _ _ _ _ => pts_nil) (fun _ _ _ _ _ => (pe_op op_fdivW (pv 6) (pe_fld (pv 0) rfl))) (fun _ _ _ _ _ => rfl) (fun _ _ _ _ _ => rfl) (fun _ _ _ _ _ => rfl))) pa_nil))) (pg_name (i := 4) sc_m_Rule_worked.nd rfl (Or.inr rfl)) (pss_cons (ps_g (ps_setLcV (i := 5) (own := [("place", 8)]) rfl sc_m_Rule_worked.nd rfl rfl (sw_true rfl rfl rfl (by decide +kernel)) (pi_list (pv 2)) (blkOk_by (own := [("place", 8)]) (N := N_m_Rule_worked) (sc := defScope s_m_Rule_worked) (by decide +kernel)) (fun _ _ _ _ _ => (pg_name (i := 8) sc_m_Rule_worked.nd rfl (Or.inl rfl))) (fun _ _ _ _ _ => (pts_one (pt_cmpR op_eq (pe_op op_fdivW (pe_ix ix_tup (pv 8) pe_int (fun _ _ => rfl)) (pe_fld (pv 0) rfl)) (pv 4) (nomark _)))) (fun _ _ _ _ _ => (pv 8)) (fun _ _ _ _ _ => rfl) (fun _ _ _ _ _ => rfl) (fun _ _ _ _ _ => rfl)))
      (pss_cons (ps_expr (pe_bm PySem.F.plainAttrs_list PySem.F.slot_list_extend PySem.F.type_list_extend mt_extend (pv 3) (pa_cons (pe_g (pe_lcV (own := [("place", 8)]) rfl sc_m_Rule_worked.nd (pi_list (pv 5)) (blkOk_by (own := [("place", 8)]) (N := N_m_Rule_worked) (sc := defScope s_m_Rule_worked) (by decide +kernel)) (fun _ _ _ _ _ => (pg_name (i := 8) sc_m_Rule_worked.nd rfl (Or.inl rfl))) (fun _ _ _ _ _ => (pts_one (pt_cmpR op_eq (pe_ix ix_tup (pe_ownIx (E := fun _ => E0) (own_get T) T.fgi_Book (ok_m_Book_getitem T) (hr.mono (by decide)) T.b_m_Book_getitem (passAll passL) (pv 1) (pv 8)) pe_int (fun _ _ => rfl)) pe_str (nomark _)))) (fun _ _ _ _ _ => (pv 8)) (fun _ _ _ _ _ => rfl) (fun _ _ _ _ _ => rfl) (fun _ _ _ _ _ => rfl))) pa_nil)))
      (pss_one (ps_expr (pe_bm PySem.F.plainAttrs_list PySem.F.slot_list_extend PySem.F.type_list_extend mt_extend (pv 3) (pa_cons (pe_g (pe_lcV (own := [("place", 8)]) rfl sc_m_Rule_worked.nd (pi_list (pv 5)) (blkOk_by (own := [("place", 8)]) (N := N_m_Rule_worked) (sc := defScope s_m_Rule_worked) (by decide +kernel)) (fun _ _ _ _ _ => (pg_name (i := 8) sc_m_Rule_worked.nd rfl (Or.inl rfl))) (fun _ _ _ _ _ => (pts_one (pt_cmpR op_ne (pe_ix ix_tup (pe_ownIx (E := fun _ => E0) (own_get T) T.fgi_Book (ok_m_Book_getitem T) (hr.mono (by decide)) T.b_m_Book_getitem (passAll passL) (pv 1) (pv 8)) pe_int (fun _ _ => rfl)) pe_str (nomark _)))) (fun _ _ _ _ _ => (pv 8)) (fun _ _ _ _ _ => rfl) (fun _ _ _ _ _ => rfl) (fun _ _ _ _ _ => rfl))) pa_nil))))))))
      (pss_one (ps_ret (pv 3))))))), ?_⟩
    obtain ⟨⟨dx, hb⟩, hd⟩ := id B
    have hsl := S.len
    refine ⟨_, rfl, b, dx, _, rfl, hb, rfl, b, bd, es, rfl, B, fun bs p hp h2 => ?_⟩
    have s1 := Same.new (o := .lst (bs.map V.ref)) hp
    have pl1 : PlcAt (upd H p (.lst (bs.map V.ref))) p ss := by
      refine ⟨bs, upd_same, ?_, fun i b u hb' hu => ?_⟩
      · rw [h2.1, len_srtK, hsl]
      · have e : (srtK es)[i]? = some (u.d, u.n) := by
          rw [← S.k]
          unfold keysE
          rw [List.getElem?_map, hu]
          rfl
        exact s1 _ _ (h2.2 i b _ hb' e)
    have hx1 := s1 _ _ hx
    have hpn : H p = none := hp
    generalize upd H p (.lst (bs.map V.ref)) = H1 at *
    refine ⟨_, rfl, x, A.Rule, dxr, _, _, rfl, hx1, T.cl_Rule, T.n_Rule_period, rl_period _ _ _, rfl, _, rfl, if_int (fun e => ?_) (fun e => ?_)⟩
    · refine ⟨_, rfl, k p [] H1 s1 hpn (fun z => absurd e z) ?_⟩
      unfold wrkE
      rw [if_pos e]
      exact pl1
    · have T0 : 0 < r.n := by have := ok.2.2.1; omega
      have e20 : (2 : Nat) ^ 20 = 1048576 := by decide
      have Tm := ok.2.2.2
      have T1 : r.n.natAbs < 2 ^ 9000 := lt_pow (a := 20) (by omega) (by decide)
      refine ⟨Nat.zero_le _, fun f hf => ?_⟩
      have s2 := Same.new (o := .lst []) hf
      have pl2 := pl1.same s2
      have s12 := s1.trans s2
      obtain ⟨bs, hp2, hA⟩ := id pl2
      have nfp : f ≠ p := fun z => by rw [z] at hf; obtain ⟨_, z, _⟩ := pl1; rw [z] at hf; cases hf
      have hff : (upd H1 f (.lst [])) f = some (.lst []) := upd_same
      have hfn : H f = none := Same.none s1 hf
      generalize upd H1 f (.lst []) = H2 at *
      have hx2 := s12 _ _ hx
      have hbl : bs.length < 60 := by rw [hA.1, hsl]; exact hz
      refine ⟨⟨⟨_, rfl, p, rfl, ⟨_, SqL.of hp2⟩, fun D hD => setc_ints (K := K) (w := w) (fun i => match ss[i]? with | some u => u.d / r.n | none => 0) hp2 (by rw [List.length_map]; omega) hD ?_ ?_⟩⟩⟩
      · intro i y H3 N M hi s3 hN
        rw [List.getElem?_map] at hi
        obtain ⟨b0, hb0, rfl⟩ := Option.map_eq_some_iff.mp hi
        obtain ⟨u, hu, htu⟩ := hA.get hb0
        have en : (match ss[i]? with | some u => u.d / r.n | none => 0) = u.d / r.n := by rw [hu]
        rw [en] at hN
        exact ⟨b0, _, rfl, SqT.of (s3 _ _ htu), rfl, _, _, rfl, _, _, rfl, rfl, rfl, _, rfl, _, rfl, x, A.Rule, dxr, _, _, rfl, s3 _ _ hx2, T.cl_Rule, T.n_Rule_period, rl_period _ _ _, _, _, rfl, rfl, wide_div (b := 9000) T0 T1 (by decide) (by decide), hN _ (Same.refl _)⟩
      · intro St c H3 s3 hSt hc hD3
        rw [List.length_map] at hc hSt
        refine ⟨D, St, c, rfl, hD3, by omega, fun ns p2 hs hm hlen hp2' => ?_⟩
        have prd : Prd ss r.n ns := ⟨hs, fun k => by
          rw [hm, hSt]
          constructor
          · rintro ⟨i, h1, h2⟩
            rw [hA.1] at h1
            rw [List.getElem?_eq_getElem h1] at h2
            exact ⟨ss[i], List.getElem_mem h1, h2⟩
          · rintro ⟨u, hu, e⟩
            obtain ⟨i, hi⟩ := List.mem_iff_getElem?.mp hu
            refine ⟨i, by rw [hA.1]; exact (List.getElem?_eq_some_iff.mp hi).1, ?_⟩
            rw [hi]
            exact e⟩
        have s4 := Same.new (o := .lst (ns.map V.int)) hp2'
        have s24 := s3.trans s4
        have s04 := s12.trans s24
        have h24 := upd_same (H := H3) (a := p2) (o := .lst (ns.map V.int))
        have np2f : p2 ≠ f := (ne_of_none (s3 _ _ hff) hp2').symm
        generalize upd H3 p2 (.lst (ns.map V.int)) = H4 at *
        have hx4 := s04 _ _ hx
        have hA4 : All2 (fun b u => H4 b = some (.tup [.int u.d, .int u.n])) bs ss := hA.mono fun _ _ z => s24 _ _ z
        have hp4 := s24 _ _ hp2
        have B4 := B.same s04
        have hE4 : EntsAt H4 es := hE.keep fun _ _ z => s04 _ _ z
        have hf4 := s24 _ _ hff
        have hnl : ns.length < 60 := by omega
        clear hD3 hp2' s4 s3 hA hp2 hff hSt
        have nbf : b ≠ f := ne_of_none hb hfn
        have nxf : x ≠ f := ne_of_none hx hfn
        have ndf : bd ≠ f := ne_of_none hd hfn
        have ntf : ∀ {c : Addr} {xs : List V}, H4 c = some (.tup xs) → c ≠ f := fun z => ne_of z hf4 (by intro z; cases z)
        refine ⟨p2, rfl, ⟨_, SqL.of h24⟩, for_list (xs := ns.map V.int) (fun i σ' H' => Wd (∃ (o4 o5 : Option V) (cs : List Addr), σ' = [some (.ref x), some (.ref b), some (.ref p), some (.ref f), o4, o5, none, none, none] ∧ Kp f H4 H' ∧ H' f = some (.lst (cs.map V.ref)) ∧ All2 (fun b u => H4 b = some (.tup [.int u.d, .int u.n])) cs ((ns.take i).flatMap (partE ss r.n))))
          ⟨none, none, [], rfl, Kp.refl _ _, hf4, .nil⟩ ?_ ?_ ?_⟩
        · rintro i σ' H' _ ⟨o4, o5, cs, rfl, K', _⟩
          exact SqL.of (K' _ _ h24 np2f)
        · rintro i y σ' H5 hi ⟨o4, o5, cs, rfl, K5, hf5, hcs⟩
          rw [List.getElem?_map] at hi
          obtain ⟨per, hper, rfl⟩ := Option.map_eq_some_iff.mp hi
          have hx5 := K5 _ _ hx4 nxf
          refine ⟨⟨_, rfl, p, rfl, ⟨_, SqL.of (K5 _ _ hp4 nfp.symm)⟩, fun D5 hD5 => lc_filt (K := K) (us := ss) (R := fun b u => H4 b = some (.tup [.int u.d, .int u.n])) (fun u => decide (u.d / r.n = per)) (K5 _ _ hp4 nfp.symm) hA4 (by omega) hD5 ?_ ?_⟩⟩
          · intro b0 u H6 N M hu hR s6 hY hN
            have hR6 := s6 _ _ (K5 _ _ hR (ntf hR))
            refine ⟨rfl, _, rfl, b0, _, _, _, rfl, rfl, SqT.of hR6, rfl, _, rfl, x, A.Rule, dxr, _, _, rfl, s6 _ _ hx5, T.cl_Rule, T.n_Rule_period, rl_period _ _ _, _, _, rfl, rfl, wide_div (b := 9000) T0 T1 (by decide) (by decide), _, rfl, rfl, _, rfl, if_int (fun e => ?_) (fun e => ?_)⟩
            · exact ⟨_, rfl, hY (decide_eq_true e) H6 (Same.refl _)⟩
            · exact hN (decide_eq_false e) H6 (Same.refl _)
          · intro ds H6 s6 hD6 hds
            have hf6 := s6 _ _ hf5
            have B6 : BookAt A.Book H6 b bd es := by
              obtain ⟨⟨dx4, hb4⟩, hd4⟩ := B4
              exact ⟨⟨dx4, s6 _ _ (K5 _ _ hb4 nbf)⟩, s6 _ _ (K5 _ _ hd4 ndf)⟩
            have K6 : Kp f H4 H6 := K5.trans (Kp.same s6)
            have dl : ds.length < 60 := by
              rw [hds.1]
              exact Nat.lt_of_le_of_lt (List.length_filter_le _ _) (by omega)
            have hcl : cs.length ≤ 60 * 120 := by
              rw [hcs.1]
              refine Nat.le_trans (flat_len (B := 120) fun q => part_len (by omega)) ?_
              rw [List.length_take]
              exact Nat.mul_le_mul_right _ (by omega)
            have ask : ∀ (b0 : Addr) (u : En) (H7 : Hp), Kp f H4 H7 → u ∈ ss → H4 b0 = some (.tup [.int u.d, .int u.n]) → (∃ dx, H7 b = some (.ins A.Book dx [("entries", .ref bd)])) ∧ H7 bd = some (.dT (kvE es)) ∧ H7 b0 = some (.tup [.int u.d, .int u.n]) ∧ H7 u.e = some (.tup [.str u.kd, .str u.nm, u.x]) := fun b0 u H7 K7 hu hR => by
              obtain ⟨⟨dx4, hb4⟩, hd4⟩ := B4
              have he := hE4 u (atE_some (S.a u hu)).1
              exact ⟨⟨dx4, K7 _ _ hb4 nbf⟩, K7 _ _ hd4 ndf, K7 _ _ hR (ntf hR), K7 _ _ he (ntf he)⟩
            have hsub : ∀ u ∈ ss.filter (fun u => decide (u.d / r.n = per)), u ∈ ss := fun u hu => (List.mem_filter.mp hu).1
            refine ⟨_, rfl, .inl ⟨rfl, _, SqL.of hf6⟩, ⟨⟨_, rfl, D5, rfl, ⟨_, SqL.of hD6⟩, fun D7 hD7 => lc_filt (K := K) (us := ss.filter fun u => decide (u.d / r.n = per)) (R := fun b u => H4 b = some (.tup [.int u.d, .int u.n])) buyB hD6 hds (by omega) hD7 ?_ ?_⟩⟩⟩
            · intro b0 u H7 N M hu hR s7 hY hN
              obtain ⟨⟨dx4, hb7⟩, hd7, ht7, he7⟩ := ask b0 u H7 (K6.trans (Kp.same s7)) (hsub u hu) hR
              refine ⟨rfl, _, rfl, _, rfl, b, dx4, _, rfl, hb7, b, bd, b0, es, u.d, u.n, rfl, ⟨⟨dx4, hb7⟩, hd7⟩, ht7, fun u' hu' => ?_, fun hn => ?_⟩
              · rw [S.a u (hsub u hu)] at hu'
                cases hu'
                refine ⟨u.e, _, _, _, rfl, rfl, SqT.of he7, rfl, rfl, _, rfl, if_dec (fun e => ?_) (fun e => ?_)⟩
                · exact ⟨_, rfl, hY (decide_eq_true (V.str.inj e)) H7 (Same.refl _)⟩
                · exact hN (decide_eq_false fun z => e (congrArg V.str z)) H7 (Same.refl _)
              · rw [S.a u (hsub u hu)] at hn
                cases hn
            · intro es1 H7 s7 hD7 hes1
              have hf7 := s7 _ _ hf6
              have hl1 := List.length_filter_le buyB (ss.filter fun u => decide (u.d / r.n = per))
              have hl2 := List.length_filter_le (fun u => !buyB u) (ss.filter fun u => decide (u.d / r.n = per))
              have hl0 := List.length_filter_le (fun u : En => decide (u.d / r.n = per)) ss
              have e1l := hes1.1
              refine ⟨f, D7, _, _, rfl, rfl, hf7, hD7, ?_, ?_⟩
              · rw [List.length_map, List.length_map]
                exact Nat.le_trans (by omega : _ ≤ 7300) (by decide)
              rw [← List.map_append]
              have K8 : Kp f H4 (upd H7 f (.lst ((cs ++ es1).map V.ref))) := (K6.trans (Kp.same s7)).up
              have hf8 : (upd H7 f (.lst ((cs ++ es1).map V.ref))) f = some (.lst ((cs ++ es1).map V.ref)) := upd_same
              have nD5 : D5 ≠ f := ne_of_none' hD5 hf5
              have hD58 : (upd H7 f (.lst ((cs ++ es1).map V.ref))) D5 = some (.lst (ds.map V.ref)) := by rw [upd_ne nD5]; exact s7 _ _ hD6
              generalize upd H7 f (.lst ((cs ++ es1).map V.ref)) = H8 at *
              refine ⟨_, rfl, .inl ⟨rfl, _, SqL.of hf8⟩, ⟨⟨_, rfl, D5, rfl, ⟨_, SqL.of hD58⟩, fun D9 hD9 => lc_filt (K := K) (us := ss.filter fun u => decide (u.d / r.n = per)) (R := fun b u => H4 b = some (.tup [.int u.d, .int u.n])) (fun u => !buyB u) hD58 hds (by omega) hD9 ?_ ?_⟩⟩⟩
              · intro b0 u H9 N M hu hR s9 hY hN
                obtain ⟨⟨dx4, hb7⟩, hd7, ht7, he7⟩ := ask b0 u H9 (K8.trans (Kp.same s9)) (hsub u hu) hR
                refine ⟨rfl, _, rfl, _, rfl, b, dx4, _, rfl, hb7, b, bd, b0, es, u.d, u.n, rfl, ⟨⟨dx4, hb7⟩, hd7⟩, ht7, fun u' hu' => ?_, fun hn => ?_⟩
                · rw [S.a u (hsub u hu)] at hu'
                  cases hu'
                  refine ⟨u.e, _, _, _, rfl, rfl, SqT.of he7, rfl, rfl, _, rfl, ?_⟩
                  by_cases e : u.kd = "buy"
                  · exact ifNT (congrArg V.str e) (hN (by show (!decide (u.kd = "buy")) = false; rw [decide_eq_true e]; rfl) H9 (Same.refl _))
                  · exact ifNF (fun z => e (V.str.inj z)) ⟨_, rfl, hY (by show (!decide (u.kd = "buy")) = true; rw [decide_eq_false e]; rfl) H9 (Same.refl _)⟩
                · rw [S.a u (hsub u hu)] at hn
                  cases hn
              · intro es2 H9 s9 hD9' hes2
                have e2l := hes2.1
                refine ⟨f, D9, _, _, rfl, rfl, s9 _ _ hf8, hD9', ?_, ?_⟩
                · rw [List.length_map, List.length_map, List.length_append]
                  exact Nat.le_trans (by omega : _ ≤ 7400) (by decide)
                rw [← List.map_append]
                refine ⟨_, _, (cs ++ es1) ++ es2, rfl, (K8.trans (Kp.same s9)).up, upd_same, ?_⟩
                rw [take_more hper, List.flatMap_append, List.append_assoc]
                refine hcs.app ?_
                show All2 _ _ (partE ss r.n per ++ [])
                rw [List.append_nil]
                exact hes1.app hes2
        · rintro σ' H5 ⟨o4, o5, cs, rfl, K5, hf5, hcs⟩
          rw [List.length_map, List.take_length] at hcs
          refine ⟨_, rfl, k f ns H5 (fun c o e => K5 _ _ (s04 _ _ e) (ne_of_none e hfn)) hfn (fun _ => prd) ⟨cs, hf5, ?_⟩⟩
          unfold wrkE
          rw [if_neg (by omega)]
          exact hcs.mono fun _ _ z => K5 _ _ z (ntf z)
end

/-! ### _law_worked -/
theorem range_at {α β : Type} (es : List α) (g : α → β) (z : β) : (List.range es.length).map (fun i => (es[i]?).elim z g) = es.map g := by
  refine List.ext_getElem? fun i => ?_
  rw [List.getElem?_map, List.getElem?_map]
  by_cases h : i < es.length
  · rw [List.getElem?_range h, List.getElem?_eq_getElem h]
    simp [h]
  · rw [List.getElem?_eq_none (by simpa using h), List.getElem?_eq_none (by simpa using h)]
    rfl
def spLWorked : Sp := fun vs H Q _ => ∃ (q : Addr) (ts : List Addr) (es : List En) (T : Int), vs = [.ref q, .int T] ∧ 0 ≤ T ∧ T ≤ 3000000 ∧ H q = some (.lst (ts.map V.ref)) ∧ All2 (Tri H) ts es ∧ EntsAt H es ∧ es.length < 60 ∧
  ∀ (p : Addr) (us : List Addr) (qs : List Int) (H' : Hp), Same H H' → H p = none → (T ≠ 0 → Prd es T qs) → H' p = some (.lst (us.map V.ref)) → All2 (Tri H) us (wrkE es T qs) → Q (.ref p) H'
section
variable {P : Program} {w : World} {K : PySem.W.Frag} {mg : Str → Option Value} {base : Heap} {A : Ad}
theorem ok_l_worked (T : Txt K mg A) : FnOk P w K mg base CX0 1 A.l_worked A.fd_l_worked P_l_worked spLWorked := by
  refine T.F_l_worked.ok sc_l_worked (fun vs H Q E h => ?_) (fun cdv Ar outer s H vs Q E hr h => ?_)
  · obtain ⟨q, ts, es, t, rfl, _⟩ := h
    rfl
  · obtain ⟨q, ts, es, t, rfl, t0, t1, hq, hT, hE, hz, k⟩ := h
    refine ⟨_, (pss_cons (ps_if (pt_cmpR op_eq (pv 1) pe_int (nomark _)) (pss_one (ps_ret (pe_callTy call_list_of (by rfl) T.z_list (by decide +kernel) (pa_cons (pv 0) pa_nil)))) pss_nil)
      (pss_cons (ps_set (i := 2) sc_l_worked.nd rfl (Or.inl rfl) (pe_lst pa_nil))
      (pss_cons (ps_g (ps_for PassesOwn.never rfl (pi_list (pe_callB (cr_sortedSetW (w := w) rfl rfl) (by rfl) T.z_sorted (by decide +kernel) (pa_cons (pe_callTy (cr_setInts (w := w) rfl rfl) (by rfl) T.z_set (by decide +kernel) (pa_cons (pe_g (pe_lcV (own := [("_law_item", 5)]) rfl sc_l_worked.nd (pi_list (pv 0)) (blkOk_by (own := [("_law_item", 5)]) (N := N_l_worked) (sc := defScope s_l_worked) (by decide +kernel)) (fun _ _ _ _ _ => (pg_name (i := 5) sc_l_worked.nd rfl (Or.inl rfl))) (fun _ _ _ _ _ => pts_nil) (fun _ _ _ _ _ => (pe_op op_fdivW (pe_callTy call_int1 (by rfl) T.z_int (by decide +kernel) (pa_cons (pe_ix ix_tup (pv 5) pe_int (fun _ _ => rfl)) pa_nil)) (pv 1))) (fun _ _ _ _ _ => rfl) (fun _ _ _ _ _ => rfl) (fun _ _ _ _ _ => rfl))) pa_nil)) pa_nil))) (pg_name (i := 3) sc_l_worked.nd rfl (Or.inr rfl)) (pss_cons (ps_g (ps_setLcV (i := 4) (own := [("_law_item", 5)]) rfl sc_l_worked.nd rfl rfl (sw_true rfl rfl rfl (by decide +kernel)) (pi_list (pv 0)) (blkOk_by (own := [("_law_item", 5)]) (N := N_l_worked) (sc := defScope s_l_worked) (by decide +kernel)) (fun _ _ _ _ _ => (pg_name (i := 5) sc_l_worked.nd rfl (Or.inl rfl))) (fun _ _ _ _ _ => (pts_one (pt_cmpR op_eq (pe_op op_fdivW (pe_callTy call_int1 (by rfl) T.z_int (by decide +kernel) (pa_cons (pe_ix ix_tup (pv 5) pe_int (fun _ _ => rfl)) pa_nil)) (pv 1)) (pv 3) (nomark _)))) (fun _ _ _ _ _ => (pv 5)) (fun _ _ _ _ _ => rfl) (fun _ _ _ _ _ => rfl) (fun _ _ _ _ _ => rfl)))
      (pss_cons (ps_set (i := 2) sc_l_worked.nd rfl (Or.inl rfl) (pe_op op_cat (pv 2) (pe_g (pe_lcV (own := [("_law_item", 5)]) rfl sc_l_worked.nd (pi_list (pv 4)) (blkOk_by (own := [("_law_item", 5)]) (N := N_l_worked) (sc := defScope s_l_worked) (by decide +kernel)) (fun _ _ _ _ _ => (pg_name (i := 5) sc_l_worked.nd rfl (Or.inl rfl))) (fun _ _ _ _ _ => (pts_one (pt_cmpR op_eq (pe_ix ix_tup (pe_ix ix_tup (pv 5) pe_int (fun _ _ => rfl)) pe_int (fun _ _ => rfl)) pe_str (nomark _)))) (fun _ _ _ _ _ => (pv 5)) (fun _ _ _ _ _ => rfl) (fun _ _ _ _ _ => rfl) (fun _ _ _ _ _ => rfl)))))
      (pss_one (ps_set (i := 2) sc_l_worked.nd rfl (Or.inl rfl) (pe_op op_cat (pv 2) (pe_g (pe_lcV (own := [("_law_item", 5)]) rfl sc_l_worked.nd (pi_list (pv 4)) (blkOk_by (own := [("_law_item", 5)]) (N := N_l_worked) (sc := defScope s_l_worked) (by decide +kernel)) (fun _ _ _ _ _ => (pg_name (i := 5) sc_l_worked.nd rfl (Or.inl rfl))) (fun _ _ _ _ _ => (pts_one (pt_cmpR op_ne (pe_ix ix_tup (pe_ix ix_tup (pv 5) pe_int (fun _ _ => rfl)) pe_int (fun _ _ => rfl)) pe_str (nomark _)))) (fun _ _ _ _ _ => (pv 5)) (fun _ _ _ _ _ => rfl) (fun _ _ _ _ _ => rfl) (fun _ _ _ _ _ => rfl))))))))))
      (pss_one (ps_ret (pv 2)))))), ?_⟩
    refine ⟨_, rfl, rfl, _, rfl, if_int (fun e => ?_) (fun e => ?_)⟩
    · refine ⟨_, rfl, q, _, rfl, .inl (SqL.of hq), fun p hp => ?_⟩
      refine k p ts [] _ (Same.new hp) hp (fun z => absurd e z) upd_same ?_
      unfold wrkE
      rw [if_pos e]
      exact hT
    · have T0 : 0 < t := by omega
      have e22 : (2 : Nat) ^ 22 = 4194304 := by decide
      have T1 : t.natAbs < 2 ^ 9000 := lt_pow (a := 22) (by omega) (by decide)
      have tl : ts.length < 60 := by rw [hT.1]; exact hz
      refine ⟨Nat.zero_le _, fun f0 hf0 => ?_⟩
      have s1 := Same.new (o := .lst []) hf0
      have h1f := upd_same (H := H) (a := f0) (o := .lst [])
      generalize upd H f0 (.lst []) = H1 at *
      refine ⟨⟨⟨_, rfl, q, rfl, ⟨_, SqL.of (s1 _ _ hq)⟩, fun D hD => lc_same (K := K) (fun i => (es[i]?).elim (.int 0) fun u => V.int (u.d / t)) (s1 _ _ hq) (by rw [List.length_map]; omega) hD ?_ ?_⟩⟩⟩
      · intro i y H3 N M hi s3 hN
        rw [List.getElem?_map] at hi
        obtain ⟨b0, hb0, rfl⟩ := Option.map_eq_some_iff.mp hi
        obtain ⟨u, hu, htu⟩ := hT.get hb0
        have en : ((es[i]?).elim (.int 0) fun u => V.int (u.d / t)) = .int (u.d / t) := by rw [hu]; rfl
        rw [en] at hN
        exact ⟨rfl, _, rfl, b0, _, _, _, rfl, rfl, SqT.of (s3 _ _ (s1 _ _ htu)), rfl, .inl ⟨_, rfl, _, rfl, _, _, rfl, rfl, wide_div (b := 9000) T0 T1 (by decide) (by decide), hN _ (Same.refl _)⟩⟩
      · intro H3 s3 hD3
        rw [List.length_map, hT.1, range_at es (fun u => V.int (u.d / t)) (.int 0)] at hD3
        have em : es.map (fun u => V.int (u.d / t)) = (es.map fun u => u.d / t).map V.int := by rw [List.map_map]; rfl
        rw [em] at hD3
        refine ⟨D, es.map fun u => u.d / t, rfl, SqL.of hD3, by rw [List.length_map]; omega, fun a c ha hc => ?_⟩
        rw [List.length_map] at hc
        refine ⟨a, _, c, rfl, upd_same, by omega, fun ns p2 hs hm hlen hp2 => ?_⟩
        have s4 := Same.new (o := SetO w a (fun j => decide (j ∈ es.map fun u => u.d / t)) c) ha
        have prd : Prd es t ns := ⟨hs, fun k => by rw [hm, decide_eq_true_eq, List.mem_map]⟩
        have s5 := Same.new (o := .lst (ns.map V.int)) hp2
        have s24 := s3.trans (s4.trans s5)
        have s04 := s1.trans s24
        have h24 := upd_same (H := upd H3 a (SetO w a (fun j => decide (j ∈ es.map fun u => u.d / t)) c)) (a := p2) (o := .lst (ns.map V.int))
        have hf4 := s24 _ _ h1f
        generalize upd (upd H3 a (SetO w a (fun j => decide (j ∈ es.map fun u => u.d / t)) c)) p2 (.lst (ns.map V.int)) = H4 at *
        clear s4 s5 hD3 hp2 ha
        refine ⟨p2, rfl, ⟨_, SqL.of h24⟩, for_list (xs := ns.map V.int) (fun i σ' H' => Wd (∃ (o3 o4 : Option V) (f : Addr) (cs : List Addr), σ' = [some (.ref q), some (.int t), some (.ref f), o3, o4, none] ∧ Same H4 H' ∧ H f = none ∧ H' f = some (.lst (cs.map V.ref)) ∧ All2 (Tri H) cs ((ns.take i).flatMap (partE es t))))
          ⟨none, none, f0, [], rfl, Same.refl _, hf0, hf4, .nil⟩ ?_ ?_ ?_⟩
        · rintro i σ' H' _ ⟨o3, o4, f, cs, rfl, s', _⟩
          exact SqL.of (s' _ _ h24)
        · rintro i y σ' H5 hi ⟨o3, o4, f, cs, rfl, s5, hfn, hf5, hcs⟩
          rw [List.getElem?_map] at hi
          obtain ⟨per, hper, rfl⟩ := Option.map_eq_some_iff.mp hi
          have s05 := s04.trans s5
          refine ⟨⟨_, rfl, q, rfl, ⟨_, SqL.of (s05 _ _ hq)⟩, fun D5 hD5 => lc_filt (K := K) (us := es) (R := Tri H) (fun u => decide (u.d / t = per)) (s05 _ _ hq) hT (by omega) hD5 ?_ ?_⟩⟩
          · intro b0 u H6 N M hu hR s6 hY hN
            refine ⟨rfl, _, rfl, b0, _, _, _, rfl, rfl, SqT.of (s6 _ _ (s05 _ _ hR)), rfl, .inl ⟨_, rfl, _, rfl, _, _, rfl, rfl, wide_div (b := 9000) T0 T1 (by decide) (by decide), _, rfl, rfl, _, rfl, if_int (fun e => ?_) (fun e => ?_)⟩⟩
            · exact ⟨_, rfl, hY (decide_eq_true e) H6 (Same.refl _)⟩
            · exact hN (decide_eq_false e) H6 (Same.refl _)
          · intro ds H6 s6 hD6 hds
            have s06 := s05.trans s6
            have dl : ds.length < 60 := by
              rw [hds.1]
              exact Nat.lt_of_le_of_lt (List.length_filter_le _ _) hz
            have nl : ns.length < 60 := by omega
            have hcl : cs.length ≤ 60 * 120 := by
              rw [hcs.1]
              refine Nat.le_trans (flat_len (B := 120) fun q => part_len (by omega)) ?_
              rw [List.length_take]
              exact Nat.mul_le_mul_right _ (by omega)
            have hl1 := List.length_filter_le buyB (es.filter fun u => decide (u.d / t = per))
            have hl2 := List.length_filter_le (fun u => !buyB u) (es.filter fun u => decide (u.d / t = per))
            have hl0 := List.length_filter_le (fun u : En => decide (u.d / t = per)) es
            have hsub : ∀ u ∈ es.filter (fun u => decide (u.d / t = per)), u ∈ es := fun u hu => (List.mem_filter.mp hu).1
            refine ⟨_, rfl, ⟨⟨_, rfl, D5, rfl, ⟨_, SqL.of hD6⟩, fun D7 hD7 => lc_filt (K := K) (us := es.filter fun u => decide (u.d / t = per)) (R := Tri H) buyB hD6 hds (by omega) hD7 ?_ ?_⟩⟩⟩
            · intro b0 u H7 N M hu hR s7 hY hN
              have s07 := s06.trans s7
              refine ⟨rfl, _, rfl, b0, _, _, _, rfl, rfl, SqT.of (s07 _ _ hR), rfl, u.e, _, _, _, rfl, rfl, SqT.of (s07 _ _ (hE u (hsub u hu))), rfl, rfl, _, rfl, if_dec (fun e => ?_) (fun e => ?_)⟩
              · exact ⟨_, rfl, hY (decide_eq_true (V.str.inj e)) H7 (Same.refl _)⟩
              · exact hN (decide_eq_false fun z => e (congrArg V.str z)) H7 (Same.refl _)
            · intro es1 H7 s7 hD7 hes1
              have e1l := hes1.1
              refine ⟨f, D7, _, _, rfl, rfl, s7 _ _ (s6 _ _ hf5), hD7, ?_, fun f2 hf2 => ?_⟩
              · rw [List.length_map, List.length_map]
                exact Nat.le_trans (by omega : _ ≤ 7300) (by decide)
              rw [← List.map_append]
              have s8 := Same.new (o := .lst ((cs ++ es1).map V.ref)) hf2
              have s08 := s06.trans (s7.trans s8)
              have hf28 := upd_same (H := H7) (a := f2) (o := .lst ((cs ++ es1).map V.ref))
              have hD58 := s8 _ _ (s7 _ _ hD6)
              generalize upd H7 f2 (.lst ((cs ++ es1).map V.ref)) = H8 at *
              refine ⟨_, rfl, ⟨⟨_, rfl, D5, rfl, ⟨_, SqL.of hD58⟩, fun D9 hD9 => lc_filt (K := K) (us := es.filter fun u => decide (u.d / t = per)) (R := Tri H) (fun u => !buyB u) hD58 hds (by omega) hD9 ?_ ?_⟩⟩⟩
              · intro b0 u H9 N M hu hR s9 hY hN
                have s09 := s08.trans s9
                refine ⟨rfl, _, rfl, b0, _, _, _, rfl, rfl, SqT.of (s09 _ _ hR), rfl, u.e, _, _, _, rfl, rfl, SqT.of (s09 _ _ (hE u (hsub u hu))), rfl, rfl, _, rfl, ?_⟩
                by_cases e : u.kd = "buy"
                · exact ifNT (congrArg V.str e) (hN (by show (!decide (u.kd = "buy")) = false; rw [decide_eq_true e]; rfl) H9 (Same.refl _))
                · exact ifNF (fun z => e (V.str.inj z)) ⟨_, rfl, hY (by show (!decide (u.kd = "buy")) = true; rw [decide_eq_false e]; rfl) H9 (Same.refl _)⟩
              · intro es2 H9 s9 hD9' hes2
                have e2l := hes2.1
                refine ⟨f2, D9, _, _, rfl, rfl, s9 _ _ hf28, hD9', ?_, fun f3 hf3 => ?_⟩
                · rw [List.length_map, List.length_map, List.length_append]
                  exact Nat.le_trans (by omega : _ ≤ 7400) (by decide)
                rw [← List.map_append]
                refine ⟨_, _, f3, (cs ++ es1) ++ es2, rfl, s5.trans (s6.trans (s7.trans (s8.trans (s9.trans (Same.new hf3))))), Same.none s08 (Same.none s9 hf3), upd_same, ?_⟩
                rw [take_more hper, List.flatMap_append, List.append_assoc]
                refine hcs.app ?_
                show All2 _ _ (partE es t per ++ [])
                rw [List.append_nil]
                exact hes1.app hes2
        · rintro σ' H5 ⟨o3, o4, f, cs, rfl, s5, hfn, hf5, hcs⟩
          rw [List.length_map, List.take_length] at hcs
          refine ⟨_, rfl, k f cs ns H5 (s04.trans s5) hfn (fun _ => prd) hf5 ?_⟩
          unfold wrkE
          rw [if_neg e]
          exact hcs
end

/-! ### Trial, Book.trial, Book.tried handed a lambda -/
section
variable {P : Program} {w : World} {K : PySem.W.Frag} {mg : Str → Option Value} {base : Heap} {A : Ad}
def spTrialInit (C : Addr) : Sp := fun vs H Q _ => ∃ t dx b, vs = [.ref t, .ref b] ∧ H t = some (.ins C dx []) ∧ ∀ d H', (∀ c o, H c = some o → c ≠ t → H' c = some o) → H' t = some (.ins C dx [("book", .ref b), ("kept", .ref d)]) → Q .non H'
theorem ok_m_Trial_init (T : Txt K mg A) : FnOk P w K mg base CX0 1 A.m_Trial_init A.fd_m_Trial_init P_m_Trial_init (spTrialInit A.Trial) := by
  refine T.F_m_Trial_init.ok sc_m_Trial_init (fun vs H Q E h => ?_) (fun cdv Ar outer s H vs Q E hr h => ?_)
  · obtain ⟨t, dx, b, rfl, _⟩ := h
    rfl
  · obtain ⟨t, dx, b, rfl, ht, k⟩ := h
    refine ⟨_, (pss_cons (ps_fld (pv 0) (pv 1) rfl)
      (pss_one (ps_fld (pv 0) pe_dnewK rfl))), ?_⟩
    refine ⟨_, rfl, _, rfl, t, A.Trial, dx, _, rfl, ht, T.cl_Trial, T.n_Trial_book, (by show 0 < 1000; decide), ?_⟩
    intro d hd
    have ndt : t ≠ d := ne_of_none upd_same hd
    refine ⟨_, rfl, t, A.Trial, dx, _, rfl, (by rw [upd_ne ndt]; exact upd_same), T.cl_Trial, T.n_Trial_kept, (by show 1 < 1000; decide), k d _ (fun c o e n => ?_) upd_same⟩
    have e1 : (upd H t (HO.ins A.Trial dx (putF (Str.ofString "book") (V.ref b) []))) c = some o := by rw [upd_ne n]; exact e
    rw [upd_ne n, upd_ne (ne_of_none e1 hd)]
    exact e1
def spTrial (CT : Addr) : Sp := fun vs H Q _ => ∃ b, vs = [.ref b] ∧ ∀ t d dx H', Same H H' → H t = none → H' t = some (.ins CT dx [("book", .ref b), ("kept", .ref d)]) → Q (.ref t) H'
theorem ok_m_Book_trial (T : Txt K mg A) : FnOk P w K mg base CX0 3 A.m_Book_trial A.fd_m_Book_trial P_m_Book_trial (spTrial A.Trial) := by
  refine T.F_m_Book_trial.ok sc_m_Book_trial (fun vs H Q E h => ?_) (fun cdv Ar outer s H vs Q E hr h => ?_)
  · obtain ⟨b, rfl, _⟩ := h
    rfl
  · obtain ⟨b, rfl, k⟩ := h
    refine ⟨_, (pss_one (ps_ret (pe_make T.mk_Trial (ok_m_Trial_init T) (hr.mono (by decide)) (by rfl) T.g_Trial T.b_m_Trial_init .nil pass0 (pa_cons (pv 0) pa_nil)))), ?_⟩
    refine ⟨_, rfl, fun x dx hx hd ndx => ⟨x, dx, b, rfl, upd_same, fun d H' kp ht => ⟨rfl, k x d dx H' (fun c o e => kp c o ?_ (ne_of_none e hx)) hx ht⟩⟩⟩
    rw [upd_ne (ne_of_none e hx), upd_ne (ne_of_none e hd)]
    exact e
def spEnter (C CT : Addr) : Sp := fun vs H Q _ => ∃ t dx b d dd es, vs = [.ref t] ∧ H t = some (.ins CT dx [("book", .ref b), ("kept", .ref d)]) ∧ BookAt C H b dd es ∧ HAp (kvE es) ∧ ∀ kd, H kd = none → Q (.ref t) (upd (upd H kd (.dT (kvE es))) t (.ins CT dx [("book", .ref b), ("kept", .ref kd)]))
theorem ok_m_Trial_enter (T : Txt K mg A) : FnOk P w K mg base CX0 1 A.m_Trial_enter A.fd_m_Trial_enter P_m_Trial_enter (spEnter A.Book A.Trial) := by
  refine T.F_m_Trial_enter.ok sc_m_Trial_enter (fun vs H Q E h => ?_) (fun cdv Ar outer s H vs Q E hr h => ?_)
  · obtain ⟨t, dx, b, d, dd, es, rfl, _⟩ := h
    rfl
  · obtain ⟨t, dx, b, d, dd, es, rfl, ht, ⟨⟨dxb, hb⟩, hd⟩, hap, k⟩ := h
    refine ⟨_, (pss_cons (ps_fld (pv 0) (pe_callTy (call_dictT hr.units) (by rfl) T.z_dict (by decide +kernel) (pa_cons (pe_fld (pe_fld (pv 0) rfl) rfl) pa_nil)) rfl)
      (pss_one (ps_ret (pv 0)))), ?_⟩
    refine ⟨_, rfl, t, A.Trial, dx, _, _, rfl, ht, T.cl_Trial, T.n_Trial_book, rfl, b, A.Book, dxb, _, _, rfl, hb, T.cl_Book, T.n_Book_entries, rfl, dd, kvE es, rfl, .inl hd, hap, fun kd hkd => ?_⟩
    exact ⟨_, rfl, t, A.Trial, dx, [("book", .ref b), ("kept", .ref d)], rfl, by rw [upd_ne (ne_of_none ht hkd)]; exact ht, T.cl_Trial, T.n_Trial_kept, (by show 2 < 1000; decide), _, rfl, k kd hkd⟩
def spExit (C CT : Addr) : Sp := fun vs H Q _ => ∃ t dx b kd dxb ee v1 v2 v3, vs = [.ref t, v1, v2, v3] ∧ H t = some (.ins CT dx [("book", .ref b), ("kept", .ref kd)]) ∧ H b = some (.ins C dxb [("entries", .ref ee)]) ∧ Q .non (upd H b (.ins C dxb [("entries", .ref kd)]))
theorem ok_m_Trial_exit (T : Txt K mg A) : FnOk P w K mg base CX0 1 A.m_Trial_exit A.fd_m_Trial_exit P_m_Trial_exit (spExit A.Book A.Trial) := by
  refine T.F_m_Trial_exit.ok sc_m_Trial_exit (fun vs H Q E h => ?_) (fun cdv Ar outer s H vs Q E hr h => ?_)
  · obtain ⟨t, dx, b, kd, dxb, ee, v1, v2, v3, rfl, _⟩ := h
    rfl
  · obtain ⟨t, dx, b, kd, dxb, ee, v1, v2, v3, rfl, ht, hb, k⟩ := h
    refine ⟨_, (pss_one (ps_fld (pe_fld (pv 0) rfl) (pe_fld (pv 0) rfl) rfl)), ?_⟩
    exact ⟨_, rfl, t, A.Trial, dx, _, _, rfl, ht, T.cl_Trial, T.n_Trial_kept, rfl, _, rfl, t, A.Trial, dx, _, _, rfl, ht, T.cl_Trial, T.n_Trial_book, rfl, b, A.Book, dxb, _, rfl, hb, T.cl_Book, T.n_Book_entries, (by show 1 < 1000; decide), k⟩
end
/-- what Book.tried makes of what the lambda does -/
def TTried (C CT : Addr) : (V → Hp → VK → Prop) → Addr → Hp → VK → Prop := fun tl b H Q => ∃ dd es, BookAt C H b dd es ∧ HAp (kvE es) ∧
  ∀ (H1 : Hp) (t kd dxt : Addr), Same H H1 → H t = none → H kd = none → H1 t = some (.ins CT dxt [("book", .ref b), ("kept", .ref kd)]) → H1 kd = some (.dT (kvE es)) →
    ∀ R : VK, (∀ (v : V) (H2 : Hp) (dxb ee : Addr), H2 t = some (.ins CT dxt [("book", .ref b), ("kept", .ref kd)]) → H2 b = some (.ins C dxb [("entries", .ref ee)]) → Q v (upd H2 b (.ins C dxb [("entries", .ref kd)])) → R v H2) → tl (.ref b) H1 R
section
variable {A : Ad} {X : Cx}
theorem tried_gives (T : Txt X.K X.mg A) {q : Str} : L1.GivesM X 12 N_m_Book_tried "Book.tried" (defScope s_m_Book_tried) A.m_Book_tried (defBody s_m_Book_tried) "deed" q (TTried A.Book A.Trial) := by
  intro cdg f c' b s H Q tl hr act hc h
  obtain ⟨dd, es, hB, hap, k⟩ := h
  refine ⟨_, pss_cons (L1.ps_with0 (pe_meth0 (pv 0) T.cl_Book T.m_Book_trial (ok_m_Book_trial T) (hr.mono (by decide)) T.b_m_Book_trial .nil pass0) T.m_Trial___enter__.at_ T.m_Trial___enter__.fn T.m_Trial___exit__.at_ T.m_Trial___exit__.fn
    ((ok_m_Trial_enter T).mono (k := 5) (by decide)) T.b_m_Trial_enter ((ok_m_Trial_exit T).mono (k := 5) (by decide)) T.b_m_Trial_exit (hr.mono (by decide)) (pss_one (ps_set (i := 2) sc_m_Book_tried.nd rfl (Or.inl rfl) (act _ _ _ _ (pv 0) rfl)))) (pss_one (ps_ret (pv 2))), ?_⟩
  have hB' := hB
  obtain ⟨⟨dxb, hb⟩, hd⟩ := hB
  refine ⟨_, rfl, b, dxb, _, rfl, hb, rfl, b, rfl, fun t d dxt H1 s1 ht ht1 => ⟨t, dxt, _, rfl, ht1, t, dxt, b, d, dd, es, rfl, ht1, hB'.same s1, hap, fun kd hkd => ?_⟩⟩
  have ntk := ne_of_none ht1 hkd
  have s2 : Same H (upd (upd H1 kd (.dT (kvE es))) t (.ins A.Trial dxt [("book", .ref b), ("kept", .ref kd)])) := fun c o e => by
    have e1 := s1 _ _ e
    rw [upd_ne (ne_of_none e ht), upd_ne (ne_of_none e1 hkd)]
    exact e1
  refine ⟨rfl, _, rfl, s2 _ _ hc, k _ t kd dxt s2 ht (Same.none s1 hkd) upd_same (by rw [upd_ne ntk.symm]; exact upd_same) _ fun v H2 dxb2 ee h1 h2 hq => ?_⟩
  exact ⟨t, dxt, b, kd, dxb2, ee, _, _, _, rfl, h1, h2, _, rfl, hq⟩
end

/-! ### the order of work: plain law -/
/-- u is worked ahead of v -/
def befB (T : Int) (u v : En) : Bool := if 0 < T ∧ u.d / T ≠ v.d / T then decide (u.d < v.d) else if 0 < T ∧ buyB u ≠ buyB v then buyB u else decide (u.d < v.d ∨ (u.d = v.d ∧ u.n < v.n))
theorem bef_asym {T : Int} {u v : En} (h : befB T u v = true) (g : befB T v u = true) : False := by
  unfold befB at h g
  by_cases c : 0 < T ∧ u.d / T ≠ v.d / T
  · rw [if_pos c, decide_eq_true_eq] at h
    rw [if_pos ⟨c.1, c.2.symm⟩, decide_eq_true_eq] at g
    omega
  · rw [if_neg c] at h
    rw [if_neg fun z => c ⟨z.1, z.2.symm⟩] at g
    by_cases c2 : 0 < T ∧ buyB u ≠ buyB v
    · rw [if_pos c2] at h
      rw [if_pos ⟨c2.1, c2.2.symm⟩] at g
      exact c2.2 (h.trans g.symm)
    · rw [if_neg c2, decide_eq_true_eq] at h
      rw [if_neg fun z => c2 ⟨z.1, z.2.symm⟩, decide_eq_true_eq] at g
      omega
theorem bef_irr {T : Int} {u : En} : befB T u u = false := by
  cases e : befB T u u with
  | false => rfl
  | true => exact (bef_asym e e).elim
theorem mem_own {es : List En} {T q : Int} {u : En} : u ∈ ownE es T q ↔ u ∈ es ∧ u.d / T = q := by
  unfold ownE
  rw [List.mem_filter, decide_eq_true_eq]
theorem mem_part {es : List En} {T q : Int} {u : En} : u ∈ partE es T q ↔ u ∈ es ∧ u.d / T = q := by
  unfold partE
  rw [List.mem_append, List.mem_filter, List.mem_filter, mem_own]
  constructor
  · rintro (⟨h, _⟩ | ⟨h, _⟩) <;> exact h
  · intro h
    cases e : buyB u with
    | true => exact .inl ⟨h, rfl⟩
    | false => exact .inr ⟨h, rfl⟩
theorem part_pw {es : List En} {T q : Int} (hT : 0 < T) (pw : es.Pairwise ltE) : (partE es T q).Pairwise fun u v => befB T u v = true := by
  have po : (ownE es T q).Pairwise ltE := pw.sublist List.filter_sublist
  have key : ∀ (f : En → Bool) (b : Bool), (∀ u, f u = true → buyB u = b) → ((ownE es T q).filter f).Pairwise fun u v => befB T u v = true := fun f b hf => by
    refine (po.sublist List.filter_sublist).imp_of_mem fun {u v} hu hv h => ?_
    have mu := List.mem_filter.mp hu
    have mv := List.mem_filter.mp hv
    have eu := (mem_own.mp mu.1).2
    have ev := (mem_own.mp mv.1).2
    unfold befB
    rw [if_neg fun z => z.2 (eu.trans ev.symm), if_neg fun z => z.2 ((hf u mu.2).trans (hf v mv.2).symm), decide_eq_true_eq]
    exact h
  unfold partE
  refine List.pairwise_append.mpr ⟨key buyB true fun u h => h, key _ false fun u h => by simpa using h, fun u hu v hv => ?_⟩
  have mu := List.mem_filter.mp hu
  have mv := List.mem_filter.mp hv
  have eu := (mem_own.mp mu.1).2
  have ev := (mem_own.mp mv.1).2
  have bv : buyB v = false := by simpa using mv.2
  unfold befB
  rw [if_neg fun z => z.2 (eu.trans ev.symm)]
  by_cases c : 0 < T ∧ buyB u ≠ buyB v
  · rw [if_pos c]
    exact mu.2
  · rw [if_neg c]
    exact (c ⟨hT, by rw [mu.2, bv]; decide⟩).elim
theorem wrk_pw {es : List En} {T : Int} {qs : List Int} (h0 : 0 ≤ T) (pw : es.Pairwise ltE) (h : T ≠ 0 → Prd es T qs) : (wrkE es T qs).Pairwise fun u v => befB T u v = true := by
  unfold wrkE
  by_cases c : T = 0
  · rw [if_pos c]
    refine pw.imp fun {u v} h => ?_
    unfold befB
    rw [if_neg fun z => by omega, if_neg fun z => by omega, decide_eq_true_eq]
    exact h
  · rw [if_neg c]
    refine List.pairwise_flatMap.mpr ⟨fun q _ => part_pw (by omega) pw, (h c).s.imp fun {a b} hab u hu v hv => ?_⟩
    have eu := (mem_part.mp hu).2
    have ev := (mem_part.mp hv).2
    unfold befB
    rw [if_pos ⟨by omega, by omega⟩, decide_eq_true_eq]
    refine Int.not_le.mp fun z => ?_
    have := Int.ediv_le_ediv (show 0 < T by omega) z
    omega
theorem wrk_mem {es : List En} {T : Int} {qs : List Int} (h : T ≠ 0 → Prd es T qs) {u : En} : u ∈ wrkE es T qs ↔ u ∈ es := by
  unfold wrkE
  by_cases c : T = 0
  · rw [if_pos c]
  · rw [if_neg c, List.mem_flatMap]
    constructor
    · rintro ⟨q, _, hu⟩
      exact (mem_part.mp hu).1
    · intro hu
      exact ⟨u.d / T, ((h c).m _).mpr ⟨u, hu, rfl⟩, mem_part.mpr ⟨hu, rfl⟩⟩
theorem wrk_perm {es : List En} {T : Int} {qs : List Int} (h0 : 0 ≤ T) (pw : es.Pairwise ltE) (h : T ≠ 0 → Prd es T qs) : (wrkE es T qs).Perm es := by
  refine (List.perm_ext_iff_of_nodup ?_ ?_).mpr fun u => wrk_mem h
  · exact (wrk_pw h0 pw h).imp fun {u v} z e => by
      subst e
      rw [bef_irr] at z
      cases z
  · refine pw.imp fun {u v} z e => ?_
    subst e
    unfold ltE at z
    omega
/-- the place in the order of work -/
theorem wrk_ix {T : Int} {W : List En} (pw : W.Pairwise fun u v => befB T u v = true) (kn : (W.map fun u : En => (u.d, u.n)).Nodup) {i j : Nat} {u v : En} (hi : W[i]? = some u) (hj : W[j]? = some v) :
    decide ((i : Int) < (j : Int)) = (befB T u v && !decide ((u.d, u.n) = (v.d, v.n))) := by
  have li := (List.getElem?_eq_some_iff.mp hi).1
  have lj := (List.getElem?_eq_some_iff.mp hj).1
  have gi := (List.getElem?_eq_some_iff.mp hi).2
  have gj := (List.getElem?_eq_some_iff.mp hj).2
  have pwg := List.pairwise_iff_getElem.mp pw
  have same : (u.d, u.n) = (v.d, v.n) → i = j := fun e => by
    have h1 : (W.map fun u : En => (u.d, u.n))[i]? = some (u.d, u.n) := by rw [List.getElem?_map, hi]; rfl
    have h2 : (W.map fun u : En => (u.d, u.n))[j]? = some (u.d, u.n) := by rw [List.getElem?_map, hj, e]; rfl
    exact (List.getElem?_inj (List.getElem?_eq_some_iff.mp h1).1 kn).mp (h1.trans h2.symm)
  by_cases c : i < j
  · have b := pwg i j li lj c
    rw [gi, gj] at b
    rw [decide_eq_true (by omega), b, decide_eq_false fun z => by have := same z; omega]
    rfl
  · rw [decide_eq_false (by omega)]
    by_cases c2 : i = j
    · subst c2
      rw [hi] at hj
      cases hj
      rw [bef_irr]
      rfl
    · have b := pwg j i lj li (by omega)
      rw [gi, gj] at b
      cases e : befB T u v with
      | false => rfl
      | true => exact (bef_asym e b).elim

theorem perm_lift {α β : Type} {f : α → β} {l1 l2 : List β} (h : l1.Perm l2) : ∀ zs : List α, zs.map f = l2 → ∃ ws : List α, ws.Perm zs ∧ ws.map f = l1 := by
  induction h with
  | nil => exact fun zs e => ⟨[], by rw [List.map_eq_nil_iff.mp e], rfl⟩
  | cons x _ ih =>
    intro zs e
    cases zs with
    | nil => cases e
    | cons z zs =>
      rw [List.map_cons, List.cons.injEq] at e
      obtain ⟨ws, p, e2⟩ := ih zs e.2
      exact ⟨z :: ws, p.cons z, by rw [List.map_cons, e.1, e2]⟩
  | swap x y l =>
    intro zs e
    match zs, e with
    | [], e => cases e
    | [a], e => cases e
    | a :: b :: zs, e =>
      rw [List.map_cons, List.map_cons, List.cons.injEq, List.cons.injEq] at e
      exact ⟨b :: a :: zs, List.Perm.swap a b zs, by rw [List.map_cons, List.map_cons, e.1, e.2.1, e.2.2]⟩
  | trans _ _ ih1 ih2 =>
    intro zs e
    obtain ⟨ws, p, e2⟩ := ih2 zs e
    obtain ⟨us, p2, e3⟩ := ih1 ws e2
    exact ⟨us, p2.trans p, e3⟩

/-! ### the law's lambda and what it calls -/
theorem perm_all2 {α : Type} {R : Addr → α → Prop} {ys : List V} {ts : List Addr} {qs : List α} (h : All2 R ts qs) (hp : ys.Perm (ts.map V.ref)) :
    ∃ (us : List Addr) (ps : List α), ys = us.map V.ref ∧ ps.Perm qs ∧ All2 R us ps := by
  obtain ⟨ws, p, e⟩ := perm_lift (f := fun z : Addr × α => V.ref z.1) hp (ts.zip qs) (by
    have e : (ts.zip qs).map (fun z => V.ref z.1) = ((ts.zip qs).map Prod.fst).map V.ref := by rw [List.map_map]; rfl
    rw [e, List.map_fst_zip (Nat.le_of_eq h.1)])
  refine ⟨ws.map Prod.fst, ws.map Prod.snd, by rw [List.map_map]; exact e.symm, ?_, by rw [List.length_map, List.length_map], fun i t q ht hq => ?_⟩
  · have := p.map Prod.snd
    rw [List.map_snd_zip (Nat.le_of_eq h.1.symm)] at this
    exact this
  · rw [List.getElem?_map] at ht hq
    obtain ⟨z, hz, rfl⟩ := Option.map_eq_some_iff.mp ht
    obtain ⟨z2, hz2, rfl⟩ := Option.map_eq_some_iff.mp hq
    rw [hz] at hz2
    cases hz2
    obtain ⟨j, hj⟩ := List.mem_iff_getElem?.mp (p.mem_iff.mp (List.mem_of_getElem? hz))
    obtain ⟨a, b⟩ := List.getElem?_zip_eq_some.mp hj
    exact h.2 j _ _ a b
theorem inj_nd {α β : Type} {f : α → β} {l : List α} (h : (l.map f).Nodup) {x y : α} (hx : x ∈ l) (hy : y ∈ l) (e : f x = f y) : x = y := by
  obtain ⟨i, hi⟩ := List.mem_iff_getElem?.mp hx
  obtain ⟨j, hj⟩ := List.mem_iff_getElem?.mp hy
  have h1 : (l.map f)[i]? = some (f x) := by rw [List.getElem?_map, hi]; rfl
  have h2 : (l.map f)[j]? = some (f x) := by rw [List.getElem?_map, hj, e]; rfl
  have ij : i = j := (List.getElem?_inj (List.getElem?_eq_some_iff.mp h1).1 h).mp (h1.trans h2.symm)
  rw [ij, hj] at hi
  exact (Option.some.inj hi).symm
theorem atE_selfN {es : List En} (hn : keyN es) {t : En} (ht : t ∈ es) : atE es t.d t.n = some t := by
  obtain ⟨u, hu⟩ := atE_mem ht
  obtain ⟨hm, e1, e2⟩ := atE_some hu
  have : u = t := inj_nd hn hm ht (by rw [e1, e2])
  rw [hu, this]
theorem ltE_lex {a b : En} (h : ltE a b) : SrtO.lexB (b.d, b.n) (a.d, a.n) = false := by
  refine SrtO.lexB_no.mpr ?_
  unfold ltE at h
  show ¬ _
  omega
theorem srtE_of {es ss : List En} (hp : es.Perm ss) (pw : ss.Pairwise ltE) : SrtE es ss := by
  have hn : keyN ss := inc_nodup pw
  have hn2 : keyN es := ((hp.map fun t : En => (t.d, t.n)).nodup_iff).mpr hn
  refine ⟨srtK_uniq (hp.symm.map fun t : En => (t.d, t.n)) ?_, fun u hu => atE_selfN hn2 (hp.mem_iff.mpr hu)⟩
  unfold keysE
  rw [List.pairwise_map]
  exact pw.imp fun h => ltE_lex h
theorem wrk_uniq {es : List En} {T : Int} {a b : List Int} (ha : T ≠ 0 → Prd es T a) (hb : T ≠ 0 → Prd es T b) : wrkE es T a = wrkE es T b := by
  unfold wrkE
  by_cases c : T = 0
  · rw [if_pos c, if_pos c]
  · rw [if_neg c, if_neg c, Prd.uniq (ha c) (hb c)]
theorem wrk_len {es : List En} {T : Int} {qs : List Int} (h : T ≠ 0 → Prd es T qs) (hl : es.length ≤ 14) : (wrkE es T qs).length ≤ 400 := by
  unfold wrkE
  by_cases c : T = 0
  · rw [if_pos c]
    omega
  · rw [if_neg c]
    have p := h c
    have ql : qs.length ≤ 14 := by
      have nd : qs.Nodup := p.s.imp Int.ne_of_lt
      have := nd.length_le_of_subset (l₂ := es.map fun u => u.d / T) fun k hk => by
        obtain ⟨u, hu, e⟩ := (p.m k).mp hk
        exact List.mem_map.mpr ⟨u, hu, e⟩
      rw [List.length_map] at this
      omega
    have := flat_len (f := partE es T) (B := 28) (fun q => part_len (by omega)) (l := qs)
    omega
/-- [(t[0], t[1]) for t in triples] -/
theorem lc_plc {K : PySem.W.Frag} {a : Addr} {us : List Addr} {es : List En} {g : TG} {tt : TT} {te : TE} {vs : List Nat} {σ : L2.St} {H1 : Hp} {D : Addr} {Qd : Hp → Prop} (hl : H1 a = some (.lst (us.map V.ref))) (hA : All2 (Tri H1) us es) (hz : us.length ≤ 1000) (hD : H1 D = none)
    (hs : ∀ (t : Addr) (u : En) (H' : Hp) (N : VK) (M : Hp → Prop), H' t = some (.tup [.int u.d, .int u.n, .ref u.e]) → Same H1 H' → (∀ v H4, Same H' H4 → H4 v = some (.tup [.int u.d, .int u.n]) → N (.ref v) H4) → g (.ref t) (wipe σ vs) H' fun σ2 H2 => wipe σ2 vs = wipe σ vs ∧ tt σ2 H2 fun b H3 => if b = true then te σ2 H3 N else M H3)
    (hd : ∀ H', Same H1 H' → PlcAt H' D es → Qd H') :
    ∃ W : Nat → Nat → Hp → Prop, (∃ m, W 0 m (upd H1 D (.lst []))) ∧ ∀ i m H, W i m H →
      ((Itl K a).stop i H ∧ Qd H) ∨ ((Itl K a).go i H ∧ ∃ Nx : Hp → Prop, (∀ H', Nx H' → ∃ m', m' < m ∧ W (i + 1) m' H') ∧ ∀ x H', (Itl K a).yld i H x H' → g x (wipe σ vs) H' fun σ2 H2 => wipe σ2 vs = wipe σ vs ∧ tt σ2 H2 fun b H3 =>
        if b = true then te σ2 H3 fun y H4 => ∃ acc, H4 D = some (.lst acc) ∧ acc.length < sizeLine ∧ Nx (upd H4 D (.lst (acc ++ [y]))) else Nx H3) := by
  refine lc_sameP (K := K) (fun i y H => ∃ t u, es[i]? = some u ∧ y = .ref t ∧ H t = some (.tup [.int u.d, .int u.n])) hl (by rw [List.length_map]; exact hz) hD ?_ ?_ ?_
  · rintro i y H1 H2 acc hD1 k1 ⟨t, u, hu, rfl, ht⟩
    exact ⟨t, u, hu, rfl, k1 _ _ ht (ne_of ht hD1 (by intro z; cases z))⟩
  · intro i y H6 N M hi s6 hN
    rw [List.getElem?_map] at hi
    obtain ⟨t, hti, rfl⟩ := Option.map_eq_some_iff.mp hi
    obtain ⟨u, hu, htu⟩ := hA.get hti
    exact hs t u H6 N M (s6 _ _ htu) s6 fun v H4 s4 hv => hN _ _ s4 ⟨v, u, hu, rfl, hv⟩
  · intro ys H6 s6 yl hR hD6
    refine hd H6 s6 ⟨ys.map fun v => match v with | .ref a => a | _ => 0, ?_, by rw [List.length_map, yl, List.length_map, hA.1], fun i u p hu hp => ?_⟩
    · rw [hD6, List.map_map]
      congr 2
      refine (List.map_id ys).symm.trans (List.map_congr_left fun y hy => ?_)
      obtain ⟨i, hi⟩ := List.mem_iff_getElem?.mp hy
      obtain ⟨t, _, _, rfl, _⟩ := hR i y hi
      rfl
    · rw [List.getElem?_map] at hu
      obtain ⟨y, hy, e⟩ := Option.map_eq_some_iff.mp hu
      obtain ⟨t, u3, hu3, rfl, htp⟩ := hR i y hy
      rw [hp] at hu3
      cases hu3
      rw [← e]
      exact htp
def plD (u : En) : PyData := pairD (u.d, u.n)
theorem dl_plc {K : PySem.W.Frag} {H : Hp} {q : Addr} {us : List En} (h : PlcAt H q us) : DL K H (.ref q) (.list (us.map plD)) 2 := by
  obtain ⟨bs, hq, A⟩ := h
  have e : us.map plD = (us.map fun u : En => (u.d, u.n)).map pairD := by rw [List.map_map]; rfl
  rw [e]
  refine dl_pairs hq ⟨by rw [List.length_map]; exact A.1, fun i b p hb hp => ?_⟩
  rw [List.getElem?_map] at hp
  obtain ⟨u, hu, rfl⟩ := Option.map_eq_some_iff.mp hp
  exact A.2 i b u hb hu
section
variable {P : Program} {w : World} {K : PySem.W.Frag} {mg : Str → Option Value} {base : Heap} {A : Ad}
/-- a def whose code object is told -/
theorem fun_okC {x qual : Str} {st : Stmt} {f : Addr} {fd : FuncData} {N ps : List Str} {k : Nat} {sp : Sp} (F : Fun K x qual st f fd) (S : FnScope N ps (defScope st)) (len : ∀ vs H Q E, sp vs H Q E → vs.length = ps.length)
    (hbody : ∀ (cdv : Value) (A : Around) (outer : List Env) (s : Shared) (H : Hp) (vs : List V) (Q : VK) (E : XK), fd.code = cdv → Room k (A.deeper (PyProof.Rows.envOfC qual (defScope st) s.heap.objs.size f cdv)) → sp vs H Q E →
      ∃ t, PSs (cxOf CX0 P w K mg base N qual (defScope st) f cdv A outer s H E).nox (defBody st) t ∧ t { nx := fun _ H' => Q .non H', rt := Q } (L2.start N vs) H) : FnOk P w K mg base CX0 (k + 1) f fd ps sp := by
  obtain ⟨oc, od, kV, doc, pm, an, cdv, ct, osl, rfl, lk, hcd⟩ := F.ex
  refine fn_of lk hcd S len fun A outer s H vs Q E hr hsp => ?_
  obtain ⟨t, h, q⟩ := hbody cdv A outer s H vs Q E rfl hr hsp
  exact ⟨t, h.nox, q⟩
theorem own_len (T : Txt K mg A) : OwnM K A.Book A.m_Book_len "__len__" := ⟨T.m_Book___len__.at_, T.m_Book___len__.fn⟩
/-- the pair that stands at v -/
def keyAt (H : Hp) (v : V) : Int × Int := match v with
  | .ref a => (match H a with
    | some (.tup [.int i, .int j]) => (i, j)
    | _ => (0, 0))
  | _ => (0, 0)
theorem keyAt_of {H : Hp} {a : Addr} {i j : Int} (h : H a = some (.tup [.int i, .int j])) : keyAt H (.ref a) = (i, j) := by
  show (match H a with
    | some (.tup [.int i, .int j]) => (i, j)
    | _ => ((0 : Int), (0 : Int))) = (i, j)
  rw [h]
/-- sorted(places): as data, those of the entries in order -/
theorem srt_plc {H : Hp} {bs : List Addr} {ys : List V} {us es : List En} (hA : All2 (fun b (u : En) => H b = some (.tup [.int u.d, .int u.n])) bs us) (hp : us.Perm es) (pw : es.Pairwise ltE) (hs : ys.Pairwise fun x y => ltP (keyAt H) y x = false) (hq : ys.Perm (bs.map V.ref)) :
    ∃ (cs : List Addr) (ws : List En), ys = cs.map V.ref ∧ All2 (fun b (u : En) => H b = some (.tup [.int u.d, .int u.n])) cs ws ∧ ws.map plD = es.map plD := by
  obtain ⟨cs, ws, rfl, p, A⟩ := perm_all2 hA hq
  refine ⟨cs, ws, rfl, A, ?_⟩
  have e : ws.map (fun u : En => (u.d, u.n)) = es.map fun u : En => (u.d, u.n) := by
    refine List.Perm.eq_of_pairwise (le := fun a b => SrtO.lexB b a = false) (fun a b _ _ h1 h2 => ?_) ?_ ?_ ((p.trans hp).map _)
    · have h1 := SrtO.lexB_no.mp h1
      have h2 := SrtO.lexB_no.mp h2
      have : a.1 = b.1 ∧ a.2 = b.2 := by omega
      exact Prod.ext this.1 this.2
    · rw [List.pairwise_map, List.pairwise_iff_getElem]
      intro i j hi hj hij
      rw [List.pairwise_map, List.pairwise_iff_getElem] at hs
      have z := hs i j (by rw [A.1]; exact hi) (by rw [A.1]; exact hj) hij
      have li : i < cs.length := by rw [A.1]; exact hi
      have lj : j < cs.length := by rw [A.1]; exact hj
      have ai := A.2 i cs[i] ws[i] (List.getElem?_eq_getElem _) (List.getElem?_eq_getElem hi)
      have aj := A.2 j cs[j] ws[j] (List.getElem?_eq_getElem _) (List.getElem?_eq_getElem hj)
      unfold ltP at z
      rw [keyAt_of ai, keyAt_of aj] at z
      exact z
    · rw [List.pairwise_map]
      exact pw.imp fun h => ltE_lex h
  have e2 : ∀ l : List En, l.map plD = (l.map fun u : En => (u.d, u.n)).map pairD := fun l => by rw [List.map_map]; rfl
  rw [e2, e2, e]
/-- the ranks -/
def rkv (W : List En) : List (List Key × V) := W.zipIdx.map fun p => (([Sum.inl p.1.d, Sum.inl p.1.n] : List Key), V.int (p.2 : Int))
theorem rkv_keys (W : List En) : (rkv W).map (·.1) = W.map fun u => ([Sum.inl u.d, Sum.inl u.n] : List Key) := by
  unfold rkv
  rw [List.map_map]
  have e : ((fun x : List Key × V => x.1) ∘ fun p : En × Nat => (([Sum.inl p.1.d, Sum.inl p.1.n] : List Key), V.int (p.2 : Int))) = (fun u : En => ([Sum.inl u.d, Sum.inl u.n] : List Key)) ∘ Prod.fst := rfl
  rw [e, ← List.map_map, List.zipIdx_map_fst]
theorem rkv_nd {W : List En} (h : (W.map fun u : En => (u.d, u.n)).Nodup) : ((rkv W).map (·.1)).Nodup := by
  rw [rkv_keys]
  unfold List.Nodup at *
  rw [List.pairwise_map] at *
  exact h.imp fun {a b} ne e => ne (by
    injection e with e1 e2
    injection e2 with e2 _
    rw [Sum.inl.inj e1, Sum.inl.inj e2])
theorem putK_newT {kvs : List (List Key × V)} {k : List Key} {v : V} (h : k ∉ kvs.map (·.1)) : putK kvs k v = kvs ++ [(k, v)] := by
  unfold putK
  rw [if_neg]
  intro z
  rw [List.any_eq_true] at z
  obtain ⟨p, hp, e⟩ := z
  exact h (List.mem_map.mpr ⟨p, hp, of_decide_eq_true e⟩)
theorem rkv_more {W : List En} (h : (W.map fun u : En => (u.d, u.n)).Nodup) {i : Nat} {u : En} (hu : W[i]? = some u) : putK (rkv (W.take i)) (keyE u.d u.n) (.int (i : Int)) = rkv (W.take (i + 1)) := by
  have li := (List.getElem?_eq_some_iff.mp hu).1
  rw [putK_newT]
  · rw [take_more hu]
    unfold rkv
    rw [List.zipIdx_append, List.map_append, List.length_take, Nat.min_eq_left (by omega)]
    simp
  · rw [rkv_keys]
    intro z
    obtain ⟨v, hv, e⟩ := List.mem_map.mp z
    injection e with e1 e2
    injection e2 with e2 _
    obtain ⟨j, hj⟩ := List.mem_iff_getElem?.mp hv
    have lj := (List.getElem?_eq_some_iff.mp hj).1
    rw [List.length_take] at lj
    rw [List.getElem?_take_of_lt (by omega)] at hj
    have h1 : (W.map fun u : En => (u.d, u.n))[j]? = some (u.d, u.n) := by rw [List.getElem?_map, hj]; show some (v.d, v.n) = _; rw [Sum.inl.inj e1, Sum.inl.inj e2]
    have h2 : (W.map fun u : En => (u.d, u.n))[i]? = some (u.d, u.n) := by rw [List.getElem?_map, hu]; rfl
    have := (List.getElem?_inj (List.getElem?_eq_some_iff.mp h1).1 h).mp (h1.trans h2.symm)
    omega
theorem rkv_at {W : List En} (h : (W.map fun u : En => (u.d, u.n)).Nodup) {i : Nat} {u : En} (hu : W[i]? = some u) : valV (rkv W) (keyE u.d u.n) = some (.int (i : Int)) := by
  have hm : (([Sum.inl u.d, Sum.inl u.n] : List Key), V.int (i : Int)) ∈ rkv W := by
    unfold rkv
    refine List.mem_map.mpr ⟨(u, i), ?_, rfl⟩
    rw [List.mk_mem_zipIdx_iff_getElem?]
    exact hu
  exact val_nodup (rkv_nd h) _ hm
theorem lex_two {a b c d : Int} : HT.lexLt [a, b] [c, d] = decide (a < c ∨ (a = c ∧ b < d)) := by
  unfold HT.lexLt HT.lexLt HT.lexLt
  by_cases h : a = c
  · rw [if_pos h]
    by_cases g : b = d
    · rw [if_pos g, decide_eq_false (by omega)]
    · rw [if_neg g]
      exact decide_eq_decide.mpr (by omega)
  · rw [if_neg h]
    exact decide_eq_decide.mpr (by omega)
theorem dec_str {a b : Str} : decide (V.str a = V.str b) = decide (a = b) := decide_eq_decide.mpr ⟨fun h => V.str.inj h, fun h => by rw [h]⟩
theorem eqv_pair {p q : Int × Int} : PyData.eqv (pairD p) (pairD q) = decide (p = q) := by
  obtain ⟨a, b⟩ := p
  obtain ⟨c, d⟩ := q
  have e : PyData.eqv (pairD (a, b)) (pairD (c, d)) = ((a == c) && ((b == d) && true)) := by
    unfold pairD
    simp only [PyData.eqv, PyData.eqvAll]
  rw [e, Bool.and_true, Bool.eq_iff_iff, Bool.and_eq_true, beq_iff_eq, beq_iff_eq, decide_eq_true_eq, Prod.mk.injEq]
theorem dl_pair {K : PySem.W.Frag} {H : Hp} {t : Addr} {p : Int × Int} (h : H t = some (.tup [.int p.1, .int p.2])) : DL K H (.ref t) (pairD p) 1 := by
  refine ⟨.tup (SqT.of h) (.cons (.int _) (.cons (.int _) .nil)), ?_, ?_⟩
  · unfold pairD PyData.plain PyData.plainAll PyData.plainAll PyData.plainAll
    rfl
  · unfold pairD PyData.depth
    refine Nat.succ_le_succ (depthAll_le fun y hy => ?_)
    simp only [List.mem_cons, List.not_mem_nil, or_false] at hy
    rcases hy with rfl | rfl <;> exact Nat.le_refl _
theorem ne_dls {K : PySem.W.Frag} {H : Hp} {x y : V} {d e : PyData} {k : Nat} {Q : VK} (hx : DL K H x d k) (hy : DL K H y e k) (hk : k ≤ 64) (h : Q (.bl (!PyData.eqv d e)) H) : rNeP K x y H Q := ⟨⟨d, e, hx.dp, hy.dp, hx.pl, hy.pl, Nat.le_trans hx.de hk, h⟩⟩
def enD (u : En) : PyData := .tuple [.str u.kd, .str u.nm, pdV u.x]
def triD (u : En) : PyData := .tuple [.int u.d, .int u.n, enD u]
theorem dl_tri {K : PySem.W.Frag} {H : Hp} {t : Addr} {u : En} (h : H t = some (.tup [.int u.d, .int u.n, .ref u.e])) (he : H u.e = some (.tup [.str u.kd, .str u.nm, u.x])) (hx : Pl u.x) : DL K H (.ref t) (triD u) 2 := by
  have d := dl_ent (K := K) he hx
  refine ⟨.tup (SqT.of h) (.cons (.int _) (.cons (.int _) (.cons d.dp .nil))), ?_, ?_⟩
  · unfold triD enD PyData.plain PyData.plainAll PyData.plainAll PyData.plainAll PyData.plainAll
    rw [d.pl]
    rfl
  · unfold triD PyData.depth
    refine Nat.succ_le_succ (depthAll_le fun y hy => ?_)
    simp only [List.mem_cons, List.not_mem_nil, or_false] at hy
    rcases hy with rfl | rfl | rfl
    · exact Nat.zero_le _
    · exact Nat.zero_le _
    · exact d.de
theorem eqv_tri {u v : En} (h : (u.d, u.n) ≠ (v.d, v.n)) : PyData.eqv (triD u) (triD v) = false := by
  have e : PyData.eqv (triD u) (triD v) = ((u.d == v.d) && ((u.n == v.n) && PyData.eqvAll [enD u] [enD v])) := by
    unfold triD
    simp only [PyData.eqv, PyData.eqvAll]
  rw [e]
  by_cases c : u.d = v.d
  · have c2 : u.n ≠ v.n := fun z => h (by rw [c, z])
    rw [show (u.n == v.n) = false from beq_false_of_ne c2, Bool.false_and, Bool.and_false]
  · rw [show (u.d == v.d) = false from beq_false_of_ne c, Bool.false_and]
def spInner (CR CB : Addr) : Sp := fun vs H Q _ => ∃ (b x bd : Addr) (r : Ru) (es ss : List En) (d n : Int), vs = [.ref b, .ref x, .int d, .int n] ∧ IsRu CR H x r ∧ r.Ok ∧ BookAt CB H b bd es ∧ EntsAt H es ∧ es.length < 60 ∧ (atE es d n).isSome = true ∧ SrtE (dropE es d n) ss ∧
  ∀ (q : Addr) (qs : List Int) (H' : Hp), (∀ c o, H c = some o → c ≠ bd → H' c = some o) → H q = none → (r.n ≠ 0 → Prd ss r.n qs) → PlcAt H' q (wrkE ss r.n qs) → Q (.ref q) H'
theorem ok_l_inner (T : Txt K mg A) : FnOk P w K mg base CX0 10 A.l_inner A.fd_l_inner P_l_inner (spInner A.Rule A.Book) := by
  refine T.F_l_inner.ok sc_l_inner (fun vs H Q E h => ?_) (fun cdv Ar outer s H vs Q E hr h => ?_)
  · obtain ⟨b, x, bd, r, es, ss, d, n, rfl, _⟩ := h
    rfl
  · obtain ⟨b, x, bd, r, es, ss, d, n, rfl, hx, ok, hB, hE, hz, hs, hS, k⟩ := h
    refine ⟨_, (pss_cons (ps_expr (pe_meth (pv 0) T.cl_Book T.m_Book_remove (ok_m_Book_remove T) (hr.mono (by decide)) T.b_m_Book_remove .nil passL (pa_cons (pv 2) (pa_cons (pv 3) pa_nil))))
      (pss_one (ps_ret (pe_meth (pv 1) T.cl_Rule T.m_Rule_worked (ok_m_Rule_worked T) (hr.mono (by decide)) T.b_m_Rule_worked .nil pass0 (pa_cons (pv 0) pa_nil))))), ?_⟩
    obtain ⟨⟨dxb, hb⟩, hd⟩ := id hB
    refine ⟨_, rfl, b, dxb, _, rfl, hb, rfl, _, rfl, _, rfl, b, bd, es, d, n, rfl, hB, fun _ H1 s1 => ?_, fun e => by rw [e] at hs; cases hs⟩
    have hd1 := s1 _ _ hd
    have kp : ∀ c o, H c = some o → c ≠ bd → (upd H1 bd (.dT (kvE (dropE es d n)))) c = some o := fun c o e ne => by rw [upd_ne ne]; exact s1 _ _ e
    have hx2 : IsRu A.Rule (upd H1 bd (.dT (kvE (dropE es d n)))) x r := by
      obtain ⟨dx, hx⟩ := hx
      exact ⟨dx, kp _ _ hx (ne_of hx hd (by intro z; cases z))⟩
    have hB2 : BookAt A.Book (upd H1 bd (.dT (kvE (dropE es d n)))) b bd (dropE es d n) := ⟨⟨dxb, kp _ _ hb (ne_of hb hd (by intro z; cases z))⟩, upd_same⟩
    have hE2 : EntsAt (upd H1 bd (.dT (kvE (dropE es d n)))) (dropE es d n) := fun u hu => by
      have z := hE u (List.mem_filter.mp hu).1
      exact kp _ _ z (ne_of z hd (by intro y; cases y))
    have hz2 : (dropE es d n).length < 60 := Nat.lt_of_le_of_lt (List.length_filter_le _ _) hz
    have hnn : ∀ q, (upd H1 bd (.dT (kvE (dropE es d n)))) q = none → H q = none := fun q hq => by
      cases e : H q with
      | none => rfl
      | some o =>
        by_cases c : q = bd
        · rw [c, upd_same] at hq
          cases hq
        · rw [kp _ _ e c] at hq
          cases hq
    obtain ⟨dxr, hxr⟩ := id hx2
    generalize upd H1 bd (.dT (kvE (dropE es d n))) = H2 at *
    exact ⟨_, rfl, x, dxr, _, rfl, hxr, rfl, _, rfl, x, b, bd, r, dropE es d n, ss, rfl, hx2, ok, hB2, hE2, hz2, hS, fun q qs H3 s3 hq hp hP => k q qs H3 (fun c o e ne => s3 _ _ (kp c o e ne)) (hnn q hq) hp hP⟩
end

/-! ### the law -/
theorem mv_at {z c : Int} (z0 : 0 ≤ z) (z1 : z < 999000) (h0 : 0 ≤ c) (h4 : c < 4) : ∃ y : Int, atI [V.int 0, V.int 0, V.int 7, V.int z] c = some (.int y) ∧ 0 ≤ y ∧ y ≤ 998999 := by
  have : c = 0 ∨ c = 1 ∨ c = 2 ∨ c = 3 := by omega
  rcases this with rfl | rfl | rfl | rfl
  · exact ⟨0, rfl, by omega, by omega⟩
  · exact ⟨0, rfl, by omega, by omega⟩
  · exact ⟨7, rfl, by omega, by omega⟩
  · exact ⟨z, rfl, z0, by omega⟩
/-- an entry moved -/
def shE (mv : Int) (u : En) : En := { u with d := u.d + mv }
def spLawT (K : PySem.W.Frag) (pA : Addr) : Sp := fun vs H Q _ => ∃ (a : Addr) (ns : List Int), vs = [.ref a] ∧ SqL K H a (ns.map V.int) ∧ ns.length ≤ 63 ∧ H pA = some (.tbl #[]) ∧ ∀ H', Q (.bl true) H'
section
variable {P : Program} {w : World} {K : PySem.W.Frag} {mg : Str → Option Value} {base : Heap} {A : Ad}
theorem ok_f_law (T : Txt K mg A) {cA pA : Addr} (hcode : A.fd_f_law.code = .ref cA) (TB : LamX.TabB base mg cA pA) : FnOk P w K mg base CX0 16 A.f_law A.fd_f_law P_f_law (spLawT K pA) := by
  refine fun_okC T.F_f_law sc_f_law (fun vs H Q E h => ?_) (fun cdv Ar outer s H vs Q E hcd hr h => ?_)
  · obtain ⟨a, ns, rfl, _⟩ := h
    rfl
  · obtain ⟨a, ns, rfl, hS, hlen, htb, k⟩ := h
    obtain rfl : cdv = .ref cA := hcd.symm.trans hcode
    refine ⟨_, (pss_cons (ps_set (i := 1) sc_f_law.nd rfl (Or.inl rfl) (pe_call (ok_l_bag T) (hr.mono (by decide)) (by rfl) T.g__law_bag T.F_l_bag.kp T.b_l_bag .nil pass0 (pa_cons (pv 0) pa_nil)))
      (pss_cons (ps_asg (pe_call (ok_l_rule T) (hr.mono (by decide)) (by rfl) T.g__law_rule T.F_l_rule.kp T.b_l_rule .nil pass0 (pa_cons (pv 1) pa_nil)) (pg_tup (n := 3) rfl (pgs_cons (pg_name (i := 2) sc_f_law.nd rfl (Or.inl rfl)) (pgs_cons (pg_name (i := 3) sc_f_law.nd rfl (Or.inl rfl)) (pgs_cons (pg_name (i := 4) sc_f_law.nd rfl (Or.inl rfl)) pgs_nil)))))
      (pss_cons (ps_set (i := 5) sc_f_law.nd rfl (Or.inr rfl) (pe_ix ix_list (pe_lst (pa_cons pe_int (pa_cons pe_int (pa_cons pe_int (pa_cons (pe_call (ok_l_draw T) (hr.mono (by decide)) (by rfl) T.g__law_draw T.F_l_draw.kp T.b_l_draw .nil pass0 (pa_cons (pv 1) (pa_cons pe_int pa_nil))) pa_nil))))) (pe_call (ok_l_draw T) (hr.mono (by decide)) (by rfl) T.g__law_draw T.F_l_draw.kp T.b_l_draw .nil pass0 (pa_cons (pv 1) (pa_cons pe_int pa_nil))) (fun _ _ => rfl)))
      (pss_cons (ps_g (ps_setLcV (i := 6) (own := [("_law_item", 24)]) rfl sc_f_law.nd rfl rfl (sw_true rfl rfl rfl (by decide +kernel)) (pi_list (pe_call (ok_l_entries T) (hr.mono (by decide)) (by rfl) T.g__law_entries T.F_l_entries.kp T.b_l_entries .nil pass0 (pa_cons (pv 1) (pa_cons pe_int pa_nil)))) (blkOk_by (own := [("_law_item", 24)]) (N := N_f_law) (sc := defScope s_f_law) (by decide +kernel)) (fun _ _ _ _ _ => (pg_name (i := 24) sc_f_law.nd rfl (Or.inl rfl))) (fun _ _ _ _ _ => pts_nil) (fun _ _ _ _ _ => (pe_tup (pa_cons (pe_op op_add (pe_ix ix_tup (pv 24) pe_int (fun _ _ => rfl)) (pv 5)) (pa_cons (pe_ix ix_tup (pv 24) pe_int (fun _ _ => rfl)) (pa_cons (pe_ix ix_tup (pv 24) pe_int (fun _ _ => rfl)) pa_nil))))) (fun _ _ _ _ _ => rfl) (fun _ _ _ _ _ => rfl) (fun _ _ _ _ _ => rfl)))
      (pss_cons (ps_set (i := 7) sc_f_law.nd rfl (Or.inl rfl) (pe_callB (cr_sortedSetW (w := w) rfl rfl) (by rfl) T.z_sorted (by decide +kernel) (pa_cons (pe_callTy (cr_setInts (w := w) rfl rfl) (by rfl) T.z_set (by decide +kernel) (pa_cons (pe_g (pe_lcV (own := [("_law_item", 24)]) rfl sc_f_law.nd (pi_list (pv 6)) (blkOk_by (own := [("_law_item", 24)]) (N := N_f_law) (sc := defScope s_f_law) (by decide +kernel)) (fun _ _ _ _ _ => (pg_name (i := 24) sc_f_law.nd rfl (Or.inl rfl))) (fun _ _ _ _ _ => pts_nil) (fun _ _ _ _ _ => (pe_ix ix_tup (pv 24) pe_int (fun _ _ => rfl))) (fun _ _ _ _ _ => rfl) (fun _ _ _ _ _ => rfl) (fun _ _ _ _ _ => rfl))) pa_nil)) pa_nil)))
      (pss_g (Evl.pss_cut (ps_if (PW.pt (pw_and (pt_cmpR op_gt (pv 4) pe_int (nomark _)) (pw_and1 (pt_cmpR op_eq (pe_call (ok_l_draw T) (hr.mono (by decide)) (by rfl) T.g__law_draw T.F_l_draw.kp T.b_l_draw .nil pass0 (pa_cons (pv 1) (pa_cons pe_int pa_nil))) pe_int (nomark _))))) (pss_one (ps_set (i := 4) sc_f_law.nd rfl (Or.inl rfl) (pe_callB (call_max2 rfl) (by rfl) T.z_max (by decide +kernel) (pa_cons pe_int (pa_cons (pe_op op_add (pe_ix ix_list (pv 7) (pe_call (ok_l_draw T) (hr.mono (by decide)) (by rfl) T.g__law_draw T.F_l_draw.kp T.b_l_draw .nil pass0 (pa_cons (pv 1) (pa_cons (pe_callB call_len_seq (by rfl) T.z_len (by decide +kernel) (pa_cons (pv 7) pa_nil)) pa_nil))) (fun _ _ => rfl)) (pe_call (ok_l_draw T) (hr.mono (by decide)) (by rfl) T.g__law_draw T.F_l_draw.kp T.b_l_draw .nil pass0 (pa_cons (pv 1) (pa_cons pe_int pa_nil)))) pa_nil))))) pss_nil)
      (pss_cons (ps_set (i := 8) sc_f_law.nd rfl (Or.inl rfl) (pe_call (ok_l_book T) (hr.mono (by decide)) (by rfl) T.g__law_book T.F_l_book.kp T.b_l_book .nil pass0 (pa_cons (pe_call (ok_l_mixed T) (hr.mono (by decide)) (by rfl) T.g__law_mixed T.F_l_mixed.kp T.b_l_mixed .nil pass0 (pa_cons (pv 1) (pa_cons (pv 6) pa_nil))) pa_nil)))
      (pss_cons (ps_set (i := 9) sc_f_law.nd rfl (Or.inr rfl) (pe_call (ok_l_made T) (hr.mono (by decide)) (by rfl) T.g__law_made T.F_l_made.kp T.b_l_made .nil pass0 (pa_cons (pe_tup (pa_cons (pv 2) (pa_cons (pv 3) (pa_cons (pv 4) pa_nil)))) pa_nil)))
      (pss_cons (ps_g (ps_setLcV (i := 10) (own := [("_law_item", 24)]) rfl sc_f_law.nd rfl rfl (sw_true rfl rfl rfl (by decide +kernel)) (pi_list (pe_call (ok_l_worked T) (hr.mono (by decide)) (by rfl) T.g__law_worked T.F_l_worked.kp T.b_l_worked .nil pass0 (pa_cons (pv 6) (pa_cons (pv 4) pa_nil)))) (blkOk_by (own := [("_law_item", 24)]) (N := N_f_law) (sc := defScope s_f_law) (by decide +kernel)) (fun _ _ _ _ _ => (pg_name (i := 24) sc_f_law.nd rfl (Or.inl rfl))) (fun _ _ _ _ _ => pts_nil) (fun _ _ _ _ _ => (pe_tup (pa_cons (pe_ix ix_tup (pv 24) pe_int (fun _ _ => rfl)) (pa_cons (pe_ix ix_tup (pv 24) pe_int (fun _ _ => rfl)) pa_nil)))) (fun _ _ _ _ _ => rfl) (fun _ _ _ _ _ => rfl) (fun _ _ _ _ _ => rfl)))
      (pss_cons (ps_g (ps_for PassesOwn.never rfl (pi_range1 rfl T.z_range (pa_cons pe_int pa_nil)) (pg_name (i := 11) sc_f_law.nd rfl (Or.inl rfl)) (pss_cons (ps_set (i := 12) sc_f_law.nd rfl (Or.inl rfl) (pe_meth (pv 9) T.cl_Rule T.m_Rule_worked (ok_m_Rule_worked T) (hr.mono (by decide)) T.b_m_Rule_worked .nil pass0 (pa_cons (pv 8) pa_nil)))
      (pss_cons (ps_if (PW.pt (pw_or (pt_cmpR (op_neP hr.units) (pv 12) (pv 10) (nomark _)) (pw_or1 (pt_cmpR (op_neP hr.units) (pe_callB (cr_sortedPO) (by rfl) T.z_sorted (by decide +kernel) (pa_cons (pv 12) pa_nil)) (pe_meth0 (pv 8) T.cl_Book T.m_Book_places (ok_m_Book_places T) (hr.mono (by decide)) T.b_m_Book_places .nil pass0) (nomark _))))) (pss_one (ps_ret pe_bl)) pss_nil)
      (pss_one (ps_expr (pe_bm0 PySem.F.plainAttrs_list PySem.F.slot_list_clear PySem.F.type_list_clear mt_clear (pv 12))))))))
      (pss_cons (ps_set (i := 13) sc_f_law.nd rfl (Or.inl rfl) (pe_dnewT))
      (pss_cons (ps_g (ps_for PassesOwn.never rfl (pi_range1 rfl T.z_range (pa_cons (pe_callB call_len_seq (by rfl) T.z_len (by decide +kernel) (pa_cons (pv 10) pa_nil)) pa_nil)) (pg_name (i := 14) sc_f_law.nd rfl (Or.inl rfl)) (pss_one (ps_dput (hu_of hr) (pv 13) (pe_ix ix_list (pv 10) (pv 14) (fun _ _ => rfl)) (pv 14) rfl))))
      (pss_cons (ps_g (ps_for PassesOwn.never rfl (pi_list (pv 6)) (pg_tup (n := 3) rfl (pgs_cons (pg_name (i := 15) sc_f_law.nd rfl (Or.inr rfl)) (pgs_cons (pg_name (i := 16) sc_f_law.nd rfl (Or.inr rfl)) (pgs_cons (pg_name (i := 17) sc_f_law.nd rfl (Or.inr rfl)) pgs_nil)))) (pss_one (ps_g (ps_for PassesOwn.never rfl (pi_list (pv 6)) (pg_tup (n := 3) rfl (pgs_cons (pg_name (i := 18) sc_f_law.nd rfl (Or.inl rfl)) (pgs_cons (pg_name (i := 19) sc_f_law.nd rfl (Or.inl rfl)) (pgs_cons (pg_name (i := 20) sc_f_law.nd rfl (Or.inl rfl)) pgs_nil)))) (pss_g (Evl.pss_cut (ps_if (PW.pt (pw_and (pt_cmpR op_gt (pv 4) pe_int (nomark _)) (pw_and1 (pt_cmpR op_ne (pe_op op_fdiv (pe_callTy call_int1 (by rfl) T.z_int (by decide +kernel) (pa_cons (pv 15) pa_nil)) (pv 4)) (pe_op op_fdiv (pe_callTy call_int1 (by rfl) T.z_int (by decide +kernel) (pa_cons (pv 18) pa_nil)) (pv 4)) (nomark _))))) (pss_one (ps_set (i := 21) sc_f_law.nd rfl (Or.inl rfl) (pe_cmpR op_lt (pv 15) (pv 18) (nomark _)))) (pss_one (ps_if (PW.pt (pw_and (pt_cmpR op_gt (pv 4) pe_int (nomark _)) (pw_and1 (pt_cmpR op_ne (pe_cmpR op_eq (pe_ix ix_tup (pv 17) pe_int (fun _ _ => rfl)) pe_str (nomark _)) (pe_cmpR op_eq (pe_ix ix_tup (pv 20) pe_int (fun _ _ => rfl)) pe_str (nomark _)) (nomark _))))) (pss_one (ps_set (i := 21) sc_f_law.nd rfl (Or.inl rfl) (pe_cmpR op_eq (pe_ix ix_tup (pv 17) pe_int (fun _ _ => rfl)) pe_str (nomark _)))) (pss_one (ps_set (i := 21) sc_f_law.nd rfl (Or.inl rfl) (pe_cmpR (op_ltT (Nat.lt_of_succ_lt (hu_of hr))) (pe_tup (pa_cons (pv 15) (pa_cons (pv 16) pa_nil))) (pe_tup (pa_cons (pv 18) (pa_cons (pv 19) pa_nil))) (nomark _)))))))
      (pss_one (ps_if (pt_cmpR op_ne (pe_cmpR op_lt (pe_dget (hu_of hr) (pv 13) (pe_tup (pa_cons (pv 15) (pa_cons (pv 16) pa_nil))) (fun _ _ => rfl)) (pe_dget (hu_of hr) (pv 13) (pe_tup (pa_cons (pv 18) (pa_cons (pv 19) pa_nil))) (fun _ _ => rfl)) (nomark _)) (pe_and (pv 21) (pe_one (pe_cmpR (op_neP hr.units) (pe_tup (pa_cons (pv 15) (pa_cons (pv 16) pa_nil))) (pe_tup (pa_cons (pv 18) (pa_cons (pv 19) pa_nil))) (nomark _)))) (nomark _)) (pss_one (ps_ret pe_bl)) pss_nil)))))))))
      (pss_cons (ps_asg (pe_call (ok_l_pick T) (hr.mono (by decide)) (by rfl) T.g__law_pick T.F_l_pick.kp T.b_l_pick .nil pass0 (pa_cons (pv 1) (pa_cons (pv 6) pa_nil))) (pg_tup (n := 3) rfl (pgs_cons (pg_name (i := 15) sc_f_law.nd rfl (Or.inr rfl)) (pgs_cons (pg_name (i := 16) sc_f_law.nd rfl (Or.inr rfl)) (pgs_cons (pg_name (i := 17) sc_f_law.nd rfl (Or.inr rfl)) pgs_nil)))))
      (pss_cons (ps_g (ps_setLcV (i := 22) (own := [("_law_item", 24)]) rfl sc_f_law.nd rfl rfl (sw_true rfl rfl rfl (by decide +kernel)) (pi_list (pv 6)) (blkOk_by (own := [("_law_item", 24)]) (N := N_f_law) (sc := defScope s_f_law) (by decide +kernel)) (fun _ _ _ _ _ => (pg_name (i := 24) sc_f_law.nd rfl (Or.inl rfl))) (fun _ _ _ _ _ => (pts_one (pt_cmpR (op_neP hr.units) (pv 24) (pe_tup (pa_cons (pv 15) (pa_cons (pv 16) (pa_cons (pv 17) pa_nil)))) (nomark _)))) (fun _ _ _ _ _ => (pv 24)) (fun _ _ _ _ _ => rfl) (fun _ _ _ _ _ => rfl) (fun _ _ _ _ _ => rfl)))
      (pss_cons (ps_set (i := 23) sc_f_law.nd rfl (Or.inl rfl) (L1.pe_methlam (a := "_law_held") (k := 12) (pv 8) T.cl_Book T.m_Book_tried T.F_m_Book_tried T.b_m_Book_tried sc_m_Book_tried rfl (Or.inl rfl) (tried_gives T) TB rfl (List.mem_singleton.mpr rfl) (fun p hp _ => by rw [List.mem_singleton.mp hp]) (hr.mono (by decide)) (L1.lamP_by (by show L1.lamPB (defScope s_f_law) _ "_law_held" = true; decide +kernel)) (by show ¬ (("_law_held" : Str) ∈ N_f_law); decide +kernel) rfl (fun _ _ _ _ _ _ => rfl) (fun A outer s H f c' hr => (pe_call (ok_l_inner T) (hr.mono (by decide)) (by rfl) T.g__law_inner T.F_l_inner.kp T.b_l_inner .nil pass0 (pa_cons (pv 25) (pa_cons (pv 9) (pa_cons (pv 15) (pa_cons (pv 16) pa_nil))))))))
      (pss_cons (ps_if (PW.pt (pw_or (pt_cmpR (op_neP hr.units) (pv 23) (pe_g (pe_lcV (own := [("_law_item", 24)]) rfl sc_f_law.nd (pi_list (pe_call (ok_l_worked T) (hr.mono (by decide)) (by rfl) T.g__law_worked T.F_l_worked.kp T.b_l_worked .nil pass0 (pa_cons (pv 22) (pa_cons (pv 4) pa_nil)))) (blkOk_by (own := [("_law_item", 24)]) (N := N_f_law) (sc := defScope s_f_law) (by decide +kernel)) (fun _ _ _ _ _ => (pg_name (i := 24) sc_f_law.nd rfl (Or.inl rfl))) (fun _ _ _ _ _ => pts_nil) (fun _ _ _ _ _ => (pe_tup (pa_cons (pe_ix ix_tup (pv 24) pe_int (fun _ _ => rfl)) (pa_cons (pe_ix ix_tup (pv 24) pe_int (fun _ _ => rfl)) pa_nil)))) (fun _ _ _ _ _ => rfl) (fun _ _ _ _ _ => rfl) (fun _ _ _ _ _ => rfl))) (nomark _)) (pw_or1 (pt_cmpR (op_neP hr.units) (pe_meth (pv 9) T.cl_Rule T.m_Rule_worked (ok_m_Rule_worked T) (hr.mono (by decide)) T.b_m_Rule_worked .nil pass0 (pa_cons (pv 8) pa_nil)) (pv 10) (nomark _))))) (pss_one (ps_ret pe_bl)) pss_nil)
      (pss_one (ps_ret (pe_and (pe_cmpR op_eq (pe_callB (call_ownLen (own_len T) (ok_m_Book_len T) (hr.mono (by decide)) T.b_m_Book_len pass0) (by rfl) T.z_len (by decide +kernel) (pa_cons (pv 8) pa_nil)) (pe_callB call_len_seq (by rfl) T.z_len (by decide +kernel) (pa_cons (pv 6) pa_nil)) (nomark _)) (pe_one (pe_cmpR (op_eqNil hr.units) (pe_meth (pv 9) T.cl_Rule T.m_Rule_worked (ok_m_Rule_worked T) (hr.mono (by decide)) T.b_m_Rule_worked .nil pass0 (pa_cons (pe_make0 T.mk_Book (ok_m_Book_init T) (hr.mono (by decide)) (by rfl) T.g_Book T.b_m_Book_init .nil pass0) pa_nil)) (pe_lst pa_nil) (nomark _)))))))))))))))))))))))), ?_⟩
    walk_at "go"
    intro g l H1 s1 hg hl B1
    have htb1 := s1 _ _ htb
    refine ⟨_, rfl, g, l, rfl, B1, fun q r H2 rok K2 B2 hq nqg hq2 => ⟨q, _, rfl, SqT.of hq2, rfl, _, _, rfl, _, _, rfl, _, _, rfl, rfl, ?_⟩⟩
    refine ⟨_, rfl, g, l, 999000, rfl, B2, by decide, by decide, fun z H3 z0 z1 B3 K3 => ⟨(by show 4 ≤ sizeLine; decide), fun a0 ha0 => ?_⟩⟩
    have sa := Same.new (o := .lst [V.int 0, .int 0, .int 7, .int z]) ha0
    have nag := (B3.ne ha0).1
    refine ⟨_, rfl, g, l, 4, rfl, B3.keep sa, by decide, by decide, fun c4 H4 c0 c1 B4 K4 => ?_⟩
    obtain ⟨mv, emv, mv0, mv1⟩ := mv_at z0 z1 c0 c1
    refine ⟨a0, _, _, _, rfl, rfl, SqL.of (K4 _ _ upd_same nag), emv, ?_⟩
    have tb4 : H4 pA = some (.tbl #[]) := by
      have ntg : pA ≠ g := ne_of_none htb hg
      exact K4 _ _ (sa _ _ (K3 _ _ (K2 _ _ htb1 ntg) ntg)) ntg
    have ntg : pA ≠ g := ne_of_none htb hg
    clear emv c0 c1 K4 sa nag K3 B3 B2 K2 hq2 B1 htb1 s1 z0 z1 ha0 hq nqg
    refine ⟨⟨_, rfl, g, l, 14, rfl, B4, by decide, by decide, fun eq ts es0 H5 heq heq' A5 E5 ok5 rg5 pw5 ne5 le5 B5 K5 => ?_⟩⟩
    have tb5 := K5 _ _ tb4 ntg
    have tl : ts.length ≤ 14 := by rw [A5.1]; omega
    refine ⟨eq, rfl, ⟨_, SqL.of heq'⟩, fun D hD => lc_sameP (K := K) (fun i y H => ∃ t u, es0[i]? = some u ∧ y = .ref t ∧ Tri H t (shE mv u)) heq' (by rw [List.length_map]; omega) hD ?_ ?_ ?_⟩
    · rintro i y H1 H2 acc hD1 k1 ⟨t, u, hu, rfl, ht⟩
      exact ⟨t, u, hu, rfl, k1 _ _ ht (ne_of ht hD1 (by intro z; cases z))⟩
    · intro i y H6 N M hi s6 hN
      rw [List.getElem?_map] at hi
      obtain ⟨t, hti, rfl⟩ := Option.map_eq_some_iff.mp hi
      obtain ⟨u, hu, htu⟩ := A5.get hti
      have htp : H6 t = some (.tup [.int u.d, .int u.n, .ref u.e]) := s6 _ _ htu
      refine ⟨rfl, _, rfl, t, _, _, _, rfl, rfl, SqT.of htp, rfl, _, rfl, _, _, rfl, rfl, _, rfl, t, _, _, _, rfl, rfl, SqT.of htp, rfl, _, rfl, t, _, _, _, rfl, rfl, SqT.of htp, rfl, (by show 3 ≤ sizeLine; decide), fun v hv => hN _ _ (Same.new hv) ⟨v, u, hu, rfl, upd_same⟩⟩
    · intro ys H6 s6 yl hR hD6
      obtain ⟨us, rfl, A6⟩ : ∃ us : List Addr, ys = us.map V.ref ∧ All2 (Tri H6) us (es0.map (shE mv)) := by
        refine ⟨ys.map fun v => match v with | .ref a => a | _ => 0, ?_, by rw [List.length_map, yl, List.length_map, List.length_map, A5.1], fun i u p hu hp => ?_⟩
        · rw [List.map_map]
          refine (List.map_id ys).symm.trans (List.map_congr_left fun y hy => ?_)
          obtain ⟨i, hi⟩ := List.mem_iff_getElem?.mp hy
          obtain ⟨t, _, _, rfl, _⟩ := hR i y hi
          rfl
        · rw [List.getElem?_map] at hu hp
          obtain ⟨y, hy, e⟩ := Option.map_eq_some_iff.mp hu
          obtain ⟨u2, hu2, e2⟩ := Option.map_eq_some_iff.mp hp
          obtain ⟨t, u3, hu3, rfl, htp⟩ := hR i y hy
          rw [hu2] at hu3
          cases hu3
          rw [← e, ← e2]
          exact htp
      have tb6 := s6 _ _ tb5
      have B6 := B5.keep s6
      have E6 : EntsAt H6 (es0.map (shE mv)) := fun v hv => by
        obtain ⟨u, hu, rfl⟩ := List.mem_map.mp hv
        exact s6 _ _ (E5 u hu)
      have ok6 : ∀ v ∈ es0.map (shE mv), EnOk v := fun v hv => by
        obtain ⟨u, hu, rfl⟩ := List.mem_map.mp hv
        exact ok5 u hu
      have rg6 : ∀ v ∈ es0.map (shE mv), mv ≤ v.d ∧ v.d ≤ mv + 1000 ∧ 0 ≤ v.n ∧ v.n ≤ 1000 := fun v hv => by
        obtain ⟨u, hu, rfl⟩ := List.mem_map.mp hv
        obtain ⟨a1, a2, a3, a4⟩ := rg5 u hu
        exact ⟨by show mv ≤ u.d + mv; omega, by show u.d + mv ≤ mv + 1000; omega, a2, a4⟩
      have pw6 : (es0.map (shE mv)).Pairwise ltE := by
        rw [List.pairwise_map]
        refine pw5.imp fun {a b} h => ?_
        unfold ltE at h ⊢
        show a.d + mv < b.d + mv ∨ (a.d + mv = b.d + mv ∧ a.n < b.n)
        omega
      have ne6 : es0.map (shE mv) ≠ [] := fun z => ne5 (List.map_eq_nil_iff.mp z)
      have le6 : (es0.map (shE mv)).length ≤ 14 := by rw [List.length_map]; omega
      have hdn : H5 D = none := hD
      have B5' := B5.lst
      clear hR yl hD pw5 rg5 ok5 E5 ne5 le5 tl A5 heq' tb5 tb4 B5 s6 K5 B4
      generalize es0.map (shE mv) = es at *
      have ul : us.length ≤ 14 := by rw [A6.1]; exact le6
      refine ⟨⟨_, rfl, D, rfl, ⟨_, SqL.of hD6⟩, fun D2 hD2 => lc_same (K := K) (fun i => (es[i]?).elim (.int 0) fun u => V.int u.d) hD6 (by rw [List.length_map]; omega) hD2 ?_ ?_⟩⟩
      · intro i y H7 N M hi s7 hN
        rw [List.getElem?_map] at hi
        obtain ⟨t, hti, rfl⟩ := Option.map_eq_some_iff.mp hi
        obtain ⟨u, hu, htu⟩ := A6.get hti
        have en : ((es[i]?).elim (.int 0) fun u => V.int u.d) = .int u.d := by rw [hu]; rfl
        rw [en] at hN
        exact ⟨rfl, _, rfl, t, _, _, _, rfl, rfl, SqT.of (s7 _ _ htu), rfl, hN _ (Same.refl _)⟩
      · intro H7 s7 hD7
        rw [List.length_map, A6.1, range_at es (fun u => V.int u.d) (.int 0)] at hD7
        have em : es.map (fun u => V.int u.d) = (es.map fun u => u.d).map V.int := by rw [List.map_map]; rfl
        rw [em] at hD7
        refine ⟨D2, es.map fun u => u.d, rfl, SqL.of hD7, by rw [List.length_map]; omega, fun st c hst hc => ?_⟩
        rw [List.length_map] at hc
        refine ⟨st, _, c, rfl, upd_same, by omega, fun ns dq hs hm hln hdq => ?_⟩
        have s8 := Same.new (o := SetO w st (fun j => decide (j ∈ es.map fun u => u.d)) c) hst
        have s9 := Same.new (o := .lst (ns.map V.int)) hdq
        have s69 := s7.trans (s8.trans s9)
        have hdq9 := upd_same (H := upd H7 st (SetO w st (fun j => decide (j ∈ es.map fun u => u.d)) c)) (a := dq) (o := .lst (ns.map V.int))
        have ndq : (upd H7 st (SetO w st (fun j => decide (j ∈ es.map fun u => u.d)) c)) dq = none := hdq
        generalize upd (upd H7 st (SetO w st (fun j => decide (j ∈ es.map fun u => u.d)) c)) dq (.lst (ns.map V.int)) = H9 at *
        have dmem : ∀ k ∈ ns, mv ≤ k ∧ k ≤ mv + 1000 := fun k hk => by
          have := (hm k).mp hk
          rw [decide_eq_true_eq, List.mem_map] at this
          obtain ⟨u, hu, rfl⟩ := this
          exact ⟨(rg6 u hu).1, (rg6 u hu).2.1⟩
        have nsne : 1 ≤ ns.length := by
          obtain ⟨u, hu⟩ := List.exists_mem_of_ne_nil _ ne6
          have : u.d ∈ ns := (hm _).mpr (decide_eq_true (List.mem_map.mpr ⟨u, hu, rfl⟩))
          exact List.length_pos_of_mem this
        have nsl : ns.length ≤ 14 := by rw [hln]; omega
        have B9 := B6.keep s69
        have tb9 := s69 _ _ tb6
        have hD9 := s69 _ _ hD6
        have A9 := A6.mono fun _ _ z => (s69 _ _ z : Tri H9 _ _)
        have E9 : EntsAt H9 es := fun v hv => s69 _ _ (E6 v hv)
        have nDg : D ≠ g := by
          obtain ⟨xs, hg6⟩ := B5'
          exact ne_of_none' hdn hg6
        have ndg : dq ≠ g := by
          obtain ⟨xs, hg9⟩ := (B6.keep (s7.trans s8)).lst
          exact ne_of_none' ndq hg9
        clear hm hln hs s9 s8 s7 hD7 hst hdq s69 em A6 E6 tb6 B6 hD6 hD2 ndq hc
        obtain ⟨rok1, rok2, rok3, rok4⟩ := rok
        refine ⟨⟨fun σ' H' => Wd (∃ T' : Int, σ' = [some (.ref a), some (.ref g), some (.str r.t), some (.str r.p), some (.int T'), some (.int mv), some (.ref D), some (.ref dq), none, none, none, none, none, none, none, none, none, none, none, none, none, none, none, none, none] ∧ 0 ≤ T' ∧ T' ≤ 1000000 ∧ Bag H' g l ∧ Kp g H9 H'), ?_, ?_⟩⟩
        · refine ⟨_, rfl, _, _, rfl, rfl, _, rfl, if_dec (fun e => ?_) (fun _ => ⟨r.n, rfl, rok3, rok4, B9, Kp.refl g H9⟩)⟩
          refine ⟨_, rfl, g, l, 2, rfl, B9, by decide, by decide, fun c H10 c0 c1 B10 K10 => ⟨rfl, _, rfl, if_dec (fun _ => ?_) (fun _ => ⟨r.n, rfl, rok3, rok4, B10, K10⟩)⟩⟩
          have hdq10 := K10 _ _ hdq9 ndg
          refine ⟨_, rfl, _, rfl, _, rfl, dq, _, rfl, .inl (SqL.of hdq10), g, l, _, rfl, B10, by rw [List.length_map]; omega, by rw [List.length_map]; exact lt_pow (a := 10) (by omega) (by decide), fun c2 H11 d0 d1 B11 K11 => ?_⟩
          rw [List.length_map] at d1
          obtain ⟨j, rfl⟩ := Int.eq_ofNat_of_zero_le d0
          have hj : j < ns.length := by omega
          obtain ⟨x, hx⟩ : ∃ x, ns[j]? = some x := ⟨_, List.getElem?_eq_getElem hj⟩
          have hxv : (ns.map V.int)[j]? = some (.int x) := by rw [List.getElem?_map, hx]; rfl
          have hxm := dmem x (List.mem_of_getElem? hx)
          refine ⟨dq, _, _, _, rfl, rfl, SqL.of (K11 _ _ hdq10 ndg), atI_nat hxv, _, rfl, g, l, 2, rfl, B11, by decide, by decide, fun c3 H12 e0 e1 B12 K12 => ⟨_, _, rfl, rfl, _, _, rfl, ?_⟩⟩
          refine ⟨if x + c3 > 1 then x + c3 else 1, rfl, ?_, ?_, B12, K10.trans (K11.trans K12)⟩
          · split <;> omega
          · split <;> omega
        · rintro σ' H10 ⟨T', rfl, T0, T1, B10, K10⟩
          have hD10 := K10 _ _ hD9 nDg
          have tb10 := K10 _ _ tb9 ntg
          obtain ⟨xsg, hg9⟩ := B9.lst
          have A10 : All2 (Tri H10) us es := A9.mono fun _ _ z => K10 _ _ z (ne_of z hg9 (by intro y; cases y))
          have E10 : EntsAt H10 es := fun v hv => K10 _ _ (E9 v hv) (ne_of (E9 v hv) hg9 (by intro y; cases y))
          clear hD9 tb9 A9 E9 B9 K10 hdq9 dmem nsne nsl hg9 B5'
          have rok' : ({ r with n := T' } : Ru).Ok := ⟨rok1, rok2, T0, T1⟩
          refine ⟨_, rfl, _, rfl, g, l, D, _, rfl, B10, hD10, by rw [List.length_map]; omega, fun mq ys H11 perm hmq hmq' B11 K11 => ?_⟩
          have hg10 := B10.lst
          obtain ⟨xsg, hg10⟩ := hg10
          obtain ⟨us2, es2, rfl, pe, A11⟩ := perm_all2 (A10.mono fun _ _ z => (K11 _ _ z (ne_of z hg10 (by intro y; cases y)) : Tri H11 _ _)) perm
          have E11 : EntsAt H11 es := fun v hv => K11 _ _ (E10 v hv) (ne_of (E10 v hv) hg10 (by intro y; cases y))
          have A11' : All2 (Tri H11) us es := A10.mono fun _ _ z => K11 _ _ z (ne_of z hg10 (by intro y; cases y))
          have hD11 := K11 _ _ hD10 nDg
          have tb11 := K11 _ _ tb10 ntg
          have pl : es2.length ≤ 14 := by rw [pe.length_eq]; exact le6
          refine ⟨mq, us2, es2, rfl, hmq', A11, (fun v hv => E11 v (pe.mem_iff.mp hv)), (fun v hv => ok6 v (pe.mem_iff.mp hv)), (fun v hv => by obtain ⟨a1, a2, a3, a4⟩ := rg6 v (pe.mem_iff.mp hv); exact ⟨by omega, a3, by omega, by omega⟩), by omega, fun b bd H12 s12 hb hbd hB12 => ?_⟩
          have kn : keyN es := inc_nodup pw6
          have kn2 : keyN es2 := ((pe.map fun t : En => (t.d, t.n)).nodup_iff).mpr kn
          rw [fold_new es2 [] (by rw [List.nil_append]; exact kn2), List.nil_append] at hB12
          have S2 := srtE_of pe pw6
          have near2 : Near es2 := ⟨fun u hu => by obtain ⟨a1, a2, a3, a4⟩ := rg6 u (pe.mem_iff.mp hu); exact ⟨by omega, by omega⟩, fun u hu => by obtain ⟨a1, a2, a3, a4⟩ := rg6 u (pe.mem_iff.mp hu); exact ⟨a3, by omega⟩, fun u hu v hv => by obtain ⟨a1, a2, a3, a4⟩ := rg6 u (pe.mem_iff.mp hu); obtain ⟨b1, b2, _, _⟩ := rg6 v (pe.mem_iff.mp hv); omega⟩
          have A12 := A11'.mono fun _ _ z => (s12 _ _ z : Tri H12 _ _)
          have E12 : EntsAt H12 es := fun v hv => s12 _ _ (E11 v hv)
          have E12' : EntsAt H12 es2 := fun v hv => E12 v (pe.mem_iff.mp hv)
          have hD12 := s12 _ _ hD11
          have tb12 := s12 _ _ tb11
          have B12 := B11.keep s12
          have nbg : b ≠ g := (B11.ne hb).1
          have nbdg : bd ≠ g := (B11.ne hbd).1
          clear s12 E11 A11 A11' hD11 tb11 hmq' hmq perm K11 hD10 tb10 A10 E10 B10 B11 hg10 hb hbd
          refine ⟨_, rfl, _, rfl, _, rfl, (by show 3 ≤ sizeLine; decide), fun tq htq => ?_⟩
          have s13 := Same.new (o := .tup [.str r.t, .str r.p, .int T']) htq
          refine ⟨tq, { r with n := T' }, rfl, upd_same, rok', fun x H14 s14 hx hru => ?_⟩
          have s134 := s13.trans s14
          have hB14 := hB12.same s134
          have A14 := A12.mono fun _ _ z => (s134 _ _ z : Tri H14 _ _)
          have E14 : EntsAt H14 es := fun v hv => s134 _ _ (E12 v hv)
          have E14' : EntsAt H14 es2 := fun v hv => s134 _ _ (E12' v hv)
          have hD14 := s134 _ _ hD12
          have tb14 := s134 _ _ tb12
          have B14 := B12.keep s134
          have nxg : x ≠ g := ((B12.keep s13).ne hx).1
          clear s134 s14 s13 hB12 A12 E12 E12' hD12 tb12 B12 hx htq
          refine ⟨⟨_, rfl, _, rfl, D, us, es, T', rfl, T0, by omega, hD14, A14, E14, by omega, fun wq us3 qs H15 s15 hwq hprd hwq' A15 => ?_⟩⟩
          have wl := wrk_len hprd le6
          refine ⟨wq, rfl, ⟨_, SqL.of hwq'⟩, fun D3 hD3 => lc_plc (K := K) hwq' (A15.mono fun _ _ z => s15 _ _ z) (by rw [A15.1]; omega) hD3 ?_ ?_⟩
          · intro t u H16 N M ht s16 hN
            exact ⟨rfl, _, rfl, t, _, _, _, rfl, rfl, SqT.of ht, rfl, _, rfl, t, _, _, _, rfl, rfl, SqT.of ht, rfl, (by show 2 ≤ sizeLine; decide), fun v hv => hN _ _ (Same.new hv) upd_same⟩
          · intro H16 s16 hP16
            have s1416 := s15.trans s16
            have hB16 := hB14.same s1416
            have A16 := A14.mono fun _ _ z => (s1416 _ _ z : Tri H16 _ _)
            have E16 : EntsAt H16 es := fun v hv => s1416 _ _ (E14 v hv)
            have E16' : EntsAt H16 es2 := fun v hv => s1416 _ _ (E14' v hv)
            have hD16 := s1416 _ _ hD14
            have tb16 := s1416 _ _ tb14
            have B16 := B14.keep s1416
            have hru16 : IsRu A.Rule H16 x { r with n := T' } := hru.mono s1416
            have nD3g : D3 ≠ g := ((B14.keep s15).ne hD3).1
            have wpm := wrk_perm T0 pw6 hprd
            have wpw := wrk_pw T0 pw6 hprd
            clear s1416 s16 s15 hB14 A14 E14 E14' hD14 tb14 B14 hru A15 hwq hwq' hD3
            generalize hW : wrkE es T' qs = W at *
            dsimp only [gName, List.set]
            obtain ⟨dxr, hxr⟩ := id hru16
            refine ⟨⟨_, rfl, by decide, by decide, for_range (lo := 0) (n := 2) (fun i σ' H' => Wd (∃ (o11 o12 : Option V), σ' = [some (.ref a), some (.ref g), some (.str r.t), some (.str r.p), some (.int T'), some (.int mv), some (.ref D), some (.ref dq), some (.ref b), some (.ref x), some (.ref D3), o11, o12, none, none, none, none, none, none, none, none, none, none, none, none] ∧ Same H16 H')) ⟨none, none, rfl, Same.refl _⟩ ?_ ?_⟩⟩
            · rintro i σ' H17 hi ⟨o11, o12, rfl, s17⟩
              have hB17 := hB16.same s17
              obtain ⟨⟨dxb, hb17⟩, hbd17⟩ := id hB17
              refine ⟨_, rfl, x, dxr, _, rfl, s17 _ _ hxr, rfl, _, rfl, x, b, bd, { r with n := T' }, es2, es, rfl, hru16.mono s17, rok', hB17, (fun v hv => s17 _ _ (E16' v hv)), by omega, S2, fun tq qs2 H18 s18 htq hprd2 hP18 => ?_⟩
              rw [show wrkE es ({ r with n := T' } : Ru).n qs2 = W from (wrk_uniq hprd2 hprd).trans hW] at hP18
              have htq16 : H16 tq = none := Same.none s17 htq
              dsimp only [gName, List.set, tSeq]
              refine tIf_of (p := False) (fun R ry rn => ?_) (fun _ _ z => z.elim) (fun H19 s19 _ => ?_)
              · refine ⟨_, rfl, _, rfl, ne_dl (dl_plc hP18) (dl_plc (hP16.same (s17.trans s18))) (by decide) ⟨_, rfl, iteF ?_⟩⟩
                obtain ⟨bs, hbs, hbA⟩ := id hP18
                refine ⟨_, rfl, tq, bs.map V.ref, keyAt H18, rfl, SqL.of hbs, (fun y hy => ?_), fun ys sq hsrt hstb hsq => ?_⟩
                · obtain ⟨c, hc, rfl⟩ := List.mem_map.mp hy
                  obtain ⟨j, hj⟩ := List.mem_iff_getElem?.mp hc
                  obtain ⟨u, _, hz⟩ := hbA.get hj
                  exact ⟨c, rfl, by rw [keyAt_of hz]; exact hz⟩
                · obtain ⟨cs, ws, rfl, cA, ew⟩ := srt_plc hbA wpm pw6 hsrt hstb.perm
                  have s19 := Same.new (o := .lst (cs.map V.ref)) hsq
                  have hB19 := hB17.same (s18.trans s19)
                  refine ⟨_, rfl, b, dxb, _, rfl, (s18.trans s19) _ _ hb17, rfl, b, bd, es2, rfl, hB19, fun bs2 pq hpq A2 => ?_⟩
                  have s20 := Same.new (o := .lst (bs2.map V.ref)) hpq
                  rw [← S2.k] at A2
                  have d1 : DL K (upd (upd H18 sq (.lst (cs.map V.ref))) pq (.lst (bs2.map V.ref))) (.ref sq) (.list (ws.map plD)) 2 := dl_plc ⟨cs, s20 _ _ upd_same, cA.mono fun _ _ z => s20 _ _ (s19 _ _ z)⟩
                  have d2 : DL K (upd (upd H18 sq (.lst (cs.map V.ref))) pq (.lst (bs2.map V.ref))) (.ref pq) (.list (es.map plD)) 2 := dl_plc ⟨bs2, upd_same, ⟨by rw [A2.1]; unfold keysE; rw [List.length_map], fun i c u hc hu => s20 _ _ (A2.2 i c (u.d, u.n) hc (by unfold keysE; rw [List.getElem?_map, hu]; rfl))⟩⟩
                  rw [ew] at d1
                  exact ne_dl d1 d2 (by decide) ⟨_, rfl, rn _ (s19.trans s20) id⟩
              · dsimp only [tNext]
                obtain ⟨bs, hbs, _⟩ := id hP18
                have hbs19 := s19 _ _ hbs
                exact ⟨_, rfl, .inl ⟨rfl, _, SqL.of hbs19⟩, tq, _, rfl, rfl, hbs19, _, _, rfl, Same.at_new htq16 (s17.trans (s18.trans s19))⟩
            · rintro σ' H17 ⟨o11, o12, rfl, s17⟩
              refine fun rk hrk => ?_
              have s18 := Same.new (o := .dT []) hrk
              have hrk16 : H16 rk = none := Same.none s17 hrk
              have hrk18 := upd_same (H := H17) (a := rk) (o := .dT [])
              have sR := s17.trans s18
              generalize upd H17 rk (.dT []) = H18 at *
              dsimp only [gName, List.set]
              obtain ⟨bsW, hbsW, AW⟩ := id hP16
              have wl2 : bsW.length ≤ 400 := by rw [AW.1]; exact wl
              have knW : (W.map fun u : En => (u.d, u.n)).Nodup := ((wpm.map fun u : En => (u.d, u.n)).nodup_iff).mpr kn
              refine ⟨⟨_, rfl, D3, _, rfl, .inl (SqL.of (sR _ _ hbsW)), _, rfl, by rw [List.length_map]; omega, by rw [List.length_map]; omega, for_range (lo := 0) (n := (bsW.map V.ref).length) (fun i σ' H' => Wd (∃ (o14 : Option V), σ' = [some (.ref a), some (.ref g), some (.str r.t), some (.str r.p), some (.int T'), some (.int mv), some (.ref D), some (.ref dq), some (.ref b), some (.ref x), some (.ref D3), o11, o12, some (.ref rk), o14, none, none, none, none, none, none, none, none, none, none] ∧ Same H16 H' ∧ H' rk = some (.dT (rkv (W.take i))))) ⟨none, rfl, sR, hrk18⟩ ?_ ?_⟩⟩
              · rintro i σ' H19 hi ⟨o14, rfl, s19, hrk19⟩
                rw [List.length_map] at hi
                rw [Int.zero_add]
                obtain ⟨c, hc⟩ : ∃ c, bsW[i]? = some c := ⟨_, List.getElem?_eq_getElem hi⟩
                obtain ⟨u, hu, hz⟩ := AW.get hc
                have hcv : (bsW.map V.ref)[i]? = some (.ref c) := by rw [List.getElem?_map, hc]; rfl
                refine ⟨_, rfl, _, rfl, _, rfl, _, rfl, D3, _, _, _, rfl, rfl, SqL.of (s19 _ _ hbsW), atI_nat hcv, rk, _, rfl, DPut.t (k := keyE u.d u.n) hrk19 (s19 _ _ hz) ?_, _, rfl, Same.at_new hrk16 s19, ?_⟩
                · unfold rkv
                  rw [List.length_map, List.length_zipIdx, List.length_take]
                  exact Nat.lt_of_le_of_lt (by omega : _ ≤ 400) (by decide)
                · rw [upd_same, rkv_more knW hu]
              · rintro σ' H19 ⟨o14, rfl, s19, hrk19⟩
                rw [List.length_map, AW.1, List.take_length] at hrk19
                clear hrk18 sR s18 hrk s17 hbsW AW wl2
                have dl16 : ∀ {H' : Hp}, Same H16 H' → All2 (Tri H') us es := fun {H'} s' => A16.mono fun _ _ z => (s' _ _ z : Tri H' _ _)
                dsimp only [gName, List.set, tSeq]
                refine ⟨⟨_, rfl, D, rfl, ⟨_, SqL.of (s19 _ _ hD16)⟩, for_list (xs := us.map V.ref) (fun i σ' H' => Wd (∃ (o15 o16 o17 o18 o19 o20 o21 : Option V), σ' = [some (.ref a), some (.ref g), some (.str r.t), some (.str r.p), some (.int T'), some (.int mv), some (.ref D), some (.ref dq), some (.ref b), some (.ref x), some (.ref D3), o11, o12, some (.ref rk), o14, o15, o16, o17, o18, o19, o20, o21, none, none, none] ∧ Same H19 H')) ⟨none, none, none, none, none, none, none, rfl, Same.refl _⟩ ?_ ?_ ?_⟩⟩
                · rintro i σ' H' _ ⟨o15, o16, o17, o18, o19, o20, o21, rfl, s'⟩
                  exact SqL.of (s' _ _ (s19 _ _ hD16))
                · rintro i y σ' H20 hi ⟨o15, o16, o17, o18, o19, o20, o21, rfl, s20⟩
                  rw [List.getElem?_map] at hi
                  obtain ⟨tu, htu, rfl⟩ := Option.map_eq_some_iff.mp hi
                  obtain ⟨u, hu, hzu⟩ := (dl16 (s19.trans s20)).get htu
                  refine ⟨tu, _, rfl, SqT.of hzu, rfl, _, _, rfl, _, _, rfl, _, _, rfl, rfl, ?_⟩
                  dsimp only [List.set]
                  refine ⟨⟨_, rfl, D, rfl, ⟨_, SqL.of (s20 _ _ (s19 _ _ hD16))⟩, for_list (xs := us.map V.ref) (fun j σ' H' => Wd (∃ (o18 o19 o20 o21 : Option V), σ' = [some (.ref a), some (.ref g), some (.str r.t), some (.str r.p), some (.int T'), some (.int mv), some (.ref D), some (.ref dq), some (.ref b), some (.ref x), some (.ref D3), o11, o12, some (.ref rk), o14, some (.int u.d), some (.int u.n), some (.ref u.e), o18, o19, o20, o21, none, none, none] ∧ Same H19 H')) ⟨_, _, _, _, rfl, s20⟩ ?_ ?_ ?_⟩⟩
                  · rintro j σ' H' _ ⟨o18, o19, o20, o21, rfl, s'⟩
                    exact SqL.of (s' _ _ (s19 _ _ hD16))
                  · rintro j y σ' H21 hj ⟨o18, o19, o20, o21, rfl, s21⟩
                    rw [List.getElem?_map] at hj
                    obtain ⟨tv, htv, rfl⟩ := Option.map_eq_some_iff.mp hj
                    obtain ⟨v, hv, hzv⟩ := (dl16 (s19.trans s21)).get htv
                    refine ⟨tv, _, rfl, SqT.of hzv, rfl, _, _, rfl, _, _, rfl, _, _, rfl, rfl, ?_⟩
                    dsimp only [List.set]
                    have um := List.mem_of_getElem? hu
                    have vm := List.mem_of_getElem? hv
                    refine ⟨⟨fun σ' H' => Wd (σ' = [some (.ref a), some (.ref g), some (.str r.t), some (.str r.p), some (.int T'), some (.int mv), some (.ref D), some (.ref dq), some (.ref b), some (.ref x), some (.ref D3), o11, o12, some (.ref rk), o14, some (.int u.d), some (.int u.n), some (.ref u.e), some (.int v.d), some (.int v.n), some (.ref v.e), some (.bl (befB T' u v)), none, none, none] ∧ Same H19 H'), ?_, ?_⟩⟩
                    · have hue : ∀ {H' : Hp}, Same H21 H' → H' u.e = some (.tup [.str u.kd, .str u.nm, u.x]) := fun s' => s' _ _ (s21 _ _ (s19 _ _ (E16 u um)))
                      have hve : ∀ {H' : Hp}, Same H21 H' → H' v.e = some (.tup [.str v.kd, .str v.nm, v.x]) := fun s' => s' _ _ (s21 _ _ (s19 _ _ (E16 v vm)))
                      refine tIf_of (p := 0 < T' ∧ u.d / T' ≠ v.d / T') (fun R ry rn => ?_) (fun H22 s22 yes => ?_) (fun H22 s22 no => ?_)
                      · refine ⟨_, rfl, _, _, rfl, rfl, _, rfl, if_dec (fun e => ?_) (fun e => rn _ (Same.refl _) fun z => e z.1)⟩
                        refine ⟨_, rfl, .inl ⟨_, rfl, _, rfl, _, _, rfl, rfl, ⟨e, by omega⟩, _, rfl, .inl ⟨_, rfl, _, rfl, _, _, rfl, rfl, ⟨e, by omega⟩, rfl, _, rfl, ?_⟩⟩⟩
                        by_cases c : u.d / T' = v.d / T'
                        · rw [decide_eq_true (congrArg V.int c)]
                          exact rn _ (Same.refl _) fun z => z.2 c
                        · rw [decide_eq_false fun z => c (V.int.inj z)]
                          exact ry _ (Same.refl _) ⟨e, c⟩
                      · refine ⟨_, rfl, _, rfl, _, _, rfl, rfl, ⟨?_, s21.trans s22⟩⟩
                        unfold befB
                        rw [if_pos yes]
                        rfl
                      · refine tIf_of (p := 0 < T' ∧ buyB u ≠ buyB v) (fun R ry rn => ?_) (fun H23 s23 yes => ?_) (fun H23 s23 no2 => ?_)
                        · refine ⟨_, rfl, _, _, rfl, rfl, _, rfl, if_dec (fun e => ?_) (fun e => rn _ (Same.refl _) fun z => e z.1)⟩
                          refine ⟨_, rfl, u.e, _, _, _, rfl, rfl, SqT.of (hue s22), rfl, rfl, _, rfl, v.e, _, _, _, rfl, rfl, SqT.of (hve s22), rfl, rfl, rfl, _, rfl, ?_⟩
                          rw [dec_str, dec_str]
                          show R (!decide (V.bl (buyB u) = V.bl (buyB v))) _
                          by_cases c : buyB u = buyB v
                          · rw [decide_eq_true (congrArg V.bl c)]
                            exact rn _ (Same.refl _) fun z => z.2 c
                          · rw [decide_eq_false fun z => c (V.bl.inj z)]
                            exact ry _ (Same.refl _) ⟨e, c⟩
                        · refine ⟨_, rfl, u.e, _, _, _, rfl, rfl, SqT.of (hue (s22.trans s23)), rfl, rfl, ⟨?_, s21.trans (s22.trans s23)⟩⟩
                          unfold befB
                          rw [if_neg no, if_pos yes, dec_str]
                          rfl
                        · refine ⟨_, rfl, _, rfl, (by show 2 ≤ sizeLine; decide), fun p hp => ⟨_, rfl, _, rfl, (by show 2 ≤ sizeLine; decide), fun q2 hq2 => ?_⟩⟩
                          have sp := Same.new (o := .tup [V.int u.d, .int u.n]) hp
                          have sq := Same.new (o := .tup [V.int v.d, .int v.n]) hq2
                          refine ⟨p, q2, [u.d, u.n], [v.d, v.n], rfl, rfl, SqT.of (sq _ _ upd_same), SqT.of upd_same, ⟨?_, s21.trans (s22.trans (s23.trans (sp.trans sq)))⟩⟩
                          rw [lex_two]
                          unfold befB
                          rw [if_neg no, if_neg no2]
                          rfl
                    · rintro σ' H22 ⟨rfl, s22⟩
                      obtain ⟨iu, hiu⟩ := List.mem_iff_getElem?.mp (wpm.mem_iff.mpr um)
                      obtain ⟨iv, hiv⟩ := List.mem_iff_getElem?.mp (wpm.mem_iff.mpr vm)
                      have hrk22 := s22 _ _ hrk19
                      have wix := wrk_ix wpw knW hiu hiv
                      refine tIf_of (p := False) (fun R ry rn => ?_) (fun _ _ z => z.elim) (fun H23 s23 _ => ?_)
                      · refine ⟨_, rfl, _, rfl, _, rfl, (by show 2 ≤ sizeLine; decide), fun p hp => ?_⟩
                        have sp := Same.new (o := .tup [V.int u.d, .int u.n]) hp
                        have g1 := DGet.t (k := keyE u.d u.n) (sp _ _ hrk22) (upd_same (H := H22) (a := p) (o := .tup [V.int u.d, .int u.n]))
                        rw [rkv_at knW hiu] at g1
                        refine ⟨rk, _, rfl, g1, _, rfl, _, rfl, _, rfl, (by show 2 ≤ sizeLine; decide), fun q2 hq2 => ?_⟩
                        have sq := Same.new (o := .tup [V.int v.d, .int v.n]) hq2
                        have g2 := DGet.t (k := keyE v.d v.n) (sq _ _ (sp _ _ hrk22)) (upd_same (a := q2) (o := .tup [V.int v.d, .int v.n]))
                        rw [rkv_at knW hiv] at g2
                        refine ⟨rk, _, rfl, g2, _, _, rfl, rfl, _, rfl, _, rfl, ?_⟩
                        cases eb : befB T' u v with
                        | false =>
                          refine iteF ⟨rfl, _, rfl, ?_⟩
                          rw [eb, Bool.false_and] at wix
                          show R (!decide (V.bl (decide ((iu : Int) < (iv : Int))) = V.bl false)) _
                          rw [wix]
                          exact rn _ (sp.trans sq) id
                        | true =>
                          refine iteT ⟨_, rfl, _, rfl, (by show 2 ≤ sizeLine; decide), fun p3 hp3 => ⟨_, rfl, _, rfl, (by show 2 ≤ sizeLine; decide), fun q3 hq3 => ?_⟩⟩
                          have sp3 := Same.new (o := .tup [V.int u.d, .int u.n]) hp3
                          have sq3 := Same.new (o := .tup [V.int v.d, .int v.n]) hq3
                          refine ne_dls (dl_pair (p := (u.d, u.n)) (sq3 _ _ upd_same)) (dl_pair (p := (v.d, v.n)) upd_same) (by decide) ⟨rfl, _, rfl, ?_⟩
                          rw [eqv_pair]
                          rw [eb, Bool.true_and] at wix
                          show R (!decide (V.bl (decide ((iu : Int) < (iv : Int))) = V.bl (!decide ((u.d, u.n) = (v.d, v.n))))) _
                          rw [wix, decide_eq_true rfl]
                          exact rn _ (sp.trans (sq.trans (sp3.trans sq3))) id
                      · exact ⟨_, _, _, _, rfl, s22.trans s23⟩
                  · rintro σ' H21 ⟨o18, o19, o20, o21, rfl, s21⟩
                    exact ⟨_, _, _, _, _, _, _, rfl, s21⟩
                · rintro σ' H20 ⟨o15, o16, o17, o18, o19, o20, o21, rfl, s20⟩
                  have sK := s19.trans s20
                  have hB20 := hB16.same sK
                  have A20 := dl16 sK
                  have E20 : EntsAt H20 es := fun v hv => sK _ _ (E16 v hv)
                  have hD20 := sK _ _ hD16
                  have tb20 := sK _ _ tb16
                  have B20 := B16.keep sK
                  have hP20 := hP16.same sK
                  have hru20 := hru16.mono sK
                  clear sK s20 s19 hB16 A16 E16 E16' hD16 tb16 B16 hP16 hru16 hxr hrk19 dl16 hrk16
                  refine ⟨_, rfl, _, rfl, g, l, D, _, rfl, B20, nDg, hD20, by rw [List.length_map, A20.1]; exact List.length_pos_iff.mpr ne6, by rw [List.length_map]; omega, fun vv H21 hvm B21 K21 => ?_⟩
                  obtain ⟨tu, htu, rfl⟩ := List.mem_map.mp hvm
                  obtain ⟨xsg, hg20⟩ := B20.lst
                  have K21t : ∀ c xs, H20 c = some (.tup xs) → H21 c = some (.tup xs) := fun c xs e => K21 _ _ e (ne_of e hg20 (by intro y; cases y))
                  have A21 : All2 (Tri H21) us es := A20.mono fun _ _ z => K21t _ _ z
                  have E21 : EntsAt H21 es := fun v hv => K21t _ _ (E20 v hv)
                  have E21' : EntsAt H21 es2 := fun v hv => E21 v (pe.mem_iff.mp hv)
                  have hD21 := K21 _ _ hD20 nDg
                  have tb21 := K21 _ _ tb20 ntg
                  have hB21 : BookAt A.Book H21 b bd es2 := ⟨hB20.1.elim fun dx h => ⟨dx, K21 _ _ h nbg⟩, K21 _ _ hB20.2 nbdg⟩
                  have hP21 : PlcAt H21 D3 W := by
                    obtain ⟨bs, hb1, hb2⟩ := hP20
                    exact ⟨bs, K21 _ _ hb1 nD3g, hb2.mono fun _ _ z => K21t _ _ z⟩
                  have hru21 : IsRu A.Rule H21 x { r with n := T' } := hru20.elim fun dx h => ⟨dx, K21 _ _ h nxg⟩
                  clear K21 K21t A20 E20 hD20 tb20 B20 hP20 hru20 hB20 hg20
                  obtain ⟨iu, hiu⟩ := List.mem_iff_getElem?.mp htu
                  obtain ⟨u, hu, hzu⟩ := A21.get hiu
                  have um := List.mem_of_getElem? hu
                  refine ⟨tu, _, rfl, SqT.of hzu, rfl, _, _, rfl, _, _, rfl, _, _, rfl, rfl, ?_⟩
                  dsimp only [List.set]
                  refine ⟨⟨_, rfl, D, rfl, ⟨_, SqL.of hD21⟩, fun D5 hD5 => lc_filt (K := K) (us := es) (R := Tri H21) (fun v => !isE u.d u.n v) hD21 A21 (by omega) hD5 ?_ ?_⟩⟩
                  · intro t v H22 N M vm hR s22 hY hN
                    refine ⟨rfl, _, rfl, _, rfl, _, rfl, _, rfl, (by show 3 ≤ sizeLine; decide), fun p hp => ?_⟩
                    have sp := Same.new (o := .tup [V.int u.d, .int u.n, .ref u.e]) hp
                    have dx := dl_tri (K := K) (H := upd H22 p (.tup [V.int u.d, .int u.n, .ref u.e])) (u := v) (sp _ _ (s22 _ _ hR)) (sp _ _ (s22 _ _ (E21 v vm))) (ok6 v vm).2.1
                    have dy := dl_tri (K := K) (H := upd H22 p (.tup [V.int u.d, .int u.n, .ref u.e])) (u := u) upd_same (sp _ _ (s22 _ _ (E21 u um))) (ok6 u um).2.1
                    by_cases c : (v.d, v.n) = (u.d, u.n)
                    · have ev : v = u := inj_nd kn vm um c
                      have fe : (!isE u.d u.n v) = false := by
                        rw [isE_iff.mpr ⟨by rw [ev], by rw [ev]⟩]
                        rfl
                      rw [ev] at dx
                      exact ne_dl dx dy (by decide) ⟨_, rfl, iteF (hN fe _ sp)⟩
                    · have fe : (!isE u.d u.n v) = true := by
                        cases ee : isE u.d u.n v with
                        | false => rfl
                        | true =>
                          obtain ⟨e1, e2⟩ := isE_iff.mp ee
                          exact (c (by rw [e1, e2])).elim
                      refine ne_dls dx dy (by decide) ⟨_, rfl, ?_⟩
                      rw [eqv_tri c]
                      exact iteT ⟨_, rfl, hY fe _ sp⟩
                  · intro cs H22 s22 hD22 AR
                    dsimp only [gName, List.set]
                    have lus0 : us.length = es.length := A21.1
                    have S5 : SrtE (dropE es2 u.d u.n) (es.filter fun v => !isE u.d u.n v) := srtE_of (pe.filter _) (pw6.sublist List.filter_sublist)
                    have pw5 : (es.filter fun v => !isE u.d u.n v).Pairwise ltE := pw6.sublist List.filter_sublist
                    have fl : (es.filter fun v => !isE u.d u.n v).length ≤ 14 := Nat.le_trans (List.length_filter_le _ _) le6
                    have ER : EntsAt H21 (es.filter fun v => !isE u.d u.n v) := fun v hv => E21 v (List.mem_filter.mp hv).1
                    have hB22 := hB21.same s22
                    have tb22 := s22 _ _ tb21
                    have hru22 := hru21.mono s22
                    have hP22 := hP21.same s22
                    have hDD := s22 _ _ hD21
                    obtain ⟨⟨dxb, hb22⟩, hbd22⟩ := id hB22
                    obtain ⟨dxr, hx22⟩ := id hru22
                    have u2 := atE_selfN kn2 (pe.mem_iff.mpr um)
                    refine ⟨_, rfl, b, dxb, _, rfl, hb22, rfl, (fun p hp => by rw [List.mem_singleton.mp hp]; exact LamX.TabS.nil tb22), fun H23 eN T23 => ⟨bd, es2, ⟨⟨dxb, eN _ _ hb22 (by intro ps z; cases z)⟩, eN _ _ hbd22 (by intro ps z; cases z)⟩, hap_kvE kn2 near2, fun H24 t kd dxt s24 ht hkd ht24 hkd24 R hR => ?_⟩⟩
                    have mv24 : ∀ c o, H22 c = some o → (∀ ps, o ≠ .tbl ps) → H24 c = some o := fun c o e n => s24 _ _ (eN _ _ e n)
                    have hb24 := mv24 _ _ hb22 (by intro ps z; cases z)
                    have hbd24 := mv24 _ _ hbd22 (by intro ps z; cases z)
                    have E24 : EntsAt H24 es2 := fun v hv => mv24 _ _ (s22 _ _ (E21' v hv)) (by intro ps z; cases z)
                    have nkd : kd ≠ bd := fun z => by
                      have := s24
                      rw [z] at hkd
                      rw [eN _ _ hbd22 (by intro ps z; cases z)] at hkd
                      cases hkd
                    have nkb : kd ≠ b := fun z => by
                      rw [z] at hkd
                      rw [eN _ _ hb22 (by intro ps z; cases z)] at hkd
                      cases hkd
                    have nbt : t ≠ b := fun z => by
                      rw [z] at ht
                      rw [eN _ _ hb22 (by intro ps z; cases z)] at ht
                      cases ht
                    have nbb : b ≠ bd := ne_of hb24 hbd24 (by intro z; cases z)
                    refine ⟨_, rfl, _, rfl, _, rfl, _, rfl, b, x, bd, { r with n := T' }, es2, _, u.d, u.n, rfl, ⟨dxr, mv24 _ _ hx22 (by intro ps z; cases z)⟩, rok', ⟨⟨dxb, hb24⟩, hbd24⟩, E24, by omega, by rw [u2]; rfl, S5, fun q5 qs5 H25 kp hq5 hprd5 hP5 => hR (.ref q5) H25 dxb bd (kp _ _ ht24 (ne_of ht24 hbd24 (by intro z; cases z))) (kp _ _ hb24 nbb) ?_⟩
                    have kp26 : ∀ c o, H22 c = some o → (∀ ps, o ≠ .tbl ps) → c ≠ bd → c ≠ b → (upd H25 b (.ins A.Book dxb [("entries", .ref kd)])) c = some o := fun c o e n n1 n2 => by
                      rw [upd_ne n2]
                      exact kp _ _ (mv24 _ _ e n) n1
                    have tup26 : ∀ c xs, H22 c = some (.tup xs) → (upd H25 b (.ins A.Book dxb [("entries", .ref kd)])) c = some (.tup xs) := fun c xs e => kp26 c _ e (by intro ps z; cases z) (ne_of e hbd22 (by intro z; cases z)) (ne_of e hb22 (by intro z; cases z))
                    have lst26 : ∀ c xs, H22 c = some (.lst xs) → (upd H25 b (.ins A.Book dxb [("entries", .ref kd)])) c = some (.lst xs) := fun c xs e => kp26 c _ e (by intro ps z; cases z) (ne_of e hbd22 (by intro z; cases z)) (ne_of e hb22 (by intro z; cases z))
                    have hD26 := lst26 _ _ hD22
                    have hE26 := lst26 _ _ hDD
                    have AR26 : All2 (Tri (upd H25 b (.ins A.Book dxb [("entries", .ref kd)]))) cs (es.filter fun v => !isE u.d u.n v) := AR.mono fun _ _ z => tup26 _ _ (s22 _ _ z)
                    have ER26 : EntsAt (upd H25 b (.ins A.Book dxb [("entries", .ref kd)])) (es.filter fun v => !isE u.d u.n v) := fun v hv => tup26 _ _ (s22 _ _ (ER v hv))
                    have E26 : EntsAt (upd H25 b (.ins A.Book dxb [("entries", .ref kd)])) es2 := fun v hv => tup26 _ _ (s22 _ _ (E21' v hv))
                    have hP26 : PlcAt (upd H25 b (.ins A.Book dxb [("entries", .ref kd)])) D3 W := by
                      obtain ⟨bs, h1, h2⟩ := hP22
                      exact ⟨bs, lst26 _ _ h1, h2.mono fun _ _ z => tup26 _ _ z⟩
                    have hq26 : PlcAt (upd H25 b (.ins A.Book dxb [("entries", .ref kd)])) q5 (wrkE (es.filter fun v => !isE u.d u.n v) T' qs5) := by
                      obtain ⟨bs, h1, h2⟩ := hP5
                      have hb25 := kp _ _ hb24 nbb
                      exact ⟨bs, by rw [upd_ne (ne_of h1 hb25 (by intro z; cases z))]; exact h1, h2.mono fun c w z => by rw [upd_ne (ne_of z hb25 (by intro y; cases y))]; exact z⟩
                    have hru26 : IsRu A.Rule (upd H25 b (.ins A.Book dxb [("entries", .ref kd)])) x { r with n := T' } := by
                      refine ⟨dxr, kp26 _ _ hx22 (by intro ps z; cases z) (ne_of hx22 hbd22 (by intro z; cases z)) fun z => ?_⟩
                      rw [z, hb22] at hx22
                      injection hx22 with h1
                      injection h1 with h2 h3 h4
                      have z2 : (1 : Nat) = 3 := congrArg List.length h4
                      omega
                    have hB26 : BookAt A.Book (upd H25 b (.ins A.Book dxb [("entries", .ref kd)])) b kd es2 := ⟨⟨dxb, upd_same⟩, by rw [upd_ne nkb]; exact kp _ _ hkd24 nkd⟩
                    generalize upd H25 b (.ins A.Book dxb [("entries", .ref kd)]) = H26 at *
                    clear lst26 tup26 kp26 hP5 kp hq5 nbb nbt nkb nkd E24 hbd24 hb24 mv24 hR hkd24 ht24 hkd ht s24 T23 eN hx22 hbd22 hb22 hDD hP22 hru22 tb22 hB22 ER AR hD22 hru21 hP21 hB21 tb21 hD21 E21' E21 A21 B21
                    dsimp only [gName, List.set]
                    refine tIf_of (p := False) (fun R ry rn => ?_) (fun _ _ z => z.elim) (fun H27 s27 _ => ?_)
                    · refine ⟨_, rfl, ⟨_, rfl, _, rfl, D5, cs, es.filter (fun v => !isE u.d u.n v), T', rfl, T0, by omega, hD26, AR26, ER26, by omega, fun wq us6 qs6 H27 s27 hwq hprd6 hwq' A27 => ⟨wq, rfl, ⟨_, SqL.of hwq'⟩, fun D6 hD6 => lc_plc (K := K) hwq' (A27.mono fun _ _ z => s27 _ _ z) ?_ hD6 ?_ ?_⟩⟩⟩
                      · have := wrk_len hprd6 fl
                        rw [A27.1]
                        omega
                      · intro t v H28 N M ht s28 hN
                        exact ⟨rfl, _, rfl, t, _, _, _, rfl, rfl, SqT.of ht, rfl, _, rfl, t, _, _, _, rfl, rfl, SqT.of ht, rfl, (by show 2 ≤ sizeLine; decide), fun w hw => hN _ _ (Same.new hw) upd_same⟩
                      · intro H28 s28 hP28
                        have s2628 := s27.trans s28
                        have d1 : DL K H28 (.ref q5) (.list ((wrkE (es.filter fun v => !isE u.d u.n v) T' qs5).map plD)) 2 := dl_plc (hq26.same s2628)
                        have d2 : DL K H28 (.ref D6) (.list ((wrkE (es.filter fun v => !isE u.d u.n v) T' qs6).map plD)) 2 := dl_plc hP28
                        rw [wrk_uniq (es := es.filter fun v => !isE u.d u.n v) hprd6 hprd5] at d2
                        refine ne_dl d1 d2 (by decide) ⟨_, rfl, iteF ?_⟩
                        obtain ⟨dxr, hxr⟩ := id hru26
                        refine ⟨_, rfl, x, dxr, _, rfl, s2628 _ _ hxr, rfl, _, rfl, x, b, kd, { r with n := T' }, es2, es, rfl, hru26.mono s2628, rok', hB26.same s2628, (fun v hv => s2628 _ _ (E26 v hv)), by omega, S2, fun tq qs2 H29 s29 htq hprd2 hP29 => ?_⟩
                        rw [show wrkE es ({ r with n := T' } : Ru).n qs2 = W from (wrk_uniq hprd2 hprd).trans hW] at hP29
                        refine ⟨_, rfl, ne_dl (dl_plc hP29) (dl_plc (hP26.same (s2628.trans s29))) (by decide) ⟨_, rfl, rn _ (s2628.trans s29) id⟩⟩
                    · dsimp only [tNext]
                      have hB27 := hB26.same s27
                      obtain ⟨⟨dxb27, hb27⟩, _⟩ := id hB27
                      have lus : (us.map V.ref).length = es2.length := by rw [List.length_map, lus0, pe.length_eq]
                      refine ⟨_, rfl, b, dxb27, _, rfl, hb27, ⟨b, kd, es2, rfl, hB27, (es2.length : Nat), rfl, by omega, by have := pl; omega, ?_⟩⟩
                      refine ⟨_, rfl, D, us.map V.ref, rfl, .inl (SqL.of (s27 _ _ hE26)), ?_⟩
                      rw [lus]
                      refine ⟨rfl, ?_⟩
                      show ∃ c, V.bl (decide (V.int (es2.length : Nat) = V.int (es2.length : Nat))) = V.bl c ∧ _
                      refine ⟨_, rfl, ?_⟩
                      rw [decide_eq_true rfl]
                      obtain ⟨dxr27, hxr27⟩ := hru26.mono s27
                      refine iteT ⟨_, rfl, x, dxr27, _, rfl, hxr27, rfl, fun y dy hy hdy ndy => ⟨y, dy, rfl, upd_same, fun d hd => ⟨rfl, ?_⟩⟩⟩
                      have sn : Same H27 (upd (upd (upd (upd H27 dy (.own y)) y (.ins A.Book dy [])) d (.dT [])) y (.ins A.Book dy [("entries", .ref d)])) := by
                        refine fun c o e => ?_
                        have n1 := ne_of_none e hy
                        have n2 := ne_of_none e hdy
                        have e1 : upd (upd H27 dy (.own y)) y (.ins A.Book dy []) c = some o := by rw [upd_ne n1, upd_ne n2]; exact e
                        rw [upd_ne n1, upd_ne (ne_of_none e1 hd)]
                        exact e1
                      have nyd : y ≠ d := ne_of_none upd_same hd
                      have hBn : BookAt A.Book (upd (upd (upd (upd H27 dy (.own y)) y (.ins A.Book dy [])) d (.dT [])) y (.ins A.Book dy [("entries", .ref d)])) y d [] := ⟨⟨dy, upd_same⟩, by rw [upd_ne nyd.symm]; exact upd_same⟩
                      have hru28 := (hru26.mono s27).mono sn
                      generalize upd (upd (upd (upd H27 dy (.own y)) y (.ins A.Book dy [])) d (.dT [])) y (.ins A.Book dy [("entries", .ref d)]) = H28 at *
                      refine ⟨x, y, d, { r with n := T' }, [], [], rfl, hru28, rok', hBn, (fun v hv => (List.not_mem_nil hv).elim), (by show 0 < 60; decide), srtE_of (List.Perm.refl _) List.Pairwise.nil, fun tq qs2 H29 s29 htq hprd2 hP29 => ?_⟩
                      have we : wrkE [] T' qs2 = [] := by
                        unfold wrkE
                        by_cases c : T' = 0
                        · rw [if_pos c]
                        · rw [if_neg c]
                          have : qs2 = [] := List.eq_nil_iff_forall_not_mem.mpr fun z hz => by
                            obtain ⟨u, hu, _⟩ := ((hprd2 c).m z).mp hz
                            exact (List.not_mem_nil hu).elim
                          rw [this]
                          rfl
                      rw [show wrkE [] ({ r with n := T' } : Ru).n qs2 = [] from we] at hP29
                      obtain ⟨bs9, hq9, A9⟩ := hP29
                      have bn : bs9 = [] := List.eq_nil_of_length_eq_zero A9.1
                      rw [bn] at hq9
                      refine ⟨(by show 0 ≤ sizeLine; decide), fun eL heL => ?_⟩
                      have sE := Same.new (o := .lst []) heL
                      exact .mk ⟨tq, eL, [], rfl, rfl, SqL.of (sE _ _ hq9), SqL.of upd_same, k _⟩
end

theorem all_mk {l : PySem.W.OpenLaw} {w : World} {K : PySem.W.Frag} {h : Heap} {mg : Str → Option Value} {fa a_CostError a_NoRatio a_BadEntry a_NoEntry a_BadRule a_Short a_Trial a_Book a_Ratio a_Rule a_m_BadEntry_init a_m_NoEntry_init a_m_BadRule_init a_m_Short_init a_f_is_name a_f_is_number a_f_is_entry a_m_Trial_init a_m_Trial_enter a_m_Trial_exit a_m_Book_init a_m_Book_contains a_m_Book_len a_m_Book_getitem a_m_Book_setitem a_m_Book_remove a_m_Book_places a_m_Book_trial a_m_Book_tried a_m_Rule_init a_m_Rule_worked a_l_bag a_l_draw a_l_names a_l_pick a_l_mixed a_l_rule a_l_made a_l_next a_l_entries a_l_book a_l_worked a_l_inner a_f_law a_TAKES a_SPOTS : Addr} (X : K.In h) (G : h.Ns mainGlobals mg) (hfa : mg "law" = some (.ref fa))
    {od_m_BadEntry_init : Option Addr} {an_m_BadEntry_init : Option Addr} {sl_m_BadEntry_init : Array (Option Value)} {oc_m_BadEntry_init : Value} {kV_m_BadEntry_init : Value} {dc_m_BadEntry_init : Value} {pm_m_BadEntry_init : Value} {cd_m_BadEntry_init : Value} {ct_m_BadEntry_init : Value} {od_m_NoEntry_init : Option Addr} {an_m_NoEntry_init : Option Addr} {sl_m_NoEntry_init : Array (Option Value)} {oc_m_NoEntry_init : Value} {kV_m_NoEntry_init : Value} {dc_m_NoEntry_init : Value} {pm_m_NoEntry_init : Value} {cd_m_NoEntry_init : Value} {ct_m_NoEntry_init : Value} {od_m_BadRule_init : Option Addr} {an_m_BadRule_init : Option Addr} {sl_m_BadRule_init : Array (Option Value)} {oc_m_BadRule_init : Value} {kV_m_BadRule_init : Value} {dc_m_BadRule_init : Value} {pm_m_BadRule_init : Value} {cd_m_BadRule_init : Value} {ct_m_BadRule_init : Value} {od_m_Short_init : Option Addr} {an_m_Short_init : Option Addr} {sl_m_Short_init : Array (Option Value)} {oc_m_Short_init : Value} {kV_m_Short_init : Value} {dc_m_Short_init : Value} {pm_m_Short_init : Value} {cd_m_Short_init : Value} {ct_m_Short_init : Value} {od_f_is_name : Option Addr} {an_f_is_name : Option Addr} {sl_f_is_name : Array (Option Value)} {oc_f_is_name : Value} {kV_f_is_name : Value} {dc_f_is_name : Value} {pm_f_is_name : Value} {cd_f_is_name : Value} {ct_f_is_name : Value} {od_f_is_number : Option Addr} {an_f_is_number : Option Addr} {sl_f_is_number : Array (Option Value)} {oc_f_is_number : Value} {kV_f_is_number : Value} {dc_f_is_number : Value} {pm_f_is_number : Value} {cd_f_is_number : Value} {ct_f_is_number : Value} {od_f_is_entry : Option Addr} {an_f_is_entry : Option Addr} {sl_f_is_entry : Array (Option Value)} {oc_f_is_entry : Value} {kV_f_is_entry : Value} {dc_f_is_entry : Value} {pm_f_is_entry : Value} {cd_f_is_entry : Value} {ct_f_is_entry : Value} {od_m_Trial_init : Option Addr} {an_m_Trial_init : Option Addr} {sl_m_Trial_init : Array (Option Value)} {oc_m_Trial_init : Value} {kV_m_Trial_init : Value} {dc_m_Trial_init : Value} {pm_m_Trial_init : Value} {cd_m_Trial_init : Value} {ct_m_Trial_init : Value} {od_m_Trial_enter : Option Addr} {an_m_Trial_enter : Option Addr} {sl_m_Trial_enter : Array (Option Value)} {oc_m_Trial_enter : Value} {kV_m_Trial_enter : Value} {dc_m_Trial_enter : Value} {pm_m_Trial_enter : Value} {cd_m_Trial_enter : Value} {ct_m_Trial_enter : Value} {od_m_Trial_exit : Option Addr} {an_m_Trial_exit : Option Addr} {sl_m_Trial_exit : Array (Option Value)} {oc_m_Trial_exit : Value} {kV_m_Trial_exit : Value} {dc_m_Trial_exit : Value} {pm_m_Trial_exit : Value} {cd_m_Trial_exit : Value} {ct_m_Trial_exit : Value} {od_m_Book_init : Option Addr} {an_m_Book_init : Option Addr} {sl_m_Book_init : Array (Option Value)} {oc_m_Book_init : Value} {kV_m_Book_init : Value} {dc_m_Book_init : Value} {pm_m_Book_init : Value} {cd_m_Book_init : Value} {ct_m_Book_init : Value} {od_m_Book_contains : Option Addr} {an_m_Book_contains : Option Addr} {sl_m_Book_contains : Array (Option Value)} {oc_m_Book_contains : Value} {kV_m_Book_contains : Value} {dc_m_Book_contains : Value} {pm_m_Book_contains : Value} {cd_m_Book_contains : Value} {ct_m_Book_contains : Value} {od_m_Book_len : Option Addr} {an_m_Book_len : Option Addr} {sl_m_Book_len : Array (Option Value)} {oc_m_Book_len : Value} {kV_m_Book_len : Value} {dc_m_Book_len : Value} {pm_m_Book_len : Value} {cd_m_Book_len : Value} {ct_m_Book_len : Value} {od_m_Book_getitem : Option Addr} {an_m_Book_getitem : Option Addr} {sl_m_Book_getitem : Array (Option Value)} {oc_m_Book_getitem : Value} {kV_m_Book_getitem : Value} {dc_m_Book_getitem : Value} {pm_m_Book_getitem : Value} {cd_m_Book_getitem : Value} {ct_m_Book_getitem : Value} {od_m_Book_setitem : Option Addr} {an_m_Book_setitem : Option Addr} {sl_m_Book_setitem : Array (Option Value)} {oc_m_Book_setitem : Value} {kV_m_Book_setitem : Value} {dc_m_Book_setitem : Value} {pm_m_Book_setitem : Value} {cd_m_Book_setitem : Value} {ct_m_Book_setitem : Value} {od_m_Book_remove : Option Addr} {an_m_Book_remove : Option Addr} {sl_m_Book_remove : Array (Option Value)} {oc_m_Book_remove : Value} {kV_m_Book_remove : Value} {dc_m_Book_remove : Value} {pm_m_Book_remove : Value} {cd_m_Book_remove : Value} {ct_m_Book_remove : Value} {od_m_Book_places : Option Addr} {an_m_Book_places : Option Addr} {sl_m_Book_places : Array (Option Value)} {oc_m_Book_places : Value} {kV_m_Book_places : Value} {dc_m_Book_places : Value} {pm_m_Book_places : Value} {cd_m_Book_places : Value} {ct_m_Book_places : Value} {od_m_Book_trial : Option Addr} {an_m_Book_trial : Option Addr} {sl_m_Book_trial : Array (Option Value)} {oc_m_Book_trial : Value} {kV_m_Book_trial : Value} {dc_m_Book_trial : Value} {pm_m_Book_trial : Value} {cd_m_Book_trial : Value} {ct_m_Book_trial : Value} {od_m_Book_tried : Option Addr} {an_m_Book_tried : Option Addr} {sl_m_Book_tried : Array (Option Value)} {oc_m_Book_tried : Value} {kV_m_Book_tried : Value} {dc_m_Book_tried : Value} {pm_m_Book_tried : Value} {cd_m_Book_tried : Value} {ct_m_Book_tried : Value} {od_m_Rule_init : Option Addr} {an_m_Rule_init : Option Addr} {sl_m_Rule_init : Array (Option Value)} {oc_m_Rule_init : Value} {dc_m_Rule_init : Value} {pm_m_Rule_init : Value} {cd_m_Rule_init : Value} {ct_m_Rule_init : Value} {kd_m_Rule_init : Addr} {kk0_m_Rule_init : Tok} {kk1_m_Rule_init : Tok} {od_m_Rule_worked : Option Addr} {an_m_Rule_worked : Option Addr} {sl_m_Rule_worked : Array (Option Value)} {oc_m_Rule_worked : Value} {kV_m_Rule_worked : Value} {dc_m_Rule_worked : Value} {pm_m_Rule_worked : Value} {cd_m_Rule_worked : Value} {ct_m_Rule_worked : Value} {od_l_bag : Option Addr} {an_l_bag : Option Addr} {sl_l_bag : Array (Option Value)} {oc_l_bag : Value} {kV_l_bag : Value} {dc_l_bag : Value} {pm_l_bag : Value} {cd_l_bag : Value} {ct_l_bag : Value} {od_l_draw : Option Addr} {an_l_draw : Option Addr} {sl_l_draw : Array (Option Value)} {oc_l_draw : Value} {kV_l_draw : Value} {dc_l_draw : Value} {pm_l_draw : Value} {cd_l_draw : Value} {ct_l_draw : Value} {od_l_names : Option Addr} {an_l_names : Option Addr} {sl_l_names : Array (Option Value)} {oc_l_names : Value} {kV_l_names : Value} {dc_l_names : Value} {pm_l_names : Value} {cd_l_names : Value} {ct_l_names : Value} {od_l_pick : Option Addr} {an_l_pick : Option Addr} {sl_l_pick : Array (Option Value)} {oc_l_pick : Value} {kV_l_pick : Value} {dc_l_pick : Value} {pm_l_pick : Value} {cd_l_pick : Value} {ct_l_pick : Value} {od_l_mixed : Option Addr} {an_l_mixed : Option Addr} {sl_l_mixed : Array (Option Value)} {oc_l_mixed : Value} {kV_l_mixed : Value} {dc_l_mixed : Value} {pm_l_mixed : Value} {cd_l_mixed : Value} {ct_l_mixed : Value} {od_l_rule : Option Addr} {an_l_rule : Option Addr} {sl_l_rule : Array (Option Value)} {oc_l_rule : Value} {kV_l_rule : Value} {dc_l_rule : Value} {pm_l_rule : Value} {cd_l_rule : Value} {ct_l_rule : Value} {od_l_made : Option Addr} {an_l_made : Option Addr} {sl_l_made : Array (Option Value)} {oc_l_made : Value} {kV_l_made : Value} {dc_l_made : Value} {pm_l_made : Value} {cd_l_made : Value} {ct_l_made : Value} {od_l_next : Option Addr} {an_l_next : Option Addr} {sl_l_next : Array (Option Value)} {oc_l_next : Value} {kV_l_next : Value} {dc_l_next : Value} {pm_l_next : Value} {cd_l_next : Value} {ct_l_next : Value} {od_l_entries : Option Addr} {an_l_entries : Option Addr} {sl_l_entries : Array (Option Value)} {oc_l_entries : Value} {kV_l_entries : Value} {dc_l_entries : Value} {pm_l_entries : Value} {cd_l_entries : Value} {ct_l_entries : Value} {od_l_book : Option Addr} {an_l_book : Option Addr} {sl_l_book : Array (Option Value)} {oc_l_book : Value} {kV_l_book : Value} {dc_l_book : Value} {pm_l_book : Value} {cd_l_book : Value} {ct_l_book : Value} {od_l_worked : Option Addr} {an_l_worked : Option Addr} {sl_l_worked : Array (Option Value)} {oc_l_worked : Value} {kV_l_worked : Value} {dc_l_worked : Value} {pm_l_worked : Value} {cd_l_worked : Value} {ct_l_worked : Value} {od_l_inner : Option Addr} {an_l_inner : Option Addr} {sl_l_inner : Array (Option Value)} {oc_l_inner : Value} {kV_l_inner : Value} {dc_l_inner : Value} {pm_l_inner : Value} {cd_l_inner : Value} {ct_l_inner : Value} {od_f_law : Option Addr} {an_f_law : Option Addr} {sl_f_law : Array (Option Value)} {oc_f_law : Value} {kV_f_law : Value} {dc_f_law : Value} {pm_f_law : Value} {a_lcode : Addr} {a_ltab : Addr} {xe_law : Value} {xd_law : Option Addr} {xv_law : Array Value} {xs_law : Array (Option Value)} {ct_f_law : Value} {xnm_BadEntry : Str} {xq_BadEntry : Str} {xN_BadEntry : Addr} {xbs_BadEntry : List Value} {xbm_BadEntry : List Value} {xsn_BadEntry : List Str} {xsub_BadEntry : List Value} {xab_BadEntry : Bool} {xcol_BadEntry : Option Bool} {xdd_BadEntry : Option Addr} {xk0_BadEntry : Option Value} {xk1_BadEntry : Option Value} {xk2_BadEntry : Option Value} {xk3_BadEntry : Option Value} {xk5_BadEntry : Option Value} {xnm_NoEntry : Str} {xq_NoEntry : Str} {xN_NoEntry : Addr} {xbs_NoEntry : List Value} {xbm_NoEntry : List Value} {xsn_NoEntry : List Str} {xsub_NoEntry : List Value} {xab_NoEntry : Bool} {xcol_NoEntry : Option Bool} {xdd_NoEntry : Option Addr} {xk0_NoEntry : Option Value} {xk1_NoEntry : Option Value} {xk2_NoEntry : Option Value} {xk3_NoEntry : Option Value} {xk5_NoEntry : Option Value} {xnm_BadRule : Str} {xq_BadRule : Str} {xN_BadRule : Addr} {xbs_BadRule : List Value} {xbm_BadRule : List Value} {xsn_BadRule : List Str} {xsub_BadRule : List Value} {xab_BadRule : Bool} {xcol_BadRule : Option Bool} {xdd_BadRule : Option Addr} {xk0_BadRule : Option Value} {xk1_BadRule : Option Value} {xk2_BadRule : Option Value} {xk3_BadRule : Option Value} {xk5_BadRule : Option Value} {xnm_Short : Str} {xq_Short : Str} {xN_Short : Addr} {xbs_Short : List Value} {xbm_Short : List Value} {xsn_Short : List Str} {xsub_Short : List Value} {xab_Short : Bool} {xcol_Short : Option Bool} {xdd_Short : Option Addr} {xk0_Short : Option Value} {xk1_Short : Option Value} {xk2_Short : Option Value} {xk3_Short : Option Value} {xk5_Short : Option Value} {gt_LETTERS : Tok} {gt_LONGEST : Tok} {gt_MOST : Tok} {gt0_TAKES : Tok} {gt1_TAKES : Tok} {gt2_TAKES : Tok} {gn_TAKES : Nat} {gd_TAKES : Option Addr} {gs_TAKES : Array (Option Value)} {gt0_SPOTS : Tok} {gt1_SPOTS : Tok} {gt2_SPOTS : Tok} {gn_SPOTS : Nat} {gd_SPOTS : Option Addr} {gs_SPOTS : Array (Option Value)}
    (pz__law_held : PySem.W.nsIn K mainGlobals "_law_held" = some none)
    (pz_abs : PySem.W.nsIn K mainGlobals "abs" = some none)
    (pz_all : PySem.W.nsIn K mainGlobals "all" = some none)
    (pz_bool : PySem.W.nsIn K mainGlobals "bool" = some none)
    (pz_dict : PySem.W.nsIn K mainGlobals "dict" = some none)
    (pz_int : PySem.W.nsIn K mainGlobals "int" = some none)
    (pz_isinstance : PySem.W.nsIn K mainGlobals "isinstance" = some none)
    (pz_len : PySem.W.nsIn K mainGlobals "len" = some none)
    (pz_list : PySem.W.nsIn K mainGlobals "list" = some none)
    (pz_max : PySem.W.nsIn K mainGlobals "max" = some none)
    (pz_min : PySem.W.nsIn K mainGlobals "min" = some none)
    (pz_range : PySem.W.nsIn K mainGlobals "range" = some none)
    (pz_set : PySem.W.nsIn K mainGlobals "set" = some none)
    (pz_sorted : PySem.W.nsIn K mainGlobals "sorted" = some none)
    (pz_str : PySem.W.nsIn K mainGlobals "str" = some none)
    (pz_tuple : PySem.W.nsIn K mainGlobals "tuple" = some none)
    (pg_CostError : PySem.W.nsIn K mainGlobals "CostError" = some (some (.ref a_CostError)))
    (pek_CostError : PySem.W.keepIn K (.ref a_CostError) = true)
    (peb_CostError : PySem.W.subIn K (.ref a_CostError) (.type "BaseException") = some true)
    (pet_CostError : PySem.W.typeIn K (.ref a_CostError) = some (.type "type"))
    (peh_CostError : PySem.W.hasDictIn K a_CostError = true)
    (peic_CostError : PySem.W.isClsIn K a_CostError = true)
    (pes_CostError : PySem.W.subIn K (.ref a_CostError) (.ref a_CostError) = some true)
    (pxg_CostError : PySem.W.findIn K (.ref a_CostError) "__getattribute__" = some (some (.builtin "BaseException.__getattribute__")))
    (pxk_CostError : PySem.W.findIn K (.ref a_CostError) "__getattr__" = some none)
    (pxa_CostError : PySem.W.findIn K (.ref a_CostError) "__class__" = some (some (.builtin "object.__class__")))
    (pxn_CostError : PySem.W.specialIn K (.builtin "object.__class__") "__get__" = some (some (.builtin "getset_descriptor.__get__")))
    (pxt_CostError : PySem.W.takesIn K (.builtin "object.__class__") = some true)
    (pxm_CostError : PySem.W.mroIn K a_CostError (.type "object") = some true)
    (prd_CostError : PySem.W.readsIn K a_CostError (.type "type") = true)
    (pcg_CostError : PySem.W.specialIn K (.ref a_CostError) "__getattribute__" = some (some (.builtin "type.__getattribute__")))
    (pvi_CostError : PySem.W.findCls K (.ref a_CostError) (.type "type") "__init__" = some (.val (.builtin "ValueError.__init__")))
    (pg_NoRatio : PySem.W.nsIn K mainGlobals "NoRatio" = some (some (.ref a_NoRatio)))
    (pek_NoRatio : PySem.W.keepIn K (.ref a_NoRatio) = true)
    (peb_NoRatio : PySem.W.subIn K (.ref a_NoRatio) (.type "BaseException") = some true)
    (pet_NoRatio : PySem.W.typeIn K (.ref a_NoRatio) = some (.type "type"))
    (peh_NoRatio : PySem.W.hasDictIn K a_NoRatio = true)
    (peic_NoRatio : PySem.W.isClsIn K a_NoRatio = true)
    (pes_NoRatio : PySem.W.subIn K (.ref a_NoRatio) (.ref a_NoRatio) = some true)
    (pxg_NoRatio : PySem.W.findIn K (.ref a_NoRatio) "__getattribute__" = some (some (.builtin "BaseException.__getattribute__")))
    (pxk_NoRatio : PySem.W.findIn K (.ref a_NoRatio) "__getattr__" = some none)
    (pxa_NoRatio : PySem.W.findIn K (.ref a_NoRatio) "__class__" = some (some (.builtin "object.__class__")))
    (pxn_NoRatio : PySem.W.specialIn K (.builtin "object.__class__") "__get__" = some (some (.builtin "getset_descriptor.__get__")))
    (pxt_NoRatio : PySem.W.takesIn K (.builtin "object.__class__") = some true)
    (pxm_NoRatio : PySem.W.mroIn K a_NoRatio (.type "object") = some true)
    (pg_BadEntry : PySem.W.nsIn K mainGlobals "BadEntry" = some (some (.ref a_BadEntry)))
    (pek_BadEntry : PySem.W.keepIn K (.ref a_BadEntry) = true)
    (peb_BadEntry : PySem.W.subIn K (.ref a_BadEntry) (.type "BaseException") = some true)
    (pet_BadEntry : PySem.W.typeIn K (.ref a_BadEntry) = some (.type "type"))
    (peh_BadEntry : PySem.W.hasDictIn K a_BadEntry = true)
    (peic_BadEntry : PySem.W.isClsIn K a_BadEntry = true)
    (pes_BadEntry : PySem.W.subIn K (.ref a_BadEntry) (.ref a_BadEntry) = some true)
    (pxg_BadEntry : PySem.W.findIn K (.ref a_BadEntry) "__getattribute__" = some (some (.builtin "BaseException.__getattribute__")))
    (pxk_BadEntry : PySem.W.findIn K (.ref a_BadEntry) "__getattr__" = some none)
    (pxa_BadEntry : PySem.W.findIn K (.ref a_BadEntry) "__class__" = some (some (.builtin "object.__class__")))
    (pxn_BadEntry : PySem.W.specialIn K (.builtin "object.__class__") "__get__" = some (some (.builtin "getset_descriptor.__get__")))
    (pxt_BadEntry : PySem.W.takesIn K (.builtin "object.__class__") = some true)
    (pxm_BadEntry : PySem.W.mroIn K a_BadEntry (.type "object") = some true)
    (pn_BadEntry_day : PySem.W.findIn K (.ref a_BadEntry) "day" = some none)
    (pn_BadEntry_number : PySem.W.findIn K (.ref a_BadEntry) "number" = some none)
    (poi_BadEntry : PySem.W.findIn K (.ref a_BadEntry) "__init__" = some (some (.ref a_m_BadEntry_init)))
    (pot_BadEntry : PySem.W.typeIn K (.ref a_m_BadEntry_init) = some (.type "function"))
    (pol_BadEntry : K.lookup a_BadEntry = some (excClassObj xnm_BadEntry xq_BadEntry a_BadEntry xN_BadEntry xbs_BadEntry xbm_BadEntry true xsn_BadEntry xsub_BadEntry xab_BadEntry xcol_BadEntry xdd_BadEntry xk0_BadEntry xk1_BadEntry xk2_BadEntry xk3_BadEntry xk5_BadEntry "ValueError.__new__"))
    (pov_BadEntry : PySem.HandSPX.refsVE xbm_BadEntry = true)
    (posa_BadEntry : PySem.W.findIn K (.ref a_BadEntry) "__setattr__" = some (some (.builtin "object.__setattr__")))
    (pg_NoEntry : PySem.W.nsIn K mainGlobals "NoEntry" = some (some (.ref a_NoEntry)))
    (pek_NoEntry : PySem.W.keepIn K (.ref a_NoEntry) = true)
    (peb_NoEntry : PySem.W.subIn K (.ref a_NoEntry) (.type "BaseException") = some true)
    (pet_NoEntry : PySem.W.typeIn K (.ref a_NoEntry) = some (.type "type"))
    (peh_NoEntry : PySem.W.hasDictIn K a_NoEntry = true)
    (peic_NoEntry : PySem.W.isClsIn K a_NoEntry = true)
    (pes_NoEntry : PySem.W.subIn K (.ref a_NoEntry) (.ref a_NoEntry) = some true)
    (pxg_NoEntry : PySem.W.findIn K (.ref a_NoEntry) "__getattribute__" = some (some (.builtin "BaseException.__getattribute__")))
    (pxk_NoEntry : PySem.W.findIn K (.ref a_NoEntry) "__getattr__" = some none)
    (pxa_NoEntry : PySem.W.findIn K (.ref a_NoEntry) "__class__" = some (some (.builtin "object.__class__")))
    (pxn_NoEntry : PySem.W.specialIn K (.builtin "object.__class__") "__get__" = some (some (.builtin "getset_descriptor.__get__")))
    (pxt_NoEntry : PySem.W.takesIn K (.builtin "object.__class__") = some true)
    (pxm_NoEntry : PySem.W.mroIn K a_NoEntry (.type "object") = some true)
    (pn_NoEntry_day : PySem.W.findIn K (.ref a_NoEntry) "day" = some none)
    (pn_NoEntry_number : PySem.W.findIn K (.ref a_NoEntry) "number" = some none)
    (poi_NoEntry : PySem.W.findIn K (.ref a_NoEntry) "__init__" = some (some (.ref a_m_NoEntry_init)))
    (pot_NoEntry : PySem.W.typeIn K (.ref a_m_NoEntry_init) = some (.type "function"))
    (pol_NoEntry : K.lookup a_NoEntry = some (excClassObj xnm_NoEntry xq_NoEntry a_NoEntry xN_NoEntry xbs_NoEntry xbm_NoEntry true xsn_NoEntry xsub_NoEntry xab_NoEntry xcol_NoEntry xdd_NoEntry xk0_NoEntry xk1_NoEntry xk2_NoEntry xk3_NoEntry xk5_NoEntry "ValueError.__new__"))
    (pov_NoEntry : PySem.HandSPX.refsVE xbm_NoEntry = true)
    (posa_NoEntry : PySem.W.findIn K (.ref a_NoEntry) "__setattr__" = some (some (.builtin "object.__setattr__")))
    (pg_BadRule : PySem.W.nsIn K mainGlobals "BadRule" = some (some (.ref a_BadRule)))
    (pek_BadRule : PySem.W.keepIn K (.ref a_BadRule) = true)
    (peb_BadRule : PySem.W.subIn K (.ref a_BadRule) (.type "BaseException") = some true)
    (pet_BadRule : PySem.W.typeIn K (.ref a_BadRule) = some (.type "type"))
    (peh_BadRule : PySem.W.hasDictIn K a_BadRule = true)
    (peic_BadRule : PySem.W.isClsIn K a_BadRule = true)
    (pes_BadRule : PySem.W.subIn K (.ref a_BadRule) (.ref a_BadRule) = some true)
    (pxg_BadRule : PySem.W.findIn K (.ref a_BadRule) "__getattribute__" = some (some (.builtin "BaseException.__getattribute__")))
    (pxk_BadRule : PySem.W.findIn K (.ref a_BadRule) "__getattr__" = some none)
    (pxa_BadRule : PySem.W.findIn K (.ref a_BadRule) "__class__" = some (some (.builtin "object.__class__")))
    (pxn_BadRule : PySem.W.specialIn K (.builtin "object.__class__") "__get__" = some (some (.builtin "getset_descriptor.__get__")))
    (pxt_BadRule : PySem.W.takesIn K (.builtin "object.__class__") = some true)
    (pxm_BadRule : PySem.W.mroIn K a_BadRule (.type "object") = some true)
    (pn_BadRule_word : PySem.W.findIn K (.ref a_BadRule) "word" = some none)
    (poi_BadRule : PySem.W.findIn K (.ref a_BadRule) "__init__" = some (some (.ref a_m_BadRule_init)))
    (pot_BadRule : PySem.W.typeIn K (.ref a_m_BadRule_init) = some (.type "function"))
    (pol_BadRule : K.lookup a_BadRule = some (excClassObj xnm_BadRule xq_BadRule a_BadRule xN_BadRule xbs_BadRule xbm_BadRule true xsn_BadRule xsub_BadRule xab_BadRule xcol_BadRule xdd_BadRule xk0_BadRule xk1_BadRule xk2_BadRule xk3_BadRule xk5_BadRule "ValueError.__new__"))
    (pov_BadRule : PySem.HandSPX.refsVE xbm_BadRule = true)
    (posa_BadRule : PySem.W.findIn K (.ref a_BadRule) "__setattr__" = some (some (.builtin "object.__setattr__")))
    (pg_Short : PySem.W.nsIn K mainGlobals "Short" = some (some (.ref a_Short)))
    (pek_Short : PySem.W.keepIn K (.ref a_Short) = true)
    (peb_Short : PySem.W.subIn K (.ref a_Short) (.type "BaseException") = some true)
    (pet_Short : PySem.W.typeIn K (.ref a_Short) = some (.type "type"))
    (peh_Short : PySem.W.hasDictIn K a_Short = true)
    (peic_Short : PySem.W.isClsIn K a_Short = true)
    (pes_Short : PySem.W.subIn K (.ref a_Short) (.ref a_Short) = some true)
    (pxg_Short : PySem.W.findIn K (.ref a_Short) "__getattribute__" = some (some (.builtin "BaseException.__getattribute__")))
    (pxk_Short : PySem.W.findIn K (.ref a_Short) "__getattr__" = some none)
    (pxa_Short : PySem.W.findIn K (.ref a_Short) "__class__" = some (some (.builtin "object.__class__")))
    (pxn_Short : PySem.W.specialIn K (.builtin "object.__class__") "__get__" = some (some (.builtin "getset_descriptor.__get__")))
    (pxt_Short : PySem.W.takesIn K (.builtin "object.__class__") = some true)
    (pxm_Short : PySem.W.mroIn K a_Short (.type "object") = some true)
    (pn_Short_missing : PySem.W.findIn K (.ref a_Short) "missing" = some none)
    (poi_Short : PySem.W.findIn K (.ref a_Short) "__init__" = some (some (.ref a_m_Short_init)))
    (pot_Short : PySem.W.typeIn K (.ref a_m_Short_init) = some (.type "function"))
    (pol_Short : K.lookup a_Short = some (excClassObj xnm_Short xq_Short a_Short xN_Short xbs_Short xbm_Short true xsn_Short xsub_Short xab_Short xcol_Short xdd_Short xk0_Short xk1_Short xk2_Short xk3_Short xk5_Short "ValueError.__new__"))
    (pov_Short : PySem.HandSPX.refsVE xbm_Short = true)
    (posa_Short : PySem.W.findIn K (.ref a_Short) "__setattr__" = some (some (.builtin "object.__setattr__")))
    (pg_Trial : PySem.W.nsIn K mainGlobals "Trial" = some (some (.ref a_Trial)))
    (ppg_Trial : PySem.W.plainGet K a_Trial Str.empty = true)
    (phd_Trial : PySem.W.hasDictIn K a_Trial = true)
    (ppo_Trial : PySem.W.plainOver K a_Trial = true)
    (psa_Trial : PySem.W.findIn K (.ref a_Trial) "__setattr__" = some (some (.builtin "object.__setattr__")))
    (pn_Trial_book : NoAttr K a_Trial "book")
    (pn_Trial_kept : NoAttr K a_Trial "kept")
    (pma_Trial : PySem.W.makesIn K a_Trial = true)
    (pmi_Trial : PySem.W.findIn K (.ref a_Trial) "__init__" = some (some (.ref a_m_Trial_init)))
    (pmf_Trial : PySem.W.isFn K (.ref a_m_Trial_init) = true)
    (pmc_Trial : PySem.W.keepIn K (.ref a_Trial) = true)
    (pmt_m_Trial_enter : PySem.W.findIn K (.ref a_Trial) "__enter__" = some (some (.ref a_m_Trial_enter)))
    (pmn_m_Trial_enter : PySem.W.isFn K (.ref a_m_Trial_enter) = true)
    (pmk_m_Trial_enter : PySem.W.keepIn K (.ref a_m_Trial_enter) = true)
    (pmt_m_Trial_exit : PySem.W.findIn K (.ref a_Trial) "__exit__" = some (some (.ref a_m_Trial_exit)))
    (pmn_m_Trial_exit : PySem.W.isFn K (.ref a_m_Trial_exit) = true)
    (pmk_m_Trial_exit : PySem.W.keepIn K (.ref a_m_Trial_exit) = true)
    (pg_Book : PySem.W.nsIn K mainGlobals "Book" = some (some (.ref a_Book)))
    (ppg_Book : PySem.W.plainGet K a_Book Str.empty = true)
    (phd_Book : PySem.W.hasDictIn K a_Book = true)
    (ppo_Book : PySem.W.plainOver K a_Book = true)
    (psa_Book : PySem.W.findIn K (.ref a_Book) "__setattr__" = some (some (.builtin "object.__setattr__")))
    (pn_Book_entries : NoAttr K a_Book "entries")
    (pma_Book : PySem.W.makesIn K a_Book = true)
    (pmi_Book : PySem.W.findIn K (.ref a_Book) "__init__" = some (some (.ref a_m_Book_init)))
    (pmf_Book : PySem.W.isFn K (.ref a_m_Book_init) = true)
    (pmc_Book : PySem.W.keepIn K (.ref a_Book) = true)
    (pmt_m_Book_contains : PySem.W.findIn K (.ref a_Book) "__contains__" = some (some (.ref a_m_Book_contains)))
    (pmn_m_Book_contains : PySem.W.isFn K (.ref a_m_Book_contains) = true)
    (pmk_m_Book_contains : PySem.W.keepIn K (.ref a_m_Book_contains) = true)
    (pmt_m_Book_len : PySem.W.findIn K (.ref a_Book) "__len__" = some (some (.ref a_m_Book_len)))
    (pmn_m_Book_len : PySem.W.isFn K (.ref a_m_Book_len) = true)
    (pmk_m_Book_len : PySem.W.keepIn K (.ref a_m_Book_len) = true)
    (pmt_m_Book_getitem : PySem.W.findIn K (.ref a_Book) "__getitem__" = some (some (.ref a_m_Book_getitem)))
    (pmn_m_Book_getitem : PySem.W.isFn K (.ref a_m_Book_getitem) = true)
    (pmk_m_Book_getitem : PySem.W.keepIn K (.ref a_m_Book_getitem) = true)
    (pmt_m_Book_setitem : PySem.W.findIn K (.ref a_Book) "__setitem__" = some (some (.ref a_m_Book_setitem)))
    (pmn_m_Book_setitem : PySem.W.isFn K (.ref a_m_Book_setitem) = true)
    (pmk_m_Book_setitem : PySem.W.keepIn K (.ref a_m_Book_setitem) = true)
    (pmt_m_Book_remove : PySem.W.findIn K (.ref a_Book) "remove" = some (some (.ref a_m_Book_remove)))
    (pmn_m_Book_remove : PySem.W.isFn K (.ref a_m_Book_remove) = true)
    (pmk_m_Book_remove : PySem.W.keepIn K (.ref a_m_Book_remove) = true)
    (pmt_m_Book_places : PySem.W.findIn K (.ref a_Book) "places" = some (some (.ref a_m_Book_places)))
    (pmn_m_Book_places : PySem.W.isFn K (.ref a_m_Book_places) = true)
    (pmk_m_Book_places : PySem.W.keepIn K (.ref a_m_Book_places) = true)
    (pmt_m_Book_trial : PySem.W.findIn K (.ref a_Book) "trial" = some (some (.ref a_m_Book_trial)))
    (pmn_m_Book_trial : PySem.W.isFn K (.ref a_m_Book_trial) = true)
    (pmk_m_Book_trial : PySem.W.keepIn K (.ref a_m_Book_trial) = true)
    (pmt_m_Book_tried : PySem.W.findIn K (.ref a_Book) "tried" = some (some (.ref a_m_Book_tried)))
    (pmn_m_Book_tried : PySem.W.isFn K (.ref a_m_Book_tried) = true)
    (pmk_m_Book_tried : PySem.W.keepIn K (.ref a_m_Book_tried) = true)
    (pfgi_Book : PySem.W.fnIn K a_m_Book_getitem = true)
    (pnsq_Book : PySem.W.noSeq K a_Book = true)
    (pg_Ratio : PySem.W.nsIn K mainGlobals "Ratio" = some (some (.ref a_Ratio)))
    (ppg_Ratio : PySem.W.plainGet K a_Ratio Str.empty = true)
    (phd_Ratio : PySem.W.hasDictIn K a_Ratio = true)
    (ppo_Ratio : PySem.W.plainOver K a_Ratio = true)
    (psa_Ratio : PySem.W.findIn K (.ref a_Ratio) "__setattr__" = some (some (.builtin "object.__setattr__")))
    (pn_Ratio_top : NoAttr K a_Ratio "top")
    (pn_Ratio_bottom : NoAttr K a_Ratio "bottom")
    (pg_Rule : PySem.W.nsIn K mainGlobals "Rule" = some (some (.ref a_Rule)))
    (ppg_Rule : PySem.W.plainGet K a_Rule Str.empty = true)
    (phd_Rule : PySem.W.hasDictIn K a_Rule = true)
    (ppo_Rule : PySem.W.plainOver K a_Rule = true)
    (psa_Rule : PySem.W.findIn K (.ref a_Rule) "__setattr__" = some (some (.builtin "object.__setattr__")))
    (pn_Rule_take : NoAttr K a_Rule "take")
    (pn_Rule_place : NoAttr K a_Rule "place")
    (pn_Rule_period : NoAttr K a_Rule "period")
    (pma_Rule : PySem.W.makesIn K a_Rule = true)
    (pmi_Rule : PySem.W.findIn K (.ref a_Rule) "__init__" = some (some (.ref a_m_Rule_init)))
    (pmf_Rule : PySem.W.isFn K (.ref a_m_Rule_init) = true)
    (pmc_Rule : PySem.W.keepIn K (.ref a_Rule) = true)
    (pmt_m_Rule_worked : PySem.W.findIn K (.ref a_Rule) "worked" = some (some (.ref a_m_Rule_worked)))
    (pmn_m_Rule_worked : PySem.W.isFn K (.ref a_m_Rule_worked) = true)
    (pmk_m_Rule_worked : PySem.W.keepIn K (.ref a_m_Rule_worked) = true)
    (pg_LETTERS : PySem.W.nsIn K mainGlobals "LETTERS" = some (some (.str "abcdefghijklmnopqrstuvwxyz" gt_LETTERS)))
    (pg_LONGEST : PySem.W.nsIn K mainGlobals "LONGEST" = some (some (.int 12 gt_LONGEST)))
    (pg_MOST : PySem.W.nsIn K mainGlobals "MOST" = some (some (.int 1000000 gt_MOST)))
    (pg_TAKES : PySem.W.nsIn K mainGlobals "TAKES" = some (some (.ref a_TAKES)))
    (ptl_TAKES : K.lookup a_TAKES = some ⟨.type "tuple", gd_TAKES, .seq #[.str "oldest" gt0_TAKES, .str "newest" gt1_TAKES, .str "even" gt2_TAKES] gn_TAKES, gs_TAKES⟩)
    (pg_SPOTS : PySem.W.nsIn K mainGlobals "SPOTS" = some (some (.ref a_SPOTS)))
    (ptl_SPOTS : K.lookup a_SPOTS = some ⟨.type "tuple", gd_SPOTS, .seq #[.str "own" gt0_SPOTS, .str "top" gt1_SPOTS, .str "bottom" gt2_SPOTS] gn_SPOTS, gs_SPOTS⟩)
    (pe_m_BadEntry_init : PySem.W.findIn K (.ref a_BadEntry) "__init__" = some (some (.ref a_m_BadEntry_init)))
    (pl_m_BadEntry_init : K.lookup a_m_BadEntry_init = some ⟨oc_m_BadEntry_init, od_m_BadEntry_init, .func (PySem.W.fnOf "__init__" "BadEntry.__init__" (defArgs s_m_BadEntry_init) (defBody s_m_BadEntry_init) (defScope s_m_BadEntry_init) .none kV_m_BadEntry_init dc_m_BadEntry_init pm_m_BadEntry_init an_m_BadEntry_init cd_m_BadEntry_init ct_m_BadEntry_init), sl_m_BadEntry_init⟩)
    (pc_m_BadEntry_init : PySem.W.codeIn K cd_m_BadEntry_init "BadEntry.__init__" = true)
    (pq_m_BadEntry_init : PySem.W.keepIn K (.ref a_m_BadEntry_init) = true)
    (pe_m_NoEntry_init : PySem.W.findIn K (.ref a_NoEntry) "__init__" = some (some (.ref a_m_NoEntry_init)))
    (pl_m_NoEntry_init : K.lookup a_m_NoEntry_init = some ⟨oc_m_NoEntry_init, od_m_NoEntry_init, .func (PySem.W.fnOf "__init__" "NoEntry.__init__" (defArgs s_m_NoEntry_init) (defBody s_m_NoEntry_init) (defScope s_m_NoEntry_init) .none kV_m_NoEntry_init dc_m_NoEntry_init pm_m_NoEntry_init an_m_NoEntry_init cd_m_NoEntry_init ct_m_NoEntry_init), sl_m_NoEntry_init⟩)
    (pc_m_NoEntry_init : PySem.W.codeIn K cd_m_NoEntry_init "NoEntry.__init__" = true)
    (pq_m_NoEntry_init : PySem.W.keepIn K (.ref a_m_NoEntry_init) = true)
    (pe_m_BadRule_init : PySem.W.findIn K (.ref a_BadRule) "__init__" = some (some (.ref a_m_BadRule_init)))
    (pl_m_BadRule_init : K.lookup a_m_BadRule_init = some ⟨oc_m_BadRule_init, od_m_BadRule_init, .func (PySem.W.fnOf "__init__" "BadRule.__init__" (defArgs s_m_BadRule_init) (defBody s_m_BadRule_init) (defScope s_m_BadRule_init) .none kV_m_BadRule_init dc_m_BadRule_init pm_m_BadRule_init an_m_BadRule_init cd_m_BadRule_init ct_m_BadRule_init), sl_m_BadRule_init⟩)
    (pc_m_BadRule_init : PySem.W.codeIn K cd_m_BadRule_init "BadRule.__init__" = true)
    (pq_m_BadRule_init : PySem.W.keepIn K (.ref a_m_BadRule_init) = true)
    (pe_m_Short_init : PySem.W.findIn K (.ref a_Short) "__init__" = some (some (.ref a_m_Short_init)))
    (pl_m_Short_init : K.lookup a_m_Short_init = some ⟨oc_m_Short_init, od_m_Short_init, .func (PySem.W.fnOf "__init__" "Short.__init__" (defArgs s_m_Short_init) (defBody s_m_Short_init) (defScope s_m_Short_init) .none kV_m_Short_init dc_m_Short_init pm_m_Short_init an_m_Short_init cd_m_Short_init ct_m_Short_init), sl_m_Short_init⟩)
    (pc_m_Short_init : PySem.W.codeIn K cd_m_Short_init "Short.__init__" = true)
    (pq_m_Short_init : PySem.W.keepIn K (.ref a_m_Short_init) = true)
    (pa_f_is_name : PySem.W.nsIn K mainGlobals "is_name" = some (some (.ref a_f_is_name)))
    (pl_f_is_name : K.lookup a_f_is_name = some ⟨oc_f_is_name, od_f_is_name, .func (PySem.W.fnOf "is_name" "is_name" (defArgs s_f_is_name) (defBody s_f_is_name) (defScope s_f_is_name) .none kV_f_is_name dc_f_is_name pm_f_is_name an_f_is_name cd_f_is_name ct_f_is_name), sl_f_is_name⟩)
    (pc_f_is_name : PySem.W.codeIn K cd_f_is_name "is_name" = true)
    (pq_f_is_name : PySem.W.keepIn K (.ref a_f_is_name) = true)
    (pa_f_is_number : PySem.W.nsIn K mainGlobals "is_number" = some (some (.ref a_f_is_number)))
    (pl_f_is_number : K.lookup a_f_is_number = some ⟨oc_f_is_number, od_f_is_number, .func (PySem.W.fnOf "is_number" "is_number" (defArgs s_f_is_number) (defBody s_f_is_number) (defScope s_f_is_number) .none kV_f_is_number dc_f_is_number pm_f_is_number an_f_is_number cd_f_is_number ct_f_is_number), sl_f_is_number⟩)
    (pc_f_is_number : PySem.W.codeIn K cd_f_is_number "is_number" = true)
    (pq_f_is_number : PySem.W.keepIn K (.ref a_f_is_number) = true)
    (pa_f_is_entry : PySem.W.nsIn K mainGlobals "is_entry" = some (some (.ref a_f_is_entry)))
    (pl_f_is_entry : K.lookup a_f_is_entry = some ⟨oc_f_is_entry, od_f_is_entry, .func (PySem.W.fnOf "is_entry" "is_entry" (defArgs s_f_is_entry) (defBody s_f_is_entry) (defScope s_f_is_entry) .none kV_f_is_entry dc_f_is_entry pm_f_is_entry an_f_is_entry cd_f_is_entry ct_f_is_entry), sl_f_is_entry⟩)
    (pc_f_is_entry : PySem.W.codeIn K cd_f_is_entry "is_entry" = true)
    (pq_f_is_entry : PySem.W.keepIn K (.ref a_f_is_entry) = true)
    (pl_m_Trial_init : K.lookup a_m_Trial_init = some ⟨oc_m_Trial_init, od_m_Trial_init, .func (PySem.W.fnOf "__init__" "Trial.__init__" (defArgs s_m_Trial_init) (defBody s_m_Trial_init) (defScope s_m_Trial_init) .none kV_m_Trial_init dc_m_Trial_init pm_m_Trial_init an_m_Trial_init cd_m_Trial_init ct_m_Trial_init), sl_m_Trial_init⟩)
    (pc_m_Trial_init : PySem.W.codeIn K cd_m_Trial_init "Trial.__init__" = true)
    (pq_m_Trial_init : PySem.W.keepIn K (.ref a_m_Trial_init) = true)
    (pl_m_Trial_enter : K.lookup a_m_Trial_enter = some ⟨oc_m_Trial_enter, od_m_Trial_enter, .func (PySem.W.fnOf "__enter__" "Trial.__enter__" (defArgs s_m_Trial_enter) (defBody s_m_Trial_enter) (defScope s_m_Trial_enter) .none kV_m_Trial_enter dc_m_Trial_enter pm_m_Trial_enter an_m_Trial_enter cd_m_Trial_enter ct_m_Trial_enter), sl_m_Trial_enter⟩)
    (pc_m_Trial_enter : PySem.W.codeIn K cd_m_Trial_enter "Trial.__enter__" = true)
    (pq_m_Trial_enter : PySem.W.keepIn K (.ref a_m_Trial_enter) = true)
    (pl_m_Trial_exit : K.lookup a_m_Trial_exit = some ⟨oc_m_Trial_exit, od_m_Trial_exit, .func (PySem.W.fnOf "__exit__" "Trial.__exit__" (defArgs s_m_Trial_exit) (defBody s_m_Trial_exit) (defScope s_m_Trial_exit) .none kV_m_Trial_exit dc_m_Trial_exit pm_m_Trial_exit an_m_Trial_exit cd_m_Trial_exit ct_m_Trial_exit), sl_m_Trial_exit⟩)
    (pc_m_Trial_exit : PySem.W.codeIn K cd_m_Trial_exit "Trial.__exit__" = true)
    (pq_m_Trial_exit : PySem.W.keepIn K (.ref a_m_Trial_exit) = true)
    (pl_m_Book_init : K.lookup a_m_Book_init = some ⟨oc_m_Book_init, od_m_Book_init, .func (PySem.W.fnOf "__init__" "Book.__init__" (defArgs s_m_Book_init) (defBody s_m_Book_init) (defScope s_m_Book_init) .none kV_m_Book_init dc_m_Book_init pm_m_Book_init an_m_Book_init cd_m_Book_init ct_m_Book_init), sl_m_Book_init⟩)
    (pc_m_Book_init : PySem.W.codeIn K cd_m_Book_init "Book.__init__" = true)
    (pq_m_Book_init : PySem.W.keepIn K (.ref a_m_Book_init) = true)
    (pl_m_Book_contains : K.lookup a_m_Book_contains = some ⟨oc_m_Book_contains, od_m_Book_contains, .func (PySem.W.fnOf "__contains__" "Book.__contains__" (defArgs s_m_Book_contains) (defBody s_m_Book_contains) (defScope s_m_Book_contains) .none kV_m_Book_contains dc_m_Book_contains pm_m_Book_contains an_m_Book_contains cd_m_Book_contains ct_m_Book_contains), sl_m_Book_contains⟩)
    (pc_m_Book_contains : PySem.W.codeIn K cd_m_Book_contains "Book.__contains__" = true)
    (pq_m_Book_contains : PySem.W.keepIn K (.ref a_m_Book_contains) = true)
    (pl_m_Book_len : K.lookup a_m_Book_len = some ⟨oc_m_Book_len, od_m_Book_len, .func (PySem.W.fnOf "__len__" "Book.__len__" (defArgs s_m_Book_len) (defBody s_m_Book_len) (defScope s_m_Book_len) .none kV_m_Book_len dc_m_Book_len pm_m_Book_len an_m_Book_len cd_m_Book_len ct_m_Book_len), sl_m_Book_len⟩)
    (pc_m_Book_len : PySem.W.codeIn K cd_m_Book_len "Book.__len__" = true)
    (pq_m_Book_len : PySem.W.keepIn K (.ref a_m_Book_len) = true)
    (pl_m_Book_getitem : K.lookup a_m_Book_getitem = some ⟨oc_m_Book_getitem, od_m_Book_getitem, .func (PySem.W.fnOf "__getitem__" "Book.__getitem__" (defArgs s_m_Book_getitem) (defBody s_m_Book_getitem) (defScope s_m_Book_getitem) .none kV_m_Book_getitem dc_m_Book_getitem pm_m_Book_getitem an_m_Book_getitem cd_m_Book_getitem ct_m_Book_getitem), sl_m_Book_getitem⟩)
    (pc_m_Book_getitem : PySem.W.codeIn K cd_m_Book_getitem "Book.__getitem__" = true)
    (pq_m_Book_getitem : PySem.W.keepIn K (.ref a_m_Book_getitem) = true)
    (pl_m_Book_setitem : K.lookup a_m_Book_setitem = some ⟨oc_m_Book_setitem, od_m_Book_setitem, .func (PySem.W.fnOf "__setitem__" "Book.__setitem__" (defArgs s_m_Book_setitem) (defBody s_m_Book_setitem) (defScope s_m_Book_setitem) .none kV_m_Book_setitem dc_m_Book_setitem pm_m_Book_setitem an_m_Book_setitem cd_m_Book_setitem ct_m_Book_setitem), sl_m_Book_setitem⟩)
    (pc_m_Book_setitem : PySem.W.codeIn K cd_m_Book_setitem "Book.__setitem__" = true)
    (pq_m_Book_setitem : PySem.W.keepIn K (.ref a_m_Book_setitem) = true)
    (pl_m_Book_remove : K.lookup a_m_Book_remove = some ⟨oc_m_Book_remove, od_m_Book_remove, .func (PySem.W.fnOf "remove" "Book.remove" (defArgs s_m_Book_remove) (defBody s_m_Book_remove) (defScope s_m_Book_remove) .none kV_m_Book_remove dc_m_Book_remove pm_m_Book_remove an_m_Book_remove cd_m_Book_remove ct_m_Book_remove), sl_m_Book_remove⟩)
    (pc_m_Book_remove : PySem.W.codeIn K cd_m_Book_remove "Book.remove" = true)
    (pq_m_Book_remove : PySem.W.keepIn K (.ref a_m_Book_remove) = true)
    (pl_m_Book_places : K.lookup a_m_Book_places = some ⟨oc_m_Book_places, od_m_Book_places, .func (PySem.W.fnOf "places" "Book.places" (defArgs s_m_Book_places) (defBody s_m_Book_places) (defScope s_m_Book_places) .none kV_m_Book_places dc_m_Book_places pm_m_Book_places an_m_Book_places cd_m_Book_places ct_m_Book_places), sl_m_Book_places⟩)
    (pc_m_Book_places : PySem.W.codeIn K cd_m_Book_places "Book.places" = true)
    (pq_m_Book_places : PySem.W.keepIn K (.ref a_m_Book_places) = true)
    (pl_m_Book_trial : K.lookup a_m_Book_trial = some ⟨oc_m_Book_trial, od_m_Book_trial, .func (PySem.W.fnOf "trial" "Book.trial" (defArgs s_m_Book_trial) (defBody s_m_Book_trial) (defScope s_m_Book_trial) .none kV_m_Book_trial dc_m_Book_trial pm_m_Book_trial an_m_Book_trial cd_m_Book_trial ct_m_Book_trial), sl_m_Book_trial⟩)
    (pc_m_Book_trial : PySem.W.codeIn K cd_m_Book_trial "Book.trial" = true)
    (pq_m_Book_trial : PySem.W.keepIn K (.ref a_m_Book_trial) = true)
    (pl_m_Book_tried : K.lookup a_m_Book_tried = some ⟨oc_m_Book_tried, od_m_Book_tried, .func (PySem.W.fnOf "tried" "Book.tried" (defArgs s_m_Book_tried) (defBody s_m_Book_tried) (defScope s_m_Book_tried) .none kV_m_Book_tried dc_m_Book_tried pm_m_Book_tried an_m_Book_tried cd_m_Book_tried ct_m_Book_tried), sl_m_Book_tried⟩)
    (pc_m_Book_tried : PySem.W.codeIn K cd_m_Book_tried "Book.tried" = true)
    (pq_m_Book_tried : PySem.W.keepIn K (.ref a_m_Book_tried) = true)
    (pl_m_Rule_init : K.lookup a_m_Rule_init = some ⟨oc_m_Rule_init, od_m_Rule_init, .func (PySem.W.fnOf "__init__" "Rule.__init__" (defArgs s_m_Rule_init) (defBody s_m_Rule_init) (defScope s_m_Rule_init) .none (.ref kd_m_Rule_init) dc_m_Rule_init pm_m_Rule_init an_m_Rule_init cd_m_Rule_init ct_m_Rule_init), sl_m_Rule_init⟩)
    (pk0_m_Rule_init : PySem.W.nsIn K kd_m_Rule_init "place" = some (some (.str "own" kk0_m_Rule_init)))
    (pk1_m_Rule_init : PySem.W.nsIn K kd_m_Rule_init "period" = some (some (.int 0 kk1_m_Rule_init)))
    (pc_m_Rule_init : PySem.W.codeIn K cd_m_Rule_init "Rule.__init__" = true)
    (pq_m_Rule_init : PySem.W.keepIn K (.ref a_m_Rule_init) = true)
    (pl_m_Rule_worked : K.lookup a_m_Rule_worked = some ⟨oc_m_Rule_worked, od_m_Rule_worked, .func (PySem.W.fnOf "worked" "Rule.worked" (defArgs s_m_Rule_worked) (defBody s_m_Rule_worked) (defScope s_m_Rule_worked) .none kV_m_Rule_worked dc_m_Rule_worked pm_m_Rule_worked an_m_Rule_worked cd_m_Rule_worked ct_m_Rule_worked), sl_m_Rule_worked⟩)
    (pc_m_Rule_worked : PySem.W.codeIn K cd_m_Rule_worked "Rule.worked" = true)
    (pq_m_Rule_worked : PySem.W.keepIn K (.ref a_m_Rule_worked) = true)
    (pa_l_bag : PySem.W.nsIn K mainGlobals "_law_bag" = some (some (.ref a_l_bag)))
    (pl_l_bag : K.lookup a_l_bag = some ⟨oc_l_bag, od_l_bag, .func (PySem.W.fnOf "_law_bag" "_law_bag" (defArgs s_l_bag) (defBody s_l_bag) (defScope s_l_bag) .none kV_l_bag dc_l_bag pm_l_bag an_l_bag cd_l_bag ct_l_bag), sl_l_bag⟩)
    (pc_l_bag : PySem.W.codeIn K cd_l_bag "_law_bag" = true)
    (pq_l_bag : PySem.W.keepIn K (.ref a_l_bag) = true)
    (pa_l_draw : PySem.W.nsIn K mainGlobals "_law_draw" = some (some (.ref a_l_draw)))
    (pl_l_draw : K.lookup a_l_draw = some ⟨oc_l_draw, od_l_draw, .func (PySem.W.fnOf "_law_draw" "_law_draw" (defArgs s_l_draw) (defBody s_l_draw) (defScope s_l_draw) .none kV_l_draw dc_l_draw pm_l_draw an_l_draw cd_l_draw ct_l_draw), sl_l_draw⟩)
    (pc_l_draw : PySem.W.codeIn K cd_l_draw "_law_draw" = true)
    (pq_l_draw : PySem.W.keepIn K (.ref a_l_draw) = true)
    (pa_l_names : PySem.W.nsIn K mainGlobals "_law_names" = some (some (.ref a_l_names)))
    (pl_l_names : K.lookup a_l_names = some ⟨oc_l_names, od_l_names, .func (PySem.W.fnOf "_law_names" "_law_names" (defArgs s_l_names) (defBody s_l_names) (defScope s_l_names) .none kV_l_names dc_l_names pm_l_names an_l_names cd_l_names ct_l_names), sl_l_names⟩)
    (pc_l_names : PySem.W.codeIn K cd_l_names "_law_names" = true)
    (pq_l_names : PySem.W.keepIn K (.ref a_l_names) = true)
    (pa_l_pick : PySem.W.nsIn K mainGlobals "_law_pick" = some (some (.ref a_l_pick)))
    (pl_l_pick : K.lookup a_l_pick = some ⟨oc_l_pick, od_l_pick, .func (PySem.W.fnOf "_law_pick" "_law_pick" (defArgs s_l_pick) (defBody s_l_pick) (defScope s_l_pick) .none kV_l_pick dc_l_pick pm_l_pick an_l_pick cd_l_pick ct_l_pick), sl_l_pick⟩)
    (pc_l_pick : PySem.W.codeIn K cd_l_pick "_law_pick" = true)
    (pq_l_pick : PySem.W.keepIn K (.ref a_l_pick) = true)
    (pa_l_mixed : PySem.W.nsIn K mainGlobals "_law_mixed" = some (some (.ref a_l_mixed)))
    (pl_l_mixed : K.lookup a_l_mixed = some ⟨oc_l_mixed, od_l_mixed, .func (PySem.W.fnOf "_law_mixed" "_law_mixed" (defArgs s_l_mixed) (defBody s_l_mixed) (defScope s_l_mixed) .none kV_l_mixed dc_l_mixed pm_l_mixed an_l_mixed cd_l_mixed ct_l_mixed), sl_l_mixed⟩)
    (pc_l_mixed : PySem.W.codeIn K cd_l_mixed "_law_mixed" = true)
    (pq_l_mixed : PySem.W.keepIn K (.ref a_l_mixed) = true)
    (pa_l_rule : PySem.W.nsIn K mainGlobals "_law_rule" = some (some (.ref a_l_rule)))
    (pl_l_rule : K.lookup a_l_rule = some ⟨oc_l_rule, od_l_rule, .func (PySem.W.fnOf "_law_rule" "_law_rule" (defArgs s_l_rule) (defBody s_l_rule) (defScope s_l_rule) .none kV_l_rule dc_l_rule pm_l_rule an_l_rule cd_l_rule ct_l_rule), sl_l_rule⟩)
    (pc_l_rule : PySem.W.codeIn K cd_l_rule "_law_rule" = true)
    (pq_l_rule : PySem.W.keepIn K (.ref a_l_rule) = true)
    (pa_l_made : PySem.W.nsIn K mainGlobals "_law_made" = some (some (.ref a_l_made)))
    (pl_l_made : K.lookup a_l_made = some ⟨oc_l_made, od_l_made, .func (PySem.W.fnOf "_law_made" "_law_made" (defArgs s_l_made) (defBody s_l_made) (defScope s_l_made) .none kV_l_made dc_l_made pm_l_made an_l_made cd_l_made ct_l_made), sl_l_made⟩)
    (pc_l_made : PySem.W.codeIn K cd_l_made "_law_made" = true)
    (pq_l_made : PySem.W.keepIn K (.ref a_l_made) = true)
    (pa_l_next : PySem.W.nsIn K mainGlobals "_law_next" = some (some (.ref a_l_next)))
    (pl_l_next : K.lookup a_l_next = some ⟨oc_l_next, od_l_next, .func (PySem.W.fnOf "_law_next" "_law_next" (defArgs s_l_next) (defBody s_l_next) (defScope s_l_next) .none kV_l_next dc_l_next pm_l_next an_l_next cd_l_next ct_l_next), sl_l_next⟩)
    (pc_l_next : PySem.W.codeIn K cd_l_next "_law_next" = true)
    (pq_l_next : PySem.W.keepIn K (.ref a_l_next) = true)
    (pa_l_entries : PySem.W.nsIn K mainGlobals "_law_entries" = some (some (.ref a_l_entries)))
    (pl_l_entries : K.lookup a_l_entries = some ⟨oc_l_entries, od_l_entries, .func (PySem.W.fnOf "_law_entries" "_law_entries" (defArgs s_l_entries) (defBody s_l_entries) (defScope s_l_entries) .none kV_l_entries dc_l_entries pm_l_entries an_l_entries cd_l_entries ct_l_entries), sl_l_entries⟩)
    (pc_l_entries : PySem.W.codeIn K cd_l_entries "_law_entries" = true)
    (pq_l_entries : PySem.W.keepIn K (.ref a_l_entries) = true)
    (pa_l_book : PySem.W.nsIn K mainGlobals "_law_book" = some (some (.ref a_l_book)))
    (pl_l_book : K.lookup a_l_book = some ⟨oc_l_book, od_l_book, .func (PySem.W.fnOf "_law_book" "_law_book" (defArgs s_l_book) (defBody s_l_book) (defScope s_l_book) .none kV_l_book dc_l_book pm_l_book an_l_book cd_l_book ct_l_book), sl_l_book⟩)
    (pc_l_book : PySem.W.codeIn K cd_l_book "_law_book" = true)
    (pq_l_book : PySem.W.keepIn K (.ref a_l_book) = true)
    (pa_l_worked : PySem.W.nsIn K mainGlobals "_law_worked" = some (some (.ref a_l_worked)))
    (pl_l_worked : K.lookup a_l_worked = some ⟨oc_l_worked, od_l_worked, .func (PySem.W.fnOf "_law_worked" "_law_worked" (defArgs s_l_worked) (defBody s_l_worked) (defScope s_l_worked) .none kV_l_worked dc_l_worked pm_l_worked an_l_worked cd_l_worked ct_l_worked), sl_l_worked⟩)
    (pc_l_worked : PySem.W.codeIn K cd_l_worked "_law_worked" = true)
    (pq_l_worked : PySem.W.keepIn K (.ref a_l_worked) = true)
    (pa_l_inner : PySem.W.nsIn K mainGlobals "_law_inner" = some (some (.ref a_l_inner)))
    (pl_l_inner : K.lookup a_l_inner = some ⟨oc_l_inner, od_l_inner, .func (PySem.W.fnOf "_law_inner" "_law_inner" (defArgs s_l_inner) (defBody s_l_inner) (defScope s_l_inner) .none kV_l_inner dc_l_inner pm_l_inner an_l_inner cd_l_inner ct_l_inner), sl_l_inner⟩)
    (pc_l_inner : PySem.W.codeIn K cd_l_inner "_law_inner" = true)
    (pq_l_inner : PySem.W.keepIn K (.ref a_l_inner) = true)
    (pa_f_law : PySem.W.nsIn K mainGlobals "law" = some (some (.ref a_f_law)))
    (pl_f_law : K.lookup a_f_law = some ⟨oc_f_law, od_f_law, .func (PySem.W.fnOf "law" "law" (defArgs s_f_law) (defBody s_f_law) (defScope s_f_law) .none kV_f_law dc_f_law pm_f_law an_f_law (.ref a_lcode) ct_f_law), sl_f_law⟩)
    (pc_f_law : PySem.W.codeIn K (.ref a_lcode) "law" = true)
    (pt_c : K.lookup a_lcode = some ⟨xe_law, xd_law, .fields xv_law, xs_law⟩)
    (pt_11 : xv_law[11]? = some (.ref a_ltab))
    (pt_h : PySem.W.codeHdIn K a_lcode a_ltab = true)
    (pt_n : K.lookup a_ltab = none)
    (pq_f_law : PySem.W.keepIn K (.ref a_f_law) = true)
    (own : LamX.OwnTab K fa h) : LamX.LawAtS l w K CX0 16 63 "_law_script" mg fa h := by
  have e := hfa.symm.trans (PySem.W.mg_of X G pa_f_law)
  cases e
  have F_m_BadEntry_init := fun_mk (st := s_m_BadEntry_init) pl_m_BadEntry_init pc_m_BadEntry_init pq_m_BadEntry_init
  have b_m_BadEntry_init := F_m_BadEntry_init.binds (ps := P_m_BadEntry_init) fun _ _ _ _ _ _ us hl => match us, hl with | [_, _, _], _ => rfl
  have F_m_NoEntry_init := fun_mk (st := s_m_NoEntry_init) pl_m_NoEntry_init pc_m_NoEntry_init pq_m_NoEntry_init
  have b_m_NoEntry_init := F_m_NoEntry_init.binds (ps := P_m_NoEntry_init) fun _ _ _ _ _ _ us hl => match us, hl with | [_, _, _], _ => rfl
  have F_m_BadRule_init := fun_mk (st := s_m_BadRule_init) pl_m_BadRule_init pc_m_BadRule_init pq_m_BadRule_init
  have b_m_BadRule_init := F_m_BadRule_init.binds (ps := P_m_BadRule_init) fun _ _ _ _ _ _ us hl => match us, hl with | [_, _], _ => rfl
  have F_m_Short_init := fun_mk (st := s_m_Short_init) pl_m_Short_init pc_m_Short_init pq_m_Short_init
  have b_m_Short_init := F_m_Short_init.binds (ps := P_m_Short_init) fun _ _ _ _ _ _ us hl => match us, hl with | [_, _], _ => rfl
  have F_f_is_name := fun_mk (st := s_f_is_name) pl_f_is_name pc_f_is_name pq_f_is_name
  have b_f_is_name := F_f_is_name.binds (ps := P_f_is_name) fun _ _ _ _ _ _ us hl => match us, hl with | [_], _ => rfl
  have F_f_is_number := fun_mk (st := s_f_is_number) pl_f_is_number pc_f_is_number pq_f_is_number
  have b_f_is_number := F_f_is_number.binds (ps := P_f_is_number) fun _ _ _ _ _ _ us hl => match us, hl with | [_, _], _ => rfl
  have F_f_is_entry := fun_mk (st := s_f_is_entry) pl_f_is_entry pc_f_is_entry pq_f_is_entry
  have b_f_is_entry := F_f_is_entry.binds (ps := P_f_is_entry) fun _ _ _ _ _ _ us hl => match us, hl with | [_], _ => rfl
  have F_m_Trial_init := fun_mk (st := s_m_Trial_init) pl_m_Trial_init pc_m_Trial_init pq_m_Trial_init
  have b_m_Trial_init := F_m_Trial_init.binds (ps := P_m_Trial_init) fun _ _ _ _ _ _ us hl => match us, hl with | [_, _], _ => rfl
  have F_m_Trial_enter := fun_mk (st := s_m_Trial_enter) pl_m_Trial_enter pc_m_Trial_enter pq_m_Trial_enter
  have b_m_Trial_enter := F_m_Trial_enter.binds (ps := P_m_Trial_enter) fun _ _ _ _ _ _ us hl => match us, hl with | [_], _ => rfl
  have F_m_Trial_exit := fun_mk (st := s_m_Trial_exit) pl_m_Trial_exit pc_m_Trial_exit pq_m_Trial_exit
  have b_m_Trial_exit := F_m_Trial_exit.binds (ps := P_m_Trial_exit) fun _ _ _ _ _ _ us hl => match us, hl with | [_, _, _, _], _ => rfl
  have F_m_Book_init := fun_mk (st := s_m_Book_init) pl_m_Book_init pc_m_Book_init pq_m_Book_init
  have b_m_Book_init := F_m_Book_init.binds (ps := P_m_Book_init) fun _ _ _ _ _ _ us hl => match us, hl with | [_], _ => rfl
  have F_m_Book_contains := fun_mk (st := s_m_Book_contains) pl_m_Book_contains pc_m_Book_contains pq_m_Book_contains
  have b_m_Book_contains := F_m_Book_contains.binds (ps := P_m_Book_contains) fun _ _ _ _ _ _ us hl => match us, hl with | [_, _], _ => rfl
  have F_m_Book_len := fun_mk (st := s_m_Book_len) pl_m_Book_len pc_m_Book_len pq_m_Book_len
  have b_m_Book_len := F_m_Book_len.binds (ps := P_m_Book_len) fun _ _ _ _ _ _ us hl => match us, hl with | [_], _ => rfl
  have F_m_Book_getitem := fun_mk (st := s_m_Book_getitem) pl_m_Book_getitem pc_m_Book_getitem pq_m_Book_getitem
  have b_m_Book_getitem := F_m_Book_getitem.binds (ps := P_m_Book_getitem) fun _ _ _ _ _ _ us hl => match us, hl with | [_, _], _ => rfl
  have F_m_Book_setitem := fun_mk (st := s_m_Book_setitem) pl_m_Book_setitem pc_m_Book_setitem pq_m_Book_setitem
  have b_m_Book_setitem := F_m_Book_setitem.binds (ps := P_m_Book_setitem) fun _ _ _ _ _ _ us hl => match us, hl with | [_, _, _], _ => rfl
  have F_m_Book_remove := fun_mk (st := s_m_Book_remove) pl_m_Book_remove pc_m_Book_remove pq_m_Book_remove
  have b_m_Book_remove := F_m_Book_remove.binds (ps := P_m_Book_remove) fun _ _ _ _ _ _ us hl => match us, hl with | [_, _, _], _ => rfl
  have F_m_Book_places := fun_mk (st := s_m_Book_places) pl_m_Book_places pc_m_Book_places pq_m_Book_places
  have b_m_Book_places := F_m_Book_places.binds (ps := P_m_Book_places) fun _ _ _ _ _ _ us hl => match us, hl with | [_], _ => rfl
  have F_m_Book_trial := fun_mk (st := s_m_Book_trial) pl_m_Book_trial pc_m_Book_trial pq_m_Book_trial
  have b_m_Book_trial := F_m_Book_trial.binds (ps := P_m_Book_trial) fun _ _ _ _ _ _ us hl => match us, hl with | [_], _ => rfl
  have F_m_Book_tried := fun_mk (st := s_m_Book_tried) pl_m_Book_tried pc_m_Book_tried pq_m_Book_tried
  have b_m_Book_tried := F_m_Book_tried.binds (ps := P_m_Book_tried) fun _ _ _ _ _ _ us hl => match us, hl with | [_, _], _ => rfl
  have F_m_Rule_init : FunD K "__init__" "Rule.__init__" (defArgs s_m_Rule_init) (defBody s_m_Rule_init) (defScope s_m_Rule_init) [] [("place", .str "own"), ("period", .int 0)] a_m_Rule_init (PySem.W.fnOf "__init__" "Rule.__init__" (defArgs s_m_Rule_init) (defBody s_m_Rule_init) (defScope s_m_Rule_init) .none (.ref kd_m_Rule_init) dc_m_Rule_init pm_m_Rule_init an_m_Rule_init cd_m_Rule_init ct_m_Rule_init) := ⟨⟨_, _, _, _, _, _, _, _, _, _, rfl, pl_m_Rule_init, pc_m_Rule_init, (.inl ⟨rfl, rfl⟩), (.inr ⟨_, rfl, fun q hq => by
      simp only [List.mem_cons, List.not_mem_nil, or_false] at hq
      rcases hq with rfl | rfl
      · exact ⟨_, pk0_m_Rule_init, ⟨_, rfl⟩⟩
      · exact ⟨_, pk1_m_Rule_init, ⟨_, rfl⟩⟩⟩)⟩, pq_m_Rule_init⟩
  have F_m_Rule_worked := fun_mk (st := s_m_Rule_worked) pl_m_Rule_worked pc_m_Rule_worked pq_m_Rule_worked
  have b_m_Rule_worked := F_m_Rule_worked.binds (ps := P_m_Rule_worked) fun _ _ _ _ _ _ us hl => match us, hl with | [_, _], _ => rfl
  have F_l_bag := fun_mk (st := s_l_bag) pl_l_bag pc_l_bag pq_l_bag
  have b_l_bag := F_l_bag.binds (ps := P_l_bag) fun _ _ _ _ _ _ us hl => match us, hl with | [_], _ => rfl
  have F_l_draw := fun_mk (st := s_l_draw) pl_l_draw pc_l_draw pq_l_draw
  have b_l_draw := F_l_draw.binds (ps := P_l_draw) fun _ _ _ _ _ _ us hl => match us, hl with | [_, _], _ => rfl
  have F_l_names := fun_mk (st := s_l_names) pl_l_names pc_l_names pq_l_names
  have b_l_names := F_l_names.binds (ps := P_l_names) fun _ _ _ _ _ _ us hl => match us, hl with | [_, _, _], _ => rfl
  have F_l_pick := fun_mk (st := s_l_pick) pl_l_pick pc_l_pick pq_l_pick
  have b_l_pick := F_l_pick.binds (ps := P_l_pick) fun _ _ _ _ _ _ us hl => match us, hl with | [_, _], _ => rfl
  have F_l_mixed := fun_mk (st := s_l_mixed) pl_l_mixed pc_l_mixed pq_l_mixed
  have b_l_mixed := F_l_mixed.binds (ps := P_l_mixed) fun _ _ _ _ _ _ us hl => match us, hl with | [_, _], _ => rfl
  have F_l_rule := fun_mk (st := s_l_rule) pl_l_rule pc_l_rule pq_l_rule
  have b_l_rule := F_l_rule.binds (ps := P_l_rule) fun _ _ _ _ _ _ us hl => match us, hl with | [_], _ => rfl
  have F_l_made := fun_mk (st := s_l_made) pl_l_made pc_l_made pq_l_made
  have b_l_made := F_l_made.binds (ps := P_l_made) fun _ _ _ _ _ _ us hl => match us, hl with | [_], _ => rfl
  have F_l_next := fun_mk (st := s_l_next) pl_l_next pc_l_next pq_l_next
  have b_l_next := F_l_next.binds (ps := P_l_next) fun _ _ _ _ _ _ us hl => match us, hl with | [_, _], _ => rfl
  have F_l_entries := fun_mk (st := s_l_entries) pl_l_entries pc_l_entries pq_l_entries
  have b_l_entries := F_l_entries.binds (ps := P_l_entries) fun _ _ _ _ _ _ us hl => match us, hl with | [_, _], _ => rfl
  have F_l_book := fun_mk (st := s_l_book) pl_l_book pc_l_book pq_l_book
  have b_l_book := F_l_book.binds (ps := P_l_book) fun _ _ _ _ _ _ us hl => match us, hl with | [_], _ => rfl
  have F_l_worked := fun_mk (st := s_l_worked) pl_l_worked pc_l_worked pq_l_worked
  have b_l_worked := F_l_worked.binds (ps := P_l_worked) fun _ _ _ _ _ _ us hl => match us, hl with | [_, _], _ => rfl
  have F_l_inner := fun_mk (st := s_l_inner) pl_l_inner pc_l_inner pq_l_inner
  have b_l_inner := F_l_inner.binds (ps := P_l_inner) fun _ _ _ _ _ _ us hl => match us, hl with | [_, _, _, _], _ => rfl
  have F_f_law := fun_mk (st := s_f_law) pl_f_law pc_f_law pq_f_law
  have b_f_law := F_f_law.binds (ps := P_f_law) fun _ _ _ _ _ _ us hl => match us, hl with | [_], _ => rfl
  have T : Txt K mg ⟨a_CostError, a_NoRatio, a_BadEntry, a_NoEntry, a_BadRule, a_Short, a_Trial, a_Book, a_Ratio, a_Rule, a_m_BadEntry_init, (PySem.W.fnOf "__init__" "BadEntry.__init__" (defArgs s_m_BadEntry_init) (defBody s_m_BadEntry_init) (defScope s_m_BadEntry_init) .none kV_m_BadEntry_init dc_m_BadEntry_init pm_m_BadEntry_init an_m_BadEntry_init cd_m_BadEntry_init ct_m_BadEntry_init), a_m_NoEntry_init, (PySem.W.fnOf "__init__" "NoEntry.__init__" (defArgs s_m_NoEntry_init) (defBody s_m_NoEntry_init) (defScope s_m_NoEntry_init) .none kV_m_NoEntry_init dc_m_NoEntry_init pm_m_NoEntry_init an_m_NoEntry_init cd_m_NoEntry_init ct_m_NoEntry_init), a_m_BadRule_init, (PySem.W.fnOf "__init__" "BadRule.__init__" (defArgs s_m_BadRule_init) (defBody s_m_BadRule_init) (defScope s_m_BadRule_init) .none kV_m_BadRule_init dc_m_BadRule_init pm_m_BadRule_init an_m_BadRule_init cd_m_BadRule_init ct_m_BadRule_init), a_m_Short_init, (PySem.W.fnOf "__init__" "Short.__init__" (defArgs s_m_Short_init) (defBody s_m_Short_init) (defScope s_m_Short_init) .none kV_m_Short_init dc_m_Short_init pm_m_Short_init an_m_Short_init cd_m_Short_init ct_m_Short_init), a_f_is_name, (PySem.W.fnOf "is_name" "is_name" (defArgs s_f_is_name) (defBody s_f_is_name) (defScope s_f_is_name) .none kV_f_is_name dc_f_is_name pm_f_is_name an_f_is_name cd_f_is_name ct_f_is_name), a_f_is_number, (PySem.W.fnOf "is_number" "is_number" (defArgs s_f_is_number) (defBody s_f_is_number) (defScope s_f_is_number) .none kV_f_is_number dc_f_is_number pm_f_is_number an_f_is_number cd_f_is_number ct_f_is_number), a_f_is_entry, (PySem.W.fnOf "is_entry" "is_entry" (defArgs s_f_is_entry) (defBody s_f_is_entry) (defScope s_f_is_entry) .none kV_f_is_entry dc_f_is_entry pm_f_is_entry an_f_is_entry cd_f_is_entry ct_f_is_entry), a_m_Trial_init, (PySem.W.fnOf "__init__" "Trial.__init__" (defArgs s_m_Trial_init) (defBody s_m_Trial_init) (defScope s_m_Trial_init) .none kV_m_Trial_init dc_m_Trial_init pm_m_Trial_init an_m_Trial_init cd_m_Trial_init ct_m_Trial_init), a_m_Trial_enter, (PySem.W.fnOf "__enter__" "Trial.__enter__" (defArgs s_m_Trial_enter) (defBody s_m_Trial_enter) (defScope s_m_Trial_enter) .none kV_m_Trial_enter dc_m_Trial_enter pm_m_Trial_enter an_m_Trial_enter cd_m_Trial_enter ct_m_Trial_enter), a_m_Trial_exit, (PySem.W.fnOf "__exit__" "Trial.__exit__" (defArgs s_m_Trial_exit) (defBody s_m_Trial_exit) (defScope s_m_Trial_exit) .none kV_m_Trial_exit dc_m_Trial_exit pm_m_Trial_exit an_m_Trial_exit cd_m_Trial_exit ct_m_Trial_exit), a_m_Book_init, (PySem.W.fnOf "__init__" "Book.__init__" (defArgs s_m_Book_init) (defBody s_m_Book_init) (defScope s_m_Book_init) .none kV_m_Book_init dc_m_Book_init pm_m_Book_init an_m_Book_init cd_m_Book_init ct_m_Book_init), a_m_Book_contains, (PySem.W.fnOf "__contains__" "Book.__contains__" (defArgs s_m_Book_contains) (defBody s_m_Book_contains) (defScope s_m_Book_contains) .none kV_m_Book_contains dc_m_Book_contains pm_m_Book_contains an_m_Book_contains cd_m_Book_contains ct_m_Book_contains), a_m_Book_len, (PySem.W.fnOf "__len__" "Book.__len__" (defArgs s_m_Book_len) (defBody s_m_Book_len) (defScope s_m_Book_len) .none kV_m_Book_len dc_m_Book_len pm_m_Book_len an_m_Book_len cd_m_Book_len ct_m_Book_len), a_m_Book_getitem, (PySem.W.fnOf "__getitem__" "Book.__getitem__" (defArgs s_m_Book_getitem) (defBody s_m_Book_getitem) (defScope s_m_Book_getitem) .none kV_m_Book_getitem dc_m_Book_getitem pm_m_Book_getitem an_m_Book_getitem cd_m_Book_getitem ct_m_Book_getitem), a_m_Book_setitem, (PySem.W.fnOf "__setitem__" "Book.__setitem__" (defArgs s_m_Book_setitem) (defBody s_m_Book_setitem) (defScope s_m_Book_setitem) .none kV_m_Book_setitem dc_m_Book_setitem pm_m_Book_setitem an_m_Book_setitem cd_m_Book_setitem ct_m_Book_setitem), a_m_Book_remove, (PySem.W.fnOf "remove" "Book.remove" (defArgs s_m_Book_remove) (defBody s_m_Book_remove) (defScope s_m_Book_remove) .none kV_m_Book_remove dc_m_Book_remove pm_m_Book_remove an_m_Book_remove cd_m_Book_remove ct_m_Book_remove), a_m_Book_places, (PySem.W.fnOf "places" "Book.places" (defArgs s_m_Book_places) (defBody s_m_Book_places) (defScope s_m_Book_places) .none kV_m_Book_places dc_m_Book_places pm_m_Book_places an_m_Book_places cd_m_Book_places ct_m_Book_places), a_m_Book_trial, (PySem.W.fnOf "trial" "Book.trial" (defArgs s_m_Book_trial) (defBody s_m_Book_trial) (defScope s_m_Book_trial) .none kV_m_Book_trial dc_m_Book_trial pm_m_Book_trial an_m_Book_trial cd_m_Book_trial ct_m_Book_trial), a_m_Book_tried, (PySem.W.fnOf "tried" "Book.tried" (defArgs s_m_Book_tried) (defBody s_m_Book_tried) (defScope s_m_Book_tried) .none kV_m_Book_tried dc_m_Book_tried pm_m_Book_tried an_m_Book_tried cd_m_Book_tried ct_m_Book_tried), a_m_Rule_init, (PySem.W.fnOf "__init__" "Rule.__init__" (defArgs s_m_Rule_init) (defBody s_m_Rule_init) (defScope s_m_Rule_init) .none (.ref kd_m_Rule_init) dc_m_Rule_init pm_m_Rule_init an_m_Rule_init cd_m_Rule_init ct_m_Rule_init), a_m_Rule_worked, (PySem.W.fnOf "worked" "Rule.worked" (defArgs s_m_Rule_worked) (defBody s_m_Rule_worked) (defScope s_m_Rule_worked) .none kV_m_Rule_worked dc_m_Rule_worked pm_m_Rule_worked an_m_Rule_worked cd_m_Rule_worked ct_m_Rule_worked), a_l_bag, (PySem.W.fnOf "_law_bag" "_law_bag" (defArgs s_l_bag) (defBody s_l_bag) (defScope s_l_bag) .none kV_l_bag dc_l_bag pm_l_bag an_l_bag cd_l_bag ct_l_bag), a_l_draw, (PySem.W.fnOf "_law_draw" "_law_draw" (defArgs s_l_draw) (defBody s_l_draw) (defScope s_l_draw) .none kV_l_draw dc_l_draw pm_l_draw an_l_draw cd_l_draw ct_l_draw), a_l_names, (PySem.W.fnOf "_law_names" "_law_names" (defArgs s_l_names) (defBody s_l_names) (defScope s_l_names) .none kV_l_names dc_l_names pm_l_names an_l_names cd_l_names ct_l_names), a_l_pick, (PySem.W.fnOf "_law_pick" "_law_pick" (defArgs s_l_pick) (defBody s_l_pick) (defScope s_l_pick) .none kV_l_pick dc_l_pick pm_l_pick an_l_pick cd_l_pick ct_l_pick), a_l_mixed, (PySem.W.fnOf "_law_mixed" "_law_mixed" (defArgs s_l_mixed) (defBody s_l_mixed) (defScope s_l_mixed) .none kV_l_mixed dc_l_mixed pm_l_mixed an_l_mixed cd_l_mixed ct_l_mixed), a_l_rule, (PySem.W.fnOf "_law_rule" "_law_rule" (defArgs s_l_rule) (defBody s_l_rule) (defScope s_l_rule) .none kV_l_rule dc_l_rule pm_l_rule an_l_rule cd_l_rule ct_l_rule), a_l_made, (PySem.W.fnOf "_law_made" "_law_made" (defArgs s_l_made) (defBody s_l_made) (defScope s_l_made) .none kV_l_made dc_l_made pm_l_made an_l_made cd_l_made ct_l_made), a_l_next, (PySem.W.fnOf "_law_next" "_law_next" (defArgs s_l_next) (defBody s_l_next) (defScope s_l_next) .none kV_l_next dc_l_next pm_l_next an_l_next cd_l_next ct_l_next), a_l_entries, (PySem.W.fnOf "_law_entries" "_law_entries" (defArgs s_l_entries) (defBody s_l_entries) (defScope s_l_entries) .none kV_l_entries dc_l_entries pm_l_entries an_l_entries cd_l_entries ct_l_entries), a_l_book, (PySem.W.fnOf "_law_book" "_law_book" (defArgs s_l_book) (defBody s_l_book) (defScope s_l_book) .none kV_l_book dc_l_book pm_l_book an_l_book cd_l_book ct_l_book), a_l_worked, (PySem.W.fnOf "_law_worked" "_law_worked" (defArgs s_l_worked) (defBody s_l_worked) (defScope s_l_worked) .none kV_l_worked dc_l_worked pm_l_worked an_l_worked cd_l_worked ct_l_worked), a_l_inner, (PySem.W.fnOf "_law_inner" "_law_inner" (defArgs s_l_inner) (defBody s_l_inner) (defScope s_l_inner) .none kV_l_inner dc_l_inner pm_l_inner an_l_inner cd_l_inner ct_l_inner), fa, (PySem.W.fnOf "law" "law" (defArgs s_f_law) (defBody s_f_law) (defScope s_f_law) .none kV_f_law dc_f_law pm_f_law an_f_law (.ref a_lcode) ct_f_law), a_TAKES, a_SPOTS, []⟩ := {
    z__law_held := PySem.W.mg_none_of X G pz__law_held,
    z_abs := PySem.W.mg_none_of X G pz_abs,
    z_all := PySem.W.mg_none_of X G pz_all,
    z_bool := PySem.W.mg_none_of X G pz_bool,
    z_dict := PySem.W.mg_none_of X G pz_dict,
    z_int := PySem.W.mg_none_of X G pz_int,
    z_isinstance := PySem.W.mg_none_of X G pz_isinstance,
    z_len := PySem.W.mg_none_of X G pz_len,
    z_list := PySem.W.mg_none_of X G pz_list,
    z_max := PySem.W.mg_none_of X G pz_max,
    z_min := PySem.W.mg_none_of X G pz_min,
    z_range := PySem.W.mg_none_of X G pz_range,
    z_set := PySem.W.mg_none_of X G pz_set,
    z_sorted := PySem.W.mg_none_of X G pz_sorted,
    z_str := PySem.W.mg_none_of X G pz_str,
    z_tuple := PySem.W.mg_none_of X G pz_tuple,
    g_CostError := PySem.W.mg_of X G pg_CostError,
    ek_CostError := pek_CostError,
    eb_CostError := peb_CostError,
    et_CostError := pet_CostError,
    eh_CostError := peh_CostError,
    eic_CostError := peic_CostError,
    es_CostError := pes_CostError,
    xg_CostError := pxg_CostError,
    xk_CostError := pxk_CostError,
    xa_CostError := pxa_CostError,
    xn_CostError := pxn_CostError,
    xt_CostError := pxt_CostError,
    xm_CostError := pxm_CostError,
    rd_CostError := prd_CostError,
    cg_CostError := pcg_CostError,
    vi_CostError := pvi_CostError,
    g_NoRatio := PySem.W.mg_of X G pg_NoRatio,
    ek_NoRatio := pek_NoRatio,
    eb_NoRatio := peb_NoRatio,
    et_NoRatio := pet_NoRatio,
    eh_NoRatio := peh_NoRatio,
    eic_NoRatio := peic_NoRatio,
    es_NoRatio := pes_NoRatio,
    xg_NoRatio := pxg_NoRatio,
    xk_NoRatio := pxk_NoRatio,
    xa_NoRatio := pxa_NoRatio,
    xn_NoRatio := pxn_NoRatio,
    xt_NoRatio := pxt_NoRatio,
    xm_NoRatio := pxm_NoRatio,
    g_BadEntry := PySem.W.mg_of X G pg_BadEntry,
    ek_BadEntry := pek_BadEntry,
    eb_BadEntry := peb_BadEntry,
    et_BadEntry := pet_BadEntry,
    eh_BadEntry := peh_BadEntry,
    eic_BadEntry := peic_BadEntry,
    es_BadEntry := pes_BadEntry,
    xg_BadEntry := pxg_BadEntry,
    xk_BadEntry := pxk_BadEntry,
    xa_BadEntry := pxa_BadEntry,
    xn_BadEntry := pxn_BadEntry,
    xt_BadEntry := pxt_BadEntry,
    xm_BadEntry := pxm_BadEntry,
    n_BadEntry_day := pn_BadEntry_day,
    n_BadEntry_number := pn_BadEntry_number,
    oi_BadEntry := poi_BadEntry,
    ot_BadEntry := pot_BadEntry,
    ox_BadEntry := ⟨⟨_, _, _, _, _, _, _, _, _, _, _, _, _, _, _, pol_BadEntry, pov_BadEntry⟩, posa_BadEntry, peb_BadEntry, pet_BadEntry, pek_BadEntry⟩,
    g_NoEntry := PySem.W.mg_of X G pg_NoEntry,
    ek_NoEntry := pek_NoEntry,
    eb_NoEntry := peb_NoEntry,
    et_NoEntry := pet_NoEntry,
    eh_NoEntry := peh_NoEntry,
    eic_NoEntry := peic_NoEntry,
    es_NoEntry := pes_NoEntry,
    xg_NoEntry := pxg_NoEntry,
    xk_NoEntry := pxk_NoEntry,
    xa_NoEntry := pxa_NoEntry,
    xn_NoEntry := pxn_NoEntry,
    xt_NoEntry := pxt_NoEntry,
    xm_NoEntry := pxm_NoEntry,
    n_NoEntry_day := pn_NoEntry_day,
    n_NoEntry_number := pn_NoEntry_number,
    oi_NoEntry := poi_NoEntry,
    ot_NoEntry := pot_NoEntry,
    ox_NoEntry := ⟨⟨_, _, _, _, _, _, _, _, _, _, _, _, _, _, _, pol_NoEntry, pov_NoEntry⟩, posa_NoEntry, peb_NoEntry, pet_NoEntry, pek_NoEntry⟩,
    g_BadRule := PySem.W.mg_of X G pg_BadRule,
    ek_BadRule := pek_BadRule,
    eb_BadRule := peb_BadRule,
    et_BadRule := pet_BadRule,
    eh_BadRule := peh_BadRule,
    eic_BadRule := peic_BadRule,
    es_BadRule := pes_BadRule,
    xg_BadRule := pxg_BadRule,
    xk_BadRule := pxk_BadRule,
    xa_BadRule := pxa_BadRule,
    xn_BadRule := pxn_BadRule,
    xt_BadRule := pxt_BadRule,
    xm_BadRule := pxm_BadRule,
    n_BadRule_word := pn_BadRule_word,
    oi_BadRule := poi_BadRule,
    ot_BadRule := pot_BadRule,
    ox_BadRule := ⟨⟨_, _, _, _, _, _, _, _, _, _, _, _, _, _, _, pol_BadRule, pov_BadRule⟩, posa_BadRule, peb_BadRule, pet_BadRule, pek_BadRule⟩,
    g_Short := PySem.W.mg_of X G pg_Short,
    ek_Short := pek_Short,
    eb_Short := peb_Short,
    et_Short := pet_Short,
    eh_Short := peh_Short,
    eic_Short := peic_Short,
    es_Short := pes_Short,
    xg_Short := pxg_Short,
    xk_Short := pxk_Short,
    xa_Short := pxa_Short,
    xn_Short := pxn_Short,
    xt_Short := pxt_Short,
    xm_Short := pxm_Short,
    n_Short_missing := pn_Short_missing,
    oi_Short := poi_Short,
    ot_Short := pot_Short,
    ox_Short := ⟨⟨_, _, _, _, _, _, _, _, _, _, _, _, _, _, _, pol_Short, pov_Short⟩, posa_Short, peb_Short, pet_Short, pek_Short⟩,
    g_Trial := PySem.W.mg_of X G pg_Trial,
    cl_Trial := ⟨ppg_Trial, phd_Trial, ppo_Trial, psa_Trial⟩,
    n_Trial_book := pn_Trial_book,
    n_Trial_kept := pn_Trial_kept,
    mk_Trial := ⟨pma_Trial, pmi_Trial, pmf_Trial, pmc_Trial⟩,
    m_Trial___enter__ := ⟨pmt_m_Trial_enter, pmn_m_Trial_enter, pmk_m_Trial_enter⟩,
    m_Trial___exit__ := ⟨pmt_m_Trial_exit, pmn_m_Trial_exit, pmk_m_Trial_exit⟩,
    g_Book := PySem.W.mg_of X G pg_Book,
    cl_Book := ⟨ppg_Book, phd_Book, ppo_Book, psa_Book⟩,
    n_Book_entries := pn_Book_entries,
    mk_Book := ⟨pma_Book, pmi_Book, pmf_Book, pmc_Book⟩,
    m_Book___contains__ := ⟨pmt_m_Book_contains, pmn_m_Book_contains, pmk_m_Book_contains⟩,
    m_Book___len__ := ⟨pmt_m_Book_len, pmn_m_Book_len, pmk_m_Book_len⟩,
    m_Book___getitem__ := ⟨pmt_m_Book_getitem, pmn_m_Book_getitem, pmk_m_Book_getitem⟩,
    m_Book___setitem__ := ⟨pmt_m_Book_setitem, pmn_m_Book_setitem, pmk_m_Book_setitem⟩,
    m_Book_remove := ⟨pmt_m_Book_remove, pmn_m_Book_remove, pmk_m_Book_remove⟩,
    m_Book_places := ⟨pmt_m_Book_places, pmn_m_Book_places, pmk_m_Book_places⟩,
    m_Book_trial := ⟨pmt_m_Book_trial, pmn_m_Book_trial, pmk_m_Book_trial⟩,
    m_Book_tried := ⟨pmt_m_Book_tried, pmn_m_Book_tried, pmk_m_Book_tried⟩,
    fgi_Book := pfgi_Book,
    nsq_Book := pnsq_Book,
    g_Ratio := PySem.W.mg_of X G pg_Ratio,
    cl_Ratio := ⟨ppg_Ratio, phd_Ratio, ppo_Ratio, psa_Ratio⟩,
    n_Ratio_top := pn_Ratio_top,
    n_Ratio_bottom := pn_Ratio_bottom,
    g_Rule := PySem.W.mg_of X G pg_Rule,
    cl_Rule := ⟨ppg_Rule, phd_Rule, ppo_Rule, psa_Rule⟩,
    n_Rule_take := pn_Rule_take,
    n_Rule_place := pn_Rule_place,
    n_Rule_period := pn_Rule_period,
    mk_Rule := ⟨pma_Rule, pmi_Rule, pmf_Rule, pmc_Rule⟩,
    m_Rule_worked := ⟨pmt_m_Rule_worked, pmn_m_Rule_worked, pmk_m_Rule_worked⟩,
    g_LETTERS := ⟨_, PySem.W.mg_of X G pg_LETTERS⟩,
    g_LONGEST := ⟨_, PySem.W.mg_of X G pg_LONGEST⟩,
    g_MOST := ⟨_, PySem.W.mg_of X G pg_MOST⟩,
    g_TAKES := PySem.W.mg_of X G pg_TAKES,
    tq_TAKES := ⟨_, _, _, ptl_TAKES, rfl, rfl, Nat.le_of_ble_eq_true rfl, (.cons ⟨_, rfl⟩ (.cons ⟨_, rfl⟩ (.cons ⟨_, rfl⟩ .nil)))⟩,
    g_SPOTS := PySem.W.mg_of X G pg_SPOTS,
    tq_SPOTS := ⟨_, _, _, ptl_SPOTS, rfl, rfl, Nat.le_of_ble_eq_true rfl, (.cons ⟨_, rfl⟩ (.cons ⟨_, rfl⟩ (.cons ⟨_, rfl⟩ .nil)))⟩,
    F_m_BadEntry_init := F_m_BadEntry_init,
    b_m_BadEntry_init := b_m_BadEntry_init,
    F_m_NoEntry_init := F_m_NoEntry_init,
    b_m_NoEntry_init := b_m_NoEntry_init,
    F_m_BadRule_init := F_m_BadRule_init,
    b_m_BadRule_init := b_m_BadRule_init,
    F_m_Short_init := F_m_Short_init,
    b_m_Short_init := b_m_Short_init,
    F_f_is_name := F_f_is_name,
    b_f_is_name := b_f_is_name,
    g_is_name := PySem.W.mg_of X G pa_f_is_name,
    F_f_is_number := F_f_is_number,
    b_f_is_number := b_f_is_number,
    g_is_number := PySem.W.mg_of X G pa_f_is_number,
    F_f_is_entry := F_f_is_entry,
    b_f_is_entry := b_f_is_entry,
    g_is_entry := PySem.W.mg_of X G pa_f_is_entry,
    F_m_Trial_init := F_m_Trial_init,
    b_m_Trial_init := b_m_Trial_init,
    F_m_Trial_enter := F_m_Trial_enter,
    b_m_Trial_enter := b_m_Trial_enter,
    F_m_Trial_exit := F_m_Trial_exit,
    b_m_Trial_exit := b_m_Trial_exit,
    F_m_Book_init := F_m_Book_init,
    b_m_Book_init := b_m_Book_init,
    F_m_Book_contains := F_m_Book_contains,
    b_m_Book_contains := b_m_Book_contains,
    F_m_Book_len := F_m_Book_len,
    b_m_Book_len := b_m_Book_len,
    F_m_Book_getitem := F_m_Book_getitem,
    b_m_Book_getitem := b_m_Book_getitem,
    F_m_Book_setitem := F_m_Book_setitem,
    b_m_Book_setitem := b_m_Book_setitem,
    F_m_Book_remove := F_m_Book_remove,
    b_m_Book_remove := b_m_Book_remove,
    F_m_Book_places := F_m_Book_places,
    b_m_Book_places := b_m_Book_places,
    F_m_Book_trial := F_m_Book_trial,
    b_m_Book_trial := b_m_Book_trial,
    F_m_Book_tried := F_m_Book_tried,
    b_m_Book_tried := b_m_Book_tried,
    F_m_Rule_init := F_m_Rule_init,
    F_m_Rule_worked := F_m_Rule_worked,
    b_m_Rule_worked := b_m_Rule_worked,
    F_l_bag := F_l_bag,
    b_l_bag := b_l_bag,
    g__law_bag := PySem.W.mg_of X G pa_l_bag,
    F_l_draw := F_l_draw,
    b_l_draw := b_l_draw,
    g__law_draw := PySem.W.mg_of X G pa_l_draw,
    F_l_names := F_l_names,
    b_l_names := b_l_names,
    g__law_names := PySem.W.mg_of X G pa_l_names,
    F_l_pick := F_l_pick,
    b_l_pick := b_l_pick,
    g__law_pick := PySem.W.mg_of X G pa_l_pick,
    F_l_mixed := F_l_mixed,
    b_l_mixed := b_l_mixed,
    g__law_mixed := PySem.W.mg_of X G pa_l_mixed,
    F_l_rule := F_l_rule,
    b_l_rule := b_l_rule,
    g__law_rule := PySem.W.mg_of X G pa_l_rule,
    F_l_made := F_l_made,
    b_l_made := b_l_made,
    g__law_made := PySem.W.mg_of X G pa_l_made,
    F_l_next := F_l_next,
    b_l_next := b_l_next,
    g__law_next := PySem.W.mg_of X G pa_l_next,
    F_l_entries := F_l_entries,
    b_l_entries := b_l_entries,
    g__law_entries := PySem.W.mg_of X G pa_l_entries,
    F_l_book := F_l_book,
    b_l_book := b_l_book,
    g__law_book := PySem.W.mg_of X G pa_l_book,
    F_l_worked := F_l_worked,
    b_l_worked := b_l_worked,
    g__law_worked := PySem.W.mg_of X G pa_l_worked,
    F_l_inner := F_l_inner,
    b_l_inner := b_l_inner,
    g__law_inner := PySem.W.mg_of X G pa_l_inner,
    F_f_law := F_f_law,
    b_f_law := b_f_law,
    g_law := PySem.W.mg_of X G pa_f_law }
  refine ⟨_, [(a_lcode, a_ltab)], spLawT K a_ltab, fun p hp => ?_, fun p hp => ?_, fun p hp => ?_, fun s v => .of_eq rfl, fun H a ns hl _ hc hS => ⟨a, ns, rfl, hS, hl, hc _ (List.mem_singleton.mpr rfl), fun _ => rfl⟩, fun base _ _ TB => ok_f_law T rfl (TB _ (List.mem_singleton.mpr rfl))⟩
  · rw [List.mem_singleton.mp hp]
    exact own a_lcode a_ltab _ _ _ _ _ _ pl_f_law rfl rfl pt_c pt_11
  · rw [List.mem_singleton.mp hp]
    exact pt_n
  · rw [List.mem_singleton.mp hp]
    exact PySem.W.codeHd_of_K X pt_h
theorem walk {l : PySem.W.OpenLaw} {q : Program} {loose : List Str} {XP : (Str → Option Value) → Heap → Prop} {YP : World → Heap → Prop} {d : DefRec} {K : Params → PySem.W.Frag} (hn : l.most = some 63) (hdf : d.params.defaults = []) (hrec : ((PyProof.Rows.recsOf q).any fun e => e.name == d.name) = true)
    (hY : ∀ (w : World) (h : Heap), YP w h → (K w.params).In h)
    (F : ∀ (w : World) (mg : Str → Option Value) (fa : Addr) (h : Heap), (K w.params).In h → h.Ns mainGlobals mg → mg d.name = some (.ref fa) → LamX.OwnTab (K w.params) fa h → LamX.LawAtS l w (K w.params) CX0 16 63 "_law_script" mg fa h) :
    PySem.W.WalkO q loose XP YP l.row.toRowW d [] (fun f vs => PySem.call f vs) :=
  LamX.walk_ofOwn (n := 63) (k := 16) (x := "_law_script") (CX := fun _ => CX0) hn (by decide) hdf ⟨rfl, by decide, by decide⟩ hrec hY (fun w mg fa h _ KX G hm own => F w mg fa h KX G hm own) fun _ _ _ _ _ z => z
end Lot
open PySem PySem.W PyProof.Rows
set_option maxRecDepth 100000 in
set_option maxHeartbeats 0 in
theorem PySem.Challenge.cw_lotcosts_k43_order_of_work_holds : PySem.Challenge.rw_lotcosts_k43_order_of_work.Holds := by
  w_on; o_law; k_head; (case hw => w_witness2)
  k_fill
  refine Lot.walk (l := PySem.Challenge.rw_lotcosts_k43_order_of_work) rfl rfl (by first | rfl | decide) (fun w h Y => PySem.W.km_in_of Y) ?F
  case F =>
    intro w mg fa h KX G hmg own
    refine' Lot.all_mk KX G hmg ?pz__law_held ?pz_abs ?pz_all ?pz_bool ?pz_dict ?pz_int ?pz_isinstance ?pz_len ?pz_list ?pz_max ?pz_min ?pz_range ?pz_set ?pz_sorted ?pz_str ?pz_tuple ?pg_CostError ?pek_CostError ?peb_CostError ?pet_CostError ?peh_CostError ?peic_CostError ?pes_CostError ?pxg_CostError ?pxk_CostError ?pxa_CostError ?pxn_CostError ?pxt_CostError ?pxm_CostError ?prd_CostError ?pcg_CostError ?pvi_CostError ?pg_NoRatio ?pek_NoRatio ?peb_NoRatio ?pet_NoRatio ?peh_NoRatio ?peic_NoRatio ?pes_NoRatio ?pxg_NoRatio ?pxk_NoRatio ?pxa_NoRatio ?pxn_NoRatio ?pxt_NoRatio ?pxm_NoRatio ?pg_BadEntry ?pek_BadEntry ?peb_BadEntry ?pet_BadEntry ?peh_BadEntry ?peic_BadEntry ?pes_BadEntry ?pxg_BadEntry ?pxk_BadEntry ?pxa_BadEntry ?pxn_BadEntry ?pxt_BadEntry ?pxm_BadEntry ?pn_BadEntry_day ?pn_BadEntry_number ?poi_BadEntry ?pot_BadEntry ?pol_BadEntry ?pov_BadEntry ?posa_BadEntry ?pg_NoEntry ?pek_NoEntry ?peb_NoEntry ?pet_NoEntry ?peh_NoEntry ?peic_NoEntry ?pes_NoEntry ?pxg_NoEntry ?pxk_NoEntry ?pxa_NoEntry ?pxn_NoEntry ?pxt_NoEntry ?pxm_NoEntry ?pn_NoEntry_day ?pn_NoEntry_number ?poi_NoEntry ?pot_NoEntry ?pol_NoEntry ?pov_NoEntry ?posa_NoEntry ?pg_BadRule ?pek_BadRule ?peb_BadRule ?pet_BadRule ?peh_BadRule ?peic_BadRule ?pes_BadRule ?pxg_BadRule ?pxk_BadRule ?pxa_BadRule ?pxn_BadRule ?pxt_BadRule ?pxm_BadRule ?pn_BadRule_word ?poi_BadRule ?pot_BadRule ?pol_BadRule ?pov_BadRule ?posa_BadRule ?pg_Short ?pek_Short ?peb_Short ?pet_Short ?peh_Short ?peic_Short ?pes_Short ?pxg_Short ?pxk_Short ?pxa_Short ?pxn_Short ?pxt_Short ?pxm_Short ?pn_Short_missing ?poi_Short ?pot_Short ?pol_Short ?pov_Short ?posa_Short ?pg_Trial ?ppg_Trial ?phd_Trial ?ppo_Trial ?psa_Trial ?pn_Trial_book ?pn_Trial_kept ?pma_Trial ?pmi_Trial ?pmf_Trial ?pmc_Trial ?pmt_m_Trial_enter ?pmn_m_Trial_enter ?pmk_m_Trial_enter ?pmt_m_Trial_exit ?pmn_m_Trial_exit ?pmk_m_Trial_exit ?pg_Book ?ppg_Book ?phd_Book ?ppo_Book ?psa_Book ?pn_Book_entries ?pma_Book ?pmi_Book ?pmf_Book ?pmc_Book ?pmt_m_Book_contains ?pmn_m_Book_contains ?pmk_m_Book_contains ?pmt_m_Book_len ?pmn_m_Book_len ?pmk_m_Book_len ?pmt_m_Book_getitem ?pmn_m_Book_getitem ?pmk_m_Book_getitem ?pmt_m_Book_setitem ?pmn_m_Book_setitem ?pmk_m_Book_setitem ?pmt_m_Book_remove ?pmn_m_Book_remove ?pmk_m_Book_remove ?pmt_m_Book_places ?pmn_m_Book_places ?pmk_m_Book_places ?pmt_m_Book_trial ?pmn_m_Book_trial ?pmk_m_Book_trial ?pmt_m_Book_tried ?pmn_m_Book_tried ?pmk_m_Book_tried ?pfgi_Book ?pnsq_Book ?pg_Ratio ?ppg_Ratio ?phd_Ratio ?ppo_Ratio ?psa_Ratio ?pn_Ratio_top ?pn_Ratio_bottom ?pg_Rule ?ppg_Rule ?phd_Rule ?ppo_Rule ?psa_Rule ?pn_Rule_take ?pn_Rule_place ?pn_Rule_period ?pma_Rule ?pmi_Rule ?pmf_Rule ?pmc_Rule ?pmt_m_Rule_worked ?pmn_m_Rule_worked ?pmk_m_Rule_worked ?pg_LETTERS ?pg_LONGEST ?pg_MOST ?pg_TAKES ?ptl_TAKES ?pg_SPOTS ?ptl_SPOTS ?pe_m_BadEntry_init ?pl_m_BadEntry_init ?pc_m_BadEntry_init ?pq_m_BadEntry_init ?pe_m_NoEntry_init ?pl_m_NoEntry_init ?pc_m_NoEntry_init ?pq_m_NoEntry_init ?pe_m_BadRule_init ?pl_m_BadRule_init ?pc_m_BadRule_init ?pq_m_BadRule_init ?pe_m_Short_init ?pl_m_Short_init ?pc_m_Short_init ?pq_m_Short_init ?pa_f_is_name ?pl_f_is_name ?pc_f_is_name ?pq_f_is_name ?pa_f_is_number ?pl_f_is_number ?pc_f_is_number ?pq_f_is_number ?pa_f_is_entry ?pl_f_is_entry ?pc_f_is_entry ?pq_f_is_entry ?pl_m_Trial_init ?pc_m_Trial_init ?pq_m_Trial_init ?pl_m_Trial_enter ?pc_m_Trial_enter ?pq_m_Trial_enter ?pl_m_Trial_exit ?pc_m_Trial_exit ?pq_m_Trial_exit ?pl_m_Book_init ?pc_m_Book_init ?pq_m_Book_init ?pl_m_Book_contains ?pc_m_Book_contains ?pq_m_Book_contains ?pl_m_Book_len ?pc_m_Book_len ?pq_m_Book_len ?pl_m_Book_getitem ?pc_m_Book_getitem ?pq_m_Book_getitem ?pl_m_Book_setitem ?pc_m_Book_setitem ?pq_m_Book_setitem ?pl_m_Book_remove ?pc_m_Book_remove ?pq_m_Book_remove ?pl_m_Book_places ?pc_m_Book_places ?pq_m_Book_places ?pl_m_Book_trial ?pc_m_Book_trial ?pq_m_Book_trial ?pl_m_Book_tried ?pc_m_Book_tried ?pq_m_Book_tried ?pl_m_Rule_init ?pk0_m_Rule_init ?pk1_m_Rule_init ?pc_m_Rule_init ?pq_m_Rule_init ?pl_m_Rule_worked ?pc_m_Rule_worked ?pq_m_Rule_worked ?pa_l_bag ?pl_l_bag ?pc_l_bag ?pq_l_bag ?pa_l_draw ?pl_l_draw ?pc_l_draw ?pq_l_draw ?pa_l_names ?pl_l_names ?pc_l_names ?pq_l_names ?pa_l_pick ?pl_l_pick ?pc_l_pick ?pq_l_pick ?pa_l_mixed ?pl_l_mixed ?pc_l_mixed ?pq_l_mixed ?pa_l_rule ?pl_l_rule ?pc_l_rule ?pq_l_rule ?pa_l_made ?pl_l_made ?pc_l_made ?pq_l_made ?pa_l_next ?pl_l_next ?pc_l_next ?pq_l_next ?pa_l_entries ?pl_l_entries ?pc_l_entries ?pq_l_entries ?pa_l_book ?pl_l_book ?pc_l_book ?pq_l_book ?pa_l_worked ?pl_l_worked ?pc_l_worked ?pq_l_worked ?pa_l_inner ?pl_l_inner ?pc_l_inner ?pq_l_inner ?pa_f_law ?pl_f_law ?pc_f_law ?pt_c ?pt_11 ?pt_h ?pt_n ?pq_f_law own
    (case pz__law_held => first | k_is | rfl)
    (case pz_abs => first | k_is | rfl)
    (case pz_all => first | k_is | rfl)
    (case pz_bool => first | k_is | rfl)
    (case pz_dict => first | k_is | rfl)
    (case pz_int => first | k_is | rfl)
    (case pz_isinstance => first | k_is | rfl)
    (case pz_len => first | k_is | rfl)
    (case pz_list => first | k_is | rfl)
    (case pz_max => first | k_is | rfl)
    (case pz_min => first | k_is | rfl)
    (case pz_range => first | k_is | rfl)
    (case pz_set => first | k_is | rfl)
    (case pz_sorted => first | k_is | rfl)
    (case pz_str => first | k_is | rfl)
    (case pz_tuple => first | k_is | rfl)
    (case pg_CostError => first | k_is | rfl)
    (case pek_CostError => first | k_is | rfl)
    (case peb_CostError => first | k_is | rfl)
    (case pet_CostError => first | k_is | rfl)
    (case peh_CostError => first | k_is | rfl)
    (case peic_CostError => first | k_is | rfl)
    (case pes_CostError => first | k_is | rfl)
    (case pxg_CostError => first | k_is | rfl)
    (case pxk_CostError => first | k_is | rfl)
    (case pxa_CostError => first | k_is | rfl)
    (case pxn_CostError => first | k_is | rfl)
    (case pxt_CostError => first | k_is | rfl)
    (case pxm_CostError => first | k_is | rfl)
    (case prd_CostError => first | k_is | rfl)
    (case pcg_CostError => first | k_is | rfl)
    (case pvi_CostError => first | k_is | rfl)
    (case pg_NoRatio => first | k_is | rfl)
    (case pek_NoRatio => first | k_is | rfl)
    (case peb_NoRatio => first | k_is | rfl)
    (case pet_NoRatio => first | k_is | rfl)
    (case peh_NoRatio => first | k_is | rfl)
    (case peic_NoRatio => first | k_is | rfl)
    (case pes_NoRatio => first | k_is | rfl)
    (case pxg_NoRatio => first | k_is | rfl)
    (case pxk_NoRatio => first | k_is | rfl)
    (case pxa_NoRatio => first | k_is | rfl)
    (case pxn_NoRatio => first | k_is | rfl)
    (case pxt_NoRatio => first | k_is | rfl)
    (case pxm_NoRatio => first | k_is | rfl)
    (case pg_BadEntry => first | k_is | rfl)
    (case pek_BadEntry => first | k_is | rfl)
    (case peb_BadEntry => first | k_is | rfl)
    (case pet_BadEntry => first | k_is | rfl)
    (case peh_BadEntry => first | k_is | rfl)
    (case peic_BadEntry => first | k_is | rfl)
    (case pes_BadEntry => first | k_is | rfl)
    (case pxg_BadEntry => first | k_is | rfl)
    (case pxk_BadEntry => first | k_is | rfl)
    (case pxa_BadEntry => first | k_is | rfl)
    (case pxn_BadEntry => first | k_is | rfl)
    (case pxt_BadEntry => first | k_is | rfl)
    (case pxm_BadEntry => first | k_is | rfl)
    (case pn_BadEntry_day => first | k_is | rfl)
    (case pn_BadEntry_number => first | k_is | rfl)
    (case poi_BadEntry => first | k_is | rfl)
    (case pot_BadEntry => first | k_is | rfl)
    (case pol_BadEntry => first | k_is | rfl)
    (case pov_BadEntry => first | k_is | rfl)
    (case posa_BadEntry => first | k_is | rfl)
    (case pg_NoEntry => first | k_is | rfl)
    (case pek_NoEntry => first | k_is | rfl)
    (case peb_NoEntry => first | k_is | rfl)
    (case pet_NoEntry => first | k_is | rfl)
    (case peh_NoEntry => first | k_is | rfl)
    (case peic_NoEntry => first | k_is | rfl)
    (case pes_NoEntry => first | k_is | rfl)
    (case pxg_NoEntry => first | k_is | rfl)
    (case pxk_NoEntry => first | k_is | rfl)
    (case pxa_NoEntry => first | k_is | rfl)
    (case pxn_NoEntry => first | k_is | rfl)
    (case pxt_NoEntry => first | k_is | rfl)
    (case pxm_NoEntry => first | k_is | rfl)
    (case pn_NoEntry_day => first | k_is | rfl)
    (case pn_NoEntry_number => first | k_is | rfl)
    (case poi_NoEntry => first | k_is | rfl)
    (case pot_NoEntry => first | k_is | rfl)
    (case pol_NoEntry => first | k_is | rfl)
    (case pov_NoEntry => first | k_is | rfl)
    (case posa_NoEntry => first | k_is | rfl)
    (case pg_BadRule => first | k_is | rfl)
    (case pek_BadRule => first | k_is | rfl)
    (case peb_BadRule => first | k_is | rfl)
    (case pet_BadRule => first | k_is | rfl)
    (case peh_BadRule => first | k_is | rfl)
    (case peic_BadRule => first | k_is | rfl)
    (case pes_BadRule => first | k_is | rfl)
    (case pxg_BadRule => first | k_is | rfl)
    (case pxk_BadRule => first | k_is | rfl)
    (case pxa_BadRule => first | k_is | rfl)
    (case pxn_BadRule => first | k_is | rfl)
    (case pxt_BadRule => first | k_is | rfl)
    (case pxm_BadRule => first | k_is | rfl)
    (case pn_BadRule_word => first | k_is | rfl)
    (case poi_BadRule => first | k_is | rfl)
    (case pot_BadRule => first | k_is | rfl)
    (case pol_BadRule => first | k_is | rfl)
    (case pov_BadRule => first | k_is | rfl)
    (case posa_BadRule => first | k_is | rfl)
    (case pg_Short => first | k_is | rfl)
    (case pek_Short => first | k_is | rfl)
    (case peb_Short => first | k_is | rfl)
    (case pet_Short => first | k_is | rfl)
    (case peh_Short => first | k_is | rfl)
    (case peic_Short => first | k_is | rfl)
    (case pes_Short => first | k_is | rfl)
    (case pxg_Short => first | k_is | rfl)
    (case pxk_Short => first | k_is | rfl)
    (case pxa_Short => first | k_is | rfl)
    (case pxn_Short => first | k_is | rfl)
    (case pxt_Short => first | k_is | rfl)
    (case pxm_Short => first | k_is | rfl)
    (case pn_Short_missing => first | k_is | rfl)
    (case poi_Short => first | k_is | rfl)
    (case pot_Short => first | k_is | rfl)
    (case pol_Short => first | k_is | rfl)
    (case pov_Short => first | k_is | rfl)
    (case posa_Short => first | k_is | rfl)
    (case pg_Trial => first | k_is | rfl)
    (case ppg_Trial => first | k_is | rfl)
    (case phd_Trial => first | k_is | rfl)
    (case ppo_Trial => first | k_is | rfl)
    (case psa_Trial => first | k_is | rfl)
    (case pn_Trial_book => first | k_is | rfl)
    (case pn_Trial_kept => first | k_is | rfl)
    (case pma_Trial => first | k_is | rfl)
    (case pmi_Trial => first | k_is | rfl)
    (case pmf_Trial => first | k_is | rfl)
    (case pmc_Trial => first | k_is | rfl)
    (case pmt_m_Trial_enter => first | k_is | rfl)
    (case pmn_m_Trial_enter => first | k_is | rfl)
    (case pmk_m_Trial_enter => first | k_is | rfl)
    (case pmt_m_Trial_exit => first | k_is | rfl)
    (case pmn_m_Trial_exit => first | k_is | rfl)
    (case pmk_m_Trial_exit => first | k_is | rfl)
    (case pg_Book => first | k_is | rfl)
    (case ppg_Book => first | k_is | rfl)
    (case phd_Book => first | k_is | rfl)
    (case ppo_Book => first | k_is | rfl)
    (case psa_Book => first | k_is | rfl)
    (case pn_Book_entries => first | k_is | rfl)
    (case pma_Book => first | k_is | rfl)
    (case pmi_Book => first | k_is | rfl)
    (case pmf_Book => first | k_is | rfl)
    (case pmc_Book => first | k_is | rfl)
    (case pmt_m_Book_contains => first | k_is | rfl)
    (case pmn_m_Book_contains => first | k_is | rfl)
    (case pmk_m_Book_contains => first | k_is | rfl)
    (case pmt_m_Book_len => first | k_is | rfl)
    (case pmn_m_Book_len => first | k_is | rfl)
    (case pmk_m_Book_len => first | k_is | rfl)
    (case pmt_m_Book_getitem => first | k_is | rfl)
    (case pmn_m_Book_getitem => first | k_is | rfl)
    (case pmk_m_Book_getitem => first | k_is | rfl)
    (case pmt_m_Book_setitem => first | k_is | rfl)
    (case pmn_m_Book_setitem => first | k_is | rfl)
    (case pmk_m_Book_setitem => first | k_is | rfl)
    (case pmt_m_Book_remove => first | k_is | rfl)
    (case pmn_m_Book_remove => first | k_is | rfl)
    (case pmk_m_Book_remove => first | k_is | rfl)
    (case pmt_m_Book_places => first | k_is | rfl)
    (case pmn_m_Book_places => first | k_is | rfl)
    (case pmk_m_Book_places => first | k_is | rfl)
    (case pmt_m_Book_trial => first | k_is | rfl)
    (case pmn_m_Book_trial => first | k_is | rfl)
    (case pmk_m_Book_trial => first | k_is | rfl)
    (case pmt_m_Book_tried => first | k_is | rfl)
    (case pmn_m_Book_tried => first | k_is | rfl)
    (case pmk_m_Book_tried => first | k_is | rfl)
    (case pfgi_Book => first | k_is | rfl)
    (case pnsq_Book => first | k_is | rfl)
    (case pg_Ratio => first | k_is | rfl)
    (case ppg_Ratio => first | k_is | rfl)
    (case phd_Ratio => first | k_is | rfl)
    (case ppo_Ratio => first | k_is | rfl)
    (case psa_Ratio => first | k_is | rfl)
    (case pn_Ratio_top => first | k_is | rfl)
    (case pn_Ratio_bottom => first | k_is | rfl)
    (case pg_Rule => first | k_is | rfl)
    (case ppg_Rule => first | k_is | rfl)
    (case phd_Rule => first | k_is | rfl)
    (case ppo_Rule => first | k_is | rfl)
    (case psa_Rule => first | k_is | rfl)
    (case pn_Rule_take => first | k_is | rfl)
    (case pn_Rule_place => first | k_is | rfl)
    (case pn_Rule_period => first | k_is | rfl)
    (case pma_Rule => first | k_is | rfl)
    (case pmi_Rule => first | k_is | rfl)
    (case pmf_Rule => first | k_is | rfl)
    (case pmc_Rule => first | k_is | rfl)
    (case pmt_m_Rule_worked => first | k_is | rfl)
    (case pmn_m_Rule_worked => first | k_is | rfl)
    (case pmk_m_Rule_worked => first | k_is | rfl)
    (case pg_LETTERS => first | k_is | rfl)
    (case pg_LONGEST => first | k_is | rfl)
    (case pg_MOST => first | k_is | rfl)
    (case pg_TAKES => first | k_is | rfl)
    (case ptl_TAKES => first | k_is | rfl)
    (case pg_SPOTS => first | k_is | rfl)
    (case ptl_SPOTS => first | k_is | rfl)
    (case pe_m_BadEntry_init => first | k_is | rfl)
    (case pl_m_BadEntry_init => first | k_is | rfl)
    (case pc_m_BadEntry_init => first | k_is | rfl)
    (case pq_m_BadEntry_init => first | k_is | rfl)
    (case pe_m_NoEntry_init => first | k_is | rfl)
    (case pl_m_NoEntry_init => first | k_is | rfl)
    (case pc_m_NoEntry_init => first | k_is | rfl)
    (case pq_m_NoEntry_init => first | k_is | rfl)
    (case pe_m_BadRule_init => first | k_is | rfl)
    (case pl_m_BadRule_init => first | k_is | rfl)
    (case pc_m_BadRule_init => first | k_is | rfl)
    (case pq_m_BadRule_init => first | k_is | rfl)
    (case pe_m_Short_init => first | k_is | rfl)
    (case pl_m_Short_init => first | k_is | rfl)
    (case pc_m_Short_init => first | k_is | rfl)
    (case pq_m_Short_init => first | k_is | rfl)
    (case pa_f_is_name => first | k_is | rfl)
    (case pl_f_is_name => first | k_is | rfl)
    (case pc_f_is_name => first | k_is | rfl)
    (case pq_f_is_name => first | k_is | rfl)
    (case pa_f_is_number => first | k_is | rfl)
    (case pl_f_is_number => first | k_is | rfl)
    (case pc_f_is_number => first | k_is | rfl)
    (case pq_f_is_number => first | k_is | rfl)
    (case pa_f_is_entry => first | k_is | rfl)
    (case pl_f_is_entry => first | k_is | rfl)
    (case pc_f_is_entry => first | k_is | rfl)
    (case pq_f_is_entry => first | k_is | rfl)
    (case pl_m_Trial_init => first | k_is | rfl)
    (case pc_m_Trial_init => first | k_is | rfl)
    (case pq_m_Trial_init => first | k_is | rfl)
    (case pl_m_Trial_enter => first | k_is | rfl)
    (case pc_m_Trial_enter => first | k_is | rfl)
    (case pq_m_Trial_enter => first | k_is | rfl)
    (case pl_m_Trial_exit => first | k_is | rfl)
    (case pc_m_Trial_exit => first | k_is | rfl)
    (case pq_m_Trial_exit => first | k_is | rfl)
    (case pl_m_Book_init => first | k_is | rfl)
    (case pc_m_Book_init => first | k_is | rfl)
    (case pq_m_Book_init => first | k_is | rfl)
    (case pl_m_Book_contains => first | k_is | rfl)
    (case pc_m_Book_contains => first | k_is | rfl)
    (case pq_m_Book_contains => first | k_is | rfl)
    (case pl_m_Book_len => first | k_is | rfl)
    (case pc_m_Book_len => first | k_is | rfl)
    (case pq_m_Book_len => first | k_is | rfl)
    (case pl_m_Book_getitem => first | k_is | rfl)
    (case pc_m_Book_getitem => first | k_is | rfl)
    (case pq_m_Book_getitem => first | k_is | rfl)
    (case pl_m_Book_setitem => first | k_is | rfl)
    (case pc_m_Book_setitem => first | k_is | rfl)
    (case pq_m_Book_setitem => first | k_is | rfl)
    (case pl_m_Book_remove => first | k_is | rfl)
    (case pc_m_Book_remove => first | k_is | rfl)
    (case pq_m_Book_remove => first | k_is | rfl)
    (case pl_m_Book_places => first | k_is | rfl)
    (case pc_m_Book_places => first | k_is | rfl)
    (case pq_m_Book_places => first | k_is | rfl)
    (case pl_m_Book_trial => first | k_is | rfl)
    (case pc_m_Book_trial => first | k_is | rfl)
    (case pq_m_Book_trial => first | k_is | rfl)
    (case pl_m_Book_tried => first | k_is | rfl)
    (case pc_m_Book_tried => first | k_is | rfl)
    (case pq_m_Book_tried => first | k_is | rfl)
    (case pl_m_Rule_init => first | k_is | rfl)
    (case pk0_m_Rule_init => first | k_is | rfl)
    (case pk1_m_Rule_init => first | k_is | rfl)
    (case pc_m_Rule_init => first | k_is | rfl)
    (case pq_m_Rule_init => first | k_is | rfl)
    (case pl_m_Rule_worked => first | k_is | rfl)
    (case pc_m_Rule_worked => first | k_is | rfl)
    (case pq_m_Rule_worked => first | k_is | rfl)
    (case pa_l_bag => first | k_is | rfl)
    (case pl_l_bag => first | k_is | rfl)
    (case pc_l_bag => first | k_is | rfl)
    (case pq_l_bag => first | k_is | rfl)
    (case pa_l_draw => first | k_is | rfl)
    (case pl_l_draw => first | k_is | rfl)
    (case pc_l_draw => first | k_is | rfl)
    (case pq_l_draw => first | k_is | rfl)
    (case pa_l_names => first | k_is | rfl)
    (case pl_l_names => first | k_is | rfl)
    (case pc_l_names => first | k_is | rfl)
    (case pq_l_names => first | k_is | rfl)
    (case pa_l_pick => first | k_is | rfl)
    (case pl_l_pick => first | k_is | rfl)
    (case pc_l_pick => first | k_is | rfl)
    (case pq_l_pick => first | k_is | rfl)
    (case pa_l_mixed => first | k_is | rfl)
    (case pl_l_mixed => first | k_is | rfl)
    (case pc_l_mixed => first | k_is | rfl)
    (case pq_l_mixed => first | k_is | rfl)
    (case pa_l_rule => first | k_is | rfl)
    (case pl_l_rule => first | k_is | rfl)
    (case pc_l_rule => first | k_is | rfl)
    (case pq_l_rule => first | k_is | rfl)
    (case pa_l_made => first | k_is | rfl)
    (case pl_l_made => first | k_is | rfl)
    (case pc_l_made => first | k_is | rfl)
    (case pq_l_made => first | k_is | rfl)
    (case pa_l_next => first | k_is | rfl)
    (case pl_l_next => first | k_is | rfl)
    (case pc_l_next => first | k_is | rfl)
    (case pq_l_next => first | k_is | rfl)
    (case pa_l_entries => first | k_is | rfl)
    (case pl_l_entries => first | k_is | rfl)
    (case pc_l_entries => first | k_is | rfl)
    (case pq_l_entries => first | k_is | rfl)
    (case pa_l_book => first | k_is | rfl)
    (case pl_l_book => first | k_is | rfl)
    (case pc_l_book => first | k_is | rfl)
    (case pq_l_book => first | k_is | rfl)
    (case pa_l_worked => first | k_is | rfl)
    (case pl_l_worked => first | k_is | rfl)
    (case pc_l_worked => first | k_is | rfl)
    (case pq_l_worked => first | k_is | rfl)
    (case pa_l_inner => first | k_is | rfl)
    (case pl_l_inner => first | k_is | rfl)
    (case pc_l_inner => first | k_is | rfl)
    (case pq_l_inner => first | k_is | rfl)
    (case pa_f_law => first | k_is | rfl)
    (case pl_f_law => first | k_is | rfl)
    (case pc_f_law => first | k_is | rfl)
    (case pt_c => first | k_is | rfl)
    (case pt_11 => first | k_is | rfl)
    (case pt_h => first | k_is | rfl)
    (case pt_n => first | k_is | rfl)
    (case pq_f_law => first | k_is | rfl)
#print axioms PySem.Challenge.cw_lotcosts_k43_order_of_work_holds

