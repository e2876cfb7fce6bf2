import PyProof.Rows.All
import HandS.Lambda
import HandS.EndTab
import HandS.Finally
import HandS.ExcBuiltin
import HandS.RaiseOp
import KE.KWithOwn
import KE.KAsSuite
import HandS.SuiteRaise
import HandS.EndOwn
import HandS.HeadHook4
import KE.KDictKeyed
import KE.KDictCopyH
import KE.SortData
import KE.DataAny
import Wide.All
import OpenK.AllK
import Wide.FinOn
import HandS.ForMost
import HandS.ForExc
import HandS.Flow
import HandS.Evl
import HandS.Style
import KE.KOpsOwn
import HandS.ClsMeth
import HandS.OwnEq
import HandS.IsInst
import HandS.ExcIs
import HandS.ExcInit
import HandS.ExcField
import HandS.ExcValue
import HandS.MakeKwOnly
import KE.KExcIs
import KE.DataEq
import KE.DataMinMax
import HandS.Wide
import HandS.Codes
import HandS.Text
import HandS.Defaults
import HandS.DictTup
import HandS.TupLen
import HandS.SortRule
import HandS.Conv
import HandS.Walk
import HandS.CallLocal
import HandS.Star
import HandS.HotCalls
import HandS.Deep
import HandS.DictComp
import HandS.Finally
import HandS.NoneIn
import HandS.SetFor
import HandS.SetTxt0
import HandS.SetBool
import HandS.RaiseMore
import HandS.Strs
import HandS.HeadEnd
import HandS.Head2
import HandS.HeadHook2
import PySem.Challenge.RW_lotcosts_k34_trials_of_books
set_option Elab.async false
set_option linter.all false
set_option pp.maxSteps 400
set_option maxRecDepth 100000
set_option maxHeartbeats 4000000
namespace Lot
open PySem L2
/-! ### steps -/
local macro_rules | `(tactic| walk_at "ne") => `(tactic| first
  | with_reducible assumption
  | (apply Ne.symm; with_reducible assumption)
  | exact ne_of_none (by with_reducible assumption) (by with_reducible assumption)
  | exact (ne_of_none (by with_reducible assumption) (by with_reducible assumption)).symm)
local macro_rules | `(tactic| walk_at "at") => `(tactic| first
  | with_reducible assumption
  | exact upd_same
  | (refine Eq.trans (upd_ne (by walk_at "ne")) ?_; walk_at "at"))
local macro_rules | `(tactic| walk_at "num") => `(tactic| first
  | decide
  | omega
  | (dsimp only; first | decide | omega))
local macro_rules | `(tactic| walk_at "fact") => `(tactic| first
  | with_reducible assumption
  | exact rfl
  | walk_at "at"
  | exact SqL.of (by walk_at "at")
  | exact SqT.of (by walk_at "at")
  | exact .inl (SqL.of (by walk_at "at"))
  | exact .inr (SqT.of (by walk_at "at"))
  | exact .inl ⟨rfl, _, SqL.of (by walk_at "at")⟩
  | exact Or.inl ⟨by walk_at "num", by walk_at "num"⟩
  | exact Or.inr ⟨by walk_at "num", by walk_at "num"⟩
  | exact ⟨by walk_at "num", by walk_at "num"⟩
  | exact ⟨by walk_at "num", by walk_at "num", by walk_at "num"⟩
  | exact wide_div (b := 9000) (by omega) (by assumption) (by decide) (by decide)
  | exact Nat.le_of_ble_eq_true rfl
  | assumption
  | walk_at "num")
local macro_rules | `(tactic| walk_at "go") => `(tactic| repeat (first
  | apply Exists.intro
  | refine And.intro (by walk_at "fact") ?_
  | refine Or.inl ⟨_, rfl, ?_⟩
  | refine Or.inr ⟨_, rfl, ?_⟩
  | refine iteT ?_
  | refine iteF ?_))
def top (i : Nat) : Stmt := PySem.Challenge.pw_lotcosts_k34_trials_of_books.main.body.getD i (.Pass ⟨0, 0, 0, 0⟩)
abbrev s_m_BadEntry_init : Stmt := inClass (top 3) 0
abbrev N_m_BadEntry_init : List Str := ["self", "day", "number"]
abbrev P_m_BadEntry_init : List Str := ["self", "day", "number"]
theorem sc_m_BadEntry_init : FnScope N_m_BadEntry_init P_m_BadEntry_init (defScope s_m_BadEntry_init) := ⟨rfl, rfl, rfl, by decide +kernel, rfl, by decide +kernel, by decide +kernel⟩
abbrev s_m_NoEntry_init : Stmt := inClass (top 4) 0
abbrev N_m_NoEntry_init : List Str := ["self", "day", "number"]
abbrev P_m_NoEntry_init : List Str := ["self", "day", "number"]
theorem sc_m_NoEntry_init : FnScope N_m_NoEntry_init P_m_NoEntry_init (defScope s_m_NoEntry_init) := ⟨rfl, rfl, rfl, by decide +kernel, rfl, by decide +kernel, by decide +kernel⟩
abbrev s_f_is_name : Stmt := top 9
abbrev N_f_is_name : List Str := ["name", "letter"]
abbrev P_f_is_name : List Str := ["name"]
theorem sc_f_is_name : FnScope N_f_is_name P_f_is_name (defScope s_f_is_name) := ⟨rfl, rfl, rfl, by decide +kernel, rfl, by decide +kernel, by decide +kernel⟩
abbrev s_f_is_number : Stmt := top 10
abbrev N_f_is_number : List Str := ["value", "least"]
abbrev P_f_is_number : List Str := ["value", "least"]
theorem sc_f_is_number : FnScope N_f_is_number P_f_is_number (defScope s_f_is_number) := ⟨rfl, rfl, rfl, by decide +kernel, rfl, by decide +kernel, by decide +kernel⟩
abbrev s_f_is_entry : Stmt := top 11
abbrev N_f_is_entry : List Str := ["entry", "units", "lot"]
abbrev P_f_is_entry : List Str := ["entry"]
theorem sc_f_is_entry : FnScope N_f_is_entry P_f_is_entry (defScope s_f_is_entry) := ⟨rfl, rfl, rfl, by decide +kernel, rfl, by decide +kernel, by decide +kernel⟩
abbrev s_m_Trial_init : Stmt := inClass (top 12) 0
abbrev N_m_Trial_init : List Str := ["self", "book"]
abbrev P_m_Trial_init : List Str := ["self", "book"]
theorem sc_m_Trial_init : FnScope N_m_Trial_init P_m_Trial_init (defScope s_m_Trial_init) := ⟨rfl, rfl, rfl, by decide +kernel, rfl, by decide +kernel, by decide +kernel⟩
abbrev s_m_Trial_enter : Stmt := inClass (top 12) 1
abbrev N_m_Trial_enter : List Str := ["self"]
abbrev P_m_Trial_enter : List Str := ["self"]
theorem sc_m_Trial_enter : FnScope N_m_Trial_enter P_m_Trial_enter (defScope s_m_Trial_enter) := ⟨rfl, rfl, rfl, by decide +kernel, rfl, by decide +kernel, by decide +kernel⟩
abbrev s_m_Trial_exit : Stmt := inClass (top 12) 2
abbrev N_m_Trial_exit : List Str := ["self", "kind", "value", "trace"]
abbrev P_m_Trial_exit : List Str := ["self", "kind", "value", "trace"]
theorem sc_m_Trial_exit : FnScope N_m_Trial_exit P_m_Trial_exit (defScope s_m_Trial_exit) := ⟨rfl, rfl, rfl, by decide +kernel, rfl, by decide +kernel, by decide +kernel⟩
abbrev s_m_Book_init : Stmt := inClass (top 13) 0
abbrev N_m_Book_init : List Str := ["self"]
abbrev P_m_Book_init : List Str := ["self"]
theorem sc_m_Book_init : FnScope N_m_Book_init P_m_Book_init (defScope s_m_Book_init) := ⟨rfl, rfl, rfl, by decide +kernel, rfl, by decide +kernel, by decide +kernel⟩
abbrev s_m_Book_contains : Stmt := inClass (top 13) 2
abbrev N_m_Book_contains : List Str := ["self", "place"]
abbrev P_m_Book_contains : List Str := ["self", "place"]
theorem sc_m_Book_contains : FnScope N_m_Book_contains P_m_Book_contains (defScope s_m_Book_contains) := ⟨rfl, rfl, rfl, by decide +kernel, rfl, by decide +kernel, by decide +kernel⟩
abbrev s_m_Book_len : Stmt := inClass (top 13) 3
abbrev N_m_Book_len : List Str := ["self"]
abbrev P_m_Book_len : List Str := ["self"]
theorem sc_m_Book_len : FnScope N_m_Book_len P_m_Book_len (defScope s_m_Book_len) := ⟨rfl, rfl, rfl, by decide +kernel, rfl, by decide +kernel, by decide +kernel⟩
abbrev s_m_Book_getitem : Stmt := inClass (top 13) 4
abbrev N_m_Book_getitem : List Str := ["self", "place", "day", "number"]
abbrev P_m_Book_getitem : List Str := ["self", "place"]
theorem sc_m_Book_getitem : FnScope N_m_Book_getitem P_m_Book_getitem (defScope s_m_Book_getitem) := ⟨rfl, rfl, rfl, by decide +kernel, rfl, by decide +kernel, by decide +kernel⟩
abbrev s_m_Book_setitem : Stmt := inClass (top 13) 5
abbrev N_m_Book_setitem : List Str := ["self", "place", "entry", "day", "number"]
abbrev P_m_Book_setitem : List Str := ["self", "place", "entry"]
theorem sc_m_Book_setitem : FnScope N_m_Book_setitem P_m_Book_setitem (defScope s_m_Book_setitem) := ⟨rfl, rfl, rfl, by decide +kernel, rfl, by decide +kernel, by decide +kernel⟩
abbrev s_m_Book_remove : Stmt := inClass (top 13) 6
abbrev N_m_Book_remove : List Str := ["self", "day", "number"]
abbrev P_m_Book_remove : List Str := ["self", "day", "number"]
theorem sc_m_Book_remove : FnScope N_m_Book_remove P_m_Book_remove (defScope s_m_Book_remove) := ⟨rfl, rfl, rfl, by decide +kernel, rfl, by decide +kernel, by decide +kernel⟩
abbrev s_m_Book_places : Stmt := inClass (top 13) 7
abbrev N_m_Book_places : List Str := ["self"]
abbrev P_m_Book_places : List Str := ["self"]
theorem sc_m_Book_places : FnScope N_m_Book_places P_m_Book_places (defScope s_m_Book_places) := ⟨rfl, rfl, rfl, by decide +kernel, rfl, by decide +kernel, by decide +kernel⟩
abbrev s_m_Book_named : Stmt := inClass (top 13) 8
abbrev N_m_Book_named : List Str := ["self", "kind", "found", "place", "entry"]
abbrev P_m_Book_named : List Str := ["self", "kind"]
theorem sc_m_Book_named : FnScope N_m_Book_named P_m_Book_named (defScope s_m_Book_named) := ⟨rfl, rfl, rfl, by decide +kernel, rfl, by decide +kernel, by decide +kernel⟩
abbrev s_m_Book_lots : Stmt := inClass (top 13) 9
abbrev N_m_Book_lots : List Str := ["self"]
abbrev P_m_Book_lots : List Str := ["self"]
theorem sc_m_Book_lots : FnScope N_m_Book_lots P_m_Book_lots (defScope s_m_Book_lots) := ⟨rfl, rfl, rfl, by decide +kernel, rfl, by decide +kernel, by decide +kernel⟩
abbrev s_m_Book_sales : Stmt := inClass (top 13) 10
abbrev N_m_Book_sales : List Str := ["self"]
abbrev P_m_Book_sales : List Str := ["self"]
theorem sc_m_Book_sales : FnScope N_m_Book_sales P_m_Book_sales (defScope s_m_Book_sales) := ⟨rfl, rfl, rfl, by decide +kernel, rfl, by decide +kernel, by decide +kernel⟩
abbrev s_m_Book_late_costs : Stmt := inClass (top 13) 11
abbrev N_m_Book_late_costs : List Str := ["self"]
abbrev P_m_Book_late_costs : List Str := ["self"]
theorem sc_m_Book_late_costs : FnScope N_m_Book_late_costs P_m_Book_late_costs (defScope s_m_Book_late_costs) := ⟨rfl, rfl, rfl, by decide +kernel, rfl, by decide +kernel, by decide +kernel⟩
abbrev s_m_Book_trial : Stmt := inClass (top 13) 12
abbrev N_m_Book_trial : List Str := ["self"]
abbrev P_m_Book_trial : List Str := ["self"]
theorem sc_m_Book_trial : FnScope N_m_Book_trial P_m_Book_trial (defScope s_m_Book_trial) := ⟨rfl, rfl, rfl, by decide +kernel, rfl, by decide +kernel, by decide +kernel⟩
abbrev s_m_Book_tried : Stmt := inClass (top 13) 13
abbrev N_m_Book_tried : List Str := ["self", "deed", "result"]
abbrev P_m_Book_tried : List Str := ["self", "deed"]
theorem sc_m_Book_tried : FnScope N_m_Book_tried P_m_Book_tried (defScope s_m_Book_tried) := ⟨rfl, rfl, rfl, by decide +kernel, rfl, by decide +kernel, by decide +kernel⟩
abbrev s_l_bag : Stmt := top 15
abbrev N_l_bag : List Str := ["_law_script"]
abbrev P_l_bag : List Str := ["_law_script"]
theorem sc_l_bag : FnScope N_l_bag P_l_bag (defScope s_l_bag) := ⟨rfl, rfl, rfl, by decide +kernel, rfl, by decide +kernel, by decide +kernel⟩
abbrev s_l_draw : Stmt := top 16
abbrev N_l_draw : List Str := ["_law_bag_here", "_law_size", "_law_cell", "_law_digit", "_law_mixed_here"]
abbrev P_l_draw : List Str := ["_law_bag_here", "_law_size"]
theorem sc_l_draw : FnScope N_l_draw P_l_draw (defScope s_l_draw) := ⟨rfl, rfl, rfl, by decide +kernel, rfl, by decide +kernel, by decide +kernel⟩
abbrev s_l_names : Stmt := top 17
abbrev N_l_names : List Str := ["_law_bag_here", "_law_count", "_law_words", "_law_letters", "_law_size", "_law_stem", "_law_where", "_law_shift", "_law_longer", "_law_names_here", "_law_k", "_law_name", "_law_spot", "_law_word"]
abbrev P_l_names : List Str := ["_law_bag_here", "_law_count", "_law_words"]
theorem sc_l_names : FnScope N_l_names P_l_names (defScope s_l_names) := ⟨rfl, rfl, rfl, by decide +kernel, rfl, by decide +kernel, by decide +kernel⟩
abbrev s_l_pick : Stmt := top 18
abbrev N_l_pick : List Str := ["_law_bag_here", "_law_items"]
abbrev P_l_pick : List Str := ["_law_bag_here", "_law_items"]
theorem sc_l_pick : FnScope N_l_pick P_l_pick (defScope s_l_pick) := ⟨rfl, rfl, rfl, by decide +kernel, rfl, by decide +kernel, by decide +kernel⟩
abbrev s_l_mixed : Stmt := top 19
abbrev N_l_mixed : List Str := ["_law_bag_here", "_law_items", "_law_left", "_law_found", "_law_k"]
abbrev P_l_mixed : List Str := ["_law_bag_here", "_law_items"]
theorem sc_l_mixed : FnScope N_l_mixed P_l_mixed (defScope s_l_mixed) := ⟨rfl, rfl, rfl, by decide +kernel, rfl, by decide +kernel, by decide +kernel⟩
abbrev s_l_next : Stmt := top 20
abbrev N_l_next : List Str := ["_law_bag_here", "_law_entries_here", "_law_step"]
abbrev P_l_next : List Str := ["_law_bag_here", "_law_entries_here"]
theorem sc_l_next : FnScope N_l_next P_l_next (defScope s_l_next) := ⟨rfl, rfl, rfl, by decide +kernel, rfl, by decide +kernel, by decide +kernel⟩
abbrev s_l_entries : Stmt := top 21
abbrev N_l_entries : List Str := ["_law_bag_here", "_law_most", "_law_steps", "_law_size", "_law_names_here", "_law_sales", "_law_entries_here", "_law_bought", "_law_left", "_law_stock", "_law_costs", "_law_k", "_law_choice", "_law_out", "_law_entry", "_law_units", "_law_sale", "_law_day", "_law_number"]
abbrev P_l_entries : List Str := ["_law_bag_here", "_law_most"]
theorem sc_l_entries : FnScope N_l_entries P_l_entries (defScope s_l_entries) := ⟨rfl, rfl, rfl, by decide +kernel, rfl, by decide +kernel, by decide +kernel⟩
abbrev s_l_book : Stmt := top 22
abbrev N_l_book : List Str := ["_law_entries_here", "_law_book_here", "_law_day", "_law_number", "_law_entry"]
abbrev P_l_book : List Str := ["_law_entries_here"]
theorem sc_l_book : FnScope N_l_book P_l_book (defScope s_l_book) := ⟨rfl, rfl, rfl, by decide +kernel, rfl, by decide +kernel, by decide +kernel⟩
abbrev s_l_kept : Stmt := top 23
abbrev N_l_kept : List Str := ["_law_book_here", "_law_spot"]
abbrev P_l_kept : List Str := ["_law_book_here"]
theorem sc_l_kept : FnScope N_l_kept P_l_kept (defScope s_l_kept) := ⟨rfl, rfl, rfl, by decide +kernel, rfl, by decide +kernel, by decide +kernel⟩
abbrev s_l_changed : Stmt := top 24
abbrev N_l_changed : List Str := ["_law_bag_here", "_law_book_here", "_law_k", "_law_spots", "_law_spot"]
abbrev P_l_changed : List Str := ["_law_bag_here", "_law_book_here"]
theorem sc_l_changed : FnScope N_l_changed P_l_changed (defScope s_l_changed) := ⟨rfl, rfl, rfl, by decide +kernel, rfl, by decide +kernel, by decide +kernel⟩
abbrev s_l_lists : Stmt := top 25
abbrev N_l_lists : List Str := ["_law_book_here", "_law_names_here"]
abbrev P_l_lists : List Str := ["_law_book_here"]
theorem sc_l_lists : FnScope N_l_lists P_l_lists (defScope s_l_lists) := ⟨rfl, rfl, rfl, by decide +kernel, rfl, by decide +kernel, by decide +kernel⟩
abbrev s_l_refused : Stmt := top 26
abbrev N_l_refused : List Str := ["_law_book_here"]
abbrev P_l_refused : List Str := ["_law_book_here"]
theorem sc_l_refused : FnScope N_l_refused P_l_refused (defScope s_l_refused) := ⟨rfl, rfl, rfl, by decide +kernel, rfl, by decide +kernel, by decide +kernel⟩
abbrev s_l_deed : Stmt := top 27
abbrev N_l_deed : List Str := ["_law_bag_here", "_law_book_here", "_law_outer", "_law_depth", "_law_log", "_law_answer", "_law_inner", "_law_choice"]
abbrev P_l_deed : List Str := ["_law_bag_here", "_law_book_here", "_law_outer", "_law_depth", "_law_log", "_law_answer"]
theorem sc_l_deed : FnScope N_l_deed P_l_deed (defScope s_l_deed) := ⟨rfl, rfl, rfl, by decide +kernel, rfl, by decide +kernel, by decide +kernel⟩
abbrev s_l_trial_right : Stmt := top 28
abbrev N_l_trial_right : List Str := ["_law_bag_here", "_law_book_here", "_law_depth", "_law_log", "_law_before", "_law_answer", "_law_told", "_law_failed", "e", "_law_due"]
abbrev P_l_trial_right : List Str := ["_law_bag_here", "_law_book_here", "_law_depth", "_law_log"]
theorem sc_l_trial_right : FnScope N_l_trial_right P_l_trial_right (defScope s_l_trial_right) := ⟨rfl, rfl, rfl, by decide +kernel, rfl, by decide +kernel, by decide +kernel⟩
abbrev s_f_law : Stmt := top 29
abbrev N_f_law : List Str := ["_law_script", "_law_bag_here", "_law_entries_here", "_law_book_here", "_law_log", "_law_turn", "_law_due", "_law_item"]
abbrev P_f_law : List Str := ["_law_script"]
theorem sc_f_law : FnScope N_f_law P_f_law (defScope s_f_law) := ⟨rfl, rfl, rfl, by decide +kernel, rfl, by decide +kernel, by decide +kernel⟩
/-- no __iop__ in the class's chain -/
def noI (K : PySem.W.Frag) (C : Addr) (nm : String) : Bool := (PySem.W.clsIn K C).any fun cd => cd.mro.all fun c => PySem.W.findIn K c (dunderI nm) == some none
/-- C.m is a staticmethod: its record at p, its def at g -/
structure SMet (K : PySem.W.Frag) (C : Addr) (m : Str) (p g : Addr) : Prop where
  rd : PySem.W.readsIn K C (.type "type") = true
  ga : PySem.W.specialIn K (.ref C) "__getattribute__" = some (some (.builtin "type.__getattribute__"))
  at_ : PySem.W.findCls K (.ref C) (.type "type") m = some (.get (.builtin "staticmethod.__get__") (.ref p) .none (.ref C))
  rc : ∃ rest, PySem.W.recIn K p "staticmethod" = some (.ref g :: rest)
  kp : PySem.W.keepIn K (.ref g) = true
/-- C.m is a classmethod: its record at p, its def at g -/
def CMx (K : PySem.W.Frag) (C : Addr) (m : Str) (p g : Addr) : Prop := ClX.CRead K C (.type "type") ∧ ClX.CMet K C (.type "type") m p g
/-- each of the classes cs is itself alone among them, and under CE and ValueError -/
def kitAll (K : PySem.W.Frag) (cs : List Addr) (CE : Addr) : Bool := cs.all fun C => cs.count C == 1 && (cs.all fun D => PySem.W.kitOne K (.ref C) (.ref D) == some (C == D)) && PySem.W.kitOne K (.ref C) (.ref CE) == some true && PySem.W.kitOne K (.ref C) (.type "ValueError") == some true
structure Ad where
  CostError : Addr
  BadEntry : Addr
  NoEntry : Addr
  Trial : Addr
  Book : Addr
  m_BadEntry_init : Addr
  fd_m_BadEntry_init : FuncData
  m_NoEntry_init : Addr
  fd_m_NoEntry_init : FuncData
  f_is_name : Addr
  fd_f_is_name : FuncData
  f_is_number : Addr
  fd_f_is_number : FuncData
  f_is_entry : Addr
  fd_f_is_entry : FuncData
  m_Trial_init : Addr
  fd_m_Trial_init : FuncData
  m_Trial_enter : Addr
  fd_m_Trial_enter : FuncData
  m_Trial_exit : Addr
  fd_m_Trial_exit : FuncData
  m_Book_init : Addr
  fd_m_Book_init : FuncData
  m_Book_contains : Addr
  fd_m_Book_contains : FuncData
  m_Book_len : Addr
  fd_m_Book_len : FuncData
  m_Book_getitem : Addr
  fd_m_Book_getitem : FuncData
  m_Book_setitem : Addr
  fd_m_Book_setitem : FuncData
  m_Book_remove : Addr
  fd_m_Book_remove : FuncData
  m_Book_places : Addr
  fd_m_Book_places : FuncData
  m_Book_named : Addr
  fd_m_Book_named : FuncData
  m_Book_lots : Addr
  fd_m_Book_lots : FuncData
  m_Book_sales : Addr
  fd_m_Book_sales : FuncData
  m_Book_late_costs : Addr
  fd_m_Book_late_costs : FuncData
  m_Book_trial : Addr
  fd_m_Book_trial : FuncData
  m_Book_tried : Addr
  fd_m_Book_tried : FuncData
  l_bag : Addr
  fd_l_bag : FuncData
  l_draw : Addr
  fd_l_draw : FuncData
  l_names : Addr
  fd_l_names : FuncData
  l_pick : Addr
  fd_l_pick : FuncData
  l_mixed : Addr
  fd_l_mixed : FuncData
  l_next : Addr
  fd_l_next : FuncData
  l_entries : Addr
  fd_l_entries : FuncData
  l_book : Addr
  fd_l_book : FuncData
  l_kept : Addr
  fd_l_kept : FuncData
  l_changed : Addr
  fd_l_changed : FuncData
  l_lists : Addr
  fd_l_lists : FuncData
  l_refused : Addr
  fd_l_refused : FuncData
  l_deed : Addr
  fd_l_deed : FuncData
  l_trial_right : Addr
  fd_l_trial_right : FuncData
  f_law : Addr
  fd_f_law : FuncData
structure Txt (K : PySem.W.Frag) (mg : Str → Option Value) (A : Ad) : Prop where
  z_KeyError : mg "KeyError" = none
  z_ZeroDivisionError : mg "ZeroDivisionError" = none
  z__law_held : mg "_law_held" = none
  z_abs : mg "abs" = none
  z_all : mg "all" = none
  z_bool : mg "bool" = none
  z_dict : mg "dict" = none
  z_int : mg "int" = none
  z_isinstance : mg "isinstance" = none
  z_len : mg "len" = none
  z_list : mg "list" = none
  z_min : mg "min" = none
  z_range : mg "range" = none
  z_sorted : mg "sorted" = none
  z_str : mg "str" = none
  z_tuple : mg "tuple" = none
  g_CostError : mg "CostError" = some (.ref A.CostError)
  ek_CostError : PySem.W.keepIn K (.ref A.CostError) = true
  eb_CostError : PySem.W.subIn K (.ref A.CostError) (.type "BaseException") = some true
  et_CostError : PySem.W.typeIn K (.ref A.CostError) = some (.type "type")
  eh_CostError : PySem.W.hasDictIn K A.CostError = true
  eic_CostError : PySem.W.isClsIn K A.CostError = true
  es_CostError : PySem.W.subIn K (.ref A.CostError) (.ref A.CostError) = some true
  xg_CostError : PySem.W.findIn K (.ref A.CostError) "__getattribute__" = some (some (.builtin "BaseException.__getattribute__"))
  xk_CostError : PySem.W.findIn K (.ref A.CostError) "__getattr__" = some none
  xa_CostError : PySem.W.findIn K (.ref A.CostError) "__class__" = some (some (.builtin "object.__class__"))
  xn_CostError : PySem.W.specialIn K (.builtin "object.__class__") "__get__" = some (some (.builtin "getset_descriptor.__get__"))
  xt_CostError : PySem.W.takesIn K (.builtin "object.__class__") = some true
  xm_CostError : PySem.W.mroIn K A.CostError (.type "object") = some true
  rd_CostError : PySem.W.readsIn K A.CostError (.type "type") = true
  cg_CostError : PySem.W.specialIn K (.ref A.CostError) "__getattribute__" = some (some (.builtin "type.__getattribute__"))
  vi_CostError : PySem.W.findCls K (.ref A.CostError) (.type "type") "__init__" = some (.val (.builtin "ValueError.__init__"))
  g_BadEntry : mg "BadEntry" = some (.ref A.BadEntry)
  ek_BadEntry : PySem.W.keepIn K (.ref A.BadEntry) = true
  eb_BadEntry : PySem.W.subIn K (.ref A.BadEntry) (.type "BaseException") = some true
  et_BadEntry : PySem.W.typeIn K (.ref A.BadEntry) = some (.type "type")
  eh_BadEntry : PySem.W.hasDictIn K A.BadEntry = true
  eic_BadEntry : PySem.W.isClsIn K A.BadEntry = true
  es_BadEntry : PySem.W.subIn K (.ref A.BadEntry) (.ref A.BadEntry) = some true
  xg_BadEntry : PySem.W.findIn K (.ref A.BadEntry) "__getattribute__" = some (some (.builtin "BaseException.__getattribute__"))
  xk_BadEntry : PySem.W.findIn K (.ref A.BadEntry) "__getattr__" = some none
  xa_BadEntry : PySem.W.findIn K (.ref A.BadEntry) "__class__" = some (some (.builtin "object.__class__"))
  xn_BadEntry : PySem.W.specialIn K (.builtin "object.__class__") "__get__" = some (some (.builtin "getset_descriptor.__get__"))
  xt_BadEntry : PySem.W.takesIn K (.builtin "object.__class__") = some true
  xm_BadEntry : PySem.W.mroIn K A.BadEntry (.type "object") = some true
  n_BadEntry_day : PySem.W.findIn K (.ref A.BadEntry) "day" = some none
  n_BadEntry_number : PySem.W.findIn K (.ref A.BadEntry) "number" = some none
  oi_BadEntry : PySem.W.findIn K (.ref A.BadEntry) "__init__" = some (some (.ref A.m_BadEntry_init))
  ot_BadEntry : PySem.W.typeIn K (.ref A.m_BadEntry_init) = some (.type "function")
  ox_BadEntry : OexC K A.BadEntry
  g_NoEntry : mg "NoEntry" = some (.ref A.NoEntry)
  ek_NoEntry : PySem.W.keepIn K (.ref A.NoEntry) = true
  eb_NoEntry : PySem.W.subIn K (.ref A.NoEntry) (.type "BaseException") = some true
  et_NoEntry : PySem.W.typeIn K (.ref A.NoEntry) = some (.type "type")
  eh_NoEntry : PySem.W.hasDictIn K A.NoEntry = true
  eic_NoEntry : PySem.W.isClsIn K A.NoEntry = true
  es_NoEntry : PySem.W.subIn K (.ref A.NoEntry) (.ref A.NoEntry) = some true
  xg_NoEntry : PySem.W.findIn K (.ref A.NoEntry) "__getattribute__" = some (some (.builtin "BaseException.__getattribute__"))
  xk_NoEntry : PySem.W.findIn K (.ref A.NoEntry) "__getattr__" = some none
  xa_NoEntry : PySem.W.findIn K (.ref A.NoEntry) "__class__" = some (some (.builtin "object.__class__"))
  xn_NoEntry : PySem.W.specialIn K (.builtin "object.__class__") "__get__" = some (some (.builtin "getset_descriptor.__get__"))
  xt_NoEntry : PySem.W.takesIn K (.builtin "object.__class__") = some true
  xm_NoEntry : PySem.W.mroIn K A.NoEntry (.type "object") = some true
  n_NoEntry_day : PySem.W.findIn K (.ref A.NoEntry) "day" = some none
  n_NoEntry_number : PySem.W.findIn K (.ref A.NoEntry) "number" = some none
  oi_NoEntry : PySem.W.findIn K (.ref A.NoEntry) "__init__" = some (some (.ref A.m_NoEntry_init))
  ot_NoEntry : PySem.W.typeIn K (.ref A.m_NoEntry_init) = some (.type "function")
  ox_NoEntry : OexC K A.NoEntry
  g_Trial : mg "Trial" = some (.ref A.Trial)
  cl_Trial : Cls K A.Trial
  n_Trial_book : NoAttr K A.Trial "book"
  n_Trial_kept : NoAttr K A.Trial "kept"
  mk_Trial : Mk K A.Trial A.m_Trial_init
  m_Trial___enter__ : Meth K A.Trial "__enter__" A.m_Trial_enter
  m_Trial___exit__ : Meth K A.Trial "__exit__" A.m_Trial_exit
  g_Book : mg "Book" = some (.ref A.Book)
  cl_Book : Cls K A.Book
  n_Book_entries : NoAttr K A.Book "entries"
  mk_Book : Mk K A.Book A.m_Book_init
  m_Book___contains__ : Meth K A.Book "__contains__" A.m_Book_contains
  m_Book___len__ : Meth K A.Book "__len__" A.m_Book_len
  m_Book___getitem__ : Meth K A.Book "__getitem__" A.m_Book_getitem
  m_Book___setitem__ : Meth K A.Book "__setitem__" A.m_Book_setitem
  m_Book_remove : Meth K A.Book "remove" A.m_Book_remove
  m_Book_places : Meth K A.Book "places" A.m_Book_places
  m_Book_named : Meth K A.Book "named" A.m_Book_named
  m_Book_lots : Meth K A.Book "lots" A.m_Book_lots
  m_Book_sales : Meth K A.Book "sales" A.m_Book_sales
  m_Book_late_costs : Meth K A.Book "late_costs" A.m_Book_late_costs
  m_Book_trial : Meth K A.Book "trial" A.m_Book_trial
  m_Book_tried : Meth K A.Book "tried" A.m_Book_tried
  fgi_Book : PySem.W.fnIn K A.m_Book_getitem = true
  nsq_Book : PySem.W.noSeq K A.Book = true
  g_LETTERS : ∃ t, mg "LETTERS" = some (.str "abcdefghijklmnopqrstuvwxyz" t)
  g_LONGEST : ∃ t, mg "LONGEST" = some (.int 12 t)
  g_MOST : ∃ t, mg "MOST" = some (.int 1000000 t)
  F_m_BadEntry_init : Fun K "__init__" "BadEntry.__init__" s_m_BadEntry_init A.m_BadEntry_init A.fd_m_BadEntry_init
  b_m_BadEntry_init : Binds K A.fd_m_BadEntry_init P_m_BadEntry_init []
  F_m_NoEntry_init : Fun K "__init__" "NoEntry.__init__" s_m_NoEntry_init A.m_NoEntry_init A.fd_m_NoEntry_init
  b_m_NoEntry_init : Binds K A.fd_m_NoEntry_init P_m_NoEntry_init []
  F_f_is_name : Fun K "is_name" "is_name" s_f_is_name A.f_is_name A.fd_f_is_name
  b_f_is_name : Binds K A.fd_f_is_name P_f_is_name []
  g_is_name : mg "is_name" = some (.ref A.f_is_name)
  F_f_is_number : Fun K "is_number" "is_number" s_f_is_number A.f_is_number A.fd_f_is_number
  b_f_is_number : Binds K A.fd_f_is_number P_f_is_number []
  g_is_number : mg "is_number" = some (.ref A.f_is_number)
  F_f_is_entry : Fun K "is_entry" "is_entry" s_f_is_entry A.f_is_entry A.fd_f_is_entry
  b_f_is_entry : Binds K A.fd_f_is_entry P_f_is_entry []
  g_is_entry : mg "is_entry" = some (.ref A.f_is_entry)
  F_m_Trial_init : Fun K "__init__" "Trial.__init__" s_m_Trial_init A.m_Trial_init A.fd_m_Trial_init
  b_m_Trial_init : Binds K A.fd_m_Trial_init P_m_Trial_init []
  F_m_Trial_enter : Fun K "__enter__" "Trial.__enter__" s_m_Trial_enter A.m_Trial_enter A.fd_m_Trial_enter
  b_m_Trial_enter : Binds K A.fd_m_Trial_enter P_m_Trial_enter []
  F_m_Trial_exit : Fun K "__exit__" "Trial.__exit__" s_m_Trial_exit A.m_Trial_exit A.fd_m_Trial_exit
  b_m_Trial_exit : Binds K A.fd_m_Trial_exit P_m_Trial_exit []
  F_m_Book_init : Fun K "__init__" "Book.__init__" s_m_Book_init A.m_Book_init A.fd_m_Book_init
  b_m_Book_init : Binds K A.fd_m_Book_init P_m_Book_init []
  F_m_Book_contains : Fun K "__contains__" "Book.__contains__" s_m_Book_contains A.m_Book_contains A.fd_m_Book_contains
  b_m_Book_contains : Binds K A.fd_m_Book_contains P_m_Book_contains []
  F_m_Book_len : Fun K "__len__" "Book.__len__" s_m_Book_len A.m_Book_len A.fd_m_Book_len
  b_m_Book_len : Binds K A.fd_m_Book_len P_m_Book_len []
  F_m_Book_getitem : Fun K "__getitem__" "Book.__getitem__" s_m_Book_getitem A.m_Book_getitem A.fd_m_Book_getitem
  b_m_Book_getitem : Binds K A.fd_m_Book_getitem P_m_Book_getitem []
  F_m_Book_setitem : Fun K "__setitem__" "Book.__setitem__" s_m_Book_setitem A.m_Book_setitem A.fd_m_Book_setitem
  b_m_Book_setitem : Binds K A.fd_m_Book_setitem P_m_Book_setitem []
  F_m_Book_remove : Fun K "remove" "Book.remove" s_m_Book_remove A.m_Book_remove A.fd_m_Book_remove
  b_m_Book_remove : Binds K A.fd_m_Book_remove P_m_Book_remove []
  F_m_Book_places : Fun K "places" "Book.places" s_m_Book_places A.m_Book_places A.fd_m_Book_places
  b_m_Book_places : Binds K A.fd_m_Book_places P_m_Book_places []
  F_m_Book_named : Fun K "named" "Book.named" s_m_Book_named A.m_Book_named A.fd_m_Book_named
  b_m_Book_named : Binds K A.fd_m_Book_named P_m_Book_named []
  F_m_Book_lots : Fun K "lots" "Book.lots" s_m_Book_lots A.m_Book_lots A.fd_m_Book_lots
  b_m_Book_lots : Binds K A.fd_m_Book_lots P_m_Book_lots []
  F_m_Book_sales : Fun K "sales" "Book.sales" s_m_Book_sales A.m_Book_sales A.fd_m_Book_sales
  b_m_Book_sales : Binds K A.fd_m_Book_sales P_m_Book_sales []
  F_m_Book_late_costs : Fun K "late_costs" "Book.late_costs" s_m_Book_late_costs A.m_Book_late_costs A.fd_m_Book_late_costs
  b_m_Book_late_costs : Binds K A.fd_m_Book_late_costs P_m_Book_late_costs []
  F_m_Book_trial : Fun K "trial" "Book.trial" s_m_Book_trial A.m_Book_trial A.fd_m_Book_trial
  b_m_Book_trial : Binds K A.fd_m_Book_trial P_m_Book_trial []
  F_m_Book_tried : Fun K "tried" "Book.tried" s_m_Book_tried A.m_Book_tried A.fd_m_Book_tried
  b_m_Book_tried : Binds K A.fd_m_Book_tried P_m_Book_tried []
  F_l_bag : Fun K "_law_bag" "_law_bag" s_l_bag A.l_bag A.fd_l_bag
  b_l_bag : Binds K A.fd_l_bag P_l_bag []
  g__law_bag : mg "_law_bag" = some (.ref A.l_bag)
  F_l_draw : Fun K "_law_draw" "_law_draw" s_l_draw A.l_draw A.fd_l_draw
  b_l_draw : Binds K A.fd_l_draw P_l_draw []
  g__law_draw : mg "_law_draw" = some (.ref A.l_draw)
  F_l_names : Fun K "_law_names" "_law_names" s_l_names A.l_names A.fd_l_names
  b_l_names : Binds K A.fd_l_names P_l_names []
  g__law_names : mg "_law_names" = some (.ref A.l_names)
  F_l_pick : Fun K "_law_pick" "_law_pick" s_l_pick A.l_pick A.fd_l_pick
  b_l_pick : Binds K A.fd_l_pick P_l_pick []
  g__law_pick : mg "_law_pick" = some (.ref A.l_pick)
  F_l_mixed : Fun K "_law_mixed" "_law_mixed" s_l_mixed A.l_mixed A.fd_l_mixed
  b_l_mixed : Binds K A.fd_l_mixed P_l_mixed []
  g__law_mixed : mg "_law_mixed" = some (.ref A.l_mixed)
  F_l_next : Fun K "_law_next" "_law_next" s_l_next A.l_next A.fd_l_next
  b_l_next : Binds K A.fd_l_next P_l_next []
  g__law_next : mg "_law_next" = some (.ref A.l_next)
  F_l_entries : Fun K "_law_entries" "_law_entries" s_l_entries A.l_entries A.fd_l_entries
  b_l_entries : Binds K A.fd_l_entries P_l_entries []
  g__law_entries : mg "_law_entries" = some (.ref A.l_entries)
  F_l_book : Fun K "_law_book" "_law_book" s_l_book A.l_book A.fd_l_book
  b_l_book : Binds K A.fd_l_book P_l_book []
  g__law_book : mg "_law_book" = some (.ref A.l_book)
  F_l_kept : Fun K "_law_kept" "_law_kept" s_l_kept A.l_kept A.fd_l_kept
  b_l_kept : Binds K A.fd_l_kept P_l_kept []
  g__law_kept : mg "_law_kept" = some (.ref A.l_kept)
  F_l_changed : Fun K "_law_changed" "_law_changed" s_l_changed A.l_changed A.fd_l_changed
  b_l_changed : Binds K A.fd_l_changed P_l_changed []
  g__law_changed : mg "_law_changed" = some (.ref A.l_changed)
  F_l_lists : Fun K "_law_lists" "_law_lists" s_l_lists A.l_lists A.fd_l_lists
  b_l_lists : Binds K A.fd_l_lists P_l_lists []
  g__law_lists : mg "_law_lists" = some (.ref A.l_lists)
  F_l_refused : Fun K "_law_refused" "_law_refused" s_l_refused A.l_refused A.fd_l_refused
  b_l_refused : Binds K A.fd_l_refused P_l_refused []
  g__law_refused : mg "_law_refused" = some (.ref A.l_refused)
  F_l_deed : Fun K "_law_deed" "_law_deed" s_l_deed A.l_deed A.fd_l_deed
  b_l_deed : Binds K A.fd_l_deed P_l_deed []
  g__law_deed : mg "_law_deed" = some (.ref A.l_deed)
  F_l_trial_right : Fun K "_law_trial_right" "_law_trial_right" s_l_trial_right A.l_trial_right A.fd_l_trial_right
  b_l_trial_right : Binds K A.fd_l_trial_right P_l_trial_right []
  g__law_trial_right : mg "_law_trial_right" = some (.ref A.l_trial_right)
  F_f_law : Fun K "law" "law" s_f_law A.f_law A.fd_f_law
  b_f_law : Binds K A.fd_f_law P_f_law []
  g_law : mg "law" = some (.ref A.f_law)
structure TbA where
  c_l_trial_right : Addr
  p_l_trial_right : Addr
structure Tbs (base : Heap) (mg : Str → Option Value) (A : Ad) (Z : TbA) : Prop where
  hc_l_trial_right : A.fd_l_trial_right.code = .ref Z.c_l_trial_right
  tb_l_trial_right : LamX.TabB base mg Z.c_l_trial_right Z.p_l_trial_right
/-- a word that the steps don't open -/
structure Wd (p : Prop) : Prop where
  ok : p
section
variable {X : Cx}
def tG (t : TS) : TS := fun D σ H => Wd (t D σ H)
def tGE (t : TE) : TE := fun σ H Q => Wd (t σ H Q)
theorem ps_g {st : Stmt} {t : TS} (h : PS X st t) : PS X st (tG t) := ⟨fun pins s σ H D I hw => h.run pins s σ H D I hw.ok⟩
theorem pss_g {st : List Stmt} {t : TS} (h : PSs X st t) : PSs X st (tG t) := ⟨fun pins s σ H D I hw => h.run pins s σ H D I hw.ok⟩
theorem pe_g {e : Expr} {t : TE} (h : PE X e t) : PE X e (tGE t) := ⟨fun pins s σ H Q I hw => h.run pins s σ H Q I hw.ok⟩
end
theorem if_int {i j : Int} {A B : Prop} (h1 : i = j → A) (h2 : i ≠ j → B) : if decide (V.int i = V.int j) = true then A else B := by
  by_cases e : i = j
  · rw [if_pos (decide_eq_true (congrArg V.int e))]
    exact h1 e
  · rw [if_neg fun z => e (V.int.inj (of_decide_eq_true z))]
    exact h2 e
theorem if_intN {i j : Int} {A B : Prop} (h1 : i ≠ j → A) (h2 : i = j → B) : if (!decide (V.int i = V.int j)) = true then A else B := by
  by_cases e : i = j
  · rw [decide_eq_true (congrArg V.int e)]
    exact iteF (h2 e)
  · rw [decide_eq_false fun z => e (V.int.inj z)]
    exact iteT (h1 e)
theorem if_dec {p A B : Prop} [Decidable p] (h1 : p → A) (h2 : ¬ p → B) : if decide p = true then A else B := by
  by_cases e : p
  · rw [if_pos (decide_eq_true e)]
    exact h1 e
  · rw [if_neg fun z => e (of_decide_eq_true z)]
    exact h2 e
theorem ifT {p A B : Prop} [Decidable p] (hp : p) (h : A) : if decide p = true then A else B := by
  rw [if_pos (decide_eq_true hp)]
  exact h
theorem ifF {p A B : Prop} [Decidable p] (hp : ¬ p) (h : B) : if decide p = true then A else B := by
  rw [if_neg fun z => hp (of_decide_eq_true z)]
  exact h
theorem ifNT {p A B : Prop} [Decidable p] (hp : p) (h : B) : if (!decide p) = true then A else B := by
  rw [decide_eq_true hp]
  exact iteF h
theorem ifNF {p A B : Prop} [Decidable p] (hp : ¬ p) (h : A) : if (!decide p) = true then A else B := by
  rw [decide_eq_false hp]
  exact iteT h
theorem if_bl {b : Bool} {A B : Prop} (h1 : b = true → A) (h2 : b = false → B) : if b = true then A else B := by
  cases b with
  | true => exact h1 rfl
  | false => exact iteF (h2 rfl)
/-- all but what stands at g is kept -/
def Kp (g : Addr) (H H' : Hp) : Prop := ∀ b o, H b = some o → b ≠ g → H' b = some o
theorem Kp.refl (g : Addr) (H : Hp) : Kp g H H := fun _ _ h _ => h
theorem Kp.trans {g : Addr} {H H1 H2 : Hp} (a : Kp g H H1) (b : Kp g H1 H2) : Kp g H H2 := fun c o h n => b c o (a c o h n) n
theorem Kp.up {g : Addr} {H H' : Hp} {o : HO} (k : Kp g H H') : Kp g H (upd H' g o) := fun b u e n => by
  rw [upd_ne n]
  exact k b u e n

/-! the end by one run of the top, for laws with lambdas of their own: empty tables left out -/
/-! ### the end by one run of the top: what it leaves is told by Bools of a written part -/
abbrev Wr := PySem.W.Frag
/-- the def that a staticmethod's or classmethod's record at p holds -/
def recA (K : Wr) (p : Addr) (kind : String) : Addr := match PySem.W.recIn K p kind with
  | some (.ref a :: _) => a
  | _ => 0
def recB (K : Wr) (p : Addr) (kind : String) : Bool := match PySem.W.recIn K p kind with
  | some (.ref _ :: _) => true
  | _ => false
theorem recB_ok {K : Wr} {p : Addr} {kind : String} (h : recB K p kind = true) : ∃ rest, PySem.W.recIn K p kind = some (.ref (recA K p kind) :: rest) := by
  unfold recB at h
  unfold recA
  split at h
  · next a r e =>
    rw [e]
    exact ⟨r, rfl⟩
  · cases h
/-- a def as an object of the written part shows it -/
abbrev SeenF : Type := Option (Str × Str × Arguments × FuncBody × Scope × Addr × List (Str × Addr) × Addr)
def seeF (K : Wr) (a : Addr) : SeenF := (K.lookup a).bind fun o => match o.data with
  | .func u => some (u.name, u.qualname, u.params, u.body, u.scope, u.globals, u.closure, u.builtins)
  | _ => none
structure Dfn where
  ad : Wr → Addr
  nm : Str
  ql : Str
  st : Stmt
  ds : List V
  ks : List (Str × V)
def Dfn.due (d : Dfn) : SeenF := some (d.nm, d.ql, defArgs d.st, .stmts (defBody d.st), defScope d.st, mainGlobals, [], builtinsNs)
def codeB (K : Wr) (d : Dfn) : Bool := match (K.lookup (d.ad K)).map Obj.data with
  | some (.func u) => PySem.W.codeIn K u.code d.ql && (He.dflB K u.defaults d.ds && He.kwdB K u.kwdefaults d.ks)
  | _ => false
def Dfn.good (K : Wr) (d : Dfn) : Bool := PySem.W.keepIn K (.ref (d.ad K)) && codeB K d
theorem Dfn.funD {K : Wr} {d : Dfn} (e : seeF K (d.ad K) = d.due) (c : d.good K = true) : ∃ fd, FunD K d.nm d.ql (defArgs d.st) (defBody d.st) (defScope d.st) d.ds d.ks (d.ad K) fd := by
  obtain ⟨kp, c2⟩ := Bool.and_eq_true_iff.mp c
  unfold codeB at c2
  unfold seeF Dfn.due at e
  cases q : K.lookup (d.ad K) with
  | none =>
    rw [q] at c2
    cases c2
  | some o =>
    rw [q] at c2 e
    obtain ⟨oc, od, dt, sl⟩ := o
    cases dt with
    | func u =>
      obtain ⟨u1, u2, u3, u4, u5, u6, u7, u8, u9, u10, u11, u12, u13, u14, u15⟩ := u
      have e2 : (some (u1, u2, u3, u4, u5, u6, u7, u15) : SeenF) = some (d.nm, d.ql, defArgs d.st, .stmts (defBody d.st), defScope d.st, mainGlobals, [], builtinsNs) := e
      injection e2 with e2
      injection e2 with a1 e2
      injection e2 with a2 e2
      injection e2 with a3 e2
      injection e2 with a4 e2
      injection e2 with a5 e2
      injection e2 with a6 e2
      injection e2 with a7 a8
      subst a1 a2 a3 a4 a5 a6 a7 a8
      have c3 : (PySem.W.codeIn K u13 d.ql && (He.dflB K u8 d.ds && He.kwdB K u9 d.ks)) = true := c2
      obtain ⟨b1, b2⟩ := Bool.and_eq_true_iff.mp c3
      obtain ⟨b3, b4⟩ := Bool.and_eq_true_iff.mp b2
      exact ⟨_, ⟨oc, od, u8, u9, u10, u11, u12, u13, u14, sl, rfl, q, b1, He.dflB_ok b3, He.kwdB_ok b4⟩, kp⟩
    | _ => cases c2
theorem fun_of {K : Wr} {x ql : Str} {st : Stmt} {f : Addr} {fd : FuncData} (F : FunD K x ql (defArgs st) (defBody st) (defScope st) [] [] f fd) : Fun K x ql st f fd := by
  obtain ⟨⟨oc, od, dV, kV, doc, pm, an, cdv, ct, sl, e, l, c, dd, _⟩, kp⟩ := F
  rcases dd with ⟨_, ed⟩ | ⟨n, _⟩
  · subst ed
    exact ⟨⟨oc, od, kV, doc, pm, an, cdv, ct, sl, e, l, c⟩, kp⟩
  · exact absurd rfl n
/-- an own error's class, made with an __init__ of its own or of a class above -/
def oexB (K : Wr) (C : Addr) : Bool := match K.lookup C with
  | some ⟨.type t, _, .cls cd, sl⟩ => decide (t = "type") && (match cd.mro, sl.toList with
    | .ref c :: bm, [_, _, _, _, some (.builtin nid), _] => decide (c = C) && (PySem.HandSPX.refsVE bm && (cd.hasDict && (!cd.hasDel && decide (nid = "ValueError.__new__"))))
    | _, _ => false)
  | _ => false
theorem oexB_ok {K : Wr} {C : Addr} (h : oexB K C = true) : ∃ nm q N bs bm sn sub ab col dd k0 k1 k2 k3 k5, K.lookup C = some (excClassObj nm q C N bs bm true sn sub ab col dd k0 k1 k2 k3 k5 "ValueError.__new__") ∧ PySem.HandSPX.refsVE bm = true := by
  unfold oexB at h
  split at h
  · next t dd cd sl e =>
    obtain ⟨h1, h2⟩ := Bool.and_eq_true_iff.mp h
    have et := of_decide_eq_true h1
    subst et
    split at h2
    · next c bm k0 k1 k2 k3 nid k5 em es =>
      obtain ⟨g1, g2⟩ := Bool.and_eq_true_iff.mp h2
      obtain ⟨g3, g4⟩ := Bool.and_eq_true_iff.mp g2
      obtain ⟨g5, g6⟩ := Bool.and_eq_true_iff.mp g4
      obtain ⟨g7, g8⟩ := Bool.and_eq_true_iff.mp g6
      have ec := of_decide_eq_true g1
      have en := of_decide_eq_true g8
      obtain ⟨nm, bs, mro, N, q, hd, sn, sub, ab, col, hdel⟩ := cd
      have em : mro = .ref c :: bm := em
      have g5 : hd = true := g5
      have g9 : hdel = false := Bool.not_eq_true' _ ▸ g7
      subst em ec en g5 g9
      have esl : sl = #[k0, k1, k2, k3, some (.builtin "ValueError.__new__"), k5] := by
        obtain ⟨l⟩ := sl
        exact congrArg Array.mk es
      subst esl
      exact ⟨nm, q, N, bs, bm, sn, sub, ab, col, dd, k0, k1, k2, k3, k5, e, g3⟩
    · cases h2
  · cases h
def cfEq : PySem.W.CFound → PySem.W.CFound → Bool
  | .val a, .val b => decide (a = b)
  | .get a b c d, .get a' b' c' d' => decide (a = a') && (decide (b = b') && (decide (c = c') && decide (d = d')))
  | _, _ => false
def cfB (o : Option PySem.W.CFound) (r : PySem.W.CFound) : Bool := match o with
  | some x => cfEq x r
  | none => false
theorem cfB_ok {o : Option PySem.W.CFound} {r : PySem.W.CFound} (h : cfB o r = true) : o = some r := by
  unfold cfB at h
  cases o with
  | none => cases h
  | some x =>
    have h : cfEq x r = true := h
    cases x with
    | val a => cases r with
      | val b => rw [of_decide_eq_true (show decide (a = b) = true from h)]
      | get _ _ _ _ => cases h
    | get a b c d => cases r with
      | val _ => cases h
      | get a' b' c' d' =>
        obtain ⟨h1, h2⟩ := Bool.and_eq_true_iff.mp (show (decide (a = a') && (decide (b = b') && (decide (c = c') && decide (d = d')))) = true from h)
        obtain ⟨h3, h4⟩ := Bool.and_eq_true_iff.mp h2
        obtain ⟨h5, h6⟩ := Bool.and_eq_true_iff.mp h4
        rw [of_decide_eq_true h1, of_decide_eq_true h3, of_decide_eq_true h5, of_decide_eq_true h6]
/-- a tuple of the top -/
def tupK (K : Wr) (a : Addr) (vs : List V) : Bool := match K.lookup a with
  | some ⟨.type c, _, .seq its _, _⟩ => decide (c = "tuple") && (decide (its.size ≤ sizeLine) && He.relAll vs its.toList)
  | _ => false
theorem tupK_ok {K : Wr} {a : Addr} {vs : List V} (h : tupK K a vs = true) : ∃ (o : Obj) (its : Array Value) (n : Nat), K.lookup a = some o ∧ o.cls = .type "tuple" ∧ o.data = .seq its n ∧ its.size ≤ sizeLine ∧ Vals vs its.toList := by
  unfold tupK at h
  split at h
  · next c od its n sl e =>
    obtain ⟨h1, h2⟩ := Bool.and_eq_true_iff.mp h
    obtain ⟨h3, h4⟩ := Bool.and_eq_true_iff.mp h2
    exact ⟨_, its, n, e, congrArg Value.type (of_decide_eq_true h1), rfl, of_decide_eq_true h3, He.relAll_ok h4⟩
  · cases h
theorem and2 {a b : Bool} {p q : Prop} (ha : a = true → p) (hb : b = true → q) (h : (a && b) = true) : p ∧ q :=
  ⟨ha (Bool.and_eq_true_iff.mp h).1, hb (Bool.and_eq_true_iff.mp h).2⟩
/-! the hook -/
abbrev LookK : Type := Bool × List SeenF
def lookK (fs : List (Wr → Bool)) (ds : List Dfn) (K : Wr) : LookK := ((fs.all fun f => f K) && (ds.all fun d => d.good K), ds.map fun d => seeF K (d.ad K))
def wantK (ds : List Dfn) : LookK := (true, ds.map Dfn.due)
def lookG (n : Nat) (fs : List (Wr → Bool)) (ds : List Dfn) (g : Addr → Option Obj) : LookK := lookK fs ds (He.frG g (List.range' 0 n))
abbrev PieceK : Type := List (Wr → Bool) × List Dfn
/-- one piece of the look -/
def hookK (p : PieceK) : PySem.W.Hook where
  α := LookK
  obs := fun st => lookG st.heap.objs.size p.1 p.2 st.heap.get?
  val := fun _ => wantK p.2
  says := fun _ hp => ∃ K : Wr, K.In hp ∧ lookK p.1 p.2 K = wantK p.2
  of := fun _ _ eq => ⟨_, He.frG_in, eq⟩
  keeps := fun _ _ _ ⟨K, inn, eq⟩ kp => ⟨K, PySem.W.Frag.In.keeps inn kp, eq⟩
def seeK (p : PieceK) (st : PySem.W.SharedT) : LookK := lookG st.n p.1 p.2 (HandSHeadRun.getT st)
/-- all pieces -/
def hookL (ps : List PieceK) : PySem.W.Hook where
  α := List LookK
  obs := fun st => ps.map fun p => lookG st.heap.objs.size p.1 p.2 st.heap.get?
  val := fun _ => ps.map fun p => wantK p.2
  says := fun _ hp => ∃ K : Wr, K.In hp ∧ ∀ p ∈ ps, lookK p.1 p.2 K = wantK p.2
  of := fun _ st eq => ⟨He.frG st.heap.get? (List.range' 0 st.heap.objs.size), He.frG_in, fun p hp => (List.map_inj_left (l := ps) (f := fun p : PieceK => lookG st.heap.objs.size p.1 p.2 st.heap.get?) (g := fun p => wantK p.2)).mp eq p hp⟩
  keeps := fun _ _ _ ⟨K, inn, eq⟩ kp => ⟨K, PySem.W.Frag.In.keeps inn kp, eq⟩
def seeL (ps : List PieceK) (st : PySem.W.SharedT) : List LookK := ps.map fun p => seeK p st
theorem seeK_eq (p : PieceK) (st : PySem.W.SharedT) : seeK p st = (hookK p).obs st.abs := by
  have e : HandSHeadRun.getT st = st.abs.heap.get? := funext (HandSHeadRun.getT_eq st)
  have e2 : st.abs.heap.objs.size = st.n := PySem.W.absHeap_size st.tree st.n st.life
  show _ = lookG st.abs.heap.objs.size p.1 p.2 st.abs.heap.get?
  unfold seeK
  rw [e, e2]
theorem seeL_eq (ps : List PieceK) (st : PySem.W.SharedT) : seeL ps st = (hookL ps).obs st.abs := List.map_congr_left fun p _ => seeK_eq p st
/-- the run's look, piece by piece -/
theorem run_join {r : PySem.W.OpenRow} {q : Program} {M : Nat} {loose : List PySem.Str} {w : World} {p0 : PieceK} {ps : List PieceK} (h : ∀ p ∈ p0 :: ps, HandSHeadRun.RunEq r q (hookK p) (seeK p) M loose w) :
    HandSHeadRun.RunEq r q (hookL (p0 :: ps)) (seeL (p0 :: ps)) M loose w := by
  intro os
  obtain ⟨s, es, e0⟩ := Option.map_eq_some_iff.mp (h p0 List.mem_cons_self os)
  rw [es]
  have key : ∀ p ∈ p0 :: ps, seeK p s = wantK p.2 := fun p hp => by
    have z := h p hp os
    rw [es] at z
    exact congrArg (fun y => y.2.2) (Option.some.inj z)
  have a1 : (p0 :: ps).map (fun p => seeK p s) = (p0 :: ps).map fun p => wantK p.2 := List.map_congr_left key
  have b1 := congrArg (fun y => y.1) e0
  have b2 := congrArg (fun y => y.2.1) e0
  exact congrArg some (Prod.ext b1 (Prod.ext b2 a1))
theorem fact_of {fs : List (Wr → Bool)} {ds : List Dfn} {K : Wr} (c : lookK fs ds K = wantK ds) (i : Nat) {f : Wr → Bool} (h : fs[i]? = some f) : f K = true := by
  have c1 : ((fs.all fun f => f K) && (ds.all fun d => d.good K)) = true := congrArg Prod.fst c
  exact List.all_eq_true.mp (Bool.and_eq_true_iff.mp c1).1 f (List.mem_of_getElem? h)
theorem dfn_of {fs : List (Wr → Bool)} {ds : List Dfn} {K : Wr} (c : lookK fs ds K = wantK ds) (i : Nat) {d : Dfn} (h : ds[i]? = some d) : ∃ fd, FunD K d.nm d.ql (defArgs d.st) (defBody d.st) (defScope d.st) d.ds d.ks (d.ad K) fd := by
  have c1 : ((fs.all fun f => f K) && (ds.all fun d => d.good K)) = true := congrArg Prod.fst c
  have c2 : ds.map (fun d => seeF K (d.ad K)) = ds.map Dfn.due := congrArg Prod.snd c
  have c3 := congrArg (fun l => l[i]?) c2
  simp only [List.getElem?_map, h, Option.map_some, Option.some.injEq] at c3
  exact Dfn.funD c3 (List.all_eq_true.mp (Bool.and_eq_true_iff.mp c1).2 d (List.mem_of_getElem? h))

def codA (K : Wr) (f : Addr) : Addr := match (K.lookup f).map Obj.data with
  | some (.func u) => (match u.code with
    | .ref c => c
    | _ => 0)
  | _ => 0
def tabA (K : Wr) (f : Addr) : Addr := match (K.lookup (codA K f)).map Obj.data with
  | some (.fields vs) => (match (vs[11]? : Option Value) with
    | some (.ref P) => P
    | _ => 0)
  | _ => 0
def tabF (K : Wr) (f : Addr) : Bool := match (K.lookup f).map Obj.data with
  | some (.func u) => (match u.code with
    | .ref _ => true
    | _ => false)
  | _ => false
def tabG (K : Wr) (f : Addr) : Bool := match (K.lookup (codA K f)).map Obj.data with
  | some (.fields vs) => (match (vs[11]? : Option Value) with
    | some (.ref _) => true
    | _ => false)
  | _ => false
/-- the def at f has a table, which is empty -/
def tabOkB (K : Wr) (f : Addr) : Bool := tabF K f && (tabG K f && (PySem.W.codeHdIn K (codA K f) (tabA K f) && (K.lookup (tabA K f)).isNone))
structure TabOk (K : Wr) (f : Addr) : Prop where
  fd : ∀ oc od u sl, K.lookup f = some ⟨oc, od, .func u, sl⟩ → u.code = .ref (codA K f)
  tb : ∃ e dd vs sl, K.lookup (codA K f) = some ⟨e, dd, .fields vs, sl⟩ ∧ vs[11]? = some (.ref (tabA K f))
  hd : PySem.W.codeHdIn K (codA K f) (tabA K f) = true
  no : K.lookup (tabA K f) = none
theorem tabOkB_ok {K : Wr} {f : Addr} (h : tabOkB K f = true) : TabOk K f := by
  obtain ⟨h1, h⟩ := Bool.and_eq_true_iff.mp h
  obtain ⟨h2, h⟩ := Bool.and_eq_true_iff.mp h
  obtain ⟨h3, h4⟩ := Bool.and_eq_true_iff.mp h
  refine ⟨fun oc od u sl e => ?_, ?_, h3, Option.isNone_iff_eq_none.mp h4⟩
  · unfold tabF at h1
    unfold codA
    rw [e] at h1 ⊢
    dsimp only [Option.map_some] at h1 ⊢
    revert h1
    cases u.code with
    | ref c => exact fun _ => rfl
    | _ => exact fun z => nomatch z
  · unfold tabG at h2
    unfold tabA
    cases e : K.lookup (codA K f) with
    | none => rw [e] at h2; cases h2
    | some o =>
      obtain ⟨a, b, d, c⟩ := o
      rw [e] at h2
      dsimp only [Option.map_some] at h2 ⊢
      cases d with
      | fields vs =>
        dsimp only at h2 ⊢
        refine ⟨a, b, vs, c, rfl, ?_⟩
        revert h2
        cases vs[11]? with
        | none => exact fun z => nomatch z
        | some v =>
          cases v with
          | ref P => exact fun _ => rfl
          | _ => exact fun z => nomatch z
      | _ => cases h2
abbrev PieceT : Type := PieceK × List (Wr → Addr)
abbrev LookT : Type := LookK × Bool
def lookTT (p : PieceT) (g : Addr → Option Obj) (K : Wr) : LookT := (lookK p.1.1 p.1.2 K, p.2.all fun t => match g (tabA K (t K)) with
  | some o => He.emptyTab o
  | none => false)
def lookGT (n : Nat) (p : PieceT) (g : Addr → Option Obj) : LookT := lookTT p g (He.frT g (List.range' 0 n))
def wantT (p : PieceT) : LookT := (wantK p.1.2, true)
/-- what is told of a piece -/
def SaysT (p : PieceT) (h : Heap) (K : Wr) : Prop := lookK p.1.1 p.1.2 K = wantK p.1.2 ∧ ∀ t ∈ p.2, h.get? (tabA K (t K)) = some { cls := .none, data := .fields #[] }
theorem saysT_of {p : PieceT} {h : Heap} {K : Wr} (e : lookTT p h.get? K = wantT p) : SaysT p h K := by
  refine ⟨congrArg Prod.fst e, fun t ht => ?_⟩
  have e2 : (p.2.all fun t => match h.get? (tabA K (t K)) with
    | some o => He.emptyTab o
    | none => false) = true := congrArg Prod.snd e
  have e3 := List.all_eq_true.mp e2 t ht
  cases q : h.get? (tabA K (t K)) with
  | none =>
    rw [q] at e3
    cases e3
  | some o =>
    rw [q] at e3
    rw [He.emptyTab_eq e3]
def hookKT (p : PieceT) : PySem.W.Hook where
  α := LookT
  obs := fun st => lookGT st.heap.objs.size p st.heap.get?
  val := fun _ => wantT p
  says := fun _ hp => ∃ K : Wr, K.In hp ∧ SaysT p hp K
  of := fun _ _ eq => ⟨_, He.frT_in, saysT_of eq⟩
  keeps := fun _ _ _ ⟨K, inn, eq⟩ kp => ⟨K, PySem.W.Frag.In.keeps inn kp, eq.1, fun t ht => kp _ _ (eq.2 t ht)⟩
def seeKT (p : PieceT) (st : PySem.W.SharedT) : LookT := lookGT st.n p (HandSHeadRun.getT st)
def hookLT (ps : List PieceT) : PySem.W.Hook where
  α := List LookT
  obs := fun st => ps.map fun p => lookGT st.heap.objs.size p st.heap.get?
  val := fun _ => ps.map wantT
  says := fun _ hp => ∃ K : Wr, K.In hp ∧ ∀ p ∈ ps, SaysT p hp K
  of := fun _ st eq => ⟨He.frT st.heap.get? (List.range' 0 st.heap.objs.size), He.frT_in, fun p hp => saysT_of ((List.map_inj_left (l := ps) (f := fun p : PieceT => lookGT st.heap.objs.size p st.heap.get?) (g := wantT)).mp eq p hp)⟩
  keeps := fun _ _ _ ⟨K, inn, eq⟩ kp => ⟨K, PySem.W.Frag.In.keeps inn kp, fun p hp => ⟨(eq p hp).1, fun t ht => kp _ _ ((eq p hp).2 t ht)⟩⟩
def seeLT (ps : List PieceT) (st : PySem.W.SharedT) : List LookT := ps.map fun p => seeKT p st
theorem seeKT_eq (p : PieceT) (st : PySem.W.SharedT) : seeKT p st = (hookKT p).obs st.abs := by
  have e : HandSHeadRun.getT st = st.abs.heap.get? := funext (HandSHeadRun.getT_eq st)
  have e2 : st.abs.heap.objs.size = st.n := PySem.W.absHeap_size st.tree st.n st.life
  show _ = lookGT st.abs.heap.objs.size p st.abs.heap.get?
  unfold seeKT
  rw [e, e2]
theorem seeLT_eq (ps : List PieceT) (st : PySem.W.SharedT) : seeLT ps st = (hookLT ps).obs st.abs := List.map_congr_left fun p _ => seeKT_eq p st
theorem run_joinT {r : PySem.W.OpenRow} {q : Program} {M : Nat} {loose : List PySem.Str} {w : World} {p0 : PieceT} {ps : List PieceT} (h : ∀ p ∈ p0 :: ps, HandSHeadRun.RunEq r q (hookKT p) (seeKT p) M loose w) :
    HandSHeadRun.RunEq r q (hookLT (p0 :: ps)) (seeLT (p0 :: ps)) M loose w := by
  intro os
  obtain ⟨s, es, e0⟩ := Option.map_eq_some_iff.mp (h p0 List.mem_cons_self os)
  rw [es]
  have key : ∀ p ∈ p0 :: ps, seeKT p s = wantT p := fun p hp => by
    have z := h p hp os
    rw [es] at z
    exact congrArg (fun y => y.2.2) (Option.some.inj z)
  have a1 : (p0 :: ps).map (fun p => seeKT p s) = (p0 :: ps).map wantT := List.map_congr_left key
  have b1 := congrArg (fun y => y.1) e0
  have b2 := congrArg (fun y => y.2.1) e0
  exact congrArg some (Prod.ext b1 (Prod.ext b2 a1))
/-- a law's end, with tables -/
theorem walk_ofTE {l : PySem.W.OpenLaw} {n k : Nat} {q : Program} {loose : List Str} {XP : (Str → Option Value) → Heap → Prop} {YP : World → Heap → Prop} {d : DefRec} {CX : World → CXT} {x : Str}
    (hn : l.most = some n) (hn2 : n ≤ sizeLine) (hdf : d.params.defaults = []) (hr : Room k callerA)
    (F : ∀ (w : World) (mg : Str → Option Value) (fa : Addr) (h : Heap), YP w h → h.Ns mainGlobals mg → mg d.name = some (.ref fa) → ∃ K : Wr, K.In h ∧ LamX.LawAtS l w K (CX w) k n x mg fa h)
    (hCX : ∀ (w : World) (H : Hp) (s : Shared) (e : Value) (s' : Shared), CX w [] H s (fun _ _ _ => False) e s' → False) :
    PySem.W.WalkO q loose XP YP l.row.toRowW d [] (fun f vs => PySem.call f vs) := by
  refine Att.attach_callB hn hdf fun w s₀ s₁ mg mb fa o pm cd doc a vs ns G Y ho hd hcd hmg hobj hints hlen hbits hg => ?_
  obtain ⟨K, KX, fd, cs, sp, hT, nT, C, hb, hsp, hF⟩ := F w mg fa _ Y G.T.g hmg
  exact LamX.law_callTs KX G.T.g G.T.b G.T.builtins G.T.nolimit hg hT nT C G.T.bmain hobj hints (Nat.le_trans hlen hn2) hr hF hb (fun H hH hS => hsp H a ns hlen hbits hH hS) fun H e s' => hCX w H s₁ e s'
/-- a def's table, at the law's call -/
theorem tab_call {K : Wr} {f : Addr} {h : Heap} {x ql : Str} {st : Stmt} {fd : FuncData} (X : K.In h) (t : TabOk K f) (F : Fun K x ql st f fd) (e : h.get? (tabA K f) = some { cls := .none, data := .fields #[] }) : h.get? (tabA K f) = some { cls := .none, data := .fields #[] } ∧ PySem.W.CodeHd h (codA K f) (tabA K f) ∧ fd.code = .ref (codA K f) := by
  obtain ⟨oc, od, kV, doc, pm, an, cdv, ct, osl, rfl, lk, hcd⟩ := F.ex
  exact ⟨e, PySem.W.codeHd_of_K X t.hd, t.fd _ _ _ _ lk⟩

def qk_0 (K : Wr) : Bool := decide (PySem.W.nsIn K mainGlobals "KeyError" = some none) && (decide (PySem.W.nsIn K mainGlobals "ZeroDivisionError" = some none) && (decide (PySem.W.nsIn K mainGlobals "_law_held" = some none) && (decide (PySem.W.nsIn K mainGlobals "abs" = some none) && (decide (PySem.W.nsIn K mainGlobals "all" = some none) && (decide (PySem.W.nsIn K mainGlobals "bool" = some none) && (decide (PySem.W.nsIn K mainGlobals "dict" = some none) && (decide (PySem.W.nsIn K mainGlobals "int" = some none))))))))
theorem qk_0_ok {K : Wr} (h : qk_0 K = true) : (PySem.W.nsIn K mainGlobals "KeyError" = some none) ∧ (PySem.W.nsIn K mainGlobals "ZeroDivisionError" = some none) ∧ (PySem.W.nsIn K mainGlobals "_law_held" = some none) ∧ (PySem.W.nsIn K mainGlobals "abs" = some none) ∧ (PySem.W.nsIn K mainGlobals "all" = some none) ∧ (PySem.W.nsIn K mainGlobals "bool" = some none) ∧ (PySem.W.nsIn K mainGlobals "dict" = some none) ∧ (PySem.W.nsIn K mainGlobals "int" = some none) := (and2 of_decide_eq_true (and2 of_decide_eq_true (and2 of_decide_eq_true (and2 of_decide_eq_true (and2 of_decide_eq_true (and2 of_decide_eq_true (and2 of_decide_eq_true of_decide_eq_true))))))) h
def qk_1 (K : Wr) : Bool := decide (PySem.W.nsIn K mainGlobals "isinstance" = some none) && (decide (PySem.W.nsIn K mainGlobals "len" = some none) && (decide (PySem.W.nsIn K mainGlobals "list" = some none) && (decide (PySem.W.nsIn K mainGlobals "min" = some none) && (decide (PySem.W.nsIn K mainGlobals "range" = some none) && (decide (PySem.W.nsIn K mainGlobals "sorted" = some none) && (decide (PySem.W.nsIn K mainGlobals "str" = some none) && (decide (PySem.W.nsIn K mainGlobals "tuple" = some none))))))))
theorem qk_1_ok {K : Wr} (h : qk_1 K = true) : (PySem.W.nsIn K mainGlobals "isinstance" = some none) ∧ (PySem.W.nsIn K mainGlobals "len" = some none) ∧ (PySem.W.nsIn K mainGlobals "list" = some none) ∧ (PySem.W.nsIn K mainGlobals "min" = some none) ∧ (PySem.W.nsIn K mainGlobals "range" = some none) ∧ (PySem.W.nsIn K mainGlobals "sorted" = some none) ∧ (PySem.W.nsIn K mainGlobals "str" = some none) ∧ (PySem.W.nsIn K mainGlobals "tuple" = some none) := (and2 of_decide_eq_true (and2 of_decide_eq_true (and2 of_decide_eq_true (and2 of_decide_eq_true (and2 of_decide_eq_true (and2 of_decide_eq_true (and2 of_decide_eq_true of_decide_eq_true))))))) h
def qk_2 (K : Wr) : Bool := decide (PySem.W.nsIn K mainGlobals "CostError" = some (some (.ref (He.ga K "CostError")))) && (PySem.W.keepIn K (.ref (He.ga K "CostError")) && (decide (PySem.W.subIn K (.ref (He.ga K "CostError")) (.type "BaseException") = some true) && (decide (PySem.W.typeIn K (.ref (He.ga K "CostError")) = some (.type "type")) && (PySem.W.hasDictIn K (He.ga K "CostError") && (PySem.W.isClsIn K (He.ga K "CostError") && (decide (PySem.W.subIn K (.ref (He.ga K "CostError")) (.ref (He.ga K "CostError")) = some true) && (decide (PySem.W.findIn K (.ref (He.ga K "CostError")) "__getattribute__" = some (some (.builtin "BaseException.__getattribute__"))))))))))
theorem qk_2_ok {K : Wr} (h : qk_2 K = true) : (PySem.W.nsIn K mainGlobals "CostError" = some (some (.ref (He.ga K "CostError")))) ∧ (PySem.W.keepIn K (.ref (He.ga K "CostError")) = true) ∧ (PySem.W.subIn K (.ref (He.ga K "CostError")) (.type "BaseException") = some true) ∧ (PySem.W.typeIn K (.ref (He.ga K "CostError")) = some (.type "type")) ∧ (PySem.W.hasDictIn K (He.ga K "CostError") = true) ∧ (PySem.W.isClsIn K (He.ga K "CostError") = true) ∧ (PySem.W.subIn K (.ref (He.ga K "CostError")) (.ref (He.ga K "CostError")) = some true) ∧ (PySem.W.findIn K (.ref (He.ga K "CostError")) "__getattribute__" = some (some (.builtin "BaseException.__getattribute__"))) := (and2 of_decide_eq_true (and2 id (and2 of_decide_eq_true (and2 of_decide_eq_true (and2 id (and2 id (and2 of_decide_eq_true of_decide_eq_true))))))) h
def qk_3 (K : Wr) : Bool := decide (PySem.W.findIn K (.ref (He.ga K "CostError")) "__getattr__" = some none) && (decide (PySem.W.findIn K (.ref (He.ga K "CostError")) "__class__" = some (some (.builtin "object.__class__"))) && (decide (PySem.W.specialIn K (.builtin "object.__class__") "__get__" = some (some (.builtin "getset_descriptor.__get__"))) && (decide (PySem.W.takesIn K (.builtin "object.__class__") = some true) && (decide (PySem.W.mroIn K (He.ga K "CostError") (.type "object") = some true) && (PySem.W.readsIn K (He.ga K "CostError") (.type "type") && (decide (PySem.W.specialIn K (.ref (He.ga K "CostError")) "__getattribute__" = some (some (.builtin "type.__getattribute__"))) && (cfB (PySem.W.findCls K (.ref (He.ga K "CostError")) (.type "type") "__init__") (.val (.builtin "ValueError.__init__")))))))))
theorem qk_3_ok {K : Wr} (h : qk_3 K = true) : (PySem.W.findIn K (.ref (He.ga K "CostError")) "__getattr__" = some none) ∧ (PySem.W.findIn K (.ref (He.ga K "CostError")) "__class__" = some (some (.builtin "object.__class__"))) ∧ (PySem.W.specialIn K (.builtin "object.__class__") "__get__" = some (some (.builtin "getset_descriptor.__get__"))) ∧ (PySem.W.takesIn K (.builtin "object.__class__") = some true) ∧ (PySem.W.mroIn K (He.ga K "CostError") (.type "object") = some true) ∧ (PySem.W.readsIn K (He.ga K "CostError") (.type "type") = true) ∧ (PySem.W.specialIn K (.ref (He.ga K "CostError")) "__getattribute__" = some (some (.builtin "type.__getattribute__"))) ∧ (PySem.W.findCls K (.ref (He.ga K "CostError")) (.type "type") "__init__" = some (.val (.builtin "ValueError.__init__"))) := (and2 of_decide_eq_true (and2 of_decide_eq_true (and2 of_decide_eq_true (and2 of_decide_eq_true (and2 of_decide_eq_true (and2 id (and2 of_decide_eq_true cfB_ok))))))) h
def qk_4 (K : Wr) : Bool := decide (PySem.W.nsIn K mainGlobals "BadEntry" = some (some (.ref (He.ga K "BadEntry")))) && (PySem.W.keepIn K (.ref (He.ga K "BadEntry")) && (decide (PySem.W.subIn K (.ref (He.ga K "BadEntry")) (.type "BaseException") = some true) && (decide (PySem.W.typeIn K (.ref (He.ga K "BadEntry")) = some (.type "type")) && (PySem.W.hasDictIn K (He.ga K "BadEntry") && (PySem.W.isClsIn K (He.ga K "BadEntry") && (decide (PySem.W.subIn K (.ref (He.ga K "BadEntry")) (.ref (He.ga K "BadEntry")) = some true) && (decide (PySem.W.findIn K (.ref (He.ga K "BadEntry")) "__getattribute__" = some (some (.builtin "BaseException.__getattribute__"))))))))))
theorem qk_4_ok {K : Wr} (h : qk_4 K = true) : (PySem.W.nsIn K mainGlobals "BadEntry" = some (some (.ref (He.ga K "BadEntry")))) ∧ (PySem.W.keepIn K (.ref (He.ga K "BadEntry")) = true) ∧ (PySem.W.subIn K (.ref (He.ga K "BadEntry")) (.type "BaseException") = some true) ∧ (PySem.W.typeIn K (.ref (He.ga K "BadEntry")) = some (.type "type")) ∧ (PySem.W.hasDictIn K (He.ga K "BadEntry") = true) ∧ (PySem.W.isClsIn K (He.ga K "BadEntry") = true) ∧ (PySem.W.subIn K (.ref (He.ga K "BadEntry")) (.ref (He.ga K "BadEntry")) = some true) ∧ (PySem.W.findIn K (.ref (He.ga K "BadEntry")) "__getattribute__" = some (some (.builtin "BaseException.__getattribute__"))) := (and2 of_decide_eq_true (and2 id (and2 of_decide_eq_true (and2 of_decide_eq_true (and2 id (and2 id (and2 of_decide_eq_true of_decide_eq_true))))))) h
def qk_5 (K : Wr) : Bool := decide (PySem.W.findIn K (.ref (He.ga K "BadEntry")) "__getattr__" = some none) && (decide (PySem.W.findIn K (.ref (He.ga K "BadEntry")) "__class__" = some (some (.builtin "object.__class__"))) && (decide (PySem.W.specialIn K (.builtin "object.__class__") "__get__" = some (some (.builtin "getset_descriptor.__get__"))) && (decide (PySem.W.takesIn K (.builtin "object.__class__") = some true) && (decide (PySem.W.mroIn K (He.ga K "BadEntry") (.type "object") = some true) && (decide (PySem.W.findIn K (.ref (He.ga K "BadEntry")) "day" = some none) && (decide (PySem.W.findIn K (.ref (He.ga K "BadEntry")) "number" = some none) && (decide (PySem.W.findIn K (.ref (He.ga K "BadEntry")) "__init__" = some (some (.ref (He.ma K (He.ga K "BadEntry") "__init__")))))))))))
theorem qk_5_ok {K : Wr} (h : qk_5 K = true) : (PySem.W.findIn K (.ref (He.ga K "BadEntry")) "__getattr__" = some none) ∧ (PySem.W.findIn K (.ref (He.ga K "BadEntry")) "__class__" = some (some (.builtin "object.__class__"))) ∧ (PySem.W.specialIn K (.builtin "object.__class__") "__get__" = some (some (.builtin "getset_descriptor.__get__"))) ∧ (PySem.W.takesIn K (.builtin "object.__class__") = some true) ∧ (PySem.W.mroIn K (He.ga K "BadEntry") (.type "object") = some true) ∧ (PySem.W.findIn K (.ref (He.ga K "BadEntry")) "day" = some none) ∧ (PySem.W.findIn K (.ref (He.ga K "BadEntry")) "number" = some none) ∧ (PySem.W.findIn K (.ref (He.ga K "BadEntry")) "__init__" = some (some (.ref (He.ma K (He.ga K "BadEntry") "__init__")))) := (and2 of_decide_eq_true (and2 of_decide_eq_true (and2 of_decide_eq_true (and2 of_decide_eq_true (and2 of_decide_eq_true (and2 of_decide_eq_true (and2 of_decide_eq_true of_decide_eq_true))))))) h
def qk_6 (K : Wr) : Bool := decide (PySem.W.typeIn K (.ref (He.ma K (He.ga K "BadEntry") "__init__")) = some (.type "function")) && (oexB K (He.ga K "BadEntry") && (decide (PySem.W.findIn K (.ref (He.ga K "BadEntry")) "__setattr__" = some (some (.builtin "object.__setattr__"))) && (decide (PySem.W.nsIn K mainGlobals "NoEntry" = some (some (.ref (He.ga K "NoEntry")))) && (PySem.W.keepIn K (.ref (He.ga K "NoEntry")) && (decide (PySem.W.subIn K (.ref (He.ga K "NoEntry")) (.type "BaseException") = some true) && (decide (PySem.W.typeIn K (.ref (He.ga K "NoEntry")) = some (.type "type")) && (PySem.W.hasDictIn K (He.ga K "NoEntry"))))))))
theorem qk_6_ok {K : Wr} (h : qk_6 K = true) : (PySem.W.typeIn K (.ref (He.ma K (He.ga K "BadEntry") "__init__")) = some (.type "function")) ∧ (∃ nm q N bs bm sn sub ab col dd k0 k1 k2 k3 k5, K.lookup (He.ga K "BadEntry") = some (excClassObj nm q (He.ga K "BadEntry") N bs bm true sn sub ab col dd k0 k1 k2 k3 k5 "ValueError.__new__") ∧ PySem.HandSPX.refsVE bm = true) ∧ (PySem.W.findIn K (.ref (He.ga K "BadEntry")) "__setattr__" = some (some (.builtin "object.__setattr__"))) ∧ (PySem.W.nsIn K mainGlobals "NoEntry" = some (some (.ref (He.ga K "NoEntry")))) ∧ (PySem.W.keepIn K (.ref (He.ga K "NoEntry")) = true) ∧ (PySem.W.subIn K (.ref (He.ga K "NoEntry")) (.type "BaseException") = some true) ∧ (PySem.W.typeIn K (.ref (He.ga K "NoEntry")) = some (.type "type")) ∧ (PySem.W.hasDictIn K (He.ga K "NoEntry") = true) := (and2 of_decide_eq_true (and2 oexB_ok (and2 of_decide_eq_true (and2 of_decide_eq_true (and2 id (and2 of_decide_eq_true (and2 of_decide_eq_true id))))))) h
def qk_7 (K : Wr) : Bool := PySem.W.isClsIn K (He.ga K "NoEntry") && (decide (PySem.W.subIn K (.ref (He.ga K "NoEntry")) (.ref (He.ga K "NoEntry")) = some true) && (decide (PySem.W.findIn K (.ref (He.ga K "NoEntry")) "__getattribute__" = some (some (.builtin "BaseException.__getattribute__"))) && (decide (PySem.W.findIn K (.ref (He.ga K "NoEntry")) "__getattr__" = some none) && (decide (PySem.W.findIn K (.ref (He.ga K "NoEntry")) "__class__" = some (some (.builtin "object.__class__"))) && (decide (PySem.W.specialIn K (.builtin "object.__class__") "__get__" = some (some (.builtin "getset_descriptor.__get__"))) && (decide (PySem.W.takesIn K (.builtin "object.__class__") = some true) && (decide (PySem.W.mroIn K (He.ga K "NoEntry") (.type "object") = some true))))))))
theorem qk_7_ok {K : Wr} (h : qk_7 K = true) : (PySem.W.isClsIn K (He.ga K "NoEntry") = true) ∧ (PySem.W.subIn K (.ref (He.ga K "NoEntry")) (.ref (He.ga K "NoEntry")) = some true) ∧ (PySem.W.findIn K (.ref (He.ga K "NoEntry")) "__getattribute__" = some (some (.builtin "BaseException.__getattribute__"))) ∧ (PySem.W.findIn K (.ref (He.ga K "NoEntry")) "__getattr__" = some none) ∧ (PySem.W.findIn K (.ref (He.ga K "NoEntry")) "__class__" = some (some (.builtin "object.__class__"))) ∧ (PySem.W.specialIn K (.builtin "object.__class__") "__get__" = some (some (.builtin "getset_descriptor.__get__"))) ∧ (PySem.W.takesIn K (.builtin "object.__class__") = some true) ∧ (PySem.W.mroIn K (He.ga K "NoEntry") (.type "object") = some true) := (and2 id (and2 of_decide_eq_true (and2 of_decide_eq_true (and2 of_decide_eq_true (and2 of_decide_eq_true (and2 of_decide_eq_true (and2 of_decide_eq_true of_decide_eq_true))))))) h
def qk_8 (K : Wr) : Bool := decide (PySem.W.findIn K (.ref (He.ga K "NoEntry")) "day" = some none) && (decide (PySem.W.findIn K (.ref (He.ga K "NoEntry")) "number" = some none) && (decide (PySem.W.findIn K (.ref (He.ga K "NoEntry")) "__init__" = some (some (.ref (He.ma K (He.ga K "NoEntry") "__init__")))) && (decide (PySem.W.typeIn K (.ref (He.ma K (He.ga K "NoEntry") "__init__")) = some (.type "function")) && (oexB K (He.ga K "NoEntry") && (decide (PySem.W.findIn K (.ref (He.ga K "NoEntry")) "__setattr__" = some (some (.builtin "object.__setattr__"))) && (decide (PySem.W.nsIn K mainGlobals "Trial" = some (some (.ref (He.ga K "Trial")))) && (PySem.W.plainGet K (He.ga K "Trial") Str.empty)))))))
theorem qk_8_ok {K : Wr} (h : qk_8 K = true) : (PySem.W.findIn K (.ref (He.ga K "NoEntry")) "day" = some none) ∧ (PySem.W.findIn K (.ref (He.ga K "NoEntry")) "number" = some none) ∧ (PySem.W.findIn K (.ref (He.ga K "NoEntry")) "__init__" = some (some (.ref (He.ma K (He.ga K "NoEntry") "__init__")))) ∧ (PySem.W.typeIn K (.ref (He.ma K (He.ga K "NoEntry") "__init__")) = some (.type "function")) ∧ (∃ nm q N bs bm sn sub ab col dd k0 k1 k2 k3 k5, K.lookup (He.ga K "NoEntry") = some (excClassObj nm q (He.ga K "NoEntry") N bs bm true sn sub ab col dd k0 k1 k2 k3 k5 "ValueError.__new__") ∧ PySem.HandSPX.refsVE bm = true) ∧ (PySem.W.findIn K (.ref (He.ga K "NoEntry")) "__setattr__" = some (some (.builtin "object.__setattr__"))) ∧ (PySem.W.nsIn K mainGlobals "Trial" = some (some (.ref (He.ga K "Trial")))) ∧ (PySem.W.plainGet K (He.ga K "Trial") Str.empty = true) := (and2 of_decide_eq_true (and2 of_decide_eq_true (and2 of_decide_eq_true (and2 of_decide_eq_true (and2 oexB_ok (and2 of_decide_eq_true (and2 of_decide_eq_true id))))))) h
def qk_9 (K : Wr) : Bool := PySem.W.hasDictIn K (He.ga K "Trial") && (PySem.W.plainOver K (He.ga K "Trial") && (decide (PySem.W.findIn K (.ref (He.ga K "Trial")) "__setattr__" = some (some (.builtin "object.__setattr__"))) && (He.eqO (PySem.W.findIn K (.ref (He.ga K "Trial")) "book") (some none) && (He.eqO (PySem.W.findIn K (.ref (He.ga K "Trial")) "kept") (some none) && (PySem.W.makesIn K (He.ga K "Trial") && (decide (PySem.W.findIn K (.ref (He.ga K "Trial")) "__init__" = some (some (.ref (He.ma K (He.ga K "Trial") "__init__")))) && (PySem.W.isFn K (.ref (He.ma K (He.ga K "Trial") "__init__")))))))))
theorem qk_9_ok {K : Wr} (h : qk_9 K = true) : (PySem.W.hasDictIn K (He.ga K "Trial") = true) ∧ (PySem.W.plainOver K (He.ga K "Trial") = true) ∧ (PySem.W.findIn K (.ref (He.ga K "Trial")) "__setattr__" = some (some (.builtin "object.__setattr__"))) ∧ (NoAttr K (He.ga K "Trial") "book") ∧ (NoAttr K (He.ga K "Trial") "kept") ∧ (PySem.W.makesIn K (He.ga K "Trial") = true) ∧ (PySem.W.findIn K (.ref (He.ga K "Trial")) "__init__" = some (some (.ref (He.ma K (He.ga K "Trial") "__init__")))) ∧ (PySem.W.isFn K (.ref (He.ma K (He.ga K "Trial") "__init__")) = true) := (and2 id (and2 id (and2 of_decide_eq_true (and2 He.eqO_ok (and2 He.eqO_ok (and2 id (and2 of_decide_eq_true id))))))) h
def qk_10 (K : Wr) : Bool := PySem.W.keepIn K (.ref (He.ga K "Trial")) && (decide (PySem.W.findIn K (.ref (He.ga K "Trial")) "__enter__" = some (some (.ref (He.ma K (He.ga K "Trial") "__enter__")))) && (PySem.W.isFn K (.ref (He.ma K (He.ga K "Trial") "__enter__")) && (PySem.W.keepIn K (.ref (He.ma K (He.ga K "Trial") "__enter__")) && (decide (PySem.W.findIn K (.ref (He.ga K "Trial")) "__exit__" = some (some (.ref (He.ma K (He.ga K "Trial") "__exit__")))) && (PySem.W.isFn K (.ref (He.ma K (He.ga K "Trial") "__exit__")) && (PySem.W.keepIn K (.ref (He.ma K (He.ga K "Trial") "__exit__")) && (decide (PySem.W.nsIn K mainGlobals "Book" = some (some (.ref (He.ga K "Book")))))))))))
theorem qk_10_ok {K : Wr} (h : qk_10 K = true) : (PySem.W.keepIn K (.ref (He.ga K "Trial")) = true) ∧ (PySem.W.findIn K (.ref (He.ga K "Trial")) "__enter__" = some (some (.ref (He.ma K (He.ga K "Trial") "__enter__")))) ∧ (PySem.W.isFn K (.ref (He.ma K (He.ga K "Trial") "__enter__")) = true) ∧ (PySem.W.keepIn K (.ref (He.ma K (He.ga K "Trial") "__enter__")) = true) ∧ (PySem.W.findIn K (.ref (He.ga K "Trial")) "__exit__" = some (some (.ref (He.ma K (He.ga K "Trial") "__exit__")))) ∧ (PySem.W.isFn K (.ref (He.ma K (He.ga K "Trial") "__exit__")) = true) ∧ (PySem.W.keepIn K (.ref (He.ma K (He.ga K "Trial") "__exit__")) = true) ∧ (PySem.W.nsIn K mainGlobals "Book" = some (some (.ref (He.ga K "Book")))) := (and2 id (and2 of_decide_eq_true (and2 id (and2 id (and2 of_decide_eq_true (and2 id (and2 id of_decide_eq_true))))))) h
def qk_11 (K : Wr) : Bool := PySem.W.plainGet K (He.ga K "Book") Str.empty && (PySem.W.hasDictIn K (He.ga K "Book") && (PySem.W.plainOver K (He.ga K "Book") && (decide (PySem.W.findIn K (.ref (He.ga K "Book")) "__setattr__" = some (some (.builtin "object.__setattr__"))) && (He.eqO (PySem.W.findIn K (.ref (He.ga K "Book")) "entries") (some none) && (PySem.W.makesIn K (He.ga K "Book") && (decide (PySem.W.findIn K (.ref (He.ga K "Book")) "__init__" = some (some (.ref (He.ma K (He.ga K "Book") "__init__")))) && (PySem.W.isFn K (.ref (He.ma K (He.ga K "Book") "__init__")))))))))
theorem qk_11_ok {K : Wr} (h : qk_11 K = true) : (PySem.W.plainGet K (He.ga K "Book") Str.empty = true) ∧ (PySem.W.hasDictIn K (He.ga K "Book") = true) ∧ (PySem.W.plainOver K (He.ga K "Book") = true) ∧ (PySem.W.findIn K (.ref (He.ga K "Book")) "__setattr__" = some (some (.builtin "object.__setattr__"))) ∧ (NoAttr K (He.ga K "Book") "entries") ∧ (PySem.W.makesIn K (He.ga K "Book") = true) ∧ (PySem.W.findIn K (.ref (He.ga K "Book")) "__init__" = some (some (.ref (He.ma K (He.ga K "Book") "__init__")))) ∧ (PySem.W.isFn K (.ref (He.ma K (He.ga K "Book") "__init__")) = true) := (and2 id (and2 id (and2 id (and2 of_decide_eq_true (and2 He.eqO_ok (and2 id (and2 of_decide_eq_true id))))))) h
def qk_12 (K : Wr) : Bool := PySem.W.keepIn K (.ref (He.ga K "Book")) && (decide (PySem.W.findIn K (.ref (He.ga K "Book")) "__contains__" = some (some (.ref (He.ma K (He.ga K "Book") "__contains__")))) && (PySem.W.isFn K (.ref (He.ma K (He.ga K "Book") "__contains__")) && (PySem.W.keepIn K (.ref (He.ma K (He.ga K "Book") "__contains__")) && (decide (PySem.W.findIn K (.ref (He.ga K "Book")) "__len__" = some (some (.ref (He.ma K (He.ga K "Book") "__len__")))) && (PySem.W.isFn K (.ref (He.ma K (He.ga K "Book") "__len__")) && (PySem.W.keepIn K (.ref (He.ma K (He.ga K "Book") "__len__")) && (decide (PySem.W.findIn K (.ref (He.ga K "Book")) "__getitem__" = some (some (.ref (He.ma K (He.ga K "Book") "__getitem__")))))))))))
theorem qk_12_ok {K : Wr} (h : qk_12 K = true) : (PySem.W.keepIn K (.ref (He.ga K "Book")) = true) ∧ (PySem.W.findIn K (.ref (He.ga K "Book")) "__contains__" = some (some (.ref (He.ma K (He.ga K "Book") "__contains__")))) ∧ (PySem.W.isFn K (.ref (He.ma K (He.ga K "Book") "__contains__")) = true) ∧ (PySem.W.keepIn K (.ref (He.ma K (He.ga K "Book") "__contains__")) = true) ∧ (PySem.W.findIn K (.ref (He.ga K "Book")) "__len__" = some (some (.ref (He.ma K (He.ga K "Book") "__len__")))) ∧ (PySem.W.isFn K (.ref (He.ma K (He.ga K "Book") "__len__")) = true) ∧ (PySem.W.keepIn K (.ref (He.ma K (He.ga K "Book") "__len__")) = true) ∧ (PySem.W.findIn K (.ref (He.ga K "Book")) "__getitem__" = some (some (.ref (He.ma K (He.ga K "Book") "__getitem__")))) := (and2 id (and2 of_decide_eq_true (and2 id (and2 id (and2 of_decide_eq_true (and2 id (and2 id of_decide_eq_true))))))) h
def qk_13 (K : Wr) : Bool := PySem.W.isFn K (.ref (He.ma K (He.ga K "Book") "__getitem__")) && (PySem.W.keepIn K (.ref (He.ma K (He.ga K "Book") "__getitem__")) && (decide (PySem.W.findIn K (.ref (He.ga K "Book")) "__setitem__" = some (some (.ref (He.ma K (He.ga K "Book") "__setitem__")))) && (PySem.W.isFn K (.ref (He.ma K (He.ga K "Book") "__setitem__")) && (PySem.W.keepIn K (.ref (He.ma K (He.ga K "Book") "__setitem__")) && (decide (PySem.W.findIn K (.ref (He.ga K "Book")) "remove" = some (some (.ref (He.ma K (He.ga K "Book") "remove")))) && (PySem.W.isFn K (.ref (He.ma K (He.ga K "Book") "remove")) && (PySem.W.keepIn K (.ref (He.ma K (He.ga K "Book") "remove")))))))))
theorem qk_13_ok {K : Wr} (h : qk_13 K = true) : (PySem.W.isFn K (.ref (He.ma K (He.ga K "Book") "__getitem__")) = true) ∧ (PySem.W.keepIn K (.ref (He.ma K (He.ga K "Book") "__getitem__")) = true) ∧ (PySem.W.findIn K (.ref (He.ga K "Book")) "__setitem__" = some (some (.ref (He.ma K (He.ga K "Book") "__setitem__")))) ∧ (PySem.W.isFn K (.ref (He.ma K (He.ga K "Book") "__setitem__")) = true) ∧ (PySem.W.keepIn K (.ref (He.ma K (He.ga K "Book") "__setitem__")) = true) ∧ (PySem.W.findIn K (.ref (He.ga K "Book")) "remove" = some (some (.ref (He.ma K (He.ga K "Book") "remove")))) ∧ (PySem.W.isFn K (.ref (He.ma K (He.ga K "Book") "remove")) = true) ∧ (PySem.W.keepIn K (.ref (He.ma K (He.ga K "Book") "remove")) = true) := (and2 id (and2 id (and2 of_decide_eq_true (and2 id (and2 id (and2 of_decide_eq_true (and2 id id))))))) h
def qk_14 (K : Wr) : Bool := decide (PySem.W.findIn K (.ref (He.ga K "Book")) "places" = some (some (.ref (He.ma K (He.ga K "Book") "places")))) && (PySem.W.isFn K (.ref (He.ma K (He.ga K "Book") "places")) && (PySem.W.keepIn K (.ref (He.ma K (He.ga K "Book") "places")) && (decide (PySem.W.findIn K (.ref (He.ga K "Book")) "named" = some (some (.ref (He.ma K (He.ga K "Book") "named")))) && (PySem.W.isFn K (.ref (He.ma K (He.ga K "Book") "named")) && (PySem.W.keepIn K (.ref (He.ma K (He.ga K "Book") "named")) && (decide (PySem.W.findIn K (.ref (He.ga K "Book")) "lots" = some (some (.ref (He.ma K (He.ga K "Book") "lots")))) && (PySem.W.isFn K (.ref (He.ma K (He.ga K "Book") "lots")))))))))
theorem qk_14_ok {K : Wr} (h : qk_14 K = true) : (PySem.W.findIn K (.ref (He.ga K "Book")) "places" = some (some (.ref (He.ma K (He.ga K "Book") "places")))) ∧ (PySem.W.isFn K (.ref (He.ma K (He.ga K "Book") "places")) = true) ∧ (PySem.W.keepIn K (.ref (He.ma K (He.ga K "Book") "places")) = true) ∧ (PySem.W.findIn K (.ref (He.ga K "Book")) "named" = some (some (.ref (He.ma K (He.ga K "Book") "named")))) ∧ (PySem.W.isFn K (.ref (He.ma K (He.ga K "Book") "named")) = true) ∧ (PySem.W.keepIn K (.ref (He.ma K (He.ga K "Book") "named")) = true) ∧ (PySem.W.findIn K (.ref (He.ga K "Book")) "lots" = some (some (.ref (He.ma K (He.ga K "Book") "lots")))) ∧ (PySem.W.isFn K (.ref (He.ma K (He.ga K "Book") "lots")) = true) := (and2 of_decide_eq_true (and2 id (and2 id (and2 of_decide_eq_true (and2 id (and2 id (and2 of_decide_eq_true id))))))) h
def qk_15 (K : Wr) : Bool := PySem.W.keepIn K (.ref (He.ma K (He.ga K "Book") "lots")) && (decide (PySem.W.findIn K (.ref (He.ga K "Book")) "sales" = some (some (.ref (He.ma K (He.ga K "Book") "sales")))) && (PySem.W.isFn K (.ref (He.ma K (He.ga K "Book") "sales")) && (PySem.W.keepIn K (.ref (He.ma K (He.ga K "Book") "sales")) && (decide (PySem.W.findIn K (.ref (He.ga K "Book")) "late_costs" = some (some (.ref (He.ma K (He.ga K "Book") "late_costs")))) && (PySem.W.isFn K (.ref (He.ma K (He.ga K "Book") "late_costs")) && (PySem.W.keepIn K (.ref (He.ma K (He.ga K "Book") "late_costs")) && (decide (PySem.W.findIn K (.ref (He.ga K "Book")) "trial" = some (some (.ref (He.ma K (He.ga K "Book") "trial")))))))))))
theorem qk_15_ok {K : Wr} (h : qk_15 K = true) : (PySem.W.keepIn K (.ref (He.ma K (He.ga K "Book") "lots")) = true) ∧ (PySem.W.findIn K (.ref (He.ga K "Book")) "sales" = some (some (.ref (He.ma K (He.ga K "Book") "sales")))) ∧ (PySem.W.isFn K (.ref (He.ma K (He.ga K "Book") "sales")) = true) ∧ (PySem.W.keepIn K (.ref (He.ma K (He.ga K "Book") "sales")) = true) ∧ (PySem.W.findIn K (.ref (He.ga K "Book")) "late_costs" = some (some (.ref (He.ma K (He.ga K "Book") "late_costs")))) ∧ (PySem.W.isFn K (.ref (He.ma K (He.ga K "Book") "late_costs")) = true) ∧ (PySem.W.keepIn K (.ref (He.ma K (He.ga K "Book") "late_costs")) = true) ∧ (PySem.W.findIn K (.ref (He.ga K "Book")) "trial" = some (some (.ref (He.ma K (He.ga K "Book") "trial")))) := (and2 id (and2 of_decide_eq_true (and2 id (and2 id (and2 of_decide_eq_true (and2 id (and2 id of_decide_eq_true))))))) h
def qk_16 (K : Wr) : Bool := PySem.W.isFn K (.ref (He.ma K (He.ga K "Book") "trial")) && (PySem.W.keepIn K (.ref (He.ma K (He.ga K "Book") "trial")) && (decide (PySem.W.findIn K (.ref (He.ga K "Book")) "tried" = some (some (.ref (He.ma K (He.ga K "Book") "tried")))) && (PySem.W.isFn K (.ref (He.ma K (He.ga K "Book") "tried")) && (PySem.W.keepIn K (.ref (He.ma K (He.ga K "Book") "tried")) && (PySem.W.fnIn K (He.ma K (He.ga K "Book") "__getitem__") && (PySem.W.noSeq K (He.ga K "Book") && ((He.Fa.str "LETTERS" "abcdefghijklmnopqrstuvwxyz").ok K)))))))
theorem qk_16_ok {K : Wr} (h : qk_16 K = true) : (PySem.W.isFn K (.ref (He.ma K (He.ga K "Book") "trial")) = true) ∧ (PySem.W.keepIn K (.ref (He.ma K (He.ga K "Book") "trial")) = true) ∧ (PySem.W.findIn K (.ref (He.ga K "Book")) "tried" = some (some (.ref (He.ma K (He.ga K "Book") "tried")))) ∧ (PySem.W.isFn K (.ref (He.ma K (He.ga K "Book") "tried")) = true) ∧ (PySem.W.keepIn K (.ref (He.ma K (He.ga K "Book") "tried")) = true) ∧ (PySem.W.fnIn K (He.ma K (He.ga K "Book") "__getitem__") = true) ∧ (PySem.W.noSeq K (He.ga K "Book") = true) ∧ ((He.Fa.str "LETTERS" "abcdefghijklmnopqrstuvwxyz").ok K = true) := (and2 id (and2 id (and2 of_decide_eq_true (and2 id (and2 id (and2 id (and2 id id))))))) h
def qk_17 (K : Wr) : Bool := (He.Fa.int "LONGEST" 12).ok K && ((He.Fa.int "MOST" 1000000).ok K && (He.eqO (PySem.W.nsIn K mainGlobals "is_name") (some (some (.ref (He.ga K "is_name")))) && (He.eqO (PySem.W.nsIn K mainGlobals "is_number") (some (some (.ref (He.ga K "is_number")))) && (He.eqO (PySem.W.nsIn K mainGlobals "is_entry") (some (some (.ref (He.ga K "is_entry")))) && (He.eqO (PySem.W.nsIn K mainGlobals "_law_bag") (some (some (.ref (He.ga K "_law_bag")))) && (He.eqO (PySem.W.nsIn K mainGlobals "_law_draw") (some (some (.ref (He.ga K "_law_draw")))) && (He.eqO (PySem.W.nsIn K mainGlobals "_law_names") (some (some (.ref (He.ga K "_law_names")))))))))))
theorem qk_17_ok {K : Wr} (h : qk_17 K = true) : ((He.Fa.int "LONGEST" 12).ok K = true) ∧ ((He.Fa.int "MOST" 1000000).ok K = true) ∧ (PySem.W.nsIn K mainGlobals "is_name" = some (some (.ref (He.ga K "is_name")))) ∧ (PySem.W.nsIn K mainGlobals "is_number" = some (some (.ref (He.ga K "is_number")))) ∧ (PySem.W.nsIn K mainGlobals "is_entry" = some (some (.ref (He.ga K "is_entry")))) ∧ (PySem.W.nsIn K mainGlobals "_law_bag" = some (some (.ref (He.ga K "_law_bag")))) ∧ (PySem.W.nsIn K mainGlobals "_law_draw" = some (some (.ref (He.ga K "_law_draw")))) ∧ (PySem.W.nsIn K mainGlobals "_law_names" = some (some (.ref (He.ga K "_law_names")))) := (and2 id (and2 id (and2 He.eqO_ok (and2 He.eqO_ok (and2 He.eqO_ok (and2 He.eqO_ok (and2 He.eqO_ok He.eqO_ok))))))) h
def qk_18 (K : Wr) : Bool := He.eqO (PySem.W.nsIn K mainGlobals "_law_pick") (some (some (.ref (He.ga K "_law_pick")))) && (He.eqO (PySem.W.nsIn K mainGlobals "_law_mixed") (some (some (.ref (He.ga K "_law_mixed")))) && (He.eqO (PySem.W.nsIn K mainGlobals "_law_next") (some (some (.ref (He.ga K "_law_next")))) && (He.eqO (PySem.W.nsIn K mainGlobals "_law_entries") (some (some (.ref (He.ga K "_law_entries")))) && (He.eqO (PySem.W.nsIn K mainGlobals "_law_book") (some (some (.ref (He.ga K "_law_book")))) && (He.eqO (PySem.W.nsIn K mainGlobals "_law_kept") (some (some (.ref (He.ga K "_law_kept")))) && (He.eqO (PySem.W.nsIn K mainGlobals "_law_changed") (some (some (.ref (He.ga K "_law_changed")))) && (He.eqO (PySem.W.nsIn K mainGlobals "_law_lists") (some (some (.ref (He.ga K "_law_lists")))))))))))
theorem qk_18_ok {K : Wr} (h : qk_18 K = true) : (PySem.W.nsIn K mainGlobals "_law_pick" = some (some (.ref (He.ga K "_law_pick")))) ∧ (PySem.W.nsIn K mainGlobals "_law_mixed" = some (some (.ref (He.ga K "_law_mixed")))) ∧ (PySem.W.nsIn K mainGlobals "_law_next" = some (some (.ref (He.ga K "_law_next")))) ∧ (PySem.W.nsIn K mainGlobals "_law_entries" = some (some (.ref (He.ga K "_law_entries")))) ∧ (PySem.W.nsIn K mainGlobals "_law_book" = some (some (.ref (He.ga K "_law_book")))) ∧ (PySem.W.nsIn K mainGlobals "_law_kept" = some (some (.ref (He.ga K "_law_kept")))) ∧ (PySem.W.nsIn K mainGlobals "_law_changed" = some (some (.ref (He.ga K "_law_changed")))) ∧ (PySem.W.nsIn K mainGlobals "_law_lists" = some (some (.ref (He.ga K "_law_lists")))) := (and2 He.eqO_ok (and2 He.eqO_ok (and2 He.eqO_ok (and2 He.eqO_ok (and2 He.eqO_ok (and2 He.eqO_ok (and2 He.eqO_ok He.eqO_ok))))))) h
def qk_19 (K : Wr) : Bool := He.eqO (PySem.W.nsIn K mainGlobals "_law_refused") (some (some (.ref (He.ga K "_law_refused")))) && (He.eqO (PySem.W.nsIn K mainGlobals "_law_deed") (some (some (.ref (He.ga K "_law_deed")))) && (He.eqO (PySem.W.nsIn K mainGlobals "_law_trial_right") (some (some (.ref (He.ga K "_law_trial_right")))) && (He.eqO (PySem.W.nsIn K mainGlobals "law") (some (some (.ref (He.ga K "law")))) && (tabOkB K (He.ga K "_law_trial_right")))))
theorem qk_19_ok {K : Wr} (h : qk_19 K = true) : (PySem.W.nsIn K mainGlobals "_law_refused" = some (some (.ref (He.ga K "_law_refused")))) ∧ (PySem.W.nsIn K mainGlobals "_law_deed" = some (some (.ref (He.ga K "_law_deed")))) ∧ (PySem.W.nsIn K mainGlobals "_law_trial_right" = some (some (.ref (He.ga K "_law_trial_right")))) ∧ (PySem.W.nsIn K mainGlobals "law" = some (some (.ref (He.ga K "law")))) ∧ (TabOk K (He.ga K "_law_trial_right")) := (and2 He.eqO_ok (and2 He.eqO_ok (and2 He.eqO_ok (and2 He.eqO_ok tabOkB_ok)))) h
def dk_m_BadEntry_init : Dfn := ⟨fun K => (He.ma K (He.ga K "BadEntry") "__init__"), "__init__", "BadEntry.__init__", s_m_BadEntry_init, [], []⟩
def dk_m_NoEntry_init : Dfn := ⟨fun K => (He.ma K (He.ga K "NoEntry") "__init__"), "__init__", "NoEntry.__init__", s_m_NoEntry_init, [], []⟩
def dk_f_is_name : Dfn := ⟨fun K => (He.ga K "is_name"), "is_name", "is_name", s_f_is_name, [], []⟩
def dk_f_is_number : Dfn := ⟨fun K => (He.ga K "is_number"), "is_number", "is_number", s_f_is_number, [], []⟩
def dk_f_is_entry : Dfn := ⟨fun K => (He.ga K "is_entry"), "is_entry", "is_entry", s_f_is_entry, [], []⟩
def dk_m_Trial_init : Dfn := ⟨fun K => (He.ma K (He.ga K "Trial") "__init__"), "__init__", "Trial.__init__", s_m_Trial_init, [], []⟩
def dk_m_Trial_enter : Dfn := ⟨fun K => (He.ma K (He.ga K "Trial") "__enter__"), "__enter__", "Trial.__enter__", s_m_Trial_enter, [], []⟩
def dk_m_Trial_exit : Dfn := ⟨fun K => (He.ma K (He.ga K "Trial") "__exit__"), "__exit__", "Trial.__exit__", s_m_Trial_exit, [], []⟩
def dk_m_Book_init : Dfn := ⟨fun K => (He.ma K (He.ga K "Book") "__init__"), "__init__", "Book.__init__", s_m_Book_init, [], []⟩
def dk_m_Book_contains : Dfn := ⟨fun K => (He.ma K (He.ga K "Book") "__contains__"), "__contains__", "Book.__contains__", s_m_Book_contains, [], []⟩
def dk_m_Book_len : Dfn := ⟨fun K => (He.ma K (He.ga K "Book") "__len__"), "__len__", "Book.__len__", s_m_Book_len, [], []⟩
def dk_m_Book_getitem : Dfn := ⟨fun K => (He.ma K (He.ga K "Book") "__getitem__"), "__getitem__", "Book.__getitem__", s_m_Book_getitem, [], []⟩
def dk_m_Book_setitem : Dfn := ⟨fun K => (He.ma K (He.ga K "Book") "__setitem__"), "__setitem__", "Book.__setitem__", s_m_Book_setitem, [], []⟩
def dk_m_Book_remove : Dfn := ⟨fun K => (He.ma K (He.ga K "Book") "remove"), "remove", "Book.remove", s_m_Book_remove, [], []⟩
def dk_m_Book_places : Dfn := ⟨fun K => (He.ma K (He.ga K "Book") "places"), "places", "Book.places", s_m_Book_places, [], []⟩
def dk_m_Book_named : Dfn := ⟨fun K => (He.ma K (He.ga K "Book") "named"), "named", "Book.named", s_m_Book_named, [], []⟩
def dk_m_Book_lots : Dfn := ⟨fun K => (He.ma K (He.ga K "Book") "lots"), "lots", "Book.lots", s_m_Book_lots, [], []⟩
def dk_m_Book_sales : Dfn := ⟨fun K => (He.ma K (He.ga K "Book") "sales"), "sales", "Book.sales", s_m_Book_sales, [], []⟩
def dk_m_Book_late_costs : Dfn := ⟨fun K => (He.ma K (He.ga K "Book") "late_costs"), "late_costs", "Book.late_costs", s_m_Book_late_costs, [], []⟩
def dk_m_Book_trial : Dfn := ⟨fun K => (He.ma K (He.ga K "Book") "trial"), "trial", "Book.trial", s_m_Book_trial, [], []⟩
def dk_m_Book_tried : Dfn := ⟨fun K => (He.ma K (He.ga K "Book") "tried"), "tried", "Book.tried", s_m_Book_tried, [], []⟩
def dk_l_bag : Dfn := ⟨fun K => (He.ga K "_law_bag"), "_law_bag", "_law_bag", s_l_bag, [], []⟩
def dk_l_draw : Dfn := ⟨fun K => (He.ga K "_law_draw"), "_law_draw", "_law_draw", s_l_draw, [], []⟩
def dk_l_names : Dfn := ⟨fun K => (He.ga K "_law_names"), "_law_names", "_law_names", s_l_names, [], []⟩
def dk_l_pick : Dfn := ⟨fun K => (He.ga K "_law_pick"), "_law_pick", "_law_pick", s_l_pick, [], []⟩
def dk_l_mixed : Dfn := ⟨fun K => (He.ga K "_law_mixed"), "_law_mixed", "_law_mixed", s_l_mixed, [], []⟩
def dk_l_next : Dfn := ⟨fun K => (He.ga K "_law_next"), "_law_next", "_law_next", s_l_next, [], []⟩
def dk_l_entries : Dfn := ⟨fun K => (He.ga K "_law_entries"), "_law_entries", "_law_entries", s_l_entries, [], []⟩
def dk_l_book : Dfn := ⟨fun K => (He.ga K "_law_book"), "_law_book", "_law_book", s_l_book, [], []⟩
def dk_l_kept : Dfn := ⟨fun K => (He.ga K "_law_kept"), "_law_kept", "_law_kept", s_l_kept, [], []⟩
def dk_l_changed : Dfn := ⟨fun K => (He.ga K "_law_changed"), "_law_changed", "_law_changed", s_l_changed, [], []⟩
def dk_l_lists : Dfn := ⟨fun K => (He.ga K "_law_lists"), "_law_lists", "_law_lists", s_l_lists, [], []⟩
def dk_l_refused : Dfn := ⟨fun K => (He.ga K "_law_refused"), "_law_refused", "_law_refused", s_l_refused, [], []⟩
def dk_l_deed : Dfn := ⟨fun K => (He.ga K "_law_deed"), "_law_deed", "_law_deed", s_l_deed, [], []⟩
def dk_l_trial_right : Dfn := ⟨fun K => (He.ga K "_law_trial_right"), "_law_trial_right", "_law_trial_right", s_l_trial_right, [], []⟩
def dk_f_law : Dfn := ⟨fun K => (He.ga K "law"), "law", "law", s_f_law, [], []⟩
def pcK0 : PieceK := (([qk_0, qk_1, qk_2, qk_3, qk_4, qk_5, qk_6, qk_7, qk_8, qk_9, qk_10, qk_11, qk_12, qk_13, qk_14, qk_15, qk_16, qk_17, qk_18, qk_19] : List (Wr → Bool)), ([dk_m_BadEntry_init, dk_m_NoEntry_init, dk_f_is_name, dk_f_is_number, dk_f_is_entry, dk_m_Trial_init, dk_m_Trial_enter, dk_m_Trial_exit, dk_m_Book_init, dk_m_Book_contains, dk_m_Book_len, dk_m_Book_getitem, dk_m_Book_setitem, dk_m_Book_remove, dk_m_Book_places, dk_m_Book_named, dk_m_Book_lots, dk_m_Book_sales, dk_m_Book_late_costs, dk_m_Book_trial] : List Dfn) ++ ([dk_m_Book_tried, dk_l_bag, dk_l_draw, dk_l_names, dk_l_pick, dk_l_mixed, dk_l_next, dk_l_entries, dk_l_book, dk_l_kept, dk_l_changed, dk_l_lists, dk_l_refused, dk_l_deed, dk_l_trial_right, dk_f_law] : List Dfn))
def pcT0 : PieceT := (pcK0, [fun K => (He.ga K "_law_trial_right")])
def pcsK : List PieceT := [pcT0]
abbrev RK : PySem.W.OpenRow := PySem.W.OpenLaw.row PySem.Challenge.rw_lotcosts_k34_trials_of_books
abbrev hkK : PySem.W.Hook := hookLT pcsK
def nmsK : List PySem.Str := (["_wall", "CostError", "BadEntry", "NoEntry", "LETTERS", "LONGEST", "MOST", "is_name", "is_number", "is_entry", "Trial", "Book", "_law_bag", "_law_draw", "_law_names", "_law_pick", "_law_mixed", "_law_next", "_law_entries", "_law_book"] : List PySem.Str) ++ (["_law_kept", "_law_changed", "_law_lists", "_law_refused", "_law_deed", "_law_trial_right"] : List PySem.Str)
theorem runK_0 (w : World) : HandSHeadRun.RunEq RK (PySem.W.view RK.prog [29]) (hookKT pcT0) (seeKT pcT0) 30000 nmsK w := by
  intro os
  kernel_rfl
theorem runK_top (w : World) : HandSHeadRun.RunEq RK (PySem.W.view RK.prog [29]) hkK (seeLT pcsK) 30000 nmsK w := run_joinT fun p hp => by
  simp only [List.mem_cons, List.not_mem_nil, or_false] at hp
  rcases hp with rfl
  · exact runK_0 w
/-! ### a lambda with one parameter handed to a method; with of an own class -/
namespace L1
open PySem PySem.Spec PyProof.Rows L2 LamX
/-- one parameter a, no other name of its own: captured ones and globals -/
structure LamP (sc scope : Scope) (a : Str) : Prop where
  kind : scope.kind = .function
  co : scope.isCoroutine = false
  gen : scope.isGenerator = false
  own : ∀ y ∈ scope.names, y.2 ≠ .cell ∧ (y.2 = .local → y.1 = a)
  par : scope.names.lookup a = some .local
  free : ∀ y ∈ scope.names, y.2 = .free → sc.names.lookup y.1 = some .cell ∨ sc.names.lookup y.1 = some .free
def lamPB (sc scope : Scope) (a : Str) : Bool :=
  decide (scope.kind = .function) && !scope.isCoroutine && !scope.isGenerator && decide (scope.names.lookup a = some .local) && scope.names.all fun y => !decide (y.2 = .cell) && (!decide (y.2 = .local) || decide (y.1 = a)) && (!decide (y.2 = .free) || decide (sc.names.lookup y.1 = some .cell) || decide (sc.names.lookup y.1 = some .free))
theorem lamP_by {sc scope : Scope} {a : Str} (h : lamPB sc scope a = true) : LamP sc scope a := by
  unfold lamPB at h
  simp only [Bool.and_eq_true, Bool.or_eq_true, Bool.not_eq_true', decide_eq_true_eq, decide_eq_false_iff_not, List.all_eq_true] at h
  obtain ⟨⟨⟨⟨h1, h2⟩, h3⟩, h5⟩, h4⟩ := h
  refine ⟨h1, h2, h3, fun y hy => ⟨(h4 y hy).1.1, fun e => ?_⟩, h5, fun y hy e => ?_⟩
  · rcases (h4 y hy).1.2 with z | z
    · exact absurd e z
    · exact z
  · rcases (h4 y hy).2 with (z | z) | z
    · exact absurd e z
    · exact .inl z
    · exact .inr z
theorem LamP.has {X : Cx} {scope : Scope} {a : Str} (L : LamP X.env.scope scope a) (ok : X.Ok) : ∀ y ∈ scope.names, y.2 = .free → ∃ c, X.env.cells.lookup y.1 = some c := fun y hy e => by
  rcases L.free y hy e with k | k
  · exact ok.has _ (.inl k)
  · exact ok.has _ (.inr k)
/-- the context of the lambda's body, entered at s from the frames outer; nothing leaves it -/
def lamCx1 (X : Cx) (A : Around) (outer : List Env) (s : Shared) (H : Hp) (scope : Scope) (f c' : Addr) (a : Str) : Cx where
  prog := X.prog
  w := X.w
  K := X.K
  mg := X.mg
  base := X.base
  A := A.deeper (lamEnv X scope s.heap.objs.size f c')
  N := X.N ++ [a]
  s_0 := s
  H_0 := H
  env := lamEnv X scope s.heap.objs.size f c'
  outer := outer
  stack := lamEnv X scope s.heap.objs.size f c' :: outer
  ex := []
  fn := fun _ => false
  calm := true
  pn := []
  xe := fun _ _ => False
section
variable {X : Cx} {pins : List (Addr × Obj)} {σ : L2.St} {H HZ : Hp} {s s1 : Shared}
theorem lam_start3 {A : Around} {outer : List Env} {scope : Scope} {f c' : Addr} {h₁ : Heap} {tk : Nat} {a : Str} {v : V} {u : Value} (I : Inv X pins σ H s) (L : LamP X.env.scope scope a) (hna : a ∉ X.N) (rv : RelV v u) (e0 : Env0 X.prog X.w X.K X.mg X.base A outer s1 HZ) (hd : A.handled = none)
    (un : Un (frs X.stack) [] H HZ s.heap s1.heap) (hns : h₁.Ns s1.heap.objs.size fun y => ([(a, u)] : List (Str × Value)).reverse.lookup y) (kp : ∀ b o, s1.heap.get? b = some o → h₁.get? b = some o) :
    Inv (lamCx1 X A outer s1 HZ scope f c' a) [] (σ ++ [some v]) HZ { s1 with heap := h₁, toks := tk } := by
  have hfree := L.has I.ok
  have cm : ∀ {y c}, (cloFrom X.env.cells scope.names []).lookup y = some c → X.env.cells.lookup y = some c := fun {y c} e => by
    rcases cloFrom_mem (PySem.mem_of_lookup e) with hm | ⟨h1, h2⟩
    · cases hm
    · obtain ⟨c1, hc⟩ := hfree _ h1 rfl
      have hc : X.env.cells.lookup y = some c1 := hc
      have e2 : c = c1 := by
        rw [h2, hc] <;> rfl
      rw [e2]
      exact hc
  have look : ∀ {y}, scope.names.lookup y = some .free → ∃ c, (cloFrom X.env.cells scope.names []).lookup y = some c := fun {y} hl => by
    have hy : (y, NameKind.free) ∈ scope.names := PySem.mem_of_lookup hl
    exact mem_lookup (cloFrom_has (cells := X.env.cells) (acc := []) hy)
  have cellK : ∀ {c : Addr} {v : Option Value}, H c = none → s.heap.IsCell c v → h₁.IsCell c v := fun {c v} n ⟨o, ho, hd⟩ => by
    obtain ⟨sl, q⟩ := un.any ho n (by simp)
    exact ⟨_, kp _ _ q, hd⟩
  have noA : ∀ b : Addr, b ∉ (lamCx1 X A outer s1 HZ scope f c' a).ex := fun b z => absurd (show b ∈ ([] : List Addr) from z) (by simp)
  refine ⟨⟨e0.mod, L.kind, rfl, rfl, Nat.le_refl _, fun y z c e1 e2 => I.ok.inj y z c (cm e1) (cm e2), fun y hy => ?_, fun y c z _ => ?_, fun _ => hd, Around.frames_deeper e0.frames, .inr ⟨rfl, rfl⟩, fun b z => absurd z (noA b), e0.bs, e0.bsz, fun b _ _ => noA b,
      fun b z => absurd z (noA b), e0.funs, e0.frf⟩,
    rfl, e0.bare, Un.kept kp, ⟨_, hns, fun i y w e1 e2 e3 => ?_⟩, fun y c e => ?_, e0.hok.fresh (Nat.le_refl _), fun y c e => ?_, fun q hq => absurd (show q ∈ ([] : List (Addr × Obj)) ++ [] from hq) (by simp), e0.hok.kept kp, ?_⟩
  · have hy : scope.names.lookup y = some .cell ∨ scope.names.lookup y = some .free := hy
    rcases hy with hy | hy
    · exact absurd rfl (L.own _ (PySem.mem_of_lookup hy)).1
    · exact look hy
  · have z : false = true := z
    cases z
  · have e3 : Vis scope y := e3
    have e1 : (X.N ++ [a])[i]? = some y := e1
    have hl := I.len
    by_cases hi : i < X.N.length
    · rw [List.getElem?_append_left hi] at e1
      rw [List.getElem?_append_left (by omega)] at e2
      have yne : y ≠ a := fun z => hna (z ▸ List.mem_of_getElem? e1)
      rcases e3 with k | k | k
      · exact absurd ((L.own _ (PySem.mem_of_lookup k)).2 rfl) yne
      · exact absurd rfl (L.own _ (PySem.mem_of_lookup k)).1
      · obtain ⟨m, hn, hl⟩ := I.loc
        have hvis : Vis X.env.scope y := (L.free _ (PySem.mem_of_lookup k) rfl).elim (fun k => .inr (.inl k)) (fun k => .inr (.inr k))
        obtain ⟨w', r, q⟩ := hl i y w e1 e2 hvis
        obtain ⟨c2, h2⟩ := look k
        refine ⟨w', r, .inr ⟨.inr k, c2, h2, ?_⟩⟩
        have c1 := cm h2
        rcases q with ⟨k', _⟩ | ⟨_, c3, e', z⟩
        · have k' : X.env.scope.names.lookup y = some .local := k'
          rcases L.free _ (PySem.mem_of_lookup k) rfl with k2 | k2 <;> rw [show X.env.scope.names.lookup y = _ from k2] at k' <;> cases k'
        · rw [c1] at e'
          cases e'
          exact cellK (I.freeC y _ c1) z
    · rw [List.getElem?_append_right (by omega)] at e1 e2
      have ei : i = X.N.length := by
        have h1 : i - X.N.length < 1 := by
          have := (List.getElem?_eq_some_iff.mp e1).1
          simpa using this
        omega
      subst ei
      rw [Nat.sub_self] at e1
      rw [← hl, Nat.sub_self] at e2
      cases e1
      cases e2
      refine ⟨u, rv, .inl ⟨L.par, ?_⟩⟩
      show ([(a, u)] : List (Str × Value)).reverse.lookup a = some u
      simp
  · obtain ⟨w', z⟩ := I.cell y c (cm e)
    exact ⟨w', cellK (I.freeC y c (cm e)) z⟩
  · obtain ⟨v, o, ho, hd⟩ := I.cell y c (cm e)
    exact un.free c o ho (I.freeC y c (cm e)) (by simp)
  · show (σ ++ [some v]).length = (X.N ++ [a]).length
    rw [List.length_append, List.length_append, I.len]
    rfl
/-- x(e), in the method that got the lambda: Z is that method's context, entered at s -/
theorem pe_act1 {Ng : List Str} {qg : Str} {sg : Scope} {g f c' : Addr} {cdg pm ctv : Value} {params : Arguments} {body : Expr} {scope : Scope} {k i : Nat} {a b : Str} {te tb : TE} {e : Expr} {Eg : XK} {p1 p2 : Pos}
    (I : Inv X pins σ H s) (L : LamP X.env.scope scope a) (hna : a ∉ X.N) (hf : s.heap.get? f = some (PySem.W.kla_obj "<lambda>" (X.env.qual ++ "<lambda>") params body scope (cloFrom X.env.cells scope.names []) pm c' ctv)) (hfn : H f = none) (hfr : f ∉ frs X.stack)
    (hbind : ∀ u : Value, bindArgs (PySem.W.kla_fn "<lambda>" (X.env.qual ++ "<lambda>") params body scope (cloFrom X.env.cells scope.names []) pm (.ref c') ctv) ⟨[u], []⟩ = pure [(a, u)])
    (hr : Room (k + 1) (X.A.deeper (envOfC qg sg s.heap.objs.size g cdg)))
    (hbody : ∀ (A : Around) (outer : List Env) (s : Shared) (H : Hp), Room k (A.deeper (lamEnv X scope s.heap.objs.size f c')) → PE (lamCx1 X A outer s H scope f c' a) body tb)
    (he : PE (cxOf CX0 X.prog X.w X.K X.mg X.base Ng qg sg g cdg X.A X.stack s H Eg).nox e te)
    (hN : Ng[i]? = some b) (hv : Vis sg b) (hd : (b == ("__debug__" : Str)) = false := by decide) (hcd : (b == ("__classdict__" : Str)) = false := by decide)
    (hse : starEach [e] (cxOf CX0 X.prog X.w X.K X.mg X.base Ng qg sg g cdg X.A X.stack s H Eg).nox.env = (false, eval e (cxOf CX0 X.prog X.w X.K X.mg X.base Ng qg sg g cdg X.A X.stack s H Eg).nox.env) :: starEach [] (cxOf CX0 X.prog X.w X.K X.mg X.base Ng qg sg g cdg X.A X.stack s H Eg).nox.env := by rfl) :
    PE (cxOf CX0 X.prog X.w X.K X.mg X.base Ng qg sg g cdg X.A X.stack s H Eg).nox (.Call (.Name b p1) [e] [] p2)
      (fun σZ HZ Q => σZ[i]? = some (some (.ref f)) ∧ te σZ HZ fun v H1 => H1 c' = some (CodeO c' (X.env.qual ++ "<lambda>")) ∧ tb (σ ++ [some v]) H1 Q) := by
  refine ⟨fun pinsZ sZ σZ HZ Q IZ h => ?_⟩
  obtain ⟨hs, ht⟩ := h
  refine wpAny_Call_Name_kw (thn ((pe_var (pos := p1) (i := i) hN hv hd hcd).run pinsZ sZ σZ HZ (fun v H1 => v = .ref f ∧ H1 = HZ) IZ ⟨.ref f, hs, rfl, rfl⟩) fun u s1 ⟨v, H1, I1, r1, q1⟩ => ?_)
  obtain ⟨ev, eH⟩ := q1
  subst ev
  rw [eH] at I1
  obtain rfl : u = Value.ref f := r1
  have ofA : ∀ {σ' : L2.St} {H' : Hp} {s' : Shared} {pins' : List (Addr × Obj)}, Inv (cxOf CX0 X.prog X.w X.K X.mg X.base Ng qg sg g cdg X.A X.stack s H Eg).nox pins' σ' H' s' → s'.heap.get? f = some (PySem.W.kla_obj "<lambda>" (X.env.qual ++ "<lambda>") params body scope (cloFrom X.env.cells scope.names []) pm c' ctv) :=
    fun I' => I'.base.keep f _ hf hfn hfr (fun z => nomatch (show f ∈ ([] : List Addr) from z))
  refine PySem.W.callWith_F (first := []) ⟨_, _, _, _, ofA I1⟩ (thn ((pa_cons (hs := hse) he pa_nil).run p2 pinsZ s1 σZ HZ (fun vs H2 => match vs with
    | [v] => H2 c' = some (CodeO c' (X.env.qual ++ "<lambda>")) ∧ tb (σ ++ [some v]) H2 Q
    | _ => False) I1 ht) fun us s2 ⟨vs, H2, I2, r, h2⟩ => ⟨⟨_, _, _, _, ofA I2⟩, ?_⟩) hse rfl
  match vs, r, h2 with
  | [v], .cons (b := u) rv .nil, ⟨hc, hb2⟩ =>
  have un : Un (frs X.stack) [] H H2 s.heap s2.heap := I2.base
  obtain ⟨⟨oc, vs0, t, hoc, hdc, hvc⟩, _, _⟩ := I2.hok c' _ hc
  have rc : codeAny (model X.prog X.w) (X.A.deeper (envOfC qg sg s.heap.objs.size g cdg)) (.call (.ref f) ⟨[u], []⟩) (CR CX0 (envOfC qg sg s.heap.objs.size g cdg :: X.stack) X.prog X.w H2 s2 Q E0) s2 := by
    refine PySem.W.kla_callFunE hr.depth (ofA I2) rfl L.co L.gen rfl ⟨c', oc, vs0, t, rfl, hoc, hdc, hvc⟩ ?_
    rw [hbind]
    refine wpAny_pure (wpAny_newFunctionEnv (fun y hy => (L.own y hy).1) (fun y hy => ?_) (fun h₁ hns hsb => ⟨I2.nolimit.fresh _ hsb, ?_⟩) L.kind)
    · rw [List.mem_singleton] at hy
      rw [hy]
      exact L.par
    show codeAny _ _ (.expr body (lamEnv X scope s2.heap.objs.size f c')) _ _
    have kp : ∀ b o, s2.heap.get? b = some o → h₁.get? b = some o := fun b o e => hsb.extBut b o (Nat.ne_of_lt (Heap.lt_size e)) (Heap.get?_push_of_some _ e)
    have J : Inv (lamCx1 X (X.A.deeper (envOfC qg sg s.heap.objs.size g cdg)) (envOfC qg sg s.heap.objs.size g cdg :: X.stack) s2 H2 scope f c' a) [] (σ ++ [some v]) H2 { s2 with heap := h₁, toks := s2.toks + ([(a, u)] : List (Str × Value)).length } :=
      lam_start3 I L hna rv I2.env0 hr.hd un hns kp
    refine PySem.W.kla_codeExpr (wpAny_mono ((hbody _ _ s2 H2 (hr.deeper _)).run [] _ _ H2 Q J hb2) (fun v s' hq => ?_) fun e s' hq => hq.elim)
    obtain ⟨w', H', J', rv', q⟩ := hq
    exact ⟨w', H', J'.os, J'.bare, J'.base, J'.hok, rv', q⟩
  show wpAny _ _ (call (.ref f) [u]) _ _ _
  refine wpAny_call (codeAny_mono rc fun r s' hq => ?_)
  cases r with
  | error e => exact hq.elim
  | ok fl =>
    cases fl with
    | ret u => exact I2.after hq
    | next => exact False.elim hq
    | brk => exact False.elim hq
    | cont => exact False.elim hq
/-- the method's body, told with what the call of its parameter does -/
def GivesM (X : Cx) (k : Nat) (Ng : List Str) (qg : Str) (sg : Scope) (g : Addr) (bg : List Stmt) (b : Str) (q : Str) (TT : (V → Hp → VK → Prop) → Addr → Hp → VK → Prop) : Prop :=
  ∀ (cdg : Value) (f c' x : Addr) (s : Shared) (H : Hp) (Q : VK) (tl : V → Hp → VK → Prop), Room (k + 1) (X.A.deeper (envOfC qg sg s.heap.objs.size g cdg)) →
    (∀ (e : Expr) (te : TE) (p1 p2 : Pos), PE (cxOf CX0 X.prog X.w X.K X.mg X.base Ng qg sg g cdg X.A X.stack s H E0).nox e te →
      starEach [e] (cxOf CX0 X.prog X.w X.K X.mg X.base Ng qg sg g cdg X.A X.stack s H E0).nox.env = (false, eval e (cxOf CX0 X.prog X.w X.K X.mg X.base Ng qg sg g cdg X.A X.stack s H E0).nox.env) :: starEach [] (cxOf CX0 X.prog X.w X.K X.mg X.base Ng qg sg g cdg X.A X.stack s H E0).nox.env →
      PE (cxOf CX0 X.prog X.w X.K X.mg X.base Ng qg sg g cdg X.A X.stack s H E0).nox (.Call (.Name b p1) [e] [] p2) (fun σZ HZ Q => σZ[1]? = some (some (.ref f)) ∧ te σZ HZ fun v H1 => H1 c' = some (CodeO c' q) ∧ tl v H1 Q)) →
    H c' = some (CodeO c' q) → TT tl x H Q →
    ∃ t, PSs (cxOf CX0 X.prog X.w X.K X.mg X.base Ng qg sg g cdg X.A X.stack s H E0).nox bg t ∧ t { nx := fun _ H' => Q .non H', rt := Q } (L2.start Ng [.ref x, .ref f]) H
/-- o.m(lambda a: body) -/
def tMethLam (C : Addr) (m : Str) (T : List (Addr × Str)) (TT : (V → Hp → VK → Prop) → Addr → Hp → VK → Prop) (ta tb : TE) : TE := fun σ H Q => ta σ H fun x H1 => ∃ b dx fs, x = .ref b ∧ H1 b = some (.ins C dx fs) ∧ fs.lookup m = none ∧ Tabs T H1 ∧
  ∀ H2, ExtN H1 H2 → Tabs T H2 → TT (fun v H' Q' => tb (σ ++ [some v]) H' Q') b H2 Q
theorem pe_methlam {T : List (Addr × Str)} {TT : (V → Hp → VK → Prop) → Addr → Hp → VK → Prop} {m xg qg a sn b : Str} {C g c P : Addr} {k : Nat} {st : Stmt} {fd : FuncData} {Ng : List Str} {pl : Sem Bool}
    {params : Arguments} {body o : Expr} {scope : Scope} {ta tb : TE} {lpos apos pos : Pos} (he : PE X o ta) (cl : Cls X.K C) (hm : Meth X.K C m g) (F : Fun X.K xg qg st g fd) (hb : L2.Binds X.K fd [sn, b] []) (Sg : FnScope Ng [sn, b] (defScope st)) (hNg : Ng[1]? = some b) (hva : Vis (defScope st) b)
    (hG : GivesM X k Ng qg (defScope st) g (defBody st) b (X.env.qual ++ "<lambda>") TT)
    (TB : TabB X.base X.mg c P) (hcode : X.env.code = .ref c) (hmT : (P, X.env.qual ++ "<lambda>") ∈ T) (hu : ∀ p ∈ T, p.1 = P → p.2 = X.env.qual ++ "<lambda>") (hr : Room (k + 2) X.A) (L : LamP X.env.scope scope a) (hna : a ∉ X.N) (hdef : defaultsOf params X.env = ([], []))
    (hbind : ∀ (q : Str) (cl : List (Str × Addr)) (pm cv ctv u : Value), bindArgs (PySem.W.kla_fn "<lambda>" q params body scope cl pm cv ctv) ⟨[u], []⟩ = pure [(a, u)])
    (hbody : ∀ (A : Around) (outer : List Env) (s : Shared) (H : Hp) (f c' : Addr), Room k (A.deeper (lamEnv X scope s.heap.objs.size f c')) → PE (lamCx1 X A outer s H scope f c' a) body tb)
    (hd : (b == ("__debug__" : Str)) = false := by decide) (hcd : (b == ("__classdict__" : Str)) = false := by decide)
    (ht : eval (.Call (.Attribute o m apos) [.Lambda params body scope lpos] [] pos) X.env = (do
      let ov ← eval o X.env
      standAt apos.atName
      let (f, first) ← holding [ov] (getMethod ov m pl)
      callWith pos f first (backTo pos (starEach [.Lambda params body scope lpos] X.env)) (backToKw pos (keywordEach [] X.env))) := by rfl) :
    PE X (.Call (.Attribute o m apos) [.Lambda params body scope lpos] [] pos) (tMethLam C m T TT ta tb) := by
  refine ⟨fun pins s σ H Q I h => ?_⟩
  refine PySem.W.methodCall_KW (pl := pl) (thn (he.run pins s σ H _ I h) fun u s1 ⟨x, H1, I1, rx, b0, dx, fs, ex, ea, l, hT, h⟩ => ?_) ht
  subst ex
  obtain rfl : u = Value.ref b0 := rx
  refine getmeth_ok I1 ea cl hm l ?_
  refine PySem.W.callWith_K (first := [.ref b0]) (h₀ := X.base) I.ok.mod.kin hm.kp ?_ (by rfl) (by rfl)
  show wpAny _ _ (spliced ((false, eval (.Lambda params body scope lpos) X.env) :: backTo pos (starEach [] X.env))) _ _ s1
  refine Calls.spliced_cons (lam_make2 I1 TB hcode hmT hu hT hdef (L.has I1.ok) fun f c' pm' ctv H2 s' I2 eN T2 hf hfn hfr hco => ?_)
  refine Calls.spliced_nil ⟨I2.kIn, ?_⟩
  obtain ⟨oc, od, kV, doc, pm, an, cdv, ct, osl, rfl, lk, hcg⟩ := F.ex
  have rc : codeAny (model X.prog X.w) X.A (.call (.ref g) ⟨[.ref b0, .ref f], []⟩) (CR CX0 X.stack X.prog X.w H2 s' Q E0) s' := by
    refine run_ofS (N := Ng) (ps := [sn, b]) (us := [.ref b0, .ref f]) (vs := [.ref b0, .ref f]) lk hcg Sg hr I2.env0 (hb s' [.ref b0, .ref f] I2.kIn rfl) (.cons rfl (.cons rfl .nil)) rfl fun hr' => ?_
    obtain ⟨t', ht', hq'⟩ := hG cdv f c' b0 s' H2 Q (fun v H' Q' => tb (σ ++ [some v]) H' Q') hr' (fun e te p1 p2 hpe hse => pe_act1 (i := 1) I2 L hna hf hfn hfr (hbind _ _ _ _ _) hr' (fun A outer s H hr2 => hbody A outer s H f c' hr2) hpe hNg hva hd hcd hse) hco (h H2 eN T2)
    exact ⟨t', ht'.nox, hq'⟩
  show wpAny _ _ (call (.ref g) [.ref b0, .ref f]) _ _ _
  refine wpAny_call (codeAny_mono rc fun r s2 hq => ?_)
  cases r with
  | error e => exact (show False from hq).elim
  | ok fl =>
    cases fl with
    | ret u => exact I2.after hq
    | next => exact False.elim hq
    | brk => exact False.elim hq
    | cont => exact False.elim hq
/-! ### with, by an own class whose __enter__ and __exit__ don't raise; nothing leaves the body -/
def tWith (C : Addr) (spE spX : Sp) (tc : TE) (tb : TS) : TS := fun D σ H => tc σ H fun v H1 => ∃ x dx fs, v = .ref x ∧ H1 x = some (.ins C dx fs) ∧ spE [.ref x] H1 (fun _ H2 =>
  tb { nx := fun σ' H3 => spX [.ref x, .non, .non, .non] H3 (fun _ H4 => D.nx σ' H4) E0, rt := fun v H3 => spX [.ref x, .non, .non, .non] H3 (fun _ H4 => D.rt v H4) E0,
       bk := fun σ' H3 => spX [.ref x, .non, .non, .non] H3 (fun _ H4 => D.bk σ' H4) E0, ct := fun σ' H3 => spX [.ref x, .non, .non, .non] H3 (fun _ H4 => D.ct σ' H4) E0 } σ H2) E0
theorem ps_with0 {C fe fx : Addr} {ctx : Expr} {body : List Stmt} {tc : TE} {tb : TS} {pos : Pos} {k : Nat} {fde fdx : FuncData} {p0 p1 p2 p3 p4 : Str} {spE spX : Sp} (hc : PE X ctx tc) (he : PySem.W.findIn X.K (.ref C) "__enter__" = some (some (.ref fe))) (hfe : PySem.W.isFn X.K (.ref fe) = true)
    (hx : PySem.W.findIn X.K (.ref C) "__exit__" = some (some (.ref fx))) (hfx : PySem.W.isFn X.K (.ref fx) = true) (Fe : FnOk X.prog X.w X.K X.mg X.base CX0 k fe fde [p0] spE) (be : Binds X.K fde [p0] []) (Fx : FnOk X.prog X.w X.K X.mg X.base CX0 k fx fdx [p1, p2, p3, p4] spX) (bx : Binds X.K fdx [p1, p2, p3, p4] [])
    (hr : Room k X.A) (hb : PSs X.nox body tb) : PS X (.With [⟨ctx, none⟩] body pos) (tWith C spE spX tc tb) := by
  refine ⟨fun pins s σ H D I h => ?_⟩
  refine PySem.W.kw_exec0 (thn (hc.run pins s σ H _ I h) fun u s1 ⟨v, H1, I1, rv, x, dx, fs, ev, ex, q⟩ => ?_)
  subst ev
  obtain rfl : u = Value.ref x := rv
  obtain ⟨mA, O, _, _, _, _⟩ := ins_get I1.hok ex
  obtain ⟨od, IA, _⟩ := O.look
  refine PySem.W.kw_core0 I1.kIn IA he hfe hx hfx ?_
  refine thn (run_fn (us := [.ref x]) (vs := [.ref x]) Fe hr be .nil pass0 I1 (.cons rfl .nil) q) fun u2 s2 ⟨v2, H2, I2, _, q2⟩ => ?_
  have out : ∀ {σ' : L2.St} {H3 : Hp} {s3 : Shared} {R : Hp → Prop} {Z : Value → Shared → Prop}, Inv X pins σ' H3 s3 → spX [.ref x, .non, .non, .non] H3 (fun _ H4 => R H4) E0 → (∀ H4 s4 u, Inv X pins σ' H4 s4 → R H4 → Z u s4) →
      wpAny (model X.prog X.w) X.A (call (.ref fx) [.ref x, .none, .none, .none]) Z X.xe s3 := fun J q hZ =>
    thn (run_fn (us := [.ref x, .none, .none, .none]) (vs := [.ref x, .non, .non, .non]) Fx hr bx .nil pass0 J (.cons rfl (.cons rfl (.cons rfl (.cons rfl .nil)))) q) fun u4 s4 ⟨v4, H4, I4, _, q4⟩ => hZ H4 s4 u4 I4 q4
  refine wpAny_mono (hb.run pins s2 σ H2 _ (I2.wish _) q2) (fun fl s3 h3 => ?_) fun _ _ z => z
  have h3 := h3.unwish
  cases fl with
  | next =>
    obtain ⟨σ', H3, J, q⟩ := h3
    exact out J q fun H4 s4 u J4 q4 => ⟨σ', H4, J4, q4⟩
  | brk =>
    obtain ⟨σ', H3, J, q⟩ := h3
    exact out J q fun H4 s4 u J4 q4 => ⟨σ', H4, J4, q4⟩
  | cont =>
    obtain ⟨σ', H3, J, q⟩ := h3
    exact out J q fun H4 s4 u J4 q4 => ⟨σ', H4, J4, q4⟩
  | ret u =>
    obtain ⟨v, σ', H3, J, r, q⟩ := h3
    exact out J q fun H4 s4 u J4 q4 => ⟨v, σ', H4, J4, r, q4⟩
end
end L1

/-! ### a lambda with one parameter that may raise, handed to a def together with what it is called with -/
namespace L3
open PySem PySem.Spec PyProof.Rows L2 LamX L1
/-- the context of the lambda's body, entered at s from the frames outer; E is what may leave it -/
def lamCxE (X : Cx) (A : Around) (outer : List Env) (s : Shared) (H : Hp) (E : XK) (scope : Scope) (f c' : Addr) (a : Str) : Cx where
  prog := X.prog
  w := X.w
  K := X.K
  mg := X.mg
  base := X.base
  A := A.deeper (lamEnv X scope s.heap.objs.size f c')
  N := X.N ++ [a]
  s_0 := s
  H_0 := H
  env := lamEnv X scope s.heap.objs.size f c'
  outer := outer
  stack := lamEnv X scope s.heap.objs.size f c' :: outer
  ex := []
  fn := fun _ => false
  calm := true
  pn := []
  xe := fun e s' => wpAny (model X.prog X.w) (A.deeper (lamEnv X scope s.heap.objs.size f c')) (leaving (lamEnv X scope s.heap.objs.size f c') e) (fun _ s'' => L2.CX X.prog X.w outer H s E e s'') (fun e' s'' => L2.CX X.prog X.w outer H s E e' s'') s'
section
variable {X : Cx} {pins : List (Addr × Obj)} {σ : L2.St} {H HZ : Hp} {s s1 : Shared}
theorem lam_start4 {A : Around} {outer : List Env} {E : XK} {scope : Scope} {f c' : Addr} {h₁ : Heap} {tk : Nat} {a : Str} {v : V} {u : Value} (I : Inv X pins σ H s) (L : LamP X.env.scope scope a) (hna : a ∉ X.N) (rv : RelV v u) (e0 : Env0 X.prog X.w X.K X.mg X.base A outer s1 HZ) (hd : A.handled = none)
    (un : Un (frs X.stack) [] H HZ s.heap s1.heap) (hns : h₁.Ns s1.heap.objs.size fun y => ([(a, u)] : List (Str × Value)).reverse.lookup y) (kp : ∀ b o, s1.heap.get? b = some o → h₁.get? b = some o) :
    Inv (lamCxE X A outer s1 HZ E scope f c' a) [] (σ ++ [some v]) HZ { s1 with heap := h₁, toks := tk } := by
  have J := lam_start3 (A := A) (outer := outer) (f := f) (c' := c') (tk := tk) I L hna rv e0 hd un hns kp
  exact Inv.unwish (X := lamCxE X A outer s1 HZ E scope f c' a) (E := fun _ _ => False) J
/-- x(e), in the def that got the lambda -/
theorem pe_act2 {Ng : List Str} {qg : Str} {sg : Scope} {g f c' : Addr} {cdg pm ctv : Value} {params : Arguments} {body : Expr} {scope : Scope} {k i : Nat} {a b : Str} {pn : List (Addr × Obj)} {xe : Value → Shared → Prop} {W : WX} {te : TE} {tb : XK → TE} {e : Expr} {Eg : XK} {p1 p2 : Pos}
    (I : Inv X pins σ H s) (L : LamP X.env.scope scope a) (hna : a ∉ X.N) (hf : s.heap.get? f = some (PySem.W.kla_obj "<lambda>" (X.env.qual ++ "<lambda>") params body scope (cloFrom X.env.cells scope.names []) pm c' ctv)) (hfn : H f = none) (hfr : f ∉ frs X.stack)
    (hbind : ∀ u : Value, bindArgs (PySem.W.kla_fn "<lambda>" (X.env.qual ++ "<lambda>") params body scope (cloFrom X.env.cells scope.names []) pm (.ref c') ctv) ⟨[u], []⟩ = pure [(a, u)])
    (tk : Takes ((cxOf C8.CX0 X.prog X.w X.K X.mg X.base Ng qg sg g cdg X.A X.stack s H Eg).tr pn xe) W) (hr : Room (k + 1) (X.A.deeper (envOfC qg sg s.heap.objs.size g cdg)))
    (hbody : ∀ (A : Around) (outer : List Env) (s : Shared) (H : Hp) (E : XK), Room k (A.deeper (lamEnv X scope s.heap.objs.size f c')) → PE (lamCxE X A outer s H E scope f c' a) body (tb E))
    (he : PE ((cxOf C8.CX0 X.prog X.w X.K X.mg X.base Ng qg sg g cdg X.A X.stack s H Eg).tr pn xe) e te)
    (hN : Ng[i]? = some b) (hv : Vis sg b) (hd : (b == ("__debug__" : Str)) = false := by decide) (hcd : (b == ("__classdict__" : Str)) = false := by decide)
    (hse : starEach [e] ((cxOf C8.CX0 X.prog X.w X.K X.mg X.base Ng qg sg g cdg X.A X.stack s H Eg).tr pn xe).env = (false, eval e ((cxOf C8.CX0 X.prog X.w X.K X.mg X.base Ng qg sg g cdg X.A X.stack s H Eg).tr pn xe).env) :: starEach [] ((cxOf C8.CX0 X.prog X.w X.K X.mg X.base Ng qg sg g cdg X.A X.stack s H Eg).tr pn xe).env := by rfl) :
    PE ((cxOf C8.CX0 X.prog X.w X.K X.mg X.base Ng qg sg g cdg X.A X.stack s H Eg).tr pn xe) (.Call (.Name b p1) [e] [] p2)
      (fun σZ HZ Q => σZ[i]? = some (some (.ref f)) ∧ te σZ HZ fun v H1 => H1 c' = some (CodeO c' (X.env.qual ++ "<lambda>")) ∧ tb (fun cls d H' => W cls d σZ H') (σ ++ [some v]) H1 Q) := by
  refine ⟨fun pinsZ sZ σZ HZ Q IZ h => ?_⟩
  obtain ⟨hs, ht⟩ := h
  refine wpAny_Call_Name_kw (thn ((pe_var (pos := p1) (i := i) hN hv hd hcd).run pinsZ sZ σZ HZ (fun v H1 => v = .ref f ∧ H1 = HZ) IZ ⟨.ref f, hs, rfl, rfl⟩) fun u s1 ⟨v, H1, I1, r1, q1⟩ => ?_)
  obtain ⟨ev, eH⟩ := q1
  subst ev
  rw [eH] at I1
  obtain rfl : u = Value.ref f := r1
  have ofA : ∀ {σ' : L2.St} {H' : Hp} {s' : Shared} {pins' : List (Addr × Obj)}, Inv ((cxOf C8.CX0 X.prog X.w X.K X.mg X.base Ng qg sg g cdg X.A X.stack s H Eg).tr pn xe) pins' σ' H' s' → s'.heap.get? f = some (PySem.W.kla_obj "<lambda>" (X.env.qual ++ "<lambda>") params body scope (cloFrom X.env.cells scope.names []) pm c' ctv) :=
    fun I' => I'.base.keep f _ hf hfn hfr (fun z => nomatch (show f ∈ ([] : List Addr) from z))
  refine PySem.W.callWith_F (first := []) ⟨_, _, _, _, ofA I1⟩ (thn ((pa_cons (hs := hse) he pa_nil).run p2 pinsZ s1 σZ HZ (fun vs H2 => match vs with
    | [v] => H2 c' = some (CodeO c' (X.env.qual ++ "<lambda>")) ∧ tb (fun cls d H' => W cls d σZ H') (σ ++ [some v]) H2 Q
    | _ => False) I1 ht) fun us s2 ⟨vs, H2, I2, r, h2⟩ => ⟨⟨_, _, _, _, ofA I2⟩, ?_⟩) hse rfl
  match vs, r, h2 with
  | [v], .cons (b := u) rv .nil, ⟨hc, hb2⟩ =>
  have un : Un (frs X.stack) [] H H2 s.heap s2.heap := I2.base
  obtain ⟨⟨oc, vs0, t, hoc, hdc, hvc⟩, _, _⟩ := I2.hok c' _ hc
  have rc : codeAny (model X.prog X.w) (X.A.deeper (envOfC qg sg s.heap.objs.size g cdg)) (.call (.ref f) ⟨[u], []⟩) (CR (L2.CX X.prog X.w) (envOfC qg sg s.heap.objs.size g cdg :: X.stack) X.prog X.w H2 s2 Q (fun cls d H' => W cls d σZ H')) s2 := by
    refine PySem.W.kla_callFunE hr.depth (ofA I2) rfl L.co L.gen rfl ⟨c', oc, vs0, t, rfl, hoc, hdc, hvc⟩ ?_
    rw [hbind]
    refine wpAny_pure (wpAny_newFunctionEnv (fun y hy => (L.own y hy).1) (fun y hy => ?_) (fun h₁ hns hsb => ⟨I2.nolimit.fresh _ hsb, ?_⟩) L.kind)
    · rw [List.mem_singleton] at hy
      rw [hy]
      exact L.par
    show codeAny _ _ (.expr body (lamEnv X scope s2.heap.objs.size f c')) _ _
    have kp : ∀ b o, s2.heap.get? b = some o → h₁.get? b = some o := fun b o e => hsb.extBut b o (Nat.ne_of_lt (Heap.lt_size e)) (Heap.get?_push_of_some _ e)
    have J : Inv (lamCxE X (X.A.deeper (envOfC qg sg s.heap.objs.size g cdg)) (envOfC qg sg s.heap.objs.size g cdg :: X.stack) s2 H2 (fun cls d H' => W cls d σZ H') scope f c' a) [] (σ ++ [some v]) H2 { s2 with heap := h₁, toks := s2.toks + ([(a, u)] : List (Str × Value)).length } :=
      lam_start4 I L hna rv I2.env0 hr.hd un hns kp
    refine PySem.W.kla_codeExpr (wpAny_mono ((hbody _ _ s2 H2 _ (hr.deeper _)).run [] _ _ H2 Q J hb2) (fun v s' hq => ?_) fun e s' hq => hq)
    obtain ⟨w', H', J', rv', q⟩ := hq
    exact ⟨w', H', J'.os, J'.bare, J'.base, J'.hok, rv', q⟩
  show wpAny _ _ (call (.ref f) [u]) _ _ _
  refine wpAny_call (codeAny_mono rc fun r s' hq => ?_)
  cases r with
  | error e => exact tk e s' (L2.XE.of_call I2 (fun cls d H' h => h) hq)
  | ok fl =>
    cases fl with
    | ret u => exact I2.after hq
    | next => exact False.elim hq
    | brk => exact False.elim hq
    | cont => exact False.elim hq
/-- the def's body, told with what the call of its first parameter does; v2: what stands behind the lambda -/
def GivesX (X : Cx) (k : Nat) (Ng : List Str) (qg : Str) (sg : Scope) (g : Addr) (bg : List Stmt) (b : Str) (q : Str) (TT : (XK → V → Hp → VK → Prop) → V → Hp → VK → Prop) : Prop :=
  ∀ (cdg : Value) (f c' : Addr) (v2 : V) (s : Shared) (H : Hp) (Q : VK) (tl : XK → V → Hp → VK → Prop), Room (k + 1) (X.A.deeper (envOfC qg sg s.heap.objs.size g cdg)) →
    (∀ (W : WX) (pn : List (Addr × Obj)) (xe : Value → Shared → Prop) (e : Expr) (te : TE) (p1 p2 : Pos), Takes ((cxOf C8.CX0 X.prog X.w X.K X.mg X.base Ng qg sg g cdg X.A X.stack s H C8.E0).tr pn xe) W →
      PE ((cxOf C8.CX0 X.prog X.w X.K X.mg X.base Ng qg sg g cdg X.A X.stack s H C8.E0).tr pn xe) e te →
      starEach [e] ((cxOf C8.CX0 X.prog X.w X.K X.mg X.base Ng qg sg g cdg X.A X.stack s H C8.E0).tr pn xe).env = (false, eval e ((cxOf C8.CX0 X.prog X.w X.K X.mg X.base Ng qg sg g cdg X.A X.stack s H C8.E0).tr pn xe).env) :: starEach [] ((cxOf C8.CX0 X.prog X.w X.K X.mg X.base Ng qg sg g cdg X.A X.stack s H C8.E0).tr pn xe).env →
      PE ((cxOf C8.CX0 X.prog X.w X.K X.mg X.base Ng qg sg g cdg X.A X.stack s H C8.E0).tr pn xe) (.Call (.Name b p1) [e] [] p2) (fun σZ HZ Q => σZ[0]? = some (some (.ref f)) ∧ te σZ HZ fun v H1 => H1 c' = some (CodeO c' q) ∧ tl (fun cls d H' => W cls d σZ H') v H1 Q)) →
    H c' = some (CodeO c' q) → TT tl v2 H Q →
    ∃ t, PSs (cxOf C8.CX0 X.prog X.w X.K X.mg X.base Ng qg sg g cdg X.A X.stack s H C8.E0).nox bg t ∧ t { nx := fun _ H' => Q .non H', rt := Q } (L2.start Ng [.ref f, v2]) H
/-- x(lambda a: body, e) -/
def tFunLam (T : List (Addr × Str)) (TT : (XK → V → Hp → VK → Prop) → V → Hp → VK → Prop) (tb : XK → TE) (te : TE) : TE := fun σ H Q => Tabs T H ∧
  ∀ H2, ExtN H H2 → Tabs T H2 → te σ H2 fun v H3 => (∀ c q, H2 c = some (CodeO c q) → H3 c = some (CodeO c q)) ∧ TT (fun E v H' Q' => tb E (σ ++ [some v]) H' Q') v H3 Q
theorem pe_funlam {T : List (Addr × Str)} {TT : (XK → V → Hp → VK → Prop) → V → Hp → VK → Prop} {x a b b2 : Str} {g c P : Addr} {k : Nat} {st : Stmt} {fd : FuncData} {Ng : List Str} {params : Arguments} {body e : Expr} {scope : Scope} {tb : XK → TE} {te : TE} {p lpos pos : Pos}
    (hst : X.stack = X.env :: X.outer) (hfm : X.env.frame = some X.env.locals) (hg : Gl X x) (hm : X.mg x = some (.ref g)) (hk : PySem.W.keepIn X.K (.ref g) = true) (F : Fun X.K x x st g fd) (hb : L2.Binds X.K fd [b, b2] []) (Sg : FnScope Ng [b, b2] (defScope st)) (hNg : Ng[0]? = some b) (hva : Vis (defScope st) b)
    (hG : GivesX X k Ng x (defScope st) g (defBody st) b (X.env.qual ++ "<lambda>") TT)
    (TB : TabB X.base X.mg c P) (hcode : X.env.code = .ref c) (hmT : (P, X.env.qual ++ "<lambda>") ∈ T) (hu : ∀ p ∈ T, p.1 = P → p.2 = X.env.qual ++ "<lambda>") (hr : Room (k + 2) X.A) (L : LamP X.env.scope scope a) (hna : a ∉ X.N) (hdef : defaultsOf params X.env = ([], []))
    (hbind : ∀ (q : Str) (cl : List (Str × Addr)) (pm cv ctv u : Value), bindArgs (PySem.W.kla_fn "<lambda>" q params body scope cl pm cv ctv) ⟨[u], []⟩ = pure [(a, u)])
    (hbody : ∀ (A : Around) (outer : List Env) (s : Shared) (H : Hp) (E : XK) (f c' : Addr), Room k (A.deeper (lamEnv X scope s.heap.objs.size f c')) → PE (lamCxE X A outer s H E scope f c' a) body (tb E))
    (he : PE X e te)
    (hdb : (x == ("__debug__" : Str)) = false := by decide) (hd : (b == ("__debug__" : Str)) = false := by decide) (hcd : (b == ("__classdict__" : Str)) = false := by decide)
    (hs1 : starEach [.Lambda params body scope lpos, e] X.env = (false, eval (.Lambda params body scope lpos) X.env) :: starEach [e] X.env := by rfl) (hs2 : starEach [e] X.env = (false, eval e X.env) :: starEach [] X.env := by rfl)
    (hpl : (backTo pos (starEach [e] X.env)).any (·.1) = false := by rfl) :
    PE X (.Call (.Name x p) [.Lambda params body scope lpos, e] [] pos) (tFunLam T TT tb te) := by
  refine ⟨fun pins s σ H Q I h => ?_⟩
  obtain ⟨hT, h⟩ := h
  refine wpAny_Call_Name_kw (ld_glob I hg hm ?_ hdb)
  refine PySem.W.callWith_K (h₀ := X.base) I.ok.mod.kin hk ?_ hs1 hpl
  rw [hs1, hs2]
  show wpAny _ _ (spliced ((false, eval (.Lambda params body scope lpos) X.env) :: (false, eval e X.env) :: backTo pos (starEach [] X.env))) _ _ s
  refine Calls.spliced_cons (lam_make2 I TB hcode hmT hu hT hdef (L.has I.ok) fun f c' pm' ctv H1 s' I1 eN T1 hf hfn hfr hco => ?_)
  have hff : f ≠ X.env.locals ∧ f ∉ X.fs := by
    rw [hst] at hfr
    unfold frs at hfr
    rw [List.filterMap_cons, hfm] at hfr
    exact ⟨fun z => hfr (List.mem_cons.mpr (.inl z)), fun z => hfr (List.mem_cons_of_mem _ z)⟩
  have I1p : Inv X (pins ++ [(f, PySem.W.kla_obj "<lambda>" (X.env.qual ++ "<lambda>") params body scope (cloFrom X.env.cells scope.names []) pm' c' ctv)]) σ H1 s' := I1.pins_of fun p hp => by
    rcases List.mem_append.mp hp with z | z
    · exact I1.pin p (List.mem_append_right _ z)
    · rw [List.mem_singleton] at z
      subst z
      exact ⟨hf, hfn, hff.1, hff.2, fun v z => by cases z⟩
  refine Calls.spliced_cons (thn (he.run _ s' σ H1 _ I1p (h H1 eN T1)) fun u2 s2 ⟨v2, H2, I2p, rv2, hc2, h2⟩ => ?_)
  have hf2 := (I2p.pin _ (List.mem_append_right _ (List.mem_append_right _ (List.mem_singleton.mpr rfl)))).1
  have hfn2 := (I2p.pin _ (List.mem_append_right _ (List.mem_append_right _ (List.mem_singleton.mpr rfl)))).2.1
  have I2 := I2p.unpinned
  have hco2 := hc2 _ _ hco
  refine Calls.spliced_nil ⟨I2.kIn, ?_⟩
  obtain ⟨oc, od, kV, doc, pm, an, cdv, ct, osl, rfl, lk, hcg⟩ := F.ex
  have rc : codeAny (model X.prog X.w) X.A (.call (.ref g) ⟨[.ref f, u2], []⟩) (CR C8.CX0 X.stack X.prog X.w H2 s2 Q C8.E0) s2 := by
    refine run_ofS (N := Ng) (ps := [b, b2]) (us := [.ref f, u2]) (vs := [.ref f, v2]) lk hcg Sg hr I2.env0 (hb s2 [.ref f, u2] I2.kIn rfl) (.cons rfl (.cons rv2 .nil)) rfl fun hr' => ?_
    obtain ⟨t', ht', hq'⟩ := hG cdv f c' v2 s2 H2 Q (fun E v H' Q' => tb E (σ ++ [some v]) H' Q') hr' (fun W pn xe e te p1 p2 tk hpe hse => pe_act2 (i := 0) (tb := tb) I2 L hna hf2 hfn2 hfr (hbind _ _ _ _ _) tk hr' (fun A outer s H E hr2 => hbody A outer s H E f c' hr2) hpe hNg hva hd hcd hse) hco2 h2
    exact ⟨t', ht'.nox, hq'⟩
  show wpAny _ _ (call (.ref g) [.ref f, u2]) _ _ _
  refine wpAny_call (codeAny_mono rc fun r s3 hq => ?_)
  cases r with
  | error e => exact (show False from hq).elim
  | ok fl =>
    cases fl with
    | ret u => exact I2.after hq
    | next => exact False.elim hq
    | brk => exact False.elim hq
    | cont => exact False.elim hq
end
end L3

/-! ### with, by an own class, where the body may raise: __exit__ is run beside the error, and on it goes -/
namespace L5
open PySem PySem.Spec PyProof.Rows L2
/-- a def that does not raise, called beside an error that is handled -/
structure FnM (P : Program) (w : World) (K : PySem.W.Frag) (mg : Str → Option Value) (base : Heap) (k : Nat) (f : Addr) (fd : FuncData) (ps : List Str) (sp : Sp) : Prop where
  len : ∀ vs H Q E, sp vs H Q E → vs.length = ps.length
  run : ∀ (A : Around) (outer : List Env) (s : Shared) (H : Hp) (args : Args) (us : List Value) (vs : List V) (Q : VK) (p : Addr × Obj), L2H.RoomH k A → L2H.PinOk outer H s p → Env0 P w K mg base A outer s H → BindsTo s fd args (ps.zip us) → Vals vs us → sp vs H Q (fun _ _ _ => False) →
    codeAny (model P w) A (.call (.ref f) args) (CR C8.CX0 outer P w H s Q C8.E0) s
theorem fn_ofM {P : Program} {w : World} {K : PySem.W.Frag} {mg : Str → Option Value} {base : Heap} {k : Nat} {f : Addr} {name qual : Str} {params : Arguments} {body : List Stmt} {scope : Scope} {dV kV doc pm cdv ct oc : Value} {an od : Option Addr}
    {osl : Array (Option Value)} {N ps : List Str} {sp : Sp} (lk : K.lookup f = some ⟨oc, od, .func (PySem.W.fnOf name qual params body scope dV kV doc pm an cdv ct), osl⟩) (hcd : PySem.W.codeIn K cdv qual = true) (S : FnScope N ps scope)
    (len : ∀ vs H Q E, sp vs H Q E → vs.length = ps.length)
    (hbody : ∀ (A : Around) (outer : List Env) (s : Shared) (H : Hp) (vs : List V) (Q : VK) (p : Addr × Obj), L2H.RoomH k (A.deeper (envOfC qual scope s.heap.objs.size f cdv)) → sp vs H Q (fun _ _ _ => False) →
      ∃ t, PSs (L2H.cxH C8.CX0 P w K mg base N qual scope f cdv A outer s H C8.E0 p) body t ∧ t { nx := fun _ H' => Q .non H', rt := Q } (L2.start N vs) H) :
    FnM P w K mg base (k + 1) f (PySem.W.fnOf name qual params body scope dV kV doc pm an cdv ct) ps sp := by
  refine ⟨len, fun A outer s H args us vs Q p hr hpin e0 hb r hsp => ?_⟩
  have hl := len _ _ _ _ hsp
  have KX : K.In s.heap := e0.mod.kin.keeps fun b o e => (e0.bs b o e).1
  have lim : s.heap.NoLimit := e0.mod.nolimit.keeps fun b o e => (e0.bs b o e).1
  have hkind : ∀ y ∈ ps.zip us, scope.names.lookup y.1 = some .local ∨ (scope.names.lookup y.1 = some .cell ∧ ((cellsFrom (s.heap.objs.size + 1) scope.names []).lookup y.1).isSome = true) := fun ⟨n, v⟩ hy => by
    rcases S.par n (List.of_mem_zip hy).1 with q | q
    · exact .inl q
    · exact .inr ⟨q, PySem.W.cellsFrom_some _ _ _ (.inl q)⟩
  refine codeAny_call_function hr.depth (KX _ _ lk) rfl S.co S.gen rfl (PySem.W.codeRec_of KX hcd) (hb _ _ _ _ ?_)
  refine wpAny_newFunctionEnv_cells S.kind hkind fun env he s1 x => ?_
  subst he
  refine ⟨lim.keeps x.toInCall.keep, codeAny_func ?_⟩
  obtain ⟨t, ht, hq⟩ := hbody A outer s H vs Q p (hr.deeper _) hsp
  have I : L2.Inv (L2H.cxH C8.CX0 P w K mg base N qual scope f cdv A outer s H C8.E0 p) [] (L2.start N vs) H s1 := L2H.inv_startH S hpin e0 hl r x
  refine wpAny_mono (ht.run [] s1 (L2.start N vs) H _ I hq) (fun fl s' hs => ?_) fun e s' hs => hs
  have fin : ∀ {σ' : L2.St} {H' : Hp} {v : V} {u : Value}, L2.Inv (L2H.cxH C8.CX0 P w K mg base N qual scope f cdv A outer s H C8.E0 p) [] σ' H' s' → RelV v u → Q v H' → CE outer P w H s Q u s' :=
    fun {σ' H' v u} J rv q => ⟨v, H', J.os, J.bare, J.base, J.hok, rv, q⟩
  cases fl with
  | ret u =>
    obtain ⟨v, σ', H', J, rv, q⟩ := hs
    exact fin J rv q
  | next =>
    obtain ⟨σ', H', J, q⟩ := hs
    exact fin (v := V.non) (u := Value.none) J rfl q
  | brk =>
    obtain ⟨_, _, _, q⟩ := hs
    exact False.elim q
  | cont =>
    obtain ⟨_, _, _, q⟩ := hs
    exact False.elim q
/-- the body of with, and what stands behind it -/
theorem withX_core {prog : Program} {w : World} {A : Around} {E : Value → Shared → Prop} {s : Shared} {env : Env} {K : PySem.W.Frag} {x C fe fx : Addr} {ox : Obj} {od : Option Obj} {pos : Pos} {bdy : Sem Flow} {Q : Flow → Shared → Prop}
    (X : K.In s.heap) (I : PySem.W.InstAt s.heap x ox C od) (he : PySem.W.findIn K (.ref C) "__enter__" = some (some (.ref fe))) (hfe : PySem.W.isFn K (.ref fe) = true) (hx : PySem.W.findIn K (.ref C) "__exit__" = some (some (.ref fx))) (hfx : PySem.W.isFn K (.ref fx) = true)
    (h : wpAny (model prog w) A (call (.ref fe) [.ref x]) (fun v s₂ => wpAny (model prog w) A bdy (fun f s₄ => wpAny (model prog w) A (call (.ref fx) [.ref x, .none, .none, .none]) (fun _ s₅ => Q f s₅) E s₄)
      (fun e s₄ => wpAny (model prog w) A (noteFrame e env) (fun _ s₅ => wpAny (model prog w) A (setFlight e none) (fun _ s₆ => e ≠ byPass ∧ wpAny (model prog w) A (typeOf e) (fun kd s₇ => wpAny (model prog w) A (tracebackOf e) (fun tb s₈ =>
        codeAny (model prog w) (A.mark (some e)) (.call (.ref fx) ⟨[.ref x, kd, e, tb], []⟩) (fun r s₉ => match r with
          | .ok (.ret .none) => wpAny (model prog w) A (passOn "with" e env) Q E s₉
          | _ => False) s₈) E s₇) E s₆) E s₅) E s₄) s₂) E s) :
    wpAny (model prog w) A (withItem false pos env (pure (.ref x)) none bdy) Q E s := by
  obtain ⟨cd, hcd, ae⟩ := PySem.W.kw_along he
  obtain ⟨cd', hcd', ax⟩ := PySem.W.kw_along hx
  cases hcd.symm.trans hcd'
  obtain ⟨hh, g, d, tt, os⟩ := s
  have L1 := PySem.W.kw_special (M := model prog w) (name := "__enter__") X I hcd ae
  have L2 := PySem.W.kw_special (M := model prog w) (name := "__exit__") X I hcd ax
  have L3 : PySem.W.Looks (model prog w) hh (bindSpecial (.ref fe) (.ref x)) (.ref fe, [.ref x]) := PySem.W.bind_fn X _ (beq_iff_eq.mp hfe)
  have L4 : PySem.W.Looks (model prog w) hh (bindSpecial (.ref fx) (.ref x)) (.ref fx, [.ref x]) := PySem.W.bind_fn X _ (beq_iff_eq.mp hfx)
  have L5 : PySem.W.Looks (model prog w) hh (aMethodOfAnotherBuiltinTypeStops (.ref fe) cd.mro) () := PySem.W.Looks.of_pure rfl
  have L6 : PySem.W.Looks (model prog w) hh (aMethodOfAnotherBuiltinTypeStops (.ref fx) cd.mro) () := PySem.W.Looks.of_pure rfl
  unfold withItem
  refine wpAny_bind (wpAny_pure ?_)
  refine wpAny_bind (wpAny_standAt ?_)
  simp only [Bool.false_eq_true, if_false]
  kw_lk
  refine wpAny_mono h (fun v s₂ h₂ => ?_) fun _ _ z => z
  kw_lk
  refine wpAny_attempt (PySem.W.kw_held ?_)
  show wpAny _ _ bdy _ _ _
  refine wpAny_mono h₂ (fun f s₄ h₄ => ?_) fun e s₄ h₄ => ?_
  · kw_lk
    refine wpAny_mono h₄ (fun _ s₅ h₅ => ?_) fun _ _ z => z
    kw_lk
    exact h₅
  · show wpAny _ _ (noteFrame e env >>= _) _ _ _
    refine wpAny_bind (wpAny_mono h₄ (fun _ s₅ h₅ => ?_) fun _ _ z => z)
    refine wpAny_bind (wpAny_mono h₅ (fun _ s₆ h₆ => ?_) fun _ _ z => z)
    obtain ⟨nb, h₆⟩ := h₆
    refine wpAny_bind (wpAny_standAt ?_)
    refine wpAny_holding ?_
    refine wpAny_bind (wpAny_mono h₆ (fun kd s₇ h₇ => ?_) fun _ _ z => z)
    refine wpAny_bind (wpAny_mono h₇ (fun tb s₈ h₈ => ?_) fun _ _ z => z)
    unfold withItem.marked
    refine wpAny_bind (wpAny_bind (wpAny_run (codeAny_mono h₈ fun r s₉ h₉ => ?_) (fun z => nb (Option.some.inj z))))
    cases r with
    | error e2 => exact h₉.elim
    | ok fl =>
      cases fl with
      | ret v2 =>
        cases v2 with
        | none =>
          refine wpAny_pure ?_
          refine wpAny_bind (wpAny_pure ?_)
          show wpAny _ _ ((pure false : Sem Bool) >>= _) _ _ _
          refine wpAny_bind (wpAny_pure ?_)
          rw [if_neg (by decide)]
          exact h₉
        | _ => exact h₉.elim
      | _ => exact h₉.elim
/-- an error that was handled flies on, behind what was done beside it -/
theorem fly_on {X : Cx} {W : WX} {pins pnX : List (Addr × Obj)} {σ : L2.St} {H : Hp} {s : Shared} {a T : Addr} {oe oT : Obj} {vs ts : Array Value} {cls : Value} {d : Option Addr} {Q : Flow → Shared → Prop} (hs : X.stack = X.env :: X.outer) (hf : X.env.frame = some X.env.locals) (ok : X.Ok)
    (S : L2.Inv (X.suite a pnX) [] σ H s) (ma : (a, oe) ∈ pnX) (mT : (T, oT) ∈ pnX) (sub : ∀ p ∈ X.pn ++ pins, p ∈ pnX) (ha : oe.data = .fields vs) (hT : oT.data = .fields ts) (hz : Zc cls d oe) (h1 : vs[1]? = some (.ref T)) (hTa : T ≠ a) (h3 : ts[3]? = some .none)
    (na : a ∉ frs X.stack) (nT : T ∉ frs X.stack) (fp : ∀ p ∈ X.pn ++ pins, p.1 ≠ a ∧ p.1 ≠ T) (f0 : ∀ b o, X.s_0.heap.get? b = some o → b ≠ a ∧ b ≠ T) (tk : Takes X W) (w : W cls d σ H) : wpAny (model X.prog X.w) X.A (PySem.passOn "with" (.ref a) X.env) Q X.xe s := by
  have J : L2.Inv X pins σ H s := ⟨ok, S.os, S.bare, S.base, S.loc, S.cell, S.free, S.freeC, fun p hp => S.pin p (List.mem_append_left _ (sub p hp)), S.hok, S.len⟩
  have pa := S.pin (a, oe) (List.mem_append_left _ ma)
  have pT := S.pin (T, oT) (List.mem_append_left _ mT)
  obtain ⟨G, in1, out1⟩ := restrict s.heap fun b => decide (b ≠ a ∧ b ≠ T)
  have inG : ∀ b o, G.get? b = some o → s.heap.get? b = some o ∧ b ≠ a ∧ b ≠ T := fun b o e => by
    by_cases q : b ≠ a ∧ b ≠ T
    · rw [in1 b (decide_eq_true q)] at e
      exact ⟨e, q⟩
    · rw [out1 b (decide_eq_false q)] at e
      cases e
  have I : L2.Inv X pins σ H { s with heap := G } := J.less (a := a) (b := T) (fun b o e => (inG b o e).1) (fun b o n1 n2 e => by rw [in1 b (decide_eq_true ⟨n1, n2⟩)]; exact e) ⟨oe, vs, pa.1, ha⟩ ⟨oT, ts, pT.1, hT⟩ pa.2.1 pT.2.1 f0 fp
  have gone : ∀ b, ¬ (b ≠ a ∧ b ≠ T) → (PySem.W.hideAll G (frs X.stack)).get? b = none := fun b n => by
    cases q : (PySem.W.hideAll G (frs X.stack)).get? b with
    | none => rfl
    | some o => exact (n (inG b o (PySem.W.of_hideAll _ q)).2).elim
  have ff := funFrames_none (B := PySem.W.hideAll G (frs X.stack)) J.stack fun b hb => PySem.W.hideAll_none _ hb
  have inB : ∀ b o, (PySem.W.hideAll G (frs X.stack)).get? b = some o → s.heap.get? b = some o := fun b o e => (inG b o (PySem.W.of_hideAll _ e)).1
  have toB : ∀ b o, G.get? b = some o → b ∉ frs X.stack → (PySem.W.hideAll G (frs X.stack)).get? b = some o := fun b o e n => PySem.W.hideAll_get _ e n
  generalize PySem.W.hideAll G (frs X.stack) = B at *
  rw [hs] at ff
  have fl : HandSPX.FlyingZ B (X.env :: X.outer) a (Zc cls d) s.heap := ⟨inB, gone a fun z => z.1 rfl, ff, oe, vs, T, oT, ts, pa.1, hz, ha, h1, gone T fun z => z.2 rfl, hTa, pT.1, hT, h3⟩
  have last : wpAny (model X.prog X.w) X.A (setFlight (.ref a) X.env.frame) (fun _ s7 => wpAny (model X.prog X.w) X.A (throw (.ref a) : Sem Flow) Q X.xe s7) X.xe s := by
    rw [hf]
    refine HandSPX.setFlight_upZ fl fun h7 held up => wpAny_throw (tk _ _ ⟨a, B, { s with heap := G }, pins, σ, H, cls, d, rfl, I, toB, ?_, .inr (.inr (by rw [hs]; exact held)), pa.2.1, rfl, J.bare, w⟩)
    exact Heap.UpToSlots.trans (Heap.UpToSlots.of_keeps fun b o e => (inG b o e).1) up
  unfold PySem.passOn
  refine wpAny_bind (wpAny_field pa.1 ha h1 ?_)
  rw [if_neg (show ¬ ((Value.ref T == Value.none) = true) from by simp)]
  first
    | exact wpAny_bind (wpAny_pure (wpAny_bind last))
    | exact wpAny_bind last
/-- what is wished of an error of the body: __exit__ runs, and the error goes on -/
def wExit (spX : Sp) (x : Addr) (Wout : WX) : WX := fun cls d σ H => ∃ v1, RelV v1 cls ∧ ∀ a v3, spX [.ref x, v1, .ref a, v3] H (fun v H' => v = .non ∧ Wout cls d σ H') (fun _ _ _ => False)
theorem exit_exc {X : Cx} {Wout : WX} {pins : List (Addr × Obj)} {xe : Value → Shared → Prop} {Q : Flow → Shared → Prop} {u : Value} {s' : Shared} {x fx : Addr} {fdx : FuncData} {p1 p2 p3 p4 : Str} {k : Nat} {spX : Sp} (hs : X.stack = X.env :: X.outer) (hf : X.env.frame = some X.env.locals) (hex : X.ex = []) (ok : X.Ok) (tk : Takes X Wout)
    (Fx : FnM X.prog X.w X.K X.mg X.base k fx fdx [p1, p2, p3, p4] spX) (hr : L2H.RoomH k X.A) (bx : Binds X.K fdx [p1, p2, p3, p4] []) (xx : XE (X.tr (X.pn ++ pins) xe) (wExit spX x Wout) u s') :
    wpAny (model X.prog X.w) X.A (noteFrame u X.env) (fun _ s₅ => wpAny (model X.prog X.w) X.A (setFlight u none) (fun _ s₆ => u ≠ byPass ∧ wpAny (model X.prog X.w) X.A (typeOf u) (fun kd s₇ => wpAny (model X.prog X.w) X.A (tracebackOf u) (fun tb s₈ =>
        codeAny (model X.prog X.w) (X.A.mark (some u)) (.call (.ref fx) ⟨[.ref x, kd, u, tb], []⟩) (fun r s₉ => match r with
          | .ok (.ret .none) => wpAny (model X.prog X.w) X.A (passOn "with" u X.env) Q X.xe s₉
          | _ => False) s₈) X.xe s₇) X.xe s₆) X.xe s₅) X.xe s' := by
  have hfr : X.A.frames = some (X.env :: X.outer) := by rw [ok.frames, hs]
  obtain ⟨a, B, sI, pins', σ', H', cls, d, rfl, J', nb, up, sky, na, os, ag, v1, rv1, hw⟩ := xx
  have J : L2.Inv X pins σ' H' sI := J'.ofTry ok
  have sky' : Sky B (X.env :: X.outer) a (Zc cls d) X.env.locals s'.heap := by rw [← hs]; exact sky
  refine Sky.land Zc.steady hfr hf sky' fun h3 fl3 up3 => ⟨ref_ne_byPass a, ?_⟩
  have J3 : L2.Inv X pins σ' H' { s' with heap := h3 } := J.landed nb fl3.1 (up.trans up3) os ag
  obtain ⟨k1, k2, k3, oe, vs, T, oT, ts, he3, hz, hd, hv1, hnT, hTe, hT, hdT, ht3⟩ := id fl3
  have nT : H' T = none := (J.inGround nb).gone hnT
  have nfr : ∀ {b : Addr} {o : Obj} {fv : Array Value}, h3.get? b = some o → o.data = .fields fv → b ∉ frs X.stack := fun {b o fv} e dd m => by
    rw [hs] at m
    obtain ⟨_, o', e', no⟩ := k3.mem m
    cases e.symm.trans e'
    exact no _ dd
  have fa := nfr he3 hd
  have fT := nfr hT hdT
  have inL : X.env.locals ∈ frs X.stack := by
    rw [hs]
    exact List.mem_filterMap.mpr ⟨X.env, List.mem_cons_self, hf⟩
  have inF : ∀ b, b ∈ X.fs → b ∈ frs X.stack := fun b m => by
    rw [hs]
    obtain ⟨e, he, q⟩ := List.mem_filterMap.mp m
    exact List.mem_filterMap.mpr ⟨e, List.mem_cons_of_mem _ he, q⟩
  have off : ∀ {b : Addr}, b ∉ frs X.stack → b ≠ X.env.locals ∧ b ∉ X.fs := fun {b} n => ⟨fun z => n (z ▸ inL), fun z => n (inF b z)⟩
  have JT : L2.Inv X ((T, oT) :: pins) σ' H' { s' with heap := h3 } := J3.pins_of fun p hp => by
    rcases List.mem_cons.mp hp with z | z
    · subst z
      exact ⟨hT, nT, (off fT).1, (off fT).2, fun v e => (by rw [show oT.data = _ from e] at hdT; cases hdT)⟩
    · exact J3.pin p (List.mem_append_right _ z)
  have S3 := JT.suite he3 hd na (off fa).1 (off fa).2
  refine wpAny_typeOf_ref he3 ?_
  rw [hz.1]
  obtain ⟨t1, ht1⟩ : ∃ t1, ts[1]? = some t1 := by
    have : 3 < ts.size := (Array.getElem?_eq_some_iff.mp ht3).1
    exact ⟨ts[1], Array.getElem?_eq_getElem (by omega)⟩
  have far : ∀ b o, sI.heap.get? b = some o → b ≠ a ∧ b ≠ T := fun b o e => by
    by_cases m : b ∈ frs X.stack
    · exact ⟨fun z => fa (z ▸ m), fun z => fT (z ▸ m)⟩
    · have q := nb b o e m
      exact ⟨fun z => (by rw [z, k2] at q; cases q), fun z => (by rw [z, hnT] at q; cases q)⟩
  have go : ∀ tbv v3, RelV v3 tbv → codeAny (model X.prog X.w) (X.A.mark (some (.ref a))) (.call (.ref fx) ⟨[.ref x, cls, .ref a, tbv], []⟩) (fun r s₉ => match r with
      | .ok (.ret .none) => wpAny (model X.prog X.w) X.A (passOn "with" (.ref a) X.env) Q X.xe s₉
      | _ => False) { s' with heap := h3 } := fun tbv v3 rv3 => by
    have PA := S3.pin (a, oe) (List.mem_append_left _ List.mem_cons_self)
    have b4 := bx { s' with heap := h3 } [.ref x, cls, .ref a, tbv] S3.kIn rfl
    refine codeAny_mono (Fx.run (X.A.mark (some (.ref a))) X.stack { s' with heap := h3 } H' ⟨[.ref x, cls, .ref a, tbv], []⟩ [.ref x, cls, .ref a, tbv] [.ref x, v1, .ref a, v3] _ (a, oe) ⟨hr.dp, hr.un⟩ ⟨he3, na, fa, PA.2.2.2.2⟩ S3.env0 b4 (.cons rfl (.cons rv1 (.cons rfl (.cons rv3 .nil)))) (hw a v3)) fun r s₉ hq => ?_
    cases r with
    | error e => exact (show False from hq).elim
    | ok fl =>
      cases fl with
      | next => exact False.elim hq
      | brk => exact False.elim hq
      | cont => exact False.elim hq
      | ret u9 =>
        obtain ⟨v9, H9, S9, rv9, hv9, w9⟩ := S3.after hq
        subst hv9
        obtain rfl : u9 = Value.none := rv9
        refine fly_on (pins := pins) hs hf ok S9 List.mem_cons_self (List.mem_cons_of_mem _ (List.mem_append_right _ List.mem_cons_self)) (fun p hp => List.mem_cons_of_mem _ ((List.mem_append.mp hp).elim (fun m => List.mem_append_left _ m) fun m => List.mem_append_right _ (List.mem_cons_of_mem _ m))) hd hdT hz hv1 hTe ht3 fa fT (fun p hp => far _ _ (J.pin p hp).1) (fun b o e => ?_) tk w9
        obtain ⟨o', q⟩ := J.base.there b o e (by rw [hex]; exact fun m => nomatch m)
        exact far b o' q
  unfold tracebackOf
  refine wpAny_bind (wpAny_field he3 hd hv1 ?_)
  refine wpAny_bind (wpAny_field hT hdT ht1 ?_)
  by_cases z : (t1 == Value.none) = true
  · rw [if_pos z]
    exact wpAny_pure (go _ .non rfl)
  · rw [if_neg z]
    exact wpAny_pure (go _ (.ref T) rfl)
/-- with o: body, where the body may raise -/
def tWithX (C : Addr) (spE spX : Sp) (Wout : WX) (tc : TE) (tb : WX → TS) : TS := fun D σ H => tc σ H fun v H1 => ∃ x dx fs, v = .ref x ∧ H1 x = some (.ins C dx fs) ∧ spE [.ref x] H1 (fun _ H2 =>
  tb (wExit spX x Wout) { nx := fun σ' H3 => spX [.ref x, .non, .non, .non] H3 (fun _ H4 => D.nx σ' H4) C8.E0, rt := fun v H3 => spX [.ref x, .non, .non, .non] H3 (fun _ H4 => D.rt v H4) C8.E0, bk := fun σ' H3 => spX [.ref x, .non, .non, .non] H3 (fun _ H4 => D.bk σ' H4) C8.E0, ct := fun σ' H3 => spX [.ref x, .non, .non, .non] H3 (fun _ H4 => D.ct σ' H4) C8.E0 } σ H2) C8.E0
theorem ps_withX {X : Cx} {C fe fx : Addr} {ctx : Expr} {body : List Stmt} {tc : TE} {tb : WX → TS} {pos : Pos} {k : Nat} {fde fdx : FuncData} {p0 p1 p2 p3 p4 : Str} {spE spX : Sp} {Wout : WX} (hs : X.stack = X.env :: X.outer) (hf : X.env.frame = some X.env.locals) (hex : X.ex = [])
    (hc : PE X ctx tc) (he : PySem.W.findIn X.K (.ref C) "__enter__" = some (some (.ref fe))) (hfe : PySem.W.isFn X.K (.ref fe) = true) (hx : PySem.W.findIn X.K (.ref C) "__exit__" = some (some (.ref fx))) (hfx : PySem.W.isFn X.K (.ref fx) = true)
    (Fe : FnOk X.prog X.w X.K X.mg X.base C8.CX0 k fe fde [p0] spE) (be : Binds X.K fde [p0] []) (Fx : FnOk X.prog X.w X.K X.mg X.base C8.CX0 k fx fdx [p1, p2, p3, p4] spX) (Fm : FnM X.prog X.w X.K X.mg X.base k fx fdx [p1, p2, p3, p4] spX) (bx : Binds X.K fdx [p1, p2, p3, p4] [])
    (hr : Room k X.A) (tk : Takes X Wout) (hb : ∀ (W : WX) (pn : List (Addr × Obj)) (xe : Value → Shared → Prop), Takes (X.tr pn xe) W → PassesOwn (model X.prog X.w) X.A X.env xe → PSs (X.tr pn xe) body (tb W)) :
    PS X (.With [⟨ctx, none⟩] body pos) (tWithX C spE spX Wout tc tb) := by
  refine ⟨fun pins s σ H D I h => ?_⟩
  have ok := I.ok
  refine PySem.W.kw_exec0 (thn (hc.run pins s σ H _ I h) fun u s1 ⟨v, H1, I1, rv, x, dx, fs, ev, ex, q⟩ => ?_)
  subst ev
  obtain rfl : u = Value.ref x := rv
  obtain ⟨mA, O, _, _, _, _⟩ := ins_get I1.hok ex
  obtain ⟨od, IA, _⟩ := O.look
  unfold PySem.W.KwIn
  refine withX_core I1.kIn IA he hfe hx hfx ?_
  refine thn (run_fn (us := [.ref x]) (vs := [.ref x]) Fe hr be .nil pass0 I1 (.cons rfl .nil) q) fun u2 s2 ⟨v2, H2, I2, _, q2⟩ => ?_
  have out : ∀ {σ' : L2.St} {H3 : Hp} {s3 : Shared} {R : Hp → Prop} {Z : Value → Shared → Prop}, L2.Inv X pins σ' H3 s3 → spX [.ref x, .non, .non, .non] H3 (fun _ H4 => R H4) C8.E0 → (∀ H4 s4 u, L2.Inv X pins σ' H4 s4 → R H4 → Z u s4) →
      wpAny (model X.prog X.w) X.A (call (.ref fx) [.ref x, .none, .none, .none]) Z X.xe s3 := fun J q hZ =>
    thn (run_fn (us := [.ref x, .none, .none, .none]) (vs := [.ref x, .non, .non, .non]) Fx hr bx .nil pass0 J (.cons rfl (.cons rfl (.cons rfl (.cons rfl .nil)))) q) fun u4 s4 ⟨v4, H4, I4, _, q4⟩ => hZ H4 s4 u4 I4 q4
  refine wpAny_mono ((hb (wExit spX x Wout) (X.pn ++ pins) _ (fun u s' xx => exit_exc (Q := SP X pins D) hs hf hex ok tk Fm ⟨hr.dp, hr.un⟩ bx xx) PassesOwn.looking).run [] s2 σ H2 _ (I2.toTry _) q2) (fun fl s3 h3 => ?_) fun _ _ z => z
  cases fl with
  | next =>
    obtain ⟨σ', H3, J, q⟩ := h3
    exact out (J.ofTry ok) q fun H4 s4 u J4 q4 => ⟨σ', H4, J4, q4⟩
  | brk =>
    obtain ⟨σ', H3, J, q⟩ := h3
    exact out (J.ofTry ok) q fun H4 s4 u J4 q4 => ⟨σ', H4, J4, q4⟩
  | cont =>
    obtain ⟨σ', H3, J, q⟩ := h3
    exact out (J.ofTry ok) q fun H4 s4 u J4 q4 => ⟨σ', H4, J4, q4⟩
  | ret u =>
    obtain ⟨v, σ', H3, J, r, q⟩ := h3
    exact out (J.ofTry ok) q fun H4 s4 u J4 q4 => ⟨v, σ', H4, J4, r, q4⟩
end L5

/-! ### o.m(lambda a: body), where the lambda, and so the method, may raise -/
namespace L5
open PySem PySem.Spec PyProof.Rows L2 LamX L1 L3
/-- the method's body, told with what the call of its parameter does -/
def GivesMX (X : Cx) (k : Nat) (Ng : List Str) (qg : Str) (sg : Scope) (g : Addr) (bg : List Stmt) (b : Str) (q : Str) (TT : (XK → V → Hp → VK → Prop) → Addr → Hp → VK → XK → Prop) : Prop :=
  ∀ (cdg : Value) (f c' x : Addr) (s : Shared) (H : Hp) (Q : VK) (E : XK) (tl : XK → V → Hp → VK → Prop), Room (k + 1) (X.A.deeper (envOfC qg sg s.heap.objs.size g cdg)) →
    (∀ (W : WX) (pn : List (Addr × Obj)) (xe : Value → Shared → Prop) (e : Expr) (te : TE) (p1 p2 : Pos), Takes ((cxOf (L2.CX X.prog X.w) X.prog X.w X.K X.mg X.base Ng qg sg g cdg X.A X.stack s H E).tr pn xe) W →
      PE ((cxOf (L2.CX X.prog X.w) X.prog X.w X.K X.mg X.base Ng qg sg g cdg X.A X.stack s H E).tr pn xe) e te →
      starEach [e] ((cxOf (L2.CX X.prog X.w) X.prog X.w X.K X.mg X.base Ng qg sg g cdg X.A X.stack s H E).tr pn xe).env = (false, eval e ((cxOf (L2.CX X.prog X.w) X.prog X.w X.K X.mg X.base Ng qg sg g cdg X.A X.stack s H E).tr pn xe).env) :: starEach [] ((cxOf (L2.CX X.prog X.w) X.prog X.w X.K X.mg X.base Ng qg sg g cdg X.A X.stack s H E).tr pn xe).env →
      PE ((cxOf (L2.CX X.prog X.w) X.prog X.w X.K X.mg X.base Ng qg sg g cdg X.A X.stack s H E).tr pn xe) (.Call (.Name b p1) [e] [] p2) (fun σZ HZ Q => σZ[1]? = some (some (.ref f)) ∧ te σZ HZ fun v H1 => H1 c' = some (CodeO c' q) ∧ tl (fun cls d H' => W cls d σZ H') v H1 Q)) →
    H c' = some (CodeO c' q) → TT tl x H Q E →
    ∃ t, PSs (cxOf (L2.CX X.prog X.w) X.prog X.w X.K X.mg X.base Ng qg sg g cdg X.A X.stack s H E) bg t ∧ t { nx := fun _ H' => Q .non H', rt := Q } (L2.start Ng [.ref x, .ref f]) H
/-- o.m(lambda a: body), raising -/
def tMethLamX (C : Addr) (m : Str) (T : List (Addr × Str)) (TT : (XK → V → Hp → VK → Prop) → Addr → Hp → VK → XK → Prop) (E : L2.St → XK) (ta : TE) (tb : XK → TE) : TE := fun σ H Q => ta σ H fun x H1 => ∃ b dx fs, x = .ref b ∧ H1 b = some (.ins C dx fs) ∧ fs.lookup m = none ∧ Tabs T H1 ∧
  ∀ H2, ExtN H1 H2 → Tabs T H2 → TT (fun E v H' Q' => tb E (σ ++ [some v]) H' Q') b H2 Q (E σ)
theorem pe_methlamX {X : Cx} {T : List (Addr × Str)} {TT : (XK → V → Hp → VK → Prop) → Addr → Hp → VK → XK → Prop} {m xg qg a sn b : Str} {C g c P : Addr} {k : Nat} {st : Stmt} {fd : FuncData} {Ng : List Str} {pl : Sem Bool} {E : L2.St → XK}
    {params : Arguments} {body o : Expr} {scope : Scope} {ta : TE} {tb : XK → TE} {lpos apos pos : Pos} (he : PE X o ta) (cl : Cls X.K C) (hm : Meth X.K C m g) (F : Fun X.K xg qg st g fd) (hb : L2.Binds X.K fd [sn, b] []) (Sg : FnScope Ng [sn, b] (defScope st)) (hNg : Ng[1]? = some b) (hva : Vis (defScope st) b)
    (hG : GivesMX X k Ng qg (defScope st) g (defBody st) b (X.env.qual ++ "<lambda>") TT) (hx : ∀ σ, PassesAt (L2.CX X.prog X.w) X σ (E σ))
    (TB : TabB X.base X.mg c P) (hcode : X.env.code = .ref c) (hmT : (P, X.env.qual ++ "<lambda>") ∈ T) (hu : ∀ p ∈ T, p.1 = P → p.2 = X.env.qual ++ "<lambda>") (hr : Room (k + 2) X.A) (L : LamP X.env.scope scope a) (hna : a ∉ X.N) (hdef : defaultsOf params X.env = ([], []))
    (hbind : ∀ (q : Str) (cl : List (Str × Addr)) (pm cv ctv u : Value), bindArgs (PySem.W.kla_fn "<lambda>" q params body scope cl pm cv ctv) ⟨[u], []⟩ = pure [(a, u)])
    (hbody : ∀ (A : Around) (outer : List Env) (s : Shared) (H : Hp) (E : XK) (f c' : Addr), Room k (A.deeper (lamEnv X scope s.heap.objs.size f c')) → PE (lamCxE X A outer s H E scope f c' a) body (tb E))
    (hd : (b == ("__debug__" : Str)) = false := by decide) (hcd : (b == ("__classdict__" : Str)) = false := by decide)
    (ht : eval (.Call (.Attribute o m apos) [.Lambda params body scope lpos] [] pos) X.env = (do
      let ov ← eval o X.env
      standAt apos.atName
      let (f, first) ← holding [ov] (getMethod ov m pl)
      callWith pos f first (backTo pos (starEach [.Lambda params body scope lpos] X.env)) (backToKw pos (keywordEach [] X.env))) := by rfl) :
    PE X (.Call (.Attribute o m apos) [.Lambda params body scope lpos] [] pos) (tMethLamX C m T TT E ta tb) := by
  refine ⟨fun pins s σ H Q I h => ?_⟩
  refine PySem.W.methodCall_KW (pl := pl) (thn (he.run pins s σ H _ I h) fun u s1 ⟨x, H1, I1, rx, b0, dx, fs, ex, ea, l, hT, h⟩ => ?_) ht
  subst ex
  obtain rfl : u = Value.ref b0 := rx
  refine getmeth_ok I1 ea cl hm l ?_
  refine PySem.W.callWith_K (first := [.ref b0]) (h₀ := X.base) I.ok.mod.kin hm.kp ?_ (by rfl) (by rfl)
  show wpAny _ _ (spliced ((false, eval (.Lambda params body scope lpos) X.env) :: backTo pos (starEach [] X.env))) _ _ s1
  refine Calls.spliced_cons (lam_make2 I1 TB hcode hmT hu hT hdef (L.has I1.ok) fun f c' pm' ctv H2 s' I2 eN T2 hf hfn hfr hco => ?_)
  refine Calls.spliced_nil ⟨I2.kIn, ?_⟩
  obtain ⟨oc, od, kV, doc, pm, an, cdv, ct, osl, rfl, lk, hcg⟩ := F.ex
  have rc : codeAny (model X.prog X.w) X.A (.call (.ref g) ⟨[.ref b0, .ref f], []⟩) (CR (L2.CX X.prog X.w) X.stack X.prog X.w H2 s' Q (E σ)) s' := by
    refine run_ofS (N := Ng) (ps := [sn, b]) (us := [.ref b0, .ref f]) (vs := [.ref b0, .ref f]) lk hcg Sg hr I2.env0 (hb s' [.ref b0, .ref f] I2.kIn rfl) (.cons rfl (.cons rfl .nil)) rfl fun hr' => ?_
    exact hG cdv f c' b0 s' H2 Q (E σ) (fun E v H' Q' => tb E (σ ++ [some v]) H' Q') hr' (fun W pn xe e te p1 p2 tk hpe hse => pe_act2 (i := 1) (tb := tb) (Eg := C8.E0) I2 L hna hf hfn hfr (hbind _ _ _ _ _) tk hr' (fun A outer s H E hr2 => hbody A outer s H E f c' hr2) hpe hNg hva hd hcd hse) hco (h H2 eN T2)
  show wpAny _ _ (call (.ref g) [.ref b0, .ref f]) _ _ _
  refine wpAny_call (codeAny_mono rc fun r s2 hq => ?_)
  cases r with
  | error e => exact hx σ pins H2 s' e s2 I2 hq
  | ok fl =>
    cases fl with
    | ret u => exact I2.after hq
    | next => exact False.elim hq
    | brk => exact False.elim hq
    | cont => exact False.elim hq
end L5

/-! ### the bag of draws -/
structure Bag (H : Hp) (g l : Addr) : Prop where
  ex : ∃ (i r s c : Int) (ns : List Int), H g = some (.lst [.ref l, .int i, .int r, .int s, .int c]) ∧ H l = some (.lst (ns.map V.int)) ∧ 0 ≤ i
def spDraw : Sp := fun vs H Q _ => ∃ (g l : Addr) (z : Int), vs = [.ref g, .int z] ∧ Bag H g l ∧ 0 < z ∧ z.natAbs < 2 ^ 9000 ∧
  ∀ (n : Int) (H' : Hp), 0 ≤ n → n < z → Bag H' g l → Kp g H H' → Q (.int n) H'
theorem at_ints {ns : List Int} {i : Int} (h0 : 0 ≤ i) (h1 : i < (ns.length : Int)) : ∃ n, atI (ns.map V.int) i = some (.int n) := by
  obtain ⟨j, rfl⟩ := Int.eq_ofNat_of_zero_le h0
  have hj : j < ns.length := by omega
  exact ⟨ns[j], atI_nat (by rw [List.getElem?_map, List.getElem?_eq_getElem hj]; rfl)⟩
theorem cmul_r {i j : Int} (h : -(2 ^ 64) < j ∧ j < 2 ^ 64) : CMul i j := .inr h
theorem cmul_l {i j : Int} (h : -(2 ^ 64) < i ∧ i < 2 ^ 64) : CMul i j := .inl h
theorem cpow_of {i j : Int} (h1 : 0 ≤ j ∧ j ≤ 1000000) (h2 : -(2 ^ 63) < i ∧ i < 2 ^ 63) : CPow i j := ⟨h1.1, h1.2, by omega⟩
section
variable {P : Program} {w : World} {K : PySem.W.Frag} {mg : Str → Option Value} {base : Heap} {A : Ad}
theorem ok_l_draw (T : Txt K mg A) : FnOk P w K mg base CX0 1 A.l_draw A.fd_l_draw P_l_draw spDraw := by
  refine T.F_l_draw.ok sc_l_draw (fun vs H Q E h => ?_) (fun cdv Ar outer s H vs Q E hr h => ?_)
  · obtain ⟨g, l, z, rfl, _⟩ := h
    rfl
  · obtain ⟨g, l, z, rfl, ⟨i, r, sd, c, ns, hg, hl, hi⟩, hz, hz2, k⟩ := h
    have nlg : l ≠ g := ne_of hl hg (by intro q; cases ns <;> cases q)
    refine ⟨_, (pss_cons (ps_asg (pe_op op_add (pe_ix ix_list (pv 0) pe_int (fun _ _ => rfl)) pe_int) (pg_sub (pv 0) pe_int set_list))
      (pss_g (Evl.pss_cut (ps_if (PW.pt (pw_and (pt_cmpR op_eq (pe_ix ix_list (pv 0) pe_int (fun _ _ => rfl)) pe_int (nomark _)) (pw_and1 (pt_cmpR op_lt (pe_ix ix_list (pv 0) pe_int (fun _ _ => rfl)) (pe_callB call_len_seq (by rfl) T.z_len (by decide +kernel) (pa_cons (pe_ix ix_list (pv 0) pe_int (fun _ _ => rfl)) pa_nil)) (nomark _))))) (pss_cons (ps_set (i := 2) sc_l_draw.nd rfl (Or.inl rfl) (pe_ix ix_list (pe_ix ix_list (pv 0) pe_int (fun _ _ => rfl)) (pe_ix ix_list (pv 0) pe_int (fun _ _ => rfl)) (fun _ _ => rfl)))
      (pss_cons (ps_asg (pe_op op_add (pe_ix ix_list (pv 0) pe_int (fun _ _ => rfl)) pe_int) (pg_sub (pv 0) pe_int set_list))
      (pss_cons (ps_asg (pe_op op_mul (pe_op op_add (pe_op op_mul pe_int (pe_callB call_abs (by rfl) T.z_abs (by decide +kernel) (pa_cons (pv 2) pa_nil))) (pe_callTy call_int1 (by rfl) T.z_int (by decide +kernel) (pa_cons (pe_cmpR op_lt (pv 2) pe_int (nomark _)) pa_nil))) (pe_callTy call_int1 (by rfl) T.z_int (by decide +kernel) (pa_cons (pe_cmpR op_ge (pe_callB call_abs (by rfl) T.z_abs (by decide +kernel) (pa_cons (pv 2) pa_nil)) (pe_op op_pow pe_int pe_int) (nomark _)) pa_nil))) (pg_sub (pv 0) pe_int set_list))
      (pss_one (ps_asg (pe_op op_mod (pe_callTy call_int1 (by rfl) T.z_int (by decide +kernel) (pa_cons (pe_op op_add (pe_op op_add (pe_op op_mul (pe_ix ix_list (pv 0) pe_int (fun _ _ => rfl)) pe_int) (pe_op op_mul (pv 2) pe_int)) pe_int) pa_nil)) pe_int) (pg_sub (pv 0) pe_int set_list)))))) pss_nil)
      (pss_cons (ps_set (i := 3) sc_l_draw.nd rfl (Or.inl rfl) (pe_op op_mod (pe_callTy call_int1 (by rfl) T.z_int (by decide +kernel) (pa_cons (pe_ix ix_list (pv 0) pe_int (fun _ _ => rfl)) pa_nil)) (pv 1)))
      (pss_cons (ps_if (pt_cmpR op_gt (pe_ix ix_list (pv 0) pe_int (fun _ _ => rfl)) pe_int (nomark _)) (pss_cons (ps_asg (pe_op op_fdivW (pe_ix ix_list (pv 0) pe_int (fun _ _ => rfl)) (pv 1)) (pg_sub (pv 0) pe_int set_list))
      (pss_one (ps_ret (pv 3)))) pss_nil)
      (pss_cons (ps_set (i := 4) sc_l_draw.nd rfl (Or.inl rfl) (pe_op op_mod (pe_callTy call_int1 (by rfl) T.z_int (by decide +kernel) (pa_cons (pe_op op_add (pe_ix ix_list (pv 0) pe_int (fun _ _ => rfl)) (pe_op op_mul (pe_ix ix_list (pv 0) pe_int (fun _ _ => rfl)) pe_int)) pa_nil)) pe_int))
      (pss_cons (ps_set (i := 4) sc_l_draw.nd rfl (Or.inl rfl) (pe_op op_mod (pe_callTy call_int1 (by rfl) T.z_int (by decide +kernel) (pa_cons (pe_op op_add (pe_op op_add (pe_op op_pow (pv 4) pe_int) (pe_op op_mul (pe_ix ix_list (pv 0) pe_int (fun _ _ => rfl)) pe_int)) pe_int) pa_nil)) pe_int))
      (pss_one (ps_ret (pe_op op_mod (pe_op op_fdiv (pe_op op_mod (pe_callTy call_int1 (by rfl) T.z_int (by decide +kernel) (pa_cons (pe_op op_pow (pv 4) pe_int) pa_nil)) pe_int) pe_int) (pv 1))))))))))), ?_⟩
    refine ⟨_, rfl, g, _, _, _, rfl, rfl, SqL.of hg, rfl, _, _, rfl, rfl, _, rfl, g, _, _, _, rfl, rfl, hg, rfl, ?_⟩
    refine ⟨⟨fun σ' H' => Wd (∃ (i r s c : Int) (v : Option V), σ' = [some (.ref g), some (.int z), v, none, none] ∧ 0 ≤ i ∧ H' g = some (.lst [.ref l, .int i, .int r, .int s, .int c]) ∧ H' l = some (.lst (ns.map V.int)) ∧ Kp g H H'), ?_, ?_⟩⟩
    · walk_at "go"
      refine if_int (fun e0 => ?_) (fun e0 => ?_)
      · walk_at "go"
        refine if_dec (fun e1 => ?_) (fun e1 => ?_)
        · obtain ⟨n, hn⟩ := at_ints (ns := ns) hi (by simpa using e1)
          walk_at "go"
          exact ⟨i + 1, _, _, c + 1, _, rfl, by omega, upd_same, by walk_at "at", (((Kp.refl g H).up.up.up.up))⟩
        · exact ⟨i, r, sd, c + 1, none, rfl, hi, upd_same, by walk_at "at", (Kp.refl g H).up⟩
      · refine iteF ?_
        exact ⟨i, r, sd, c + 1, none, rfl, hi, upd_same, by walk_at "at", (Kp.refl g H).up⟩
    · rintro σ' H' ⟨i, r, s, c, v, rfl, hi, hg, hl, kp⟩
      walk_at "go"
      refine if_dec (fun e1 => ?_) (fun e1 => ?_)
      · walk_at "go"
        exact k _ _ (Int.emod_nonneg _ (by omega)) (Int.emod_lt_of_pos _ hz) ⟨i, _, s, c, ns, upd_same, by walk_at "at", hi⟩ kp.up
      · walk_at "go"
        exact k _ _ (Int.emod_nonneg _ (by omega)) (Int.emod_lt_of_pos _ hz) ⟨i, r, s, c, ns, hg, hl, hi⟩ kp
end

/-! ### calls in the body of a try: what they raise is wished for at the slots as they stand -/
section
open PySem.Spec PyProof.Rows
variable {X : Cx} {CX : CXT} {k : Nat} {f C : Addr} {fd : FuncData} {ps : List Str} {sp : Sp} {dvs : List V} {ds : List Value} {E : L2.St → XK} {x m : Str} {p pos apos : Pos} {e o : Expr} {es : List Expr} {ta : TE} {t : TA}
theorem run_mkS {pins : List (Addr × Obj)} {σ : L2.St} {H : Hp} {s : Shared} {Q : VK} {us : List Value} {vs : List V} (M : Mk X.K C f) (F : FnOk X.prog X.w X.K X.mg X.base CX k f fd ps sp)
    (hr : Room (k + 1) X.A) (hb : Binds X.K fd ps ds) (hd : Vals dvs ds) (hx : PassesAt CX X σ (E σ)) (I : Inv X pins σ H s) (r : Vals vs us)
    (h : ∀ x dx, H x = none → H dx = none → dx ≠ x → sp (.ref x :: (vs ++ dvs)) (upd (upd H dx (.own x)) x (.ins C dx [])) (fun v H2 => v = .non ∧ Q (.ref x) H2) (E σ)) :
    wpAny (model X.prog X.w) X.A (call (.ref C) us) (EP X pins σ Q) X.xe s := by
  have a1 := h (s.heap.objs.size + 1) s.heap.objs.size (I.hok.fresh (Nat.le_succ _)) (I.hok.fresh (Nat.le_refl _)) (Nat.ne_of_lt (Nat.lt_succ_self _))
  have J := Inv.made (C := C) I
  have a2 : Vals (V.ref (s.heap.objs.size + 1) :: (vs ++ dvs)) (Value.ref (s.heap.objs.size + 1) :: (us ++ ds)) := .cons rfl (r.append hd)
  have a3 : (Value.ref (s.heap.objs.size + 1) :: us ++ ds).length = ps.length := by
    have z := a2.length
    rw [F.len _ _ _ _ a1] at z
    exact z.symm
  refine wpAny_call (make_map (f := f) I.kIn M.makes M.init (beq_iff_eq.mp M.fn) (codeAny_mono (F.run _ X.stack _ _ ⟨Value.ref (s.heap.objs.size + 1) :: us, []⟩
    (Value.ref (s.heap.objs.size + 1) :: (us ++ ds)) _ _ (E σ) (hr.make C us []) (J.env0.make C us []) (hb _ (Value.ref (s.heap.objs.size + 1) :: us) J.kIn a3) a2 a1) fun r s' z => ?_))
  cases r with
  | error u => exact hx pins _ _ u s' J z
  | ok fl =>
    cases fl with
    | ret u =>
      obtain ⟨v, H', J3, rv, ev, q3⟩ := J.after z
      subst ev
      exact ⟨rv, V.ref (s.heap.objs.size + 1), H', J3, rfl, q3⟩
    | next => exact z.elim
    | brk => exact z.elim
    | cont => exact z.elim
def tMakeS (C : Addr) (sp : Sp) (dvs : List V) (E : L2.St → XK) (t : TA) : TE := fun σ H Q => t σ H fun vs H1 => ∀ x dx, H1 x = none → H1 dx = none → dx ≠ x →
  sp (.ref x :: (vs ++ dvs)) (upd (upd H1 dx (.own x)) x (.ins C dx [])) (fun v H2 => v = .non ∧ Q (.ref x) H2) (E σ)
theorem pe_makeS (M : Mk X.K C f) (F : FnOk X.prog X.w X.K X.mg X.base CX k f fd ps sp) (hr : Room (k + 1) X.A) (hg : Gl X x) (hm : X.mg x = some (.ref C)) (hb : Binds X.K fd ps ds) (hd : Vals dvs ds) (hx : ∀ σ, PassesAt CX X σ (E σ))
    (ha : PA X (e :: es) t) (hdb : (x == ("__debug__" : Str)) = false := by decide) (he : starEach (e :: es) X.env = (false, eval e X.env) :: starEach es X.env := by rfl)
    (hpl : (backTo pos (starEach es X.env)).any (·.1) = false := by rfl) : PE X (.Call (.Name x p) (e :: es) [] pos) (tMakeS C sp dvs E t) := ⟨fun pins s σ H Q I h =>
  wpAny_Call_Name_kw (ld_glob I hg hm (PySem.W.callWith_K (h₀ := X.base) I.ok.mod.kin M.kp (thn (ha.run pos pins s σ H _ I h) fun us s1 ⟨vs, H1, I1, r, q⟩ => ⟨I1.kIn, run_mkS M F hr hb hd (hx σ) I1 r q⟩) he hpl) hdb)⟩
def tMethS (C : Addr) (m : Str) (sp : Sp) (E : L2.St → XK) (ta : TE) (t : TA) : TE := fun σ H Q => ta σ H fun x H1 => ∃ a dx fs, x = .ref a ∧ H1 a = some (.ins C dx fs) ∧ fs.lookup m = none ∧
  t σ H1 fun vs H2 => sp (.ref a :: vs) H2 Q (E σ)
theorem pe_methA {pl : Sem Bool} (he : PE X o ta) (c : Cls X.K C) (hm : Meth X.K C m f) (F : FnOk X.prog X.w X.K X.mg X.base CX k f fd ps sp) (hr : Room k X.A) (hb : Binds X.K fd ps []) (hx : ∀ σ, PassesAt CX X σ (E σ)) (ha : PA X (e :: es) t)
    (hst : starEach (e :: es) X.env = (false, eval e X.env) :: starEach es X.env := by rfl) (hpl : (backTo pos (starEach es X.env)).any (·.1) = false := by rfl)
    (ht : eval (.Call (.Attribute o m apos) (e :: es) [] pos) X.env = (eval o X.env >>= fun ov => standAt apos.atName >>= fun _ => holding [ov] (getMethod ov m pl) >>= fun (f, first) =>
      callWith pos f first (backTo pos (starEach (e :: es) X.env)) (backToKw pos (keywordEach [] X.env))) := by rfl) :
    PE X (.Call (.Attribute o m apos) (e :: es) [] pos) (tMethS C m sp E ta t) := by
  refine ⟨fun pins s σ H Q I h => ?_⟩
  refine PySem.W.methodCall_KW (pl := pl) (thn (he.run pins s σ H _ I h) fun u s1 ⟨x, H1, I1, rx, a, dx, fs, ex, ea, l, q⟩ => ?_) ht
  cases ex
  obtain rfl : u = Value.ref a := rx
  exact getmeth_ok I1 ea c hm l (PySem.W.callWith_K (first := [.ref a]) (h₀ := X.base) I.ok.mod.kin hm.kp (thn (ha.run pos pins s1 σ H1 _ I1 q) fun us s2 ⟨vs, H2, I2, r, q2⟩ =>
    ⟨I2.kIn, run_fnS (E := E) (us := .ref a :: us) (vs := .ref a :: vs) F hr hb (hx σ) I2 (.cons rfl r) q2⟩) hst hpl)

def oe0 : Obj := { cls := .none, data := .fields #[] }
variable {n : Str} {c : Value} {i : Nat} {body suite : List Stmt} {b0 : Stmt} {np pos' : Pos} {Wout : WX}
  {tb : WX → List (Addr × Obj) → (Value → Shared → Prop) → TS} {ts : Addr → Obj → Value → Option Addr → List (Addr × Obj) → TS}
/-- try: .. except x as n: .., the readings of the body and of the suite free of what they can't hang on (both shown by rfl) -/
theorem ps_tryV (hs : X.stack = X.env :: X.outer) (hf : X.env.frame = some X.env.locals) (hN : X.N.Nodup) (hi : X.N[i]? = some n) (hln : X.env.kindOf n = some .local) (hc : Names X x c) (tk : Takes X Wout)
    (hb : ∀ (W : WX) (pn : List (Addr × Obj)) (xe : Value → Shared → Prop), Takes (X.tr pn xe) W → PassesOwn (model X.prog X.w) X.A X.env xe → PSs (X.tr pn xe) body (tb W pn xe))
    (hsu : ∀ (a : Addr) (oe : Obj) (cls : Value) (d : Option Addr) (pn : List (Addr × Obj)), Zc cls d oe → (∃ vs, oe.data = .fields vs) → PSs (X.suite a ((a, oe) :: pn)) (b0 :: suite) (ts a oe cls d pn))
    (e1 : ∀ W pn xe, tb W pn xe = tb W [] (fun _ _ => False)) (e2 : ∀ a oe cls d pn, ts a oe cls d pn = ts a oe0 cls d []) :
    PS X (.Try body [.ExceptHandler (some (.Name x np)) (some n) (b0 :: suite) pos'] [] [] pos) (fun D σ H => tb (wAs X.K c i (fun a cls d => ts a oe0 cls d []) Wout D) [] (fun _ _ => False) D σ H) :=
  ps_try_as (tb := fun W => tb W [] (fun _ _ => False)) (ts := fun a cls d => ts a oe0 cls d []) hs hf hN hi hln hc tk (fun W pn xe k po => by rw [← e1 W pn xe]; exact hb W pn xe k po)
    (fun a oe cls d pn z f => by rw [← e2 a oe cls d pn]; exact hsu a oe cls d pn z f)
/-- isinstance(e, C) of the error that the suite holds, one without a dict of its own -/
def rIsEV (K : PySem.W.Frag) (cls : Value) (d : Option Addr) (a : Addr) : List V → Hp → VK → Prop := fun xs H Q => ∃ (D : Addr) (c : V) (cv : Value) (b : Bool), cls = .ref D ∧ d = none ∧ ExcC K D ∧ xs = [.ref a, c] ∧ (∀ u, RelV c u → u = cv) ∧ PySem.W.kitOne K (.ref D) cv = some b ∧ Q (.bl b) H
theorem call_isEV {a : Addr} {oe : Obj} {cls : Value} {d : Option Addr} {pn : List (Addr × Obj)} (hz : Zc cls d oe) (hf : ∃ vs, oe.data = .fields vs) : CallR (X.suite a ((a, oe) :: pn)) (.builtin "isinstance") (rIsEV X.K cls d a) := by
  intro pins s σ H xs us Q I r h
  obtain ⟨D, c, cv, b, rfl, rfl, C, h⟩ := h
  exact call_isE C hz hf pins s σ H xs us Q I r ⟨c, cv, b, h⟩
end
/-! ### list comprehensions: the readings of their parts free of what they can't hang on -/
section
open PySem.Spec PyProof.Rows
variable {X : Cx} {elt tg iter : Expr} {ifs : List Expr} {scope : Scope} {own : List (Str × Nat)} {pos spos py : Pos} {wi : TI} {i : Nat} {y : Str}
abbrev Bk (α : Type) := Shared → Hp → Addr → List (Str × Addr) → List Addr → α
abbrev Bk.at0 {α : Type} (f : Bk α) (X : Cx) : α := f X.s_0 X.H_0 0 [] []
variable {g : Bk TG} {tt : Bk TT} {te : Bk TE}
theorem pe_lcV (hc : X.calm = true) (hN : X.N.Nodup) (hi : PI X tg iter wi) (ok : BlkOk X.N X.env.scope scope own)
    (hg : ∀ s H C cl fp, PG (X.blk s H scope (compEnvC scope cl C X.env) fp) tg (g s H C cl fp)) (ht : ∀ s H C cl fp, PTs (X.blk s H scope (compEnvC scope cl C X.env) fp) ifs (tt s H C cl fp))
    (he : ∀ s H C cl fp, PE (X.blk s H scope (compEnvC scope cl C X.env) fp) elt (te s H C cl fp)) (e1 : ∀ s H C cl fp, g s H C cl fp = g.at0 X) (e2 : ∀ s H C cl fp, tt s H C cl fp = tt.at0 X)
    (e3 : ∀ s H C cl fp, te s H C cl fp = te.at0 X) (hs : ∀ x, foldedSetIterable iter X.env x = pure x := by intro _; rfl) :
    PE X (.ListComp elt [⟨tg, iter, ifs, 0⟩] scope pos) (tLc wi (g.at0 X) (tt.at0 X) (te.at0 X) (own.map (·.2))) :=
  pe_lc hc hN hi ok (fun s H C cl fp => by rw [← e1 s H C cl fp]; exact hg s H C cl fp) (fun s H C cl fp => by rw [← e2 s H C cl fp]; exact ht s H C cl fp) (fun s H C cl fp => by rw [← e3 s H C cl fp]; exact he s H C cl fp) hs
theorem ps_setLcV (hc : X.calm = true) (hN : X.N.Nodup) (hy : X.N[i]? = some y) (hyl : X.env.scope.names.lookup y = some .local)
    (hsw : swapsWith (.ListComp elt [⟨tg, iter, ifs, 0⟩] scope pos) (some (.Name y py)) spos.line X.env = pure true) (hi : PI X tg iter wi) (ok : BlkOk X.N X.env.scope scope own)
    (hg : ∀ s H C cl fp, PG (X.blk s H scope (compEnvC scope cl C X.env) fp) tg (g s H C cl fp)) (ht : ∀ s H C cl fp, PTs (X.blk s H scope (compEnvC scope cl C X.env) fp) ifs (tt s H C cl fp))
    (he : ∀ s H C cl fp, PE (X.blk s H scope (compEnvC scope cl C X.env) fp) elt (te s H C cl fp)) (e1 : ∀ s H C cl fp, g s H C cl fp = g.at0 X) (e2 : ∀ s H C cl fp, tt s H C cl fp = tt.at0 X)
    (e3 : ∀ s H C cl fp, te s H C cl fp = te.at0 X) (hs : ∀ x, foldedSetIterable iter X.env x = pure x := by intro _; rfl) :
    PS X (.Assign [.Name y py] (.ListComp elt [⟨tg, iter, ifs, 0⟩] scope pos) spos) (tAsg (tLc wi (g.at0 X) (tt.at0 X) (te.at0 X) (own.map (·.2))) (gName i)) :=
  ps_setLc hc hN hy hyl hsw hi ok (fun s H C cl fp => by rw [← e1 s H C cl fp]; exact hg s H C cl fp) (fun s H C cl fp => by rw [← e2 s H C cl fp]; exact ht s H C cl fp) (fun s H C cl fp => by rw [← e3 s H C cl fp]; exact he s H C cl fp) hs
end

/-! ### errors of own classes with fields -/
section
open PySem.Spec PyProof.Rows
variable {X : Cx} {CX : CXT} {k n : Nat} {f C CE : Addr} {fd : FuncData} {ps ks : List Str} {sp : Sp} {ds : List Value} {dvs : List V} {x : Str} {p p1 p2 pos : Pos} {e : Expr} {es : List Expr} {kws : List Keyword} {ta t tk : TA} {te : TE}
/-- B.__init__(self, ..), B an own class that has it from ValueError -/
theorem pe_ceinit {pl : Sem Bool} (hg : Gl X x) (hm : X.mg x = some (.ref CE)) (rd : PySem.W.readsIn X.K CE (.type "type") = true) (ga : PySem.W.specialIn X.K (.ref CE) "__getattribute__" = some (some (.builtin "type.__getattribute__")))
    (vV : PySem.W.findCls X.K (.ref CE) (.type "type") "__init__" = some (.val (.builtin "ValueError.__init__"))) (ha : PA X (e :: es) ta) (hdb : (x == ("__debug__" : Str)) = false := by decide)
    (hc : eval (.Call (.Attribute (.Name x p1) "__init__" p2) (e :: es) [] pos) X.env = (eval (.Name x p1) X.env >>= fun ov => standAt p2.atName >>= fun _ => holding [ov] (getMethod ov "__init__" pl) >>= fun (f, first) =>
      callWith pos f first (backTo pos (starEach (e :: es) X.env)) (backToKw pos (keywordEach [] X.env))) := by rfl)
    (he : starEach (e :: es) X.env = (false, eval e X.env) :: starEach es X.env := by rfl) (hpl : (backTo pos (starEach es X.env)).any (·.1) = false := by rfl) :
    PE X (.Call (.Attribute (.Name x p1) "__init__" p2) (e :: es) [] pos) (tVeI X.K ta) := by
  refine ⟨fun pins s σ H Q I h => ?_⟩
  refine PySem.W.methodCall_KW (ld_glob I hg hm ?_ hdb) hc
  refine PySem.W.method_cls I.kIn ga (PySem.W.cls_value I.kIn rd vV (by decide +kernel) ?_)
  refine callWith_method1 (first := []) (id := "ValueError.__init__") (thn (ha.run pos pins _ σ H _ (I.tok _) h) fun us s1 z => ?_) he hpl
  obtain ⟨vs, H1, J, r1, a, C, ws, rfl, hl, T, ea, q⟩ := z
  obtain ⟨u0, ur, rfl, ra, rr⟩ : ∃ u0 ur, us = u0 :: ur ∧ RelV (.ref a) u0 ∧ Vals ws ur := by
    cases r1 with
    | cons a1 b1 => exact ⟨_, _, rfl, a1, b1⟩
  obtain rfl : u0 = Value.ref a := ra
  exact oinit_ok T J ea (by rw [← rr.length, sizeLine_eq]; omega) fun s' J' => ⟨.non, H1, J', rfl, q⟩
/-- isinstance(e, C) of the error that the suite holds, one with a dict of its own -/
def rIsEW (K : PySem.W.Frag) (cls : Value) (d : Option Addr) (a : Addr) : List V → Hp → VK → Prop := fun xs H Q => ∃ (D dd : Addr) (fs : List (Str × V)) (c : V) (cv : Value) (b : Bool), cls = .ref D ∧ d = some dd ∧ H dd = some (.xd fs) ∧ ExcC K D ∧ xs = [.ref a, c] ∧
  (∀ u, RelV c u → u = cv) ∧ PySem.W.kitOne K (.ref D) cv = some b ∧ Q (.bl b) H
theorem call_isEW {a : Addr} {oe : Obj} {cls : Value} {d : Option Addr} {pn : List (Addr × Obj)} (hz : Zc cls d oe) (hf : ∃ vs, oe.data = .fields vs) : CallR (X.suite a ((a, oe) :: pn)) (.builtin "isinstance") (rIsEW X.K cls d a) := by
  intro pins s σ H xs us Q I r h
  obtain ⟨D, dd, fs, c, cv, b, rfl, rfl, hd, Z, rfl, hcv, hk, q⟩ := h
  obtain ⟨u1, u2, rfl, r1, r2⟩ : ∃ u1 u2, us = [u1, u2] ∧ RelV (.ref a) u1 ∧ RelV c u2 := by
    cases r with
    | cons a1 b1 =>
      cases b1 with
      | cons a2 b2 =>
        cases b2
        exact ⟨_, _, rfl, a1, a2⟩
  obtain rfl : u1 = Value.ref a := r1
  obtain rfl := hcv _ r2
  obtain ⟨hget, _⟩ := I.pin (a, oe) (List.mem_append_left _ List.mem_cons_self)
  obtain ⟨vs, hv⟩ := hf
  obtain ⟨mA, hns, _⟩ := (show ObjOk X.prog X.w H s.heap dd (.xd fs) from I.hok dd _ hd)
  obtain ⟨od, ho, _⟩ := lookIn_ns hns
  have J : PySem.W.InstAt s.heap a oe D (some od) := ⟨hget, hz.1, by unfold PySem.W.notCls; rw [hv] <;> rfl, by rw [hz.2]; exact ho⟩
  obtain ⟨cd, hcd, _⟩ := PySem.W.any_some Z.hd
  exact PySem.W.kia_one (PySem.W.kitx_exc (by rw [hcd]; rfl) Z.hg Z.hk Z.hs Z.ha Z.hn Z.ht Z.hm) I.kIn J hk (fun z => nomatch z) fun tk => ⟨.bl b, H, I.kept (t' := tk) fun _ _ z => z, rfl, q⟩
/-- C(.., k = v, ..) in the body of a try -/
def tMakeKS (C : Addr) (n m : Nat) (sp : Sp) (gV : List V → List V → List V) (E : L2.St → XK) (t tk : TA) : TE := fun σ H Q => t σ H fun vs H1 => tk σ H1 fun zs H2 => vs.length = n ∧ zs.length = m ∧ ∀ x dx, H2 x = none → H2 dx = none → dx ≠ x →
  sp (gV (.ref x :: vs) zs) (upd (upd H2 dx (.own x)) x (.ins C dx [])) (fun v H3 => v = .non ∧ Q (.ref x) H3) (E σ)
theorem pe_makeKS {g : List Value → List Value → List Value} {gV : List V → List V → List V} {E : L2.St → XK} (M : Mk X.K C f) (F : FnOk X.prog X.w X.K X.mg X.base CX k f fd ps sp) (hr : Room (k + 1) X.A) (hg : Gl X x) (hm : X.mg x = some (.ref C)) (hb : KBn X.K fd ps (n + 1) ks g gV)
    (hx : ∀ σ, PassesAt CX X σ (E σ)) (ha : PA X (e :: es) t) (hkw : PK X kws tk)
    (hall : (backToKw pos (keywordEach kws X.env)).all (·.1.isSome) = true := by rfl) (hks : (backToKw pos (keywordEach kws X.env)).filterMap (·.1) = ks := by rfl) (hdb : (x == ("__debug__" : Str)) = false := by decide)
    (he : starEach (e :: es) X.env = (false, eval e X.env) :: starEach es X.env := by rfl) (hpl : ((backTo pos (starEach (e :: es) X.env)).any (·.1) || (backToKw pos (keywordEach kws X.env)).any (·.1.isNone)) = false := by rfl) :
    PE X (.Call (.Name x p) (e :: es) kws pos) (tMakeKS C n ks.length sp gV E t tk) := by
  refine ⟨fun pins s σ H Q I h => wpAny_Call_Name_kw (ld_glob I hg hm (PySem.W.callWith_KW (h₀ := X.base) I.ok.mod.kin M.kp hall (thn (ha.run pos pins s σ H _ I h) fun us s1 z => ?_) hpl he) hdb)⟩
  obtain ⟨vs, H1, I1, r, q⟩ := z
  refine thn (hkw.run pos pins s1 σ H1 _ I1 q) fun ws s2 z => ?_
  obtain ⟨zs, H2, I2, rz, l1, l2, q2⟩ := z
  refine ⟨I2.kIn, ?_⟩
  rw [hks]
  have a1 := q2 (s2.heap.objs.size + 1) s2.heap.objs.size (I2.hok.fresh (Nat.le_succ _)) (I2.hok.fresh (Nat.le_refl _)) (Nat.ne_of_lt (Nat.lt_succ_self _))
  have J := Inv.made (C := C) I2
  have r1 : Vals (V.ref (s2.heap.objs.size + 1) :: vs) (Value.ref (s2.heap.objs.size + 1) :: us) := .cons rfl r
  refine wpAny_call (make_map (f := f) I2.kIn M.makes M.init (beq_iff_eq.mp M.fn) (codeAny_mono (F.run _ X.stack _ _ ⟨Value.ref (s2.heap.objs.size + 1) :: us, ks.zip ws⟩ (g (Value.ref (s2.heap.objs.size + 1) :: us) ws) _ _ (E σ) (hr.make C us (ks.zip ws))
    (J.env0.make C us (ks.zip ws)) (hb.to _ (Value.ref (s2.heap.objs.size + 1) :: us) ws J.kIn (by rw [List.length_cons, ← r.length, l1]) (rz.length.symm.trans l2)) (hb.rel r1 rz) a1) fun o s' z => ?_))
  cases o with
  | error u => exact hx σ pins _ _ u s' J z
  | ok fl =>
    cases fl with
    | ret u =>
      obtain ⟨v, H', J3, rv, ev, q3⟩ := J.after z
      subst ev
      exact ⟨rv, V.ref (s2.heap.objs.size + 1), H', J3, rfl, q3⟩
    | next => exact z.elim
    | brk => exact z.elim
    | cont => exact z.elim
end
/-- C.__init__(self, v): the error gets its dict with one field -/
def spExc1 (C : Addr) (f : Str) : Sp := fun vs H Q _ => ∃ (a : Addr) (v : V), vs = [.ref a, v] ∧ H a = some (exo a C none) ∧ ∀ d, H d = none → d ≠ a → Q .non (upd (upd H d (exd d [(f, v)])) a (exo a C (some d)))

/-! ### lists side by side -/
section
variable {α β : Type} {R S : α → β → Prop} {xs us : List α} {ys vs : List β} {x : α} {y : β} {i : Nat}
def All2 (R : α → β → Prop) (xs : List α) (ys : List β) : Prop := xs.length = ys.length ∧ ∀ (i : Nat) x y, xs[i]? = some x → ys[i]? = some y → R x y
theorem All2.nil : All2 R [] [] := ⟨rfl, fun i x y h => by simp at h⟩
theorem All2.mono (h : All2 R xs ys) (k : ∀ x y, R x y → S x y) : All2 S xs ys := ⟨h.1, fun i x y a b => k _ _ (h.2 i x y a b)⟩
theorem All2.cons (h : R x y) (k : All2 R xs ys) : All2 R (x :: xs) (y :: ys) := ⟨by rw [List.length_cons, List.length_cons, k.1], fun i a b ha hb => by
  cases i with
  | zero => simp at ha hb; subst ha; subst hb; exact h
  | succ i => simp at ha hb; exact k.2 i a b ha hb⟩
theorem All2.one (h : R x y) : All2 R [x] [y] := .cons h .nil
theorem All2.app (h : All2 R xs ys) (k : All2 R us vs) : All2 R (xs ++ us) (ys ++ vs) := ⟨by rw [List.length_append, List.length_append, h.1, k.1], fun i a b ha hb => by
  by_cases hi : i < xs.length
  · rw [List.getElem?_append_left hi] at ha
    rw [List.getElem?_append_left (by rw [← h.1]; exact hi)] at hb
    exact h.2 i a b ha hb
  · rw [List.getElem?_append_right (by omega)] at ha
    rw [List.getElem?_append_right (by rw [← h.1]; omega), ← h.1] at hb
    exact k.2 _ a b ha hb⟩
theorem All2.take (h : All2 R xs ys) (n : Nat) : All2 R (xs.take n) (ys.take n) := ⟨by rw [List.length_take, List.length_take, h.1], fun i a b ha hb => by
  rw [List.getElem?_take] at ha hb
  by_cases hi : i < n
  · rw [if_pos hi] at ha hb
    exact h.2 i a b ha hb
  · rw [if_neg hi] at ha
    cases ha⟩
theorem All2.drop (h : All2 R xs ys) (n : Nat) : All2 R (xs.drop n) (ys.drop n) := ⟨by rw [List.length_drop, List.length_drop, h.1], fun i a b ha hb => by
  rw [List.getElem?_drop] at ha hb
  exact h.2 _ a b ha hb⟩
theorem All2.get (h : All2 R xs ys) (hi : xs[i]? = some x) : ∃ y, ys[i]? = some y ∧ R x y := by
  have hl : i < ys.length := by
    rw [← h.1]
    exact (List.getElem?_eq_some_iff.mp hi).1
  have e : ys[i]? = some ys[i] := List.getElem?_eq_getElem hl
  exact ⟨_, e, h.2 i _ _ hi e⟩
theorem take_more {α : Type} {ys : List α} {y : α} {i : Nat} (h : ys[i]? = some y) : ys.take (i + 1) = ys.take i ++ [y] := by
  rw [List.take_add_one, h]
  rfl
end
section
open PySem.Spec PyProof.Rows
variable {X : Cx}
/-- one operator, two ways to read it -/
theorem op_mix {f : Value → Value → Sem Value} {r1 r2 : R2} (h1 : OpR X f r1) (h2 : OpR X f r2) : OpR X f (fun x y H Q => Wd (r1 x y H Q ∨ r2 x y H Q)) := by
  intro pins s σ H x y v u Q I rx ry h
  rcases h.ok with h | h
  · exact h1 pins s σ H x y v u Q I rx ry h
  · exact h2 pins s σ H x y v u Q I rx ry h
theorem vals_same {A : Around} {s : Shared} {xs : List V} (hx : ∀ x ∈ xs, flatB x = true ∨ ∃ a, x = .ref a) : ∀ {us ws : List Value}, Vals xs us → Vals xs ws → ∀ j (h1 : j < us.length) (h2 : j < ws.length), SeqAt.EqAt A s us[j] ws[j] true := by
  induction xs with
  | nil =>
    intro us ws r1 r2 j h1 h2
    cases r1
    exact absurd h1 (Nat.not_lt_zero j)
  | cons x xs ih =>
    intro us ws r1 r2 j h1 h2
    cases r1 with
    | cons a1 b1 =>
      cases r2 with
      | cons a2 b2 =>
        cases j with
        | zero =>
          rcases hx x List.mem_cons_self with f | ⟨a, rfl⟩
          · exact eqAt_same a1 a2 f
          · cases a1
            cases a2
            exact SeqAt.EqAt.same _
        | succ j => exact ih (fun y hy => hx y (List.mem_cons_of_mem _ hy)) b1 b2 j (Nat.lt_of_succ_lt_succ h1) (Nat.lt_of_succ_lt_succ h2)
/-- a != b, two lists of the same items -/
theorem op_neL (hu : X.A.units + 64 < cLine) : OpR X (compareOp .NotEq) (fun x y H Q => Wd (∃ (a b : Addr) (xs : List V), x = .ref a ∧ y = .ref b ∧ SqL X.K H a xs ∧ SqL X.K H b xs ∧ (∀ x ∈ xs, flatB x = true ∨ ∃ a, x = .ref a) ∧ Q (.bl false) H)) := by
  intro pins s σ H x y v u Q I rx ry h
  obtain ⟨a, b, xs, rfl, rfl, ha, hb, hx, q⟩ := h.ok
  cases rx
  cases ry
  obtain ⟨us, r1, p1, _⟩ := I.list ha
  obtain ⟨ws, r2, p2, _⟩ := I.list hb
  have hsz : us.toArray.size = ws.toArray.size := by
    rw [List.size_toArray, List.size_toArray, ← r1.length, ← r2.length]
  have k := SeqAt.RcNeAt.lists (A := X.A) (e := fun _ => true) p1.isList p2.isList hsz (by omega) (fun j h1 h2 => by
    have k := vals_same (A := X.A.in1) (s := s) hx r1 r2 j (by simpa using h1) (by simpa using h2)
    simpa using k)
  refine k X.prog X.w _ _ ?_
  rw [show ((List.range us.toArray.size).all fun _ => true) = true from List.all_eq_true.mpr fun _ _ => rfl]
  exact ⟨.bl false, H, I, rfl, q⟩
/-- a != b, two tuples of the same items -/
theorem op_neT (hu : X.A.units + 64 < cLine) : OpR X (compareOp .NotEq) (fun x y H Q => Wd (∃ (a b : Addr) (xs : List V), x = .ref a ∧ y = .ref b ∧ SqT X.K H a xs ∧ SqT X.K H b xs ∧ (∀ x ∈ xs, flatB x = true ∨ ∃ a, x = .ref a) ∧ Q (.bl false) H)) := by
  intro pins s σ H x y v u Q I rx ry h
  obtain ⟨a, b, xs, rfl, rfl, ha, hb, hx, q⟩ := h.ok
  cases rx
  cases ry
  obtain ⟨us, r1, p1, _⟩ := I.tuple ha
  obtain ⟨ws, r2, p2, _⟩ := I.tuple hb
  have hsz : us.toArray.size = ws.toArray.size := by
    rw [List.size_toArray, List.size_toArray, ← r1.length, ← r2.length]
  have k := SeqAt.RcNeAt.tuples (A := X.A) (e := fun _ => true) p1 p2 (by omega) (fun j h1 h2 => by
    have k := vals_same (A := X.A.in1) (s := s) hx r1 r2 j (by simpa using h1) (by simpa using h2)
    simpa using k)
  refine k X.prog X.w _ _ ?_
  refine ⟨.bl false, H, I, ?_, q⟩
  show Value.bool _ = Value.bool false
  simp [hsz]
end

/-! ### == and != of data of any depth, texts of any signs -/
section
open PySem.Spec PyProof.Rows
variable {X : Cx}
def rEqP (K : PySem.W.Frag) : R2 := fun x y H Q => Wd (∃ d e, Dp K H x d ∧ Dp K H y e ∧ d.plain = true ∧ e.plain = true ∧ d.depth ≤ 64 ∧ Q (.bl (PyData.eqv d e)) H)
def rNeP (K : PySem.W.Frag) : R2 := fun x y H Q => Wd (∃ d e, Dp K H x d ∧ Dp K H y e ∧ d.plain = true ∧ e.plain = true ∧ d.depth ≤ 64 ∧ Q (.bl (!PyData.eqv d e)) H)
theorem op_eqP (hu : X.A.units + 64 < cLine) : OpR X (compareOp .Eq) (rEqP X.K) := by
  intro pins s σ H x y v u Q I rx ry h
  obtain ⟨d, e, hd, he, sd, se, dp, q⟩ := h.ok
  obtain ⟨as, r1⟩ := Dp.reads I d x v hd rx
  obtain ⟨bs, r2⟩ := Dp.reads I e y u he ry
  have := Nat.min_le_left d.depth e.depth
  exact SeqAt.eq_plain r1 r2 sd se (by omega) ⟨.bl _, H, I, rfl, q⟩
theorem op_neP (hu : X.A.units + 64 < cLine) : OpR X (compareOp .NotEq) (rNeP X.K) := by
  intro pins s σ H x y v u Q I rx ry h
  obtain ⟨d, e, hd, he, sd, se, dp, q⟩ := h.ok
  obtain ⟨as, r1⟩ := Dp.reads I d x v hd rx
  obtain ⟨bs, r2⟩ := Dp.reads I e y u he ry
  have := Nat.min_le_left d.depth e.depth
  exact SeqAt.ne_plain r1 r2 sd se (by omega) ⟨.bl _, H, I, rfl, q⟩
theorem eqP_same {K : PySem.W.Frag} {x y : V} {H : Hp} {Q : VK} {d : PyData} (hx : Dp K H x d) (hy : Dp K H y d) (hp : d.plain = true) (hd : d.depth ≤ 64) (h : Q (.bl true) H) : rEqP K x y H Q :=
  ⟨d, d, hx, hy, hp, hp, hd, by rw [SeqAt.eqv_refl_plain d hp]; exact h⟩
theorem neP_same {K : PySem.W.Frag} {x y : V} {H : Hp} {Q : VK} {d : PyData} (hx : Dp K H x d) (hy : Dp K H y d) (hp : d.plain = true) (hd : d.depth ≤ 64) (h : Q (.bl false) H) : rNeP K x y H Q :=
  ⟨d, d, hx, hy, hp, hp, hd, by rw [SeqAt.eqv_refl_plain d hp]; exact h⟩
end

/-! ### operators that an own class defines -/
section
open PySem.W PySem.Calls PyProof.Rows
variable {prog : Program} {w : World} {A : Around} {E : Value → Shared → Prop} {s : Shared} {K : PySem.W.Frag} {x y C f r : Addr} {ox oy : Obj} {od : Option Obj} {nm : String}
/-- a op b, two instances of one class -/
theorem b1_same {b : Value} {Q : Value → Shared → Prop} (X : K.In s.heap) (I : InstAt s.heap x ox C od) (hb : Looks (model prog w) s.heap (typeOf b) (.ref C)) (hc : selfFirst K C = true)
    (hs : findIn K (.ref C) (PySem.dunder nm) = some (some (.ref f))) (hf : isFn K (.ref f) = true) (h : wpAny (model prog w) A (call (.ref f) [.ref x, b]) (PySem.W.CmpBack Q) E s) :
    wpAny (model prog w) A (binaryOp1 nm (.ref x) b) (fun o s' => ∃ v, o = some v ∧ Q v s') E s := by
  obtain ⟨cd, rest, hcd, hm⟩ := ksp_first hc
  have one := ksp_try X I hs hf h
  unfold binaryOp1
  refine wpAny_bind (I.type.here (wpAny_bind (hb.here (wpAny_bind ((fills_K X hcd hm hs).here ?_)))))
  simp only [beq_self_eq_true, if_true]
  refine wpAny_bind (wpAny_pure ?_)
  simp only [Bool.and_false, Bool.false_eq_true, if_false, Bool.false_and]
  refine wpAny_bind (wpAny_pure ?_)
  simp only [Bool.false_eq_true, if_false]
  refine wpAny_bind (wpAny_mono one (fun o s' ho => ?_) fun _ _ e => e)
  obtain ⟨v, rfl, hq⟩ := ho
  exact wpAny_pure ⟨v, rfl, hq⟩
/-- a op n, n an int -/
theorem b1_int {i : Int} {t : Tok} {fo ro rc : Option Value} {Q : Value → Shared → Prop} (X : K.In s.heap) (I : InstAt s.heap x ox C od) (hc : selfFirst K C = true)
    (hs : findIn K (.ref C) (PySem.dunder nm) = some (some (.ref f))) (hf : isFn K (.ref f) = true) (hr : findIn K (.ref C) (dunderR nm) = some rc) (hp : rc = none ∨ ∃ g : Addr, rc = some (.ref g))
    (h1 : findIn K (.type "int") (PySem.dunder nm) = some fo) (h2 : findIn K (.type "int") (dunderR nm) = some ro) (hsub : subIn K (.type "int") (.ref C) = some false)
    (h : wpAny (model prog w) A (call (.ref f) [.ref x, .int i t]) (PySem.W.CmpBack Q) E s) : wpAny (model prog w) A (binaryOp1 nm (.ref x) (.int i t)) (fun o s' => ∃ v, o = some v ∧ Q v s') E s := by
  obtain ⟨cd, rest, hcd, hm⟩ := ksp_first hc
  have one := ksp_try X I hs hf h
  obtain ⟨hh, g, d, tt, os⟩ := s
  have L1 : Looks (model prog w) hh (typeOf (.ref x)) (.ref C) := I.type
  have L2 : Looks (model prog w) hh (typeOf (.int i t)) (.type "int") := Looks.of_pure rfl
  have L3 : Looks (model prog w) hh (fillsNumberSlot (.ref C) nm) true := fills_K X hcd hm hs
  have L4 : Looks (model prog w) hh (fillsNumberSlot (.type "int") nm) ((fo.isSome && !isSeqSlot fo) || (ro.isSome && !isSeqSlot ro)) := ksp_fillsT X h1 h2
  have L5 : Looks (model prog w) hh (isSubtype (.type "int") (.ref C)) false := looks_subIn X hsub
  have L6 : Looks (model prog w) hh (numberSlotInPython (.ref C) nm) true := ksp_inPy X hs hr hp
  have L7 : Looks (model prog w) hh (numberSlotInPython (.type "int") nm) false := Looks.of_pure rfl
  have L8 : Looks (model prog w) hh (typeLookup (.type "int") (dunderR nm)) ro := looks_findIn X h2
  generalize ((fo.isSome && !isSeqSlot fo) || (ro.isSome && !isSeqSlot ro)) = right at L4
  have hne : (Value.ref C == Value.type "int") = false := Bool.eq_false_iff.mpr fun q => by cases beq_iff_eq.mp q
  unfold binaryOp1
  refine wpAny_bind (L1.at (wpAny_bind (L2.at (wpAny_bind (L3.at ?_)))))
  simp only [hne, Bool.false_eq_true, if_false]
  cases right with
  | false =>
    ksp_lk
    refine wpAny_mono one (fun o s' ho => ?_) fun _ _ e => e
    obtain ⟨v, rfl, hq⟩ := ho
    ksp_lk
    exact ⟨v, rfl, hq⟩
  | true =>
    ksp_lk
    refine wpAny_mono one (fun o s' ho => ?_) fun _ _ e => e
    obtain ⟨v, rfl, hq⟩ := ho
    ksp_lk
    exact ⟨v, rfl, hq⟩
/-- n op a, n an int: int's own way declines, the reflected one serves -/
theorem b1_rint {i : Int} {t : Tok} {id : String} {bi : Builtin} {Q : Value → Shared → Prop} (X : K.In s.heap) (I : InstAt s.heap y oy C od) (hc : selfFirst K C = true)
    (hs : findIn K (.ref C) (PySem.dunder nm) = some (some (.ref f))) (hr : findIn K (.ref C) (dunderR nm) = some (some (.ref r))) (hf : isFn K (.ref r) = true)
    (hfi : fillsNumberSlot (.type "int") nm = pure true) (hsub : subIn K (.ref C) (.type "int") = some false) (slot : Slot "int" (PySem.dunder nm) id) (entry : entryFor table id = some bi)
    (args : argsOk id ⟨[.int i t, .ref y], []⟩) (dec : wpAny (model prog w) A.in1 (bi ⟨[.int i t, .ref y], []⟩) (fun fin s' => fin = .done (.ret .notImplemented) ∧ s' = s) E s)
    (h : wpAny (model prog w) A (call (.ref r) [.ref y, .int i t]) (PySem.W.CmpBack Q) E s) : wpAny (model prog w) A (binaryOp1 nm (.int i t) (.ref y)) (fun o s' => ∃ v, o = some v ∧ Q v s') E s := by
  obtain ⟨cd, rest, hcd, hm⟩ := ksp_first hc
  have one := ksp_try X I hr hf h
  have two : wpAny (model prog w) A (call (.builtin id) [.int i t, .ref y]) (fun v s' => v = .notImplemented ∧ s' = s) E s :=
    wpAny_call_entry slot rfl entry (wpAny_mono dec (fun fin s' z => ⟨_, z.1, rfl, z.2⟩) fun _ _ e => e) args
  obtain ⟨hh, g, d, tt, os⟩ := s
  have L1 : Looks (model prog w) hh (typeOf (.ref y)) (.ref C) := I.type
  have L2 : Looks (model prog w) hh (typeOf (.int i t)) (.type "int") := Looks.of_pure rfl
  have L3 : Looks (model prog w) hh (fillsNumberSlot (.ref C) nm) true := fills_K X hcd hm hs
  have L4 : Looks (model prog w) hh (fillsNumberSlot (.type "int") nm) true := Looks.of_pure hfi
  have L5 : Looks (model prog w) hh (isSubtype (.ref C) (.type "int")) false := looks_subIn X hsub
  have L7 : Looks (model prog w) hh (numberSlotInPython (.type "int") nm) false := Looks.of_pure rfl
  have hne : (Value.type "int" == Value.ref C) = false := Bool.eq_false_iff.mpr fun q => by cases beq_iff_eq.mp q
  unfold binaryOp1
  refine wpAny_bind (L2.at (wpAny_bind (L1.at (wpAny_bind (L4.at ?_)))))
  simp only [hne, Bool.false_eq_true, if_false]
  ksp_lk
  refine wpAny_tryMethod_declines (s := ⟨hh, g, d, tt, os⟩) (T := "int") rfl slot (wpAny_mono two (fun v s' z => ⟨z.1, ?_⟩) fun _ _ e => e)
  obtain ⟨_, rfl⟩ := z
  ksp_lk
  refine wpAny_mono one (fun o s' ho => ?_) fun _ _ e => e
  obtain ⟨v, rfl, hq⟩ := ho
  ksp_lk
  exact ⟨v, rfl, hq⟩
/-- int's own way with an instance declines -/
theorem int_declines {i : Int} {t : Tok} {dx : Addr} {name : String} {g : Int → Int → Sem Fin} (hy : s.heap.get? y = some (instObj C dx)) :
    wpAny (model prog w) A (Builtin.Int.intBinary name g false ⟨[.int i t, .ref y], []⟩) (fun fin s' => fin = .done (.ret .notImplemented) ∧ s' = s) E s := by
  obtain ⟨hh, gg, d, tt, os⟩ := s
  wp_walk using wpAny_load hy
  exact ⟨rfl, rfl⟩
theorem fillsI_no {M : Model} {h : Heap} {add : Bool} (X : K.In h) (hn : noI K C nm = true) : Looks M h (fillsInplaceSlot (.ref C) nm add) false := by
  obtain ⟨cd, hcd, hall⟩ := any_some hn
  intro A Q E s k q
  have Lm : Looks M h (mroOf (.ref C)) cd.mro := (looks_clsIn X hcd).andThen (f := fun cd => pure cd.mro) .now
  unfold fillsInplaceSlot
  refine wpAny_bind (Lm A _ E s k ?_)
  have X' : K.In s.heap := X.keeps k
  generalize cd.mro = l at hall
  induction l with
  | nil => exact wpAny_pure q
  | cons c l ih =>
    rw [List.all_cons, Bool.and_eq_true] at hall
    rw [List.anyM_cons]
    refine wpAny_bind (wpAny_bind ((looks_findIn X' (beq_iff_eq.mp hall.1)).here ?_))
    refine wpAny_pure ?_
    exact ih hall.2
end
section
open PySem.Spec PyProof.Rows
variable {X : Cx} {CX : CXT} {k : Nat} {f r C : Addr} {fd : FuncData} {ps : List Str} {sp : Sp} {E : XK} {nm : String} {op : Operator}
/-- what the written part says of a class with __op__ (f) and __rop__ (r) -/
structure OwnOp (K : PySem.W.Frag) (C f r : Addr) (nm : String) : Prop where
  hc : PySem.W.selfFirst K C = true
  hs : PySem.W.findIn K (.ref C) (PySem.dunder nm) = some (some (.ref f))
  hf : PySem.W.isFn K (.ref f) = true
  hr : PySem.W.findIn K (.ref C) (dunderR nm) = some (some (.ref r))
  hg : PySem.W.isFn K (.ref r) = true
  h1 : ∃ fo, PySem.W.findIn K (.type "int") (PySem.dunder nm) = some fo
  h2 : ∃ ro, PySem.W.findIn K (.type "int") (dunderR nm) = some ro
  sub : PySem.W.subIn K (.type "int") (.ref C) = some false
  sub2 : PySem.W.subIn K (.ref C) (.type "int") = some false
theorem back_of {pins : List (Addr × Obj)} {σ : L2.St} {Q : VK} {u : Value} {s : Shared} (h : EP X pins σ Q u s) : PySem.W.CmpBack (EP X pins σ Q) u s := by
  obtain ⟨v, H', I, rv, q⟩ := h
  have h : EP X pins σ Q u s := ⟨v, H', I, rv, q⟩
  cases v with
  | non => cases rv; exact h
  | bl b => cases rv; exact h
  | int i => obtain ⟨t, rfl⟩ := rv; exact h
  | str i => obtain ⟨t, rfl⟩ := rv; exact h
  | byt i => obtain ⟨t, rfl⟩ := rv; exact h
  | flt i => obtain ⟨t, rfl⟩ := rv; exact h
  | ref a => cases rv; exact h
  | ty n => cases rv; exact h
/-- a op b: the operand's own method -/
def rOwn (C : Addr) (sp : Sp) (E : XK) : R2 := fun x y H Q => Wd (∃ a dx fs, x = .ref a ∧ H a = some (.ins C dx fs) ∧ ((∃ i, y = .int i) ∨ ∃ b dy gs, y = .ref b ∧ H b = some (.ins C dy gs)) ∧ sp [x, y] H Q E)
theorem own1 (O : OwnOp X.K C f r nm) (F : FnOk X.prog X.w X.K X.mg X.base CX k f fd ps sp) (hrm : Room k X.A) (hb : Binds X.K fd ps []) (hx : Passes CX X E) {pins : List (Addr × Obj)} {s : Shared} {σ : L2.St} {H : Hp} {x y : V} {v u : Value} {Q : VK}
    (I : Inv X pins σ H s) (rx : RelV x v) (ry : RelV y u) (h : rOwn C sp E x y H Q) : wpAny (model X.prog X.w) X.A (binaryOp1 nm v u) (fun o s' => ∃ z, o = some z ∧ EP X pins σ Q z s') X.xe s := by
  obtain ⟨a, dx, fs, rfl, ha, hy, h⟩ := h.ok
  obtain rfl : v = Value.ref a := rx
  obtain ⟨mA, O1, _⟩ := ins_get I.hok ha
  obtain ⟨od, J, _⟩ := O1.look
  have fin : wpAny (model X.prog X.w) X.A (call (.ref f) [.ref a, u]) (PySem.W.CmpBack (EP X pins σ Q)) X.xe s :=
    thn (run_fn (us := [.ref a, u]) (vs := [.ref a, y]) F hrm hb .nil hx I (.cons rfl (.cons ry .nil)) h) fun _ _ z => back_of z
  rcases hy with ⟨i, rfl⟩ | ⟨b, dy, gs, rfl, hb2⟩
  · obtain ⟨t, rfl⟩ := ry
    obtain ⟨fo, h1⟩ := O.h1
    obtain ⟨ro, h2⟩ := O.h2
    exact b1_int I.kIn J O.hc O.hs O.hf O.hr (.inr ⟨r, rfl⟩) h1 h2 O.sub fin
  · obtain rfl : u = Value.ref b := ry
    obtain ⟨mB, O2, _⟩ := ins_get I.hok hb2
    obtain ⟨od2, J2, _⟩ := O2.look
    exact b1_same I.kIn J J2.type O.hc O.hs O.hf fin
theorem op_own (hop : op.info.2 = nm) (O : OwnOp X.K C f r nm) (F : FnOk X.prog X.w X.K X.mg X.base CX k f fd ps sp) (hrm : Room k X.A) (hb : Binds X.K fd ps []) (hx : Passes CX X E) : OpR X (binaryOp op) (rOwn C sp E) := by
  intro pins s σ H x y v u Q I rx ry h
  have one := own1 O F hrm hb hx I rx ry h
  rcases hi : op.info with ⟨sym, nm'⟩
  rw [hi] at hop
  cases hop
  simp only [binaryOp, hi]
  refine wpAny_holding (wpAny_bind (wpAny_mono one (fun o s' ho => ?_) fun _ _ e => e))
  obtain ⟨z, rfl, q⟩ := ho
  exact wpAny_pure q
theorem iop_own (hop : op.info.2 = nm) (O : OwnOp X.K C f r nm) (hn : noI X.K C nm = true) (F : FnOk X.prog X.w X.K X.mg X.base CX k f fd ps sp) (hrm : Room k X.A) (hb : Binds X.K fd ps []) (hx : Passes CX X E) : PIp X op (rOwn C sp E) := by
  intro pins s σ H x y v u Q I rx ry h
  have one := own1 O F hrm hb hx I rx ry h
  obtain ⟨a, dx, fs, rfl, ha, hy, h⟩ := h.ok
  obtain rfl : v = Value.ref a := rx
  obtain ⟨mA, O1, _⟩ := ins_get I.hok ha
  obtain ⟨od, J, _⟩ := O1.look
  subst hop
  unfold inplaceOp
  refine wpAny_holding (wpAny_bind (J.type.here (wpAny_bind ((fillsI_no I.kIn hn).here ?_))))
  simp only [Bool.false_eq_true, if_false]
  refine wpAny_bind (wpAny_mono one (fun o s' ho => ?_) fun _ _ e => e)
  obtain ⟨z, rfl, q⟩ := ho
  exact wpAny_pure q
/-- n op a: the reflected method -/
def rROwn (C : Addr) (sp : Sp) (E : XK) : R2 := fun x y H Q => Wd (∃ (i : Int) (b dy : Addr) (gs : List (Str × V)), x = .int i ∧ y = .ref b ∧ H b = some (.ins C dy gs) ∧ sp [y, x] H Q E)
theorem op_rown {id : String} {bi : Builtin} {nm2 : String} {g : Int → Int → Sem PySem.Fin} (hop : op.info.2 = nm) (O : OwnOp X.K C f r nm) (hfi : fillsNumberSlot (.type "int") nm = pure true) (slot : Slot "int" (PySem.dunder nm) id) (entry : entryFor table id = some bi)
    (args : ∀ p q, argsOk id ⟨[p, q], []⟩) (hbi : bi = Builtin.Int.intBinary nm2 g false) (F : FnOk X.prog X.w X.K X.mg X.base CX k r fd ps sp) (hrm : Room k X.A) (hb : Binds X.K fd ps []) (hx : Passes CX X E) : OpR X (binaryOp op) (rROwn C sp E) := by
  intro pins s σ H x y v u Q I rx ry h
  obtain ⟨i, b, dy, gs, rfl, rfl, hb2, h⟩ := h.ok
  obtain ⟨t, rfl⟩ := rx
  obtain rfl : u = Value.ref b := ry
  obtain ⟨mB, O2, _⟩ := ins_get I.hok hb2
  obtain ⟨od2, J2, _⟩ := O2.look
  have fin : wpAny (model X.prog X.w) X.A (call (.ref r) [.ref b, .int i t]) (PySem.W.CmpBack (EP X pins σ Q)) X.xe s :=
    thn (run_fn (us := [.ref b, .int i t]) (vs := [.ref b, .int i]) F hrm hb .nil hx I (.cons rfl (.cons ⟨t, rfl⟩ .nil)) h) fun _ _ z => back_of z
  rcases hi : op.info with ⟨sym, nm'⟩
  rw [hi] at hop
  cases hop
  subst hbi
  have one := b1_rint (prog := X.prog) (w := X.w) (A := X.A) (E := X.xe) (Q := EP X pins σ Q) I.kIn J2 O.hc O.hs O.hr O.hg hfi O.sub2 slot entry (args _ _) (int_declines J2.at_) fin
  simp only [binaryOp, hi]
  refine wpAny_holding (wpAny_bind (wpAny_mono one (fun o s' ho => ?_) fun _ _ e => e))
  obtain ⟨z, rfl, q⟩ := ho
  exact wpAny_pure q
/-- -a -/
theorem un_own (hs : PySem.W.findIn X.K (.ref C) "__neg__" = some (some (.ref f))) (hf : PySem.W.isFn X.K (.ref f) = true) (F : FnOk X.prog X.w X.K X.mg X.base CX k f fd ps sp) (hrm : Room k X.A) (hb : Binds X.K fd ps []) (hx : Passes CX X E) :
    UnR X (unaryOp .USub) (fun x H Q => Wd (∃ a dx fs, x = .ref a ∧ H a = some (.ins C dx fs) ∧ sp [x] H Q E)) := by
  intro pins s σ H x v Q I rx h
  obtain ⟨a, dx, fs, rfl, ha, h⟩ := h.ok
  obtain rfl : v = Value.ref a := rx
  obtain ⟨mA, O1, _⟩ := ins_get I.hok ha
  obtain ⟨od, J, _⟩ := O1.look
  obtain ⟨m, fr⟩ := I.fr
  exact PySem.W.ksp_neg fr I.mod.kin J hs hf (run_fn (us := [.ref a]) (vs := [.ref a]) F hrm hb .nil hx I (.cons rfl .nil) h)
theorem run_fn1 {pins : List (Addr × Obj)} {σ : L2.St} {H : Hp} {s : Shared} {Q : VK} {us : List Value} {vs : List V} (F : FnOk X.prog X.w X.K X.mg X.base CX k f fd ps sp) (hr : Room (k + 1) X.A) (hb : Binds X.K fd ps []) (hx : Passes CX X E)
    (I : Inv X pins σ H s) (rv : Vals vs us) (h : sp vs H Q E) : wpAny (model X.prog X.w) X.A.in1 (call (.ref f) us) (EP X pins σ Q) X.xe s := by
  have hl : us.length = ps.length := by rw [← rv.length]; exact F.len _ _ _ _ h
  have b := hb s us I.kIn (by rw [List.append_nil]; exact hl)
  rw [List.append_nil] at b
  refine wpAny_call (codeAny_mono (F.run X.A.in1 X.stack s H ⟨us, []⟩ us vs Q E hr.in1 I.env0.in1 b rv h) fun o s' z => ?_)
  cases o with
  | error e => exact hx pins σ H s e s' I z
  | ok fl =>
    cases fl with
    | ret u => exact I.after z
    | next => exact z.elim
    | brk => exact z.elim
    | cont => exact z.elim
/-- abs(a) -/
theorem call_absO (hs : PySem.W.findIn X.K (.ref C) "__abs__" = some (some (.ref f))) (hf : PySem.W.isFn X.K (.ref f) = true) (F : FnOk X.prog X.w X.K X.mg X.base CX k f fd ps sp) (hrm : Room (k + 1) X.A) (hb : Binds X.K fd ps []) (hx : Passes CX X E) :
    CallR X (.builtin "abs") (fun xs H Q => Wd (∃ a dx fs, xs = [.ref a] ∧ H a = some (.ins C dx fs) ∧ sp [.ref a] H Q E)) := by
  intro pins s σ H xs us Q I rv h
  obtain ⟨a, dx, fs, rfl, ha, h⟩ := h.ok
  obtain ⟨u, rfl, ru⟩ := vals1 rv
  obtain rfl : u = Value.ref a := ru
  obtain ⟨mA, O1, _⟩ := ins_get I.hok ha
  obtain ⟨od, J, _⟩ := O1.look
  refine PySem.Calls.call_function_entry kind_abs plain_abs entry_abs (args_abs _) ?_
  unfold Builtin.abs
  refine wpAny_bind (m := oneArg "abs" _) (wpAny_pure ?_)
  refine wpAny_bind (m := callSpecial? (.ref a) (Str.ofString "__abs__")) (PySem.W.special_fn I.kIn J hs (beq_iff_eq.mp hf) ?_)
  exact thn (run_fn1 (us := [.ref a]) (vs := [.ref a]) F hrm hb hx I (.cons rfl .nil) h) fun v s' z => wpAny_pure ⟨v, rfl, z⟩
def tSMeth (C : Addr) (sp : Sp) (E : XK) (ta : TE) (t : TA) : TE := fun σ H Q => ta σ H fun x H1 => x = .ref C ∧ t σ H1 fun vs H2 => sp vs H2 Q E
theorem pe_smeth {pl : Sem Bool} {p : Addr} {o e : Expr} {es : List Expr} {m : Str} {apos pos : Pos} {ta : TE} {t : TA} (he : PE X o ta) (S : SMet X.K C m p f) (F : FnOk X.prog X.w X.K X.mg X.base CX k f fd ps sp) (hrm : Room k X.A) (hb : Binds X.K fd ps [])
    (hx : Passes CX X E) (ha : PA X (e :: es) t) (hst : starEach (e :: es) X.env = (false, eval e X.env) :: starEach es X.env := by rfl) (hpl : (backTo pos (starEach es X.env)).any (·.1) = false := by rfl)
    (ht : eval (.Call (.Attribute o m apos) (e :: es) [] pos) X.env = (eval o X.env >>= fun ov => standAt apos.atName >>= fun _ => holding [ov] (getMethod ov m pl) >>= fun (f, first) =>
      callWith pos f first (backTo pos (starEach (e :: es) X.env)) (backToKw pos (keywordEach [] X.env))) := by rfl) :
    PE X (.Call (.Attribute o m apos) (e :: es) [] pos) (tSMeth C sp E ta t) := by
  refine ⟨fun pins s σ H Q I h => ?_⟩
  refine PySem.W.methodCall_KW (pl := pl) (thn (he.run pins s σ H _ I h) fun u s1 ⟨x, H1, I1, rx, ex, q⟩ => ?_) ht
  subst ex
  obtain rfl : u = Value.ref C := rx
  obtain ⟨rest, hp⟩ := S.rc
  refine PySem.W.method_cls I1.kIn S.ga (PySem.W.cls_bind I1.kIn S.rd S.at_ (wpAny_call (PySem.W.sm_get (s := { s1 with toks := s1.toks + 1 }) I1.kIn hp (PySem.W.handed_on rfl ?_))))
  have I2 := I1.tok (s1.toks + 1)
  refine PySem.W.callWith_K (first := []) (h₀ := X.base) I.ok.mod.kin S.kp (thn (ha.run pos pins _ σ H1 _ I2 q) fun us s2 ⟨vs, H2, I3, rv, q2⟩ => ⟨I3.kIn, ?_⟩) hst hpl
  exact run_fn (us := us) (vs := vs) F hrm hb .nil hx I3 rv (by rw [List.append_nil]; exact q2)
end

/-! ### dicts with tuple keys: pop(k), del d[k], sorted(d) -/
section
open PySem DT L2.DX
variable {prog : Program} {w : World} {K : Type} [DecidableEq K] {knd : HeapKind prog w K}
theorem meetsPop1 {d b : Addr} {k : K} (hd : (d == sysModules) = false) :
    MeetsIn prog w (Builtin.«dict.pop» ⟨[.ref d, .ref b], []⟩) (fun A R s => ∃ xs, knd.room A.in1 ∧ knd.is s.heap k b ∧ s.heap.DictOfH knd d xs ∧ xs.length ≤ sizeLine ∧ atKey xs k ≠ none ∧
      ∀ p, atKey xs k = some p → ∀ h' tk, h'.DictOfH knd d (dropH xs k) → Heap.SameBut d s.heap h' → R (.ok (.ret p.2)) { s with heap := h', toks := tk }) :=
  .of_wp fun A R s ⟨xs, hu, hkey, hm, hsz, hthere, hsome⟩ => by
    obtain ⟨o, es, ep, ho, hc, hdat, he, his, hn⟩ := id hm
    have hes : es.size = xs.length := size_of_entries he
    have hpart : (keyPart (Value.ref b)).isSome = false := rfl
    unfold Builtin.«dict.pop»
    refine wpAny_bind ?_
    unfold Builtin.Dict.keyAndDefault
    refine wpAny_bind (wpAny_notOrdered_dict hm.typeIs ?_)
    show wpAny _ _ (pure (d, Value.ref b, none)) _ _ s
    refine wpAny_pure ?_
    simp only [hpart, Bool.false_eq_true, if_false]
    refine wpAny_bind (wpAny_dictEntries ho hdat (wpAny_bind (wpAny_pure ?_)))
    cases hem : es.isEmpty with
    | true =>
      have z : es.size = 0 := by simpa using hem
      have h0 : xs = [] := List.length_eq_zero_iff.mp (by omega)
      exact absurd (by rw [h0]; rfl) hthere
    | false =>
      simp only [Bool.false_eq_true, if_false]
      refine wpAny_bind (takeH hu hkey hm hsz (fun hno => absurd hno hthere) fun p e hp hev h' hm' hs' => ?_)
      simp only [Option.isNone_some, Bool.false_eq_true, if_false]
      exact wpAny_bind (wpAny_letGo (wpAny_pure ⟨e.val, rfl, by rw [hev]; exact hsome p hp h' _ hm' hs'⟩))
theorem meetsDelT {d b : Addr} {k : K} :
    MeetsIn prog w (Builtin.«dict.__delitem__» ⟨[.ref d, .ref b], []⟩) (fun A R s => ∃ xs, knd.room A.in1 ∧ knd.is s.heap k b ∧ s.heap.DictOfH knd d xs ∧ xs.length ≤ sizeLine ∧ atKey xs k ≠ none ∧
      ∀ h' tk, h'.DictOfH knd d (dropH xs k) → Heap.SameBut d s.heap h' → R (.ok (.ret .none)) { s with heap := h', toks := tk }) :=
  .of_wp fun A R s ⟨xs, hu, hkey, hm, hsz, hthere, h⟩ => by
    unfold Builtin.«dict.__delitem__»
    refine wpAny_bind ?_
    unfold Builtin.Dict.dictSlotArgs
    refine wpAny_bind (wpAny_notOrdered_dict hm.typeIs ?_)
    show wpAny _ _ (pure (Value.ref d, Value.ref b)) _ _ s
    refine wpAny_pure ?_
    show wpAny _ _ (Builtin.Dict.takeOut d (.ref b) >>= _) _ _ s
    refine wpAny_bind (takeH hu hkey hm hsz (fun hno => absurd hno hthere) fun p e hp hev h' hm' hs' => ?_)
    exact wpAny_bind (wpAny_letGo (wpAny_pure ⟨.none, rfl, h h' _ hm' hs'⟩))
end
section
open PySem.Spec PyProof.Rows L2.DX
variable {X : Cx}
def rPopT1 : V → List V → Hp → VK → Prop := fun x xs H Q => ∃ (a : Addr) (kvs : List (List L2.Key × V)) (k : List L2.Key) (b : Addr) (v : V), x = .ref a ∧ xs = [.ref b] ∧ H a = some (.dT kvs) ∧ H b = some (.tup (k.map kV)) ∧ valV kvs k = some v ∧ Q v (upd H a (.dT (dropK kvs k)))
theorem mt_popT1 (hu : X.A.units + 1 < cLine) : MtR X "dict.pop" rPopT1 := by
  intro pins s σ H x xs v us Q I rx rxs h
  obtain ⟨a, kvs, k, b, v0, rfl, rfl, ha, hb, ev, q⟩ := h
  cases rx
  obtain ⟨u1, rfl, r1⟩ := vals1 rxs
  cases r1
  obtain ⟨z, hd, xs', rel, dd⟩ := dt_of I.hok ha
  have hz : xs'.length ≤ sizeLine := by rw [← Paired.length rel]; exact z
  have r := rel.val k
  rw [ev] at r
  refine call_meetsIn PySem.F.slot_dict_pop dd.typeIs PySem.F.entry_dict_pop (PySem.F.args_dict_pop_2 _ _) (meetsPop1 (knd := tupleKind (mixKind X.prog X.w)) (k := k) hd)
    ⟨xs', tupleKind_room_in1 hu, key_of I.hok hb, dd, hz, fun e => ?_, fun p hp h' tk dd' hs => ?_⟩
  · rw [e] at r
    exact r
  · rw [hp] at r
    obtain ⟨o, es, ep, hq, h2, h3, h4, _, h5⟩ := dd'
    have I2 : Inv X pins σ (upd H a (.dT (dropK kvs k))) { s with heap := h', toks := tk } :=
      d_write I (by rw [ha]; exact True.intro) hs ⟨o, hq⟩ ⟨Nat.le_trans (dropK_le kvs k) z, hd, _, (KT_drop k rel).keeps (fun c ys ec => (by rw [upd_ne (ne_of ec ha (fun z => nomatch z))]; exact ec)), o, es, ep, hq, h2, h3, h4, h5⟩
    exact ⟨v0, _, I2, r, q⟩
variable {o i : Expr} {tpos pos : Pos} {td ty : TE}
/-- del d[k], k a tuple -/
def sDDelT (td ty : TE) : TS := fun D σ H => td σ H fun x H1 => ty σ H1 fun y H2 => ∃ (a b : Addr) (kvs : List (List L2.Key × V)) (k : List L2.Key), x = .ref a ∧ y = .ref b ∧ H2 a = some (.dT kvs) ∧ H2 b = some (.tup (k.map kV)) ∧ (valV kvs k).isSome = true ∧ D.nx σ (upd H2 a (.dT (dropK kvs k)))
theorem ps_ddelT (hu : X.A.units + 1 < cLine) (ho : PE X o td) (hi : PE X i ty) : PS X (.Delete [.Subscript o i tpos] pos) (sDDelT td ty) := by
  refine ⟨fun pins s σ H D I h => ?_⟩
  refine wpAny_Delete (wpAny_deleteEach_cons (wpAny_delete_Subscript (thn (ho.run pins s σ H _ I h) fun u s1 ⟨x, H1, I1, rx, q1⟩ => thn (hi.run pins s1 σ H1 _ I1 q1) fun iv s2 ⟨y, H2, I2, ry, a, b, kvs, k, ex, ey, ha, hb, l, q2⟩ => ?_)))
  subst ex ey
  obtain rfl : u = Value.ref a := rx
  obtain rfl : iv = Value.ref b := ry
  obtain ⟨z, hd, xs', rel, dd⟩ := dt_of I2.hok ha
  have hz : xs'.length ≤ sizeLine := by rw [← Paired.length rel]; exact z
  have r := rel.val k
  refine wpAny_delItem_slot dd.typeIs (by decide) PySem.F.slot_dict_delitem
    (call_meetsIn PySem.F.slot_dict_delitem dd.typeIs PySem.F.entry_dict_delitem (PySem.F.args_dict_delitem_2 _ _) (meetsDelT (knd := tupleKind (mixKind X.prog X.w)) (k := k))
      ⟨xs', tupleKind_room_in1 hu, key_of I2.hok hb, dd, hz, fun e => ?_, fun h' tk dd' hs => wpAny_deleteEach_nil ⟨σ, _, ?_, q2⟩⟩)
  · rw [e] at r
    cases ev : valV kvs k with
    | none => rw [ev] at l; cases l
    | some v0 => rw [ev] at r; exact r
  · obtain ⟨o, es, ep, hq, h2, h3, h4, _, h5⟩ := dd'
    exact d_write I2 (by rw [ha]; exact True.intro) hs ⟨o, hq⟩ ⟨Nat.le_trans (dropK_le kvs k) z, hd, _, (KT_drop k rel).keeps (fun c ys ec => (by rw [upd_ne (ne_of ec ha (fun z => nomatch z))]; exact ec)), o, es, ep, hq, h2, h3, h4, h5⟩
end
/-- the two ints of the tuple that v is -/
def pairOf (H : Hp) : V → Int × Int
  | .ref b => match H b with
    | some (.tup [.int i, .int j]) => (i, j)
    | _ => (0, 0)
  | _ => (0, 0)
def adOf : Value → Addr
  | .ref a => a
  | _ => 0
theorem pairOf_at {H : Hp} {b : Addr} {i j : Int} (h : H b = some (.tup [.int i, .int j])) : pairOf H (.ref b) = (i, j) := by
  show (match H b with | some (.tup [.int i, .int j]) => (i, j) | _ => ((0, 0) : Int × Int)) = (i, j)
  rw [h]
abbrev kvT (es : List (Int × Int × V)) : List (List L2.Key × V) := es.map fun e => ([.inl e.1, .inl e.2.1], e.2.2)
theorem keysT {H : Hp} : ∀ {es : List (Int × Int × V)} {ks : List (List L2.Key × Addr × Value)}, Paired (fun (p : List L2.Key × V) (q : List L2.Key × Addr × Value) => p.1 = q.1 ∧ H q.2.1 = some (.tup (p.1.map kV)) ∧ RelV p.2 q.2.2) (kvT es) ks →
    (ks.map fun x => pairOf H (.ref x.2.1)) = es.map (fun e => (e.1, e.2.1)) ∧ ∀ x ∈ ks, ∃ i j, H x.2.1 = some (.tup [.int i, .int j])
  | [], ks, h => by
    cases h
    exact ⟨rfl, fun x hx => by cases hx⟩
  | e :: es, ks, h => by
    cases h with
    | cons a t =>
      obtain ⟨h1, h2⟩ := keysT t
      have hq := a.2.1
      refine ⟨?_, fun x hx => ?_⟩
      · rw [List.map_cons, List.map_cons, h1, pairOf_at hq]
      · rcases List.mem_cons.mp hx with rfl | hx
        · exact ⟨_, _, hq⟩
        · exact h2 x hx
section
open PySem.Spec PyProof.Rows L2.DX
variable {X : Cx}
/-- sorted(d), its keys pairs of ints -/
def rSortDT : List V → Hp → VK → Prop := fun xs H Q => Wd (∃ (d : Addr) (es : List (Int × Int × V)), xs = [.ref d] ∧ H d = some (.dT (kvT es)) ∧ ∀ (bs : List Addr) (ps : List (Int × Int)) (p : Addr), H p = none →
  All2 (fun b q => H b = some (.tup [.int q.1, .int q.2])) bs ps → ps.Perm (es.map fun e => (e.1, e.2.1)) → ps.Pairwise (fun a b => SrtO.lexB b a = false) → Q (.ref p) (upd H p (.lst (bs.map V.ref))))
theorem cr_sortedDT (hc : X.calm = true) : CallR X (.builtin "sorted") rSortDT := by
  intro pins s σ H xs us Q I r h
  obtain ⟨d, es, rfl, hd, q⟩ := h.ok
  obtain ⟨u, rfl, rx⟩ := vals1 r
  cases rx
  obtain ⟨z, hs, ks, pr, o, ens, ep, ho, hx, hdt, he, hn⟩ := (show ObjOk X.prog X.w H s.heap d (.dT (kvT es)) from I.hok d _ hd)
  have l1 : ens.size = ks.length := size_of_entries he
  have l2 : (kvT es).length = ks.length := Paired.length pr
  obtain ⟨k1, k2⟩ := keysT pr
  refine Calls.call_function_entry PyProof.Rows.kind_sorted PyProof.Rows.plain_sorted PyProof.Rows.entry_sorted (PyProof.Rows.args_sorted1 _) ?_
  unfold Builtin.«sorted»
  refine wpAny_bind (m := checkCount "sorted" 1 1 _) (wpAny_pure ?_)
  refine wpAny_bind (PySem.W.kdu_collect (A := X.A.in1) (kdl_raw hs hx hdt) (I.ok.hd hc) ho (by omega) fun h' tk acc hk it => ?_)
  have ea : acc.toList = ks.map fun x => Value.ref x.2.1 := by
    have hl : acc.toList.length = ks.length := by rw [Array.length_toList, it.1]; exact l1
    apply List.ext_getElem?
    intro j
    rw [List.getElem?_map]
    cases hj : acc.toList[j]? with
    | none =>
      have h1 := List.getElem?_eq_none_iff.mp hj
      rw [List.getElem?_eq_none (by omega)]
      rfl
    | some v =>
      obtain ⟨en, hen, hv⟩ := it.2 j v (by rw [← Array.getElem?_toList]; exact hj)
      have qe := entry_at he j
      rw [hen] at qe
      cases hb : ks[j]? with
      | none =>
        rw [hb] at qe
        exact nomatch (show some en = none from qe)
      | some b =>
        rw [hb] at qe
        have e2 : en = entryOfKey (tupleKind (mixKind X.prog X.w)) b := Option.some.inj qe
        rw [hv, e2]
        rfl
  have I1 : Inv X pins σ H { s with heap := h', toks := tk } := I.kept hk
  have hz : acc.toList.length ≤ sizeLine := by rw [ea, List.length_map]; omega
  refine wpAny_bind (wpAny_newList ?_ hz)
  have hoL : (h'.push (seqObj "list" acc.toList.toArray 0)).get? h'.objs.size = some (seqObj "list" acc.toList.toArray 0) := Heap.get?_push_size _ rfl
  show wpAny _ _ _ _ _ { s with heap := h'.push (seqObj "list" acc.toList.toArray 0), toks := tk }
  have hmem : ∀ v ∈ acc.toList, ∃ b i j, v = Value.ref b ∧ H b = some (.tup [.int i, .int j]) := fun v hv => by
    rw [ea] at hv
    obtain ⟨x, hx, rfl⟩ := List.mem_map.mp hv
    obtain ⟨i, j, e⟩ := k2 x hx
    exact ⟨_, i, j, rfl, e⟩
  refine wpAny_bind (wpAny_holding (wpAny_call_entry PyProof.Rows.slot_list_sort ⟨_, hoL, rfl⟩ PyProof.Rows.entry_list_sort
    (SrtO.list_sort_ord (SrtO.swo_lex fun u => pairOf H (backV u)) hoL hz (fun h2 => SrtO.pairs_sortableO (by omega) (fun v hv => ?_) fun o e c => ?_) fun out so sb => ⟨_, rfl, ?_⟩) (PyProof.Rows.args_list_sort _)))
  · obtain ⟨b, i, j, rfl, e⟩ := hmem v hv
    obtain ⟨_, its2, r2, o, ho, hc, n, hd⟩ := I1.hok _ _ e
    obtain ⟨u1, u2, rfl, ri, rj⟩ := vals2 r2
    obtain ⟨t1, rfl⟩ := ri
    obtain ⟨t2, rfl⟩ := rj
    have e3 : pairOf H (backV (Value.ref b)) = (i, j) := pairOf_at e
    rw [e3]
    exact ⟨b, o, t1, t2, n, rfl, Heap.get?_push_of_some _ ho, hc, hd⟩
  · rw [hoL] at e
    cases e
    exact absurd (Value.type.inj c) (by decide)
  · obtain ⟨e', he'⟩ := PyProof.Rows.sortedHeap_at (vs := acc.toList) (out := out.toArray) hoL
    have h3 : ∀ u ∈ out, ∃ b i j, u = Value.ref b ∧ H b = some (.tup [.int i, .int j]) := fun u hu => hmem u (sb.perm.mem_iff.mp hu)
    have hlen : (out.map backV).length ≤ sizeLine := by
      rw [List.length_map, sb.perm.length_eq]
      exact hz
    have eo : (out.map adOf).map V.ref = out.map backV := by
      rw [List.map_map]
      refine List.map_congr_left fun u hu => ?_
      obtain ⟨b, i, j, rfl, _⟩ := h3 u hu
      rfl
    have qq := q (out.map adOf) (out.map fun u => pairOf H (backV u)) h'.objs.size (I1.hok.fresh (Nat.le_refl _)) ⟨by rw [List.length_map, List.length_map], fun i x y hx hy => ?_⟩ ?_ ?_
    · rw [eo] at qq
      refine wpAny_pure ⟨_, rfl, .ref h'.objs.size, upd H h'.objs.size (.lst (out.map backV)), I1.laid (t' := tk) (fun b u e => ?_) (Nat.le_refl _)
        (show ObjOk X.prog X.w _ _ _ (.lst (out.map backV)) from ⟨hlen, out, e', vals_back (fun u hu => by obtain ⟨b, _, _, e, _⟩ := h3 u hu; exact ⟨b, e⟩), he'⟩), rfl, qq⟩
      have hb : b < h'.objs.size := Heap.lt_size e
      rw [PyProof.Rows.sortedHeap_old (Nat.ne_of_lt hb) (by rw [size_push']; exact Nat.lt_succ_of_lt hb)]
      exact Heap.get?_push_of_some _ e
    · rw [List.getElem?_map] at hx hy
      cases ho : out[i]? with
      | none => rw [ho] at hx; cases hx
      | some u =>
        rw [ho] at hx hy
        obtain ⟨b, m, n, rfl, e⟩ := h3 u (List.mem_of_getElem? ho)
        have hx : b = x := Option.some.inj hx
        have hy : pairOf H (.ref b) = y := Option.some.inj hy
        rw [pairOf_at e] at hy
        subst hx hy
        exact e
    · have p1 := sb.perm.map (fun u => pairOf H (backV u))
      rw [ea, List.map_map] at p1
      rw [← k1]
      exact p1
    · exact List.pairwise_map.mpr so
end

/-! ### x in o, o[i], o[i] = v, len(o) of an own class; a call of a local that holds a def -/
section
open PySem.Spec PyProof.Rows
variable {X : Cx} {CX : CXT} {k : Nat} {f C : Addr} {fd : FuncData} {ps : List Str} {sp : Sp} {E : L2.St → XK} {a b o i value : Expr} {ta tb td ty tv : TE} {pos pos' : Pos}
/-- the class's special method nm stands at f -/
structure OwnM (K : PySem.W.Frag) (C f : Addr) (nm : Str) : Prop where
  hs : PySem.W.findIn K (.ref C) nm = some (some (.ref f))
  hf : PySem.W.isFn K (.ref f) = true
theorem passAll {E : XK} (h : Passes CX X E) : ∀ σ : L2.St, PassesAt CX X σ ((fun _ => E) σ) := fun σ pins H s e s' I c => h pins σ H s e s' I c
theorem run_fn1S {pins : List (Addr × Obj)} {σ : L2.St} {H : Hp} {s : Shared} {Q : VK} {us : List Value} {vs : List V} (F : FnOk X.prog X.w X.K X.mg X.base CX k f fd ps sp) (hr : Room (k + 1) X.A) (hb : Binds X.K fd ps []) (hx : PassesAt CX X σ (E σ))
    (I : Inv X pins σ H s) (rv : Vals vs us) (h : sp vs H Q (E σ)) : wpAny (model X.prog X.w) X.A.in1 (call (.ref f) us) (EP X pins σ Q) X.xe s := by
  have hl : us.length = ps.length := by rw [← rv.length]; exact F.len _ _ _ _ h
  have b := hb s us I.kIn (by rw [List.append_nil]; exact hl)
  rw [List.append_nil] at b
  refine wpAny_call (codeAny_mono (F.run X.A.in1 X.stack s H ⟨us, []⟩ us vs Q (E σ) hr.in1 I.env0.in1 b rv h) fun o s' z => ?_)
  cases o with
  | error e => exact hx pins H s e s' I z
  | ok fl =>
    cases fl with
    | ret u => exact I.after z
    | next => exact z.elim
    | brk => exact z.elim
    | cont => exact z.elim
/-- x in o -/
def rOwnIn (C : Addr) (sp : Sp) (E : XK) : R2 := fun x y H Q => Wd (∃ p dx fs, y = .ref p ∧ H p = some (.ins C dx fs) ∧ sp [y, x] H (fun v H' => ∃ c, v = .bl c ∧ Q (.bl c) H') E)
theorem op_ownIn {E : XK} (O : OwnM X.K C f "__contains__") (F : FnOk X.prog X.w X.K X.mg X.base CX k f fd ps sp) (hr : Room k X.A) (hb : Binds X.K fd ps []) (hx : Passes CX X E) : OpR X (compareOp .In) (rOwnIn C sp E) := by
  intro pins s σ H x y v u Q I rx ry h
  obtain ⟨p, dx, fs, rfl, hp, h⟩ := h.ok
  obtain rfl : u = Value.ref p := ry
  obtain ⟨mA, O1, _⟩ := ins_get I.hok hp
  obtain ⟨od, J, _⟩ := O1.look
  obtain ⟨m, fr⟩ := I.fr
  refine PySem.W.in_K fr I.mod.kin J O.hs O.hf (thn (run_fn (us := [.ref p, v]) (vs := [.ref p, x]) F hr hb .nil hx I (.cons rfl (.cons rx .nil)) h) fun r s' z => ?_)
  obtain ⟨y, H', J', ry, c, rfl, q⟩ := z
  cases ry
  exact wpAny_truthy_bool ⟨.bl c, H', J', rfl, q⟩
/-- len(o) -/
def rOwnLen (C : Addr) (sp : Sp) (E : XK) : List V → Hp → VK → Prop := fun xs H Q => Wd (∃ p dx fs, xs = [.ref p] ∧ H p = some (.ins C dx fs) ∧ sp [.ref p] H (fun v H' => ∃ n : Int, v = .int n ∧ 0 ≤ n ∧ n < 2 ^ 63 ∧ Q (.int n) H') E)
theorem call_ownLen {E : XK} (O : OwnM X.K C f "__len__") (F : FnOk X.prog X.w X.K X.mg X.base CX k f fd ps sp) (hr : Room (k + 1) X.A) (hb : Binds X.K fd ps []) (hx : Passes CX X E) : CallR X (.builtin "len") (rOwnLen C sp E) := by
  intro pins s σ H xs us Q I r h
  obtain ⟨p, dx, fs, rfl, hp, h⟩ := h.ok
  rw [Vals.ref1 r]
  obtain ⟨mA, O1, _⟩ := ins_get I.hok hp
  obtain ⟨od, J, _⟩ := O1.look
  obtain ⟨m, fr⟩ := I.fr
  refine PySem.W.len_K fr I.mod.kin J O.hs O.hf (thn (run_fn1 (us := [.ref p]) (vs := [.ref p]) F hr hb hx I (.cons rfl .nil) h) fun r s' z => ?_)
  obtain ⟨y, H', J', ry, n, rfl, h0, h1, q⟩ := z
  obtain ⟨t, rfl⟩ := ry
  exact ⟨⟨h0, h1⟩, .int n, H', J'.tok _, ⟨_, rfl⟩, q⟩
/-- o[i] -/
def tOwnIx (C : Addr) (sp : Sp) (E : L2.St → XK) (ta tb : TE) : TE := fun σ H Q => ta σ H fun x H1 => tb σ H1 fun y H2 => ∃ p dx fs, x = .ref p ∧ H2 p = some (.ins C dx fs) ∧ sp [x, y] H2 Q (E σ)
theorem pe_ownIx (O : OwnM X.K C f "__getitem__") (hfn : PySem.W.fnIn X.K f = true) (F : FnOk X.prog X.w X.K X.mg X.base CX k f fd ps sp) (hr : Room (k + 1) X.A) (hb : Binds X.K fd ps []) (hx : ∀ σ, PassesAt CX X σ (E σ)) (ha : PE X a ta) (hi : PE X b tb)
    (hsl : ∀ x i, subscripted b true (.ref x) i = runValue (.builtin "lifetime.subscript" ⟨[.ref x, i], []⟩) := by intro _ _; with_unfolding_all rfl) : PE X (.Subscript a b pos) (tOwnIx C sp E ta tb) := by
  refine ⟨fun pins s σ H Q I h => ?_⟩
  refine Subscript_ (binT ha hi I h fun v u s2 x y H2 I2 rx ry q => ?_)
  obtain ⟨p, dx, fs, rfl, hp, q⟩ := q
  obtain rfl : v = Value.ref p := rx
  obtain ⟨mA, O1, _⟩ := ins_get I2.hok hp
  obtain ⟨od, J, _⟩ := O1.look
  obtain ⟨m, fr⟩ := I2.fr
  exact PySem.W.sub_K fr I2.mod.kin J O.hs hfn O.hf (run_fn1S (us := [.ref p, u]) (vs := [.ref p, y]) F hr hb (hx σ) I2 (.cons rfl (.cons ry .nil)) q) (hsl _ _)
/-- o[i] = v -/
def sOwnSet (C : Addr) (sp : Sp) (E : L2.St → XK) (td ty tv : TE) : TS := fun D σ H => tv σ H fun v H1 => td σ H1 fun x H2 => ty σ H2 fun y H3 => ∃ p dx fs, x = .ref p ∧ H3 p = some (.ins C dx fs) ∧ sp [x, y, v] H3 (fun _ H4 => D.nx σ H4) (E σ)
theorem ps_ownSet (O : OwnM X.K C f "__setitem__") (hq : PySem.W.noSeq X.K C = true) (F : FnOk X.prog X.w X.K X.mg X.base CX k f fd ps sp) (hr : Room k X.A) (hb : Binds X.K fd ps []) (hx : ∀ σ, PassesAt CX X σ (E σ)) (ho : PE X o td) (hi : PE X i ty) (hv : PE X value tv)
    (hs : swapsWith value (some (.Subscript o i pos')) pos.line X.env = pure false) : PS X (.Assign [.Subscript o i pos'] value pos) (sOwnSet C sp E td ty tv) := by
  refine ⟨fun pins s σ H D I h => ?_⟩
  refine wpAny_Assign_Subscript (thn (hv.run pins s σ H _ I h) fun r s1 ⟨v, H1, I1, rv, q1⟩ => thn (ho.run pins s1 σ H1 _ I1 q1) fun u s2 ⟨x, H2, I2, rx, q2⟩ => thn (hi.run pins s2 σ H2 _ I2 q2) fun iv s3 ⟨y, H3, I3, ry, p, dx, fs, ex, hp, q3⟩ => ?_) hs
  subst ex
  obtain rfl : u = Value.ref p := rx
  obtain ⟨mA, O1, _⟩ := ins_get I3.hok hp
  obtain ⟨od, J, _⟩ := O1.look
  obtain ⟨m, fr⟩ := I3.fr
  refine PySem.W.ksp_setItem fr I3.mod.kin J hq O.hs O.hf (thn (run_fnS (E := E) (us := [.ref p, iv, r]) (vs := [.ref p, y, v]) F hr hb (hx σ) I3 (.cons rfl (.cons ry (.cons rv .nil))) q3) fun _ s4 z => ?_)
  obtain ⟨_, H4, I4, _, q4⟩ := z
  exact ⟨σ, H4, I4, q4⟩
end
section
open PySem.Spec PyProof.Rows
variable {X : Cx} {CX : CXT} {k1 k2 i : Nat} {f1 f2 : Addr} {fd1 fd2 : FuncData} {ps1 ps2 : List Str} {sp : Sp} {E : L2.St → XK} {x : Str} {p pos : Pos} {e : Expr} {es : List Expr} {t : TA}
/-- f(e, ..), f a local that holds one of two defs with one promise -/
def tCall2S (i : Nat) (f1 f2 : Addr) (sp : Sp) (E : L2.St → XK) (t : TA) : TE := fun σ H Q => (σ[i]? = some (some (.ref f1)) ∨ σ[i]? = some (some (.ref f2))) ∧ t σ H fun vs H1 => sp vs H1 Q (E σ)
theorem pe_call2S (F1 : FnOk X.prog X.w X.K X.mg X.base CX k1 f1 fd1 ps1 sp) (F2 : FnOk X.prog X.w X.K X.mg X.base CX k2 f2 fd2 ps2 sp) (hr1 : Room k1 X.A) (hr2 : Room k2 X.A) (hN : X.N[i]? = some x) (hv : Vis X.env.scope x) (hk1 : PySem.W.keepIn X.K (.ref f1) = true) (hk2 : PySem.W.keepIn X.K (.ref f2) = true)
    (hb1 : Binds X.K fd1 ps1 []) (hb2 : Binds X.K fd2 ps2 []) (hx : ∀ σ, PassesAt CX X σ (E σ)) (ha : PA X (e :: es) t) (hdb : (x == ("__debug__" : Str)) = false := by decide) (hcd : (x == ("__classdict__" : Str)) = false := by decide)
    (he : starEach (e :: es) X.env = (false, eval e X.env) :: starEach es X.env := by rfl) (hpl : (backTo pos (starEach es X.env)).any (·.1) = false := by rfl) : PE X (.Call (.Name x p) (e :: es) [] pos) (tCall2S i f1 f2 sp E t) := by
  refine ⟨fun pins s σ H Q I h => ?_⟩
  obtain ⟨hs, ht⟩ := h
  rcases hs with hs | hs
  · refine wpAny_Call_Name_kw (thn ((pe_var (pos := p) hN hv hdb hcd).run pins s σ H (fun v H1 => v = .ref f1 ∧ H1 = H) I ⟨.ref f1, hs, rfl, rfl⟩) fun u s1 ⟨v, H1, I1, r1, q1⟩ => ?_)
    obtain ⟨rfl, rfl⟩ := q1
    cases r1
    exact PySem.W.callWith_K (h₀ := X.base) I.ok.mod.kin hk1 (thn (ha.run pos pins s1 σ _ _ I1 ht) fun us s2 ⟨vs, H2, I2, r, q⟩ => ⟨I2.kIn, run_fnS F1 hr1 hb1 (hx σ) I2 r q⟩) he hpl
  · refine wpAny_Call_Name_kw (thn ((pe_var (pos := p) hN hv hdb hcd).run pins s σ H (fun v H1 => v = .ref f2 ∧ H1 = H) I ⟨.ref f2, hs, rfl, rfl⟩) fun u s1 ⟨v, H1, I1, r1, q1⟩ => ?_)
    obtain ⟨rfl, rfl⟩ := q1
    cases r1
    exact PySem.W.callWith_K (h₀ := X.base) I.ok.mod.kin hk2 (thn (ha.run pos pins s1 σ _ _ I1 ht) fun us s2 ⟨vs, H2, I2, r, q⟩ => ⟨I2.kIn, run_fnS F2 hr2 hb2 (hx σ) I2 r q⟩) he hpl
end

/-! ### xs == [], xs != [] -/
section
open PySem.Spec PyProof.Rows
variable {X : Cx}
def rNil (K : PySem.W.Frag) (neg : Bool) : R2 := fun x y H Q => Wd (∃ (a b : Addr) (xs : List V), x = .ref a ∧ y = .ref b ∧ SqL K H a xs ∧ SqL K H b [] ∧ Q (.bl (if neg then !xs.isEmpty else xs.isEmpty)) H)
theorem nil_sizes {xs : List V} {us ws : List Value} (r1 : Vals xs us) (r2 : Vals [] ws) : us.toArray.size = xs.length ∧ ws.toArray.size = 0 := by
  cases r2
  exact ⟨by rw [List.size_toArray, r1.length], rfl⟩
theorem op_eqNil (hu : X.A.units + 64 < cLine) : OpR X (compareOp .Eq) (rNil X.K false) := by
  intro pins s σ H x y v u Q I rx ry h
  obtain ⟨a, b, xs, rfl, rfl, ha, hb, q⟩ := h.ok
  cases rx
  cases ry
  obtain ⟨us, r1, p1, _⟩ := I.list ha
  obtain ⟨ws, r2, p2, _⟩ := I.list hb
  obtain ⟨e1, e2⟩ := nil_sizes r1 r2
  cases xs with
  | nil =>
    have k := SeqAt.RcAt.lists (A := X.A) (e := fun _ => true) p1.isList p2.isList (by rw [e1, e2]; rfl) (by omega) (fun j h1 h2 => by omega)
    refine k X.prog X.w _ _ ?_
    rw [show ((List.range us.toArray.size).all fun _ => true) = true from List.all_eq_true.mpr fun _ _ => rfl]
    exact ⟨.bl true, H, I, rfl, q⟩
  | cons z zs =>
    have k := SeqAt.RcAt.lists_lengths (A := X.A) p1.isList p2.isList (by rw [e1, e2]; rfl) (by omega)
    exact k X.prog X.w _ _ ⟨.bl false, H, I, rfl, q⟩
theorem op_neNil (hu : X.A.units + 64 < cLine) : OpR X (compareOp .NotEq) (rNil X.K true) := by
  intro pins s σ H x y v u Q I rx ry h
  obtain ⟨a, b, xs, rfl, rfl, ha, hb, q⟩ := h.ok
  cases rx
  cases ry
  obtain ⟨us, r1, p1, _⟩ := I.list ha
  obtain ⟨ws, r2, p2, _⟩ := I.list hb
  obtain ⟨e1, e2⟩ := nil_sizes r1 r2
  cases xs with
  | nil =>
    have k := SeqAt.RcNeAt.lists (A := X.A) (e := fun _ => true) p1.isList p2.isList (by rw [e1, e2]; rfl) (by omega) (fun j h1 h2 => by omega)
    refine k X.prog X.w _ _ ?_
    rw [show ((List.range us.toArray.size).all fun _ => true) = true from List.all_eq_true.mpr fun _ _ => rfl]
    exact ⟨.bl false, H, I, rfl, q⟩
  | cons z zs =>
    have k := SeqAt.RcNeAt.lists_lengths (A := X.A) p1.isList p2.isList (by rw [e1, e2]; rfl) (by omega)
    exact k X.prog X.w _ _ ⟨.bl true, H, I, rfl, q⟩
end

/-! ### the hashes of two pairs of small numbers differ: plain law -/
namespace TH
def m : Nat := 2 ^ 64
def P1 : Nat := 11400714785074694791
def P2 : Nat := 14029467366897019727
def P5 : Nat := 2870177450012600261
def i1 : Nat := 614540362697595703
def i2 : Nat := 839798700976720815
def rot (x : Nat) : Nat := (x * 2 ^ 31) % 2 ^ 64 + x / 2 ^ 33
def unrot (y : Nat) : Nat := (y * 2 ^ 33) % 2 ^ 64 + y / 2 ^ 31
theorem rot_eq {a b : Nat} (hb : b < 2 ^ 33) : rot (2 ^ 33 * a + b) = 2 ^ 31 * b + a := by
  unfold rot
  have h1 : (2 ^ 33 * a + b) * 2 ^ 31 % 2 ^ 64 = 2 ^ 31 * b := by omega
  have h2 : (2 ^ 33 * a + b) / 2 ^ 33 = a := by omega
  rw [h1, h2]
theorem split33 {x : Nat} (h : x < 2 ^ 64) : ∃ a b : Nat, x = 2 ^ 33 * a + b ∧ b < 2 ^ 33 ∧ a < 2 ^ 31 := ⟨x / 2 ^ 33, x % 2 ^ 33, by omega, by omega, by omega⟩
theorem rot_lt {x : Nat} (h : x < 2 ^ 64) : rot x < 2 ^ 64 := by
  obtain ⟨a, b, rfl, hb, ha⟩ := split33 h
  rw [rot_eq hb]
  omega
theorem unrot_rot {x : Nat} (h : x < 2 ^ 64) : unrot (rot x) = x := by
  obtain ⟨a, b, rfl, hb, ha⟩ := split33 h
  rw [rot_eq hb]
  unfold unrot
  have h1 : (2 ^ 31 * b + a) * 2 ^ 33 % 2 ^ 64 = 2 ^ 33 * a := by omega
  have h2 : (2 ^ 31 * b + a) / 2 ^ 31 = b := by omega
  rw [h1, h2]
theorem rot_add {x y d : Nat} (hx : x < 2 ^ 64) (hy : y < 2 ^ 64) (hd : d < 2 ^ 64) (e : x = (y + d) % 2 ^ 64) :
    ∃ c c2 : Nat, c ≤ 1 ∧ c2 ≤ 1 ∧ (rot x + c2 * 2 ^ 31) % 2 ^ 64 = (rot y + rot d + c) % 2 ^ 64 := by
  obtain ⟨ya, yb, rfl, hyb, hya⟩ := split33 hy
  obtain ⟨da, db, rfl, hdb, hda⟩ := split33 hd
  obtain ⟨xa, xb, rfl, hxb, hxa⟩ := split33 hx
  rw [rot_eq hyb, rot_eq hdb, rot_eq hxb]
  obtain ⟨q, hq⟩ : ∃ q, 2 ^ 33 * ya + yb + (2 ^ 33 * da + db) = 2 ^ 64 * q + (2 ^ 33 * xa + xb) := ⟨(2 ^ 33 * ya + yb + (2 ^ 33 * da + db)) / 2 ^ 64, by omega⟩
  clear e hx hy hd
  have q1 : q ≤ 1 := by omega
  by_cases c : yb + db < 2 ^ 33
  · refine ⟨0, q, by omega, q1, ?_⟩
    have e1 : xb = yb + db := by omega
    have e2 : ya + da = 2 ^ 31 * q + xa := by omega
    rw [e1]
    have : 2 ^ 31 * (yb + db) + xa + q * 2 ^ 31 = 2 ^ 31 * yb + ya + (2 ^ 31 * db + da) + 0 := by omega
    rw [this]
  · refine ⟨1, q, by omega, q1, ?_⟩
    have e1 : xb + 2 ^ 33 = yb + db := by omega
    have e2 : ya + da + 1 = 2 ^ 31 * q + xa := by omega
    have : 2 ^ 31 * xb + xa + q * 2 ^ 31 + 2 ^ 64 = 2 ^ 31 * yb + ya + (2 ^ 31 * db + da) + 1 := by omega
    rw [← this, Nat.add_mod_right]
def lane (acc h : Nat) : Nat := rot ((acc + h * P2) % 2 ^ 64) * P1 % 2 ^ 64
/-- what a step of d makes of the first lane -/
def zed (D c c2 : Nat) : Nat := (rot D + c + (2 ^ 64 - c2 * 2 ^ 31)) * P1 % 2 ^ 64
theorem lane_lt (acc h : Nat) : lane acc h < 2 ^ 64 := Nat.mod_lt _ (by decide)
theorem step1 {rx rx' rD c c2 : Nat} (hc2 : c2 ≤ 1) (h : (rx + c2 * 2 ^ 31) % 2 ^ 64 = (rx' + rD + c) % 2 ^ 64) :
    (rx * P1 % 2 ^ 64) % 2 ^ 64 = (rx' * P1 % 2 ^ 64 + (rD + c + (2 ^ 64 - c2 * 2 ^ 31)) * P1 % 2 ^ 64) % 2 ^ 64 := by
  unfold P1
  have h1 : (rx + 2 ^ 64) % 2 ^ 64 = (rx' + (rD + c + (2 ^ 64 - c2 * 2 ^ 31))) % 2 ^ 64 := by omega
  generalize rD + c + (2 ^ 64 - c2 * 2 ^ 31) = t at *
  omega
/-- the second lanes: how they differ -/
theorem lanes {d n n' e : Nat} : ∃ c c2 : Nat, c ≤ 1 ∧ c2 ≤ 1 ∧
    ((lane P5 (d + e) + n * P2) % 2 ^ 64 + n' * P2) % 2 ^ 64 = ((lane P5 d + n' * P2) % 2 ^ 64 + zed (e * P2 % 2 ^ 64) c c2 + n * P2) % 2 ^ 64 := by
  have hx : ((P5 + (d + e) * P2) % 2 ^ 64) = ((P5 + d * P2) % 2 ^ 64 + e * P2 % 2 ^ 64) % 2 ^ 64 := by
    rw [Nat.add_mul, ← Nat.add_assoc]
    exact Nat.add_mod _ _ _
  obtain ⟨c, c2, h1, h2, hr⟩ := rot_add (Nat.mod_lt _ (by decide)) (Nat.mod_lt _ (by decide)) (Nat.mod_lt _ (by decide)) hx
  refine ⟨c, c2, h1, h2, ?_⟩
  have s1 := step1 h2 hr
  unfold lane zed
  generalize rot ((P5 + (d + e) * P2) % 2 ^ 64) * P1 % 2 ^ 64 = a at *
  generalize rot ((P5 + d * P2) % 2 ^ 64) * P1 % 2 ^ 64 = a' at *
  generalize (rot (e * P2 % 2 ^ 64) + c + (2 ^ 64 - c2 * 2 ^ 31)) * P1 % 2 ^ 64 = z at *
  unfold P2
  clear hx hr
  omega
def CC : Nat := 2870177450013471924
def GG : Nat := 1546275797
def fin (acc : Nat) : Int := if (acc + CC) % 2 ^ 64 = 2 ^ 64 - 1 then 1546275796 else if (acc + CC) % 2 ^ 64 < 2 ^ 63 then (((acc + CC) % 2 ^ 64 : Nat) : Int) else (((acc + CC) % 2 ^ 64 : Nat) : Int) - 2 ^ 64
theorem fin_eq {a b : Nat} (ha : a < 2 ^ 64) (hb : b < 2 ^ 64) (h : fin a = fin b) : (a + 0) % 2 ^ 64 = b ∨ (a + GG) % 2 ^ 64 = b ∨ (b + GG) % 2 ^ 64 = a := by
  unfold fin CC at h
  unfold GG
  split at h <;> (try split at h) <;> (try split at h) <;> (try split at h) <;> omega
theorem unlane {ru ru' g : Nat} (h : (ru * P1 % 2 ^ 64 + g) % 2 ^ 64 = ru' * P1 % 2 ^ 64) : (ru + g * i1) % 2 ^ 64 = ru' % 2 ^ 64 := by
  unfold P1 at h
  unfold i1
  omega
/-- what the rotation of the difference is -/
def up (c c2 : Nat) : Nat := (c2 * 2 ^ 31 + (2 ^ 64 - c) + GG * i1) % 2 ^ 64
def dn (c c2 : Nat) : Nat := (c2 * 2 ^ 31 + (2 ^ 64 - c) + (2 ^ 64 - GG * i1 % 2 ^ 64)) % 2 ^ 64
def diffs : List Nat := [0, unrot (up 0 0), unrot (up 0 1), unrot (up 1 0), unrot (up 1 1), unrot (dn 0 0), unrot (dn 0 1), unrot (dn 1 0), unrot (dn 1 1)]
theorem du_in {u u' : Nat} (hu : u < 2 ^ 64) (hu' : u' < 2 ^ 64) (h : fin (rot u * P1 % 2 ^ 64) = fin (rot u' * P1 % 2 ^ 64)) : (u + (2 ^ 64 - u')) % 2 ^ 64 ∈ diffs := by
  have r1 := rot_lt hu
  have r2 := rot_lt hu'
  have hD : (u + (2 ^ 64 - u')) % 2 ^ 64 < 2 ^ 64 := Nat.mod_lt _ (by decide)
  obtain ⟨c, c2, h1, h2, hr⟩ := rot_add hu hu' hD (by omega)
  have r3 := rot_lt hD
  rcases fin_eq (Nat.mod_lt _ (by decide)) (Nat.mod_lt _ (by decide)) h with e | e | e
  · have e := unlane e
    have : rot u = rot u' := by omega
    have := congrArg unrot this
    rw [unrot_rot hu, unrot_rot hu'] at this
    subst this
    have : (u + (2 ^ 64 - u)) % 2 ^ 64 = 0 := by omega
    rw [this]
    exact List.mem_cons_self
  · have e := unlane e
    have k : rot ((u + (2 ^ 64 - u')) % 2 ^ 64) = dn c c2 := by
      unfold dn
      generalize GG * i1 = g at *
      omega
    rw [← unrot_rot hD, k]
    have hc : c = 0 ∨ c = 1 := by omega
    have hc2 : c2 = 0 ∨ c2 = 1 := by omega
    unfold diffs
    rcases hc with rfl | rfl <;> rcases hc2 with rfl | rfl <;> simp
  · have e := unlane e
    have k : rot ((u + (2 ^ 64 - u')) % 2 ^ 64) = up c c2 := by
      unfold up
      generalize GG * i1 = g at *
      omega
    rw [← unrot_rot hD, k]
    have hc : c = 0 ∨ c = 1 := by omega
    have hc2 : c2 = 0 ∨ c2 = 1 := by omega
    unfold diffs
    rcases hc with rfl | rfl <;> rcases hc2 with rfl | rfl <;> simp
def yv (F Z : Nat) : Nat := (F + (2 ^ 64 - Z)) % 2 ^ 64 * i2 % 2 ^ 64
def far (y : Nat) : Bool := decide (1000000 < y) && decide (y + 1000000 < 2 ^ 64)
def chk1 (e c c2 : Nat) : Bool := diffs.all fun F => far (yv F (zed (e * P2 % 2 ^ 64) c c2))
theorem chk_all : ((List.range 1000).all fun i => chk1 (i + 1) 0 0 && chk1 (i + 1) 0 1 && chk1 (i + 1) 1 0 && chk1 (i + 1) 1 1) = true := by decide +kernel
theorem chk_0 : (diffs.tail.all fun F => far (yv F 0)) = true := by decide +kernel
theorem yv_eq {F Z n n' : Nat} (hZ : Z < 2 ^ 64) (h : (F + n' * P2) % 2 ^ 64 = (Z + n * P2) % 2 ^ 64) : (yv F Z + n') % 2 ^ 64 = n % 2 ^ 64 := by
  have h1 : ((F + (2 ^ 64 - Z)) % 2 ^ 64 + n' * P2) % 2 ^ 64 = (n * P2) % 2 ^ 64 := by
    unfold P2 at *
    omega
  unfold yv
  generalize (F + (2 ^ 64 - Z)) % 2 ^ 64 = x at *
  unfold P2 at h1
  unfold i2
  omega
theorem far_no {F Z n n' : Nat} (hZ : Z < 2 ^ 64) (h : (F + n' * P2) % 2 ^ 64 = (Z + n * P2) % 2 ^ 64) (hn : n ≤ 1000000) (hn' : n' ≤ 1000000) : far (yv F Z) = false := by
  have e := yv_eq hZ h
  have hy : yv F Z < 2 ^ 64 := Nat.mod_lt _ (by decide)
  cases c : far (yv F Z) with
  | false => rfl
  | true =>
    unfold far at c
    rw [Bool.and_eq_true, decide_eq_true_iff, decide_eq_true_iff] at c
    omega
theorem chk_at {e c c2 : Nat} (h1 : 1 ≤ e) (h2 : e ≤ 1000) (hc : c ≤ 1) (hc2 : c2 ≤ 1) : chk1 e c c2 = true := by
  have h := List.all_eq_true.mp chk_all (e - 1) (List.mem_range.mpr (by omega))
  rw [show e - 1 + 1 = e by omega] at h
  simp only [Bool.and_eq_true] at h
  have hc : c = 0 ∨ c = 1 := by omega
  have hc2 : c2 = 0 ∨ c2 = 1 := by omega
  rcases hc with rfl | rfl <;> rcases hc2 with rfl | rfl
  · exact h.1.1.1
  · exact h.1.1.2
  · exact h.1.2
  · exact h.2
/-- the hash of the pair (d, n) -/
def hash2 (d n : Nat) : Int := fin (lane (lane P5 d) n)
theorem hash2_up {d e n n' : Nat} (he : e ≤ 1000) (hn : n ≤ 1000000) (hn' : n' ≤ 1000000) (h : hash2 (d + e) n = hash2 d n') : e = 0 ∧ n = n' := by
  unfold hash2 at h
  have hu : (lane P5 (d + e) + n * P2) % 2 ^ 64 < 2 ^ 64 := Nat.mod_lt _ (by decide)
  have hu' : (lane P5 d + n' * P2) % 2 ^ 64 < 2 ^ 64 := Nat.mod_lt _ (by decide)
  have hF := du_in hu hu' h
  have hu2 : (lane P5 (d + e) + n * P2) % 2 ^ 64 % 2 ^ 64 = (lane P5 (d + e) + n * P2) % 2 ^ 64 := Nat.mod_mod _ _
  by_cases c0 : e = 0
  · subst c0
    refine ⟨rfl, ?_⟩
    rw [Nat.add_zero] at *
    have cong : ((((lane P5 d + n * P2) % 2 ^ 64) + (2 ^ 64 - (lane P5 d + n' * P2) % 2 ^ 64)) % 2 ^ 64 + n' * P2) % 2 ^ 64 = (0 + n * P2) % 2 ^ 64 := by
      generalize lane P5 d = a at *
      unfold P2
      clear h hF hu2 hu hu'
      omega
    generalize (((lane P5 d + n * P2) % 2 ^ 64) + (2 ^ 64 - (lane P5 d + n' * P2) % 2 ^ 64)) % 2 ^ 64 = F at *
    rcases List.mem_cons.mp (show F ∈ 0 :: diffs.tail from hF) with rfl | hF
    · have e := yv_eq (by decide) cong
      have y0 : yv 0 0 = 0 := by decide +kernel
      rw [y0] at e
      omega
    · have f := far_no (by decide) cong hn hn'
      have g := List.all_eq_true.mp chk_0 F hF
      rw [f] at g
      cases g
  · obtain ⟨c, c2, h1, h2, hl⟩ := lanes (d := d) (n := n) (n' := n') (e := e)
    have hz : zed (e * P2 % 2 ^ 64) c c2 < 2 ^ 64 := Nat.mod_lt _ (by decide)
    have cong : ((((lane P5 (d + e) + n * P2) % 2 ^ 64) + (2 ^ 64 - (lane P5 d + n' * P2) % 2 ^ 64)) % 2 ^ 64 + n' * P2) % 2 ^ 64 = (zed (e * P2 % 2 ^ 64) c c2 + n * P2) % 2 ^ 64 := by
      clear h hF hu2
      generalize (lane P5 (d + e) + n * P2) % 2 ^ 64 = u at *
      generalize (lane P5 d + n' * P2) % 2 ^ 64 = u' at *
      generalize zed (e * P2 % 2 ^ 64) c c2 = z at *
      unfold P2 at *
      omega
    have f := far_no hz cong hn hn'
    have g := List.all_eq_true.mp (chk_at (by omega) he h1 h2) _ hF
    rw [f] at g
    cases g
theorem hash2_inj {d d' n n' : Nat} (h1 : d ≤ d' + 1000) (h2 : d' ≤ d + 1000) (hn : n ≤ 1000000) (hn' : n' ≤ 1000000) (h : hash2 d n = hash2 d' n') : d = d' ∧ n = n' := by
  by_cases c : d' ≤ d
  · obtain ⟨e, rfl⟩ := Nat.exists_eq_add_of_le c
    obtain ⟨a, b⟩ := hash2_up (by omega) hn hn' h
    exact ⟨by omega, b⟩
  · obtain ⟨e, rfl⟩ := Nat.exists_eq_add_of_le (show d ≤ d' by omega)
    obtain ⟨a, b⟩ := hash2_up (by omega) hn' hn h.symm
    exact ⟨by omega, b.symm⟩
end TH

/-! ### dict(d), d with pairs as keys -/
section
open PySem PySem.Spec PyProof.Rows
theorem hash_small {d : Int} (h0 : 0 ≤ d) (h1 : d < 2 ^ 60) : hashInt d = d := by
  have e : rawHash d = d := by
    unfold rawHash
    have h2 : ((d.natAbs : Nat) : Int) = d := by omega
    have h3 : d % ((2 ^ 61 - 1 : Nat) : Int) = d := Int.emod_eq_of_lt h0 (by omega)
    have h4 : (d == -1) = false := by simp; omega
    simp only [h2, h3, show ¬ d < 0 by omega, if_false, h4, Bool.false_eq_true]
  unfold hashInt
  rw [e]
  have : (d == -1) = false := by simp; omega
  rw [this]
  rfl
theorem hc_two : (2 ^^^ (2870177450012600261 ^^^ 3527539) : Nat) = TH.CC := by decide +kernel
def thTail (acc : Nat) : Int := if acc == 2 ^ 64 - 1 then 1546275796 else if acc < 2 ^ 63 then acc else (acc : Int) - ((2 ^ 64 : Nat) : Int)
def thStep (acc : Nat) (h : Int) : Nat :=
  let acc := (acc + (h % ((2 ^ 64 : Nat) : Int)).toNat * 14029467366897019727) % 2 ^ 64
  let acc := (acc * 2 ^ 31) % 2 ^ 64 + acc / 2 ^ 33
  (acc * 11400714785074694791) % 2 ^ 64
theorem th_gen (hs : List Int) : Builtin.Tuple.tupleHashOf hs = thTail ((hs.foldl thStep 2870177450012600261 + (hs.length ^^^ (2870177450012600261 ^^^ 3527539))) % 2 ^ 64) := by
  unfold Builtin.Tuple.tupleHashOf thTail
  have e : thStep = fun acc h => (let m : Nat := 2 ^ 64
    let acc := (acc + (h % (m : Int)).toNat * 14029467366897019727) % m
    let acc := (acc * 2 ^ 31) % m + acc / 2 ^ 33
    (acc * 11400714785074694791) % m) := by
    funext acc h
    unfold thStep
    rfl
  rw [e]
theorem th_step (acc : Nat) (h : Int) : thStep acc h = TH.lane acc (h % ((2 ^ 64 : Nat) : Int)).toNat := by
  unfold thStep TH.lane TH.rot TH.P1 TH.P2
  generalize (h % ((2 ^ 64 : Nat) : Int)).toNat = x
  generalize (acc + x * 14029467366897019727) % 2 ^ 64 = y
  rfl
theorem th_tail (acc : Nat) : thTail ((acc + TH.CC) % 2 ^ 64) = TH.fin acc := by
  unfold thTail TH.fin
  generalize (acc + TH.CC) % 2 ^ 64 = x
  by_cases h : x = 2 ^ 64 - 1
  · rw [if_pos h, if_pos (beq_iff_eq.mpr h)]
  · rw [if_neg h, if_neg fun z => h (beq_iff_eq.mp z)]
    rfl
theorem th2 (a b : Int) : Builtin.Tuple.tupleHashOf [a, b] = TH.fin (TH.lane (TH.lane TH.P5 (a % ((2 ^ 64 : Nat) : Int)).toNat) (b % ((2 ^ 64 : Nat) : Int)).toNat) := by
  have l : ([a, b] : List Int).length = 2 := rfl
  have p5 : (2870177450012600261 : Nat) = TH.P5 := by unfold TH.P5; rfl
  rw [th_gen, List.foldl_cons, List.foldl_cons, List.foldl_nil, l, hc_two, th_tail, th_step, th_step, p5]
theorem reduce_fin (acc : Nat) : reduceHash (TH.fin acc) = TH.fin acc := by
  have h1 : -(2 ^ 63 : Int) ≤ TH.fin acc ∧ TH.fin acc < 2 ^ 63 ∧ TH.fin acc ≠ -1 := by
    unfold TH.fin
    have hx : (acc + TH.CC) % 2 ^ 64 < 2 ^ 64 := Nat.mod_lt _ (by decide)
    generalize (acc + TH.CC) % 2 ^ 64 = x at *
    split
    · decide
    · split <;> omega
  generalize TH.fin acc = i at *
  unfold reduceHash
  have c1 : (decide (-(2 ^ 63 : Int) ≤ i) && decide (i < 2 ^ 63)) = true := by
    rw [decide_eq_true h1.1, decide_eq_true h1.2.1]
    rfl
  rw [if_pos c1, if_neg]
  simp
  exact h1.2.2
theorem key_hash {P : Program} {w : World} {d n : Int} (hd0 : 0 ≤ d) (hd1 : d < 2 ^ 60) (hn0 : 0 ≤ n) (hn1 : n < 2 ^ 60) : (tupleKind (mixKind P w)).hash [Sum.inl d, Sum.inl n] = TH.hash2 d.toNat n.toNat := by
  show reduceHash (Builtin.Tuple.tupleHashOf [hashInt d, hashInt n]) = _
  rw [hash_small hd0 hd1, hash_small hn0 hn1, th2, reduce_fin]
  unfold TH.hash2
  have l1 : (d % ((2 ^ 64 : Nat) : Int)).toNat = d.toNat := by omega
  have l2 : (n % ((2 ^ 64 : Nat) : Int)).toNat = n.toNat := by omega
  rw [l1, l2]
end
section
open PySem PySem.Spec PyProof.Rows
section
variable {prog : Program} {w : World} {K : Type} [DecidableEq K] {knd : HeapKind prog w K} {A : Around} {E : Value → Shared → Prop} {s : Shared}
theorem kt_call_dictT (st : knd.Stays) {o : Addr} {more : List (K × Addr × Value)} {Q : Value → Shared → Prop} (hu : knd.room A.in1.in1) (hoS : (o == sysModules) = false) (ho : s.heap.DictOfH knd o more) (hap : (more.map fun x => knd.hash x.1).Nodup) (hsz : more.length ≤ sizeLine)
    (h : ∀ h', h'.DictOfH knd s.heap.objs.size more → Heap.SameBut s.heap.objs.size (s.heap.push { cls := .type "dict", data := .dict #[] }) h' → Q (.ref s.heap.objs.size) { s with heap := h' }) :
    wpAny (model prog w) A (call (.type "dict") [.ref o]) Q E s := by
  refine callType_codes (Q₁ := fun obj s₁ => obj = .ref s.heap.objs.size ∧ s₁ = { s with heap := s.heap.push { cls := .type "dict", data := .dict #[] } }) F.kt_called_dict (F.kt_typeCall_dict_1 _) F.entry_dict_init (kt_code_dict_new _ ⟨rfl, rfl⟩) ?_
  rintro obj s₁ ⟨rfl, rfl⟩
  have hnew : (s.heap.push { cls := .type "dict", data := .dict #[] }).DictOfH knd s.heap.objs.size [] := Heap.DictOfH.new s.heap
  have hty := PySem.keyed_apart st ho
  obtain ⟨oo, es, ep, ho1, hc, hdat, he, his, hn⟩ := id ho
  have hdo : s.heap.objs.size ≠ o := fun e => absurd (Heap.lt_size ho1) (by rw [e]; exact Nat.lt_irrefl _)
  have kp : ∀ b u, s.heap.get? b = some u → (s.heap.push { cls := .type "dict", data := .dict #[] }).get? b = some u := fun b u e => Heap.get?_push_of_some _ e
  have ho' : (s.heap.push { cls := .type "dict", data := .dict #[] }).DictOfH knd o more := ⟨oo, es, ep, kp _ _ ho1, hc, hdat, he, fun x hx => st.stays (fun b o _ _ e _ => kp b o e) (his x hx), hn⟩
  refine ⟨hnew.typeIs, F.args_dict_init_2 _ _, ?_⟩
  unfold Builtin.«dict.__init__»
  refine wpAny_bind ?_
  unfold Builtin.Dict.selfAndRest
  refine wpAny_bind (wpAny_notOrdered_dict hnew.typeIs ?_)
  show wpAny _ _ (pure (s.heap.objs.size, [Value.ref o])) _ _ _
  refine wpAny_pure ?_
  show wpAny _ _ (Builtin.Dict.updateFrom "dict.__init__" s.heap.objs.size (.ref o) [] .none) _ _ _
  unfold Builtin.Dict.updateFrom
  refine wpAny_bind (wpAny_typeOf ho'.typeIs ?_)
  rw [if_neg (by decide)]
  refine wpAny_bind ?_
  unfold Builtin.Dict.merge
  refine wpAny_bind ?_
  unfold Builtin.Dict.readDirectly
  refine wpAny_bind (wpAny_isInstance ho'.typeIs isSubtype_dict_dict ?_)
  simp only [Bool.not_true, Bool.false_eq_true, if_false]
  refine wpAny_bind (wpAny_specialOf ho'.typeIs F.slot_dict_iter.lookup (wpAny_pure ?_))
  simp only [beq_self_eq_true, if_true]
  refine wpAny_bind (wpAny_pure ?_)
  refine wpAny_mergeDict_heap (hsz := by simpa using hsz) hu hdo hoS hnew ho' (.inr ⟨PySem.keyed_apart st ho', hap⟩) fun h' hd' _ hs' => ?_
  show wpAny _ _ (Builtin.Dict.addKeywords s.heap.objs.size [] >>= _) _ _ _
  rw [storedAllH_nil_of_nodup more hn] at hd'
  exact wpAny_bind (wpAny_pure (wpAny_pure ⟨rfl, h h' hd' hs'⟩))
end
/-- the hashes of the keys are apart -/
def HAp (kvs : List (List Key × V)) : Prop := ∀ (P : Program) (w : World), (kvs.map fun p => (tupleKind (mixKind P w)).hash p.1).Nodup
section
variable {X : Cx}
theorem call_dictT (hu : X.A.units + 64 < cLine) : CallR X (.type "dict") (fun xs H Q => ∃ (a : Addr) (kvs : List (List Key × V)), xs = [.ref a] ∧ Rd H a (.dT kvs) ∧ HAp kvs ∧ ∀ p, H p = none → Q (.ref p) (upd H p (.dT kvs))) := by
  intro pins s σ H xs us Q I r q
  obtain ⟨a, kvs, ex, hd, hap, q⟩ := q
  subst ex
  obtain ⟨u, eu, rx⟩ := vals1 r
  subst eu
  cases rx
  obtain ⟨z, lo, ks, rel, dd⟩ := dt_rd I.hok hd
  have el : ks.map (fun x => (tupleKind (mixKind X.prog X.w)).hash x.1) = kvs.map fun p => (tupleKind (mixKind X.prog X.w)).hash p.1 := by
    clear hap q dd z hd
    induction rel with
    | nil => rfl
    | cons h t ih => rw [List.map_cons, List.map_cons, ih, h.1]
  have ln : kvs.length = ks.length := rel.length
  refine kt_call_dictT tupleKind_stays (by show X.A.units + 1 + 1 < cLine; omega) lo dd (by rw [el]; exact hap _ _) (by rw [← ln]; exact z) fun h' d' hs => ?_
  have hm : (s.heap.objs.size == sysModules) = false := beq_eq_false_iff_ne.mpr (Nat.ne_of_gt I.big)
  obtain ⟨o, es, ep, h1, h2, h3, h4, h5, h6⟩ := d'
  have hn : H s.heap.objs.size = none := I.hok.fresh (Nat.le_refl _)
  have rel2 : KT (upd H s.heap.objs.size (.dT kvs)) kvs ks := rel.keeps fun b ys e => by rw [upd_ne (ne_of_none e hn)]; exact e
  exact ⟨.ref s.heap.objs.size, upd H s.heap.objs.size (.dT kvs), I.laid (t' := s.toks) (fun b u e => (hs.2 b (Nat.ne_of_lt (Heap.lt_size e))).trans (Heap.get?_push_of_some _ e)) (Nat.le_refl _)
    (show ObjOk X.prog X.w _ _ _ (.dT kvs) from ⟨z, hm, ks, rel2, o, es, ep, h1, h2, h3, h4, h6⟩), rfl, q _ hn⟩
end
end

/-! ### match o: case ['a' | 'b' | 'c', _, n]: .. case ['d', _, m]: .. -/
section
open PySem.Spec PyProof.Rows
variable {X : Cx}
/-- a written text as a pattern, beside a flat value -/
theorem mp_val {pins : List (Addr × Obj)} {σ : L2.St} {H : Hp} {s : Shared} {v0 : V} {u0 : Value} {z : Str} {j : Nat} {q r : Pos} {Q : Option (List (Str × Value)) → Shared → Prop} (I : Inv X pins σ H s) (r0 : RelV v0 u0) (fl : flatV v0 = true) (hu : X.A.units + 64 < cLine)
    (h : ∀ s', Inv X pins σ H s' → if eqV v0 (.str z) = true then Q (some []) s' else Q none s') : wpAny (model X.prog X.w) X.A (matchPattern (.MatchValue (.Constant (.str z) j q) r) X.env u0) Q X.xe s := by
  refine wpAny_matchPattern_Value (thn ((pe_str (X := X) (x := z) (j := j) (pos := q)).run pins s σ H (fun v H1 => v = .str z ∧ H1 = H) I ⟨rfl, rfl⟩) fun x s1 ⟨v, H1, I1, r1, q1⟩ => ?_)
  obtain ⟨rfl, rfl⟩ := q1
  obtain ⟨d, hd, e⟩ : ∃ d : PyData, Dp X.K H1 v0 d ∧ d.plain = true ∧ d.depth ≤ 64 ∧ PyData.eqv d (.str z) = eqV v0 (.str z) := by
    cases v0 with
    | non => exact ⟨_, .non, rfl, Nat.le_of_ble_eq_true rfl, rfl⟩
    | bl b => exact ⟨_, .bl b, rfl, Nat.le_of_ble_eq_true rfl, rfl⟩
    | int i => exact ⟨_, .int i, rfl, Nat.le_of_ble_eq_true rfl, rfl⟩
    | str y => exact ⟨_, .str y, rfl, Nat.le_of_ble_eq_true rfl, rfl⟩
    | byt _ => cases fl
    | flt _ => cases fl
    | ref _ => cases fl
    | ty _ => cases fl
  refine thn (op_eqP hu pins s1 σ H1 v0 (.str z) u0 x (fun v H2 => v = .bl (eqV v0 (.str z)) ∧ H2 = H1) I1 r0 r1 ⟨d, .str z, hd, .str z, e.1, rfl, e.2.1, by rw [e.2.2], rfl⟩) fun c s2 ⟨v, H2, I2, r2, q2⟩ => ?_
  obtain ⟨rfl, rfl⟩ := q2
  cases r2
  exact wpAny_truthy_bool (h s2 I2)
variable {te : TE} {e : Expr} {t1 t2 : TS} {b1 b2 : List Stmt} {w1 w2 w3 w4 n1 n2 : Str} {j1 j2 j3 j4 : Nat} {q1 q2 q3 q4 r1 r2 r3 r4 p1 p2 p3 p4 p5 p6 p7 pos : Pos} {i1 i2 : Nat}
def tMatch3 (te : TE) (w1 w2 w3 w4 : Str) (i1 i2 : Nat) (t1 t2 : TS) : TS := fun D σ H => te σ H fun x H1 => ∃ (p : Addr) (v0 v1 v2 : V), x = .ref p ∧ H1 p = some (.tup [v0, v1, v2]) ∧ flatV v0 = true ∧
  if (eqV v0 (.str w1) || eqV v0 (.str w2) || eqV v0 (.str w3)) = true then t1 D (σ.set i1 (some v2)) H1 else if eqV v0 (.str w4) = true then t2 D (σ.set i2 (some v2)) H1 else D.nx σ H1
theorem bind_ok {pins : List (Addr × Obj)} {σ : L2.St} {H : Hp} {s : Shared} {i : Nat} {x : Str} {v : V} {u : Value} {Q : Unit → Shared → Prop} (I : Inv X pins σ H s) (hN : X.N.Nodup) (hi : X.N[i]? = some x) (hx : Loc X.env.scope x)
    (hf : X.fn x = true ∨ X.env.scope.names.lookup x = some .local) (r : RelV v u) (h : ∀ s', Inv X pins (σ.set i (some v)) H s' → Q () s') :
    wpAny (model X.prog X.w) X.A (assignInOrder ([(x, u)].map fun (n, _) => bindName X.env n) ([(x, u)].map (·.2))) Q X.xe s :=
  wpAny_assignInOrder_more (wpAny_bindName (store_ok I hN hi hx r (fun s1 I1 => wpAny_assignInOrder_none (h s1 I1)) hf))
theorem ps_match3 (hc : X.calm = true) (hu : X.A.units + 64 < cLine) (hN : X.N.Nodup) (hi1 : X.N[i1]? = some n1) (hx1 : Loc X.env.scope n1) (hi2 : X.N[i2]? = some n2) (hx2 : Loc X.env.scope n2) (he : PE X e te) (h1 : PSs X b1 t1) (h2 : PSs X b2 t2)
    (hf1 : X.fn n1 = true ∨ X.env.scope.names.lookup n1 = some .local := by first | exact .inl rfl | exact .inr rfl) (hf2 : X.fn n2 = true ∨ X.env.scope.names.lookup n2 = some .local := by first | exact .inl rfl | exact .inr rfl) :
    PS X (.Match e [⟨.MatchSequence [.MatchOr [.MatchValue (.Constant (.str w1) j1 q1) r1, .MatchValue (.Constant (.str w2) j2 q2) r2, .MatchValue (.Constant (.str w3) j3 q3) r3] p1, .MatchAs none none p2, .MatchAs none (some n1) p3] p4, none, b1⟩,
      ⟨.MatchSequence [.MatchValue (.Constant (.str w4) j4 q4) r4, .MatchAs none none p5, .MatchAs none (some n2) p6] p7, none, b2⟩] pos) (tMatch3 te w1 w2 w3 w4 i1 i2 t1 t2) := by
  refine ⟨fun pins s σ H D I h => ?_⟩
  refine wpAny_Match (thn (he.run pins s σ H _ I h) fun u s1 ⟨x, H1, I1, rx, p, v0, v1, v2, ex, hp, fl, q⟩ => ?_)
  subst ex
  obtain rfl : u = Value.ref p := rx
  have hit : ∀ {ps : List Pattern} {pos : Pos} {Q : Option (List (Str × Value)) → Shared → Prop} {s : Shared}, Inv X pins σ H1 s → ps.length = 3 → (∀ u0 u1 u2 s', Inv X pins σ H1 s' → RelV v0 u0 → RelV v1 u1 → RelV v2 u2 → wpAny (model X.prog X.w) X.A (matchEach ps X.env [u0, u1, u2]) Q X.xe s') →
      (ps.findIdx? (·.isStar) = none) → ((ps.all fun p => p.isWildcard || (p.isStar && p.names.isEmpty)) = false) → wpAny (model X.prog X.w) X.A (matchPattern (.MatchSequence ps pos) X.env (.ref p)) Q X.xe s := by
    intro ps pos Q s I hl h3 hs hw
    obtain ⟨its, rv, ht, hz⟩ := I.tuple (SqT.of hp)
    obtain ⟨u0, u1, u2, rfl, a0, a1, a2⟩ : ∃ u0 u1 u2, its = [u0, u1, u2] ∧ RelV v0 u0 ∧ RelV v1 u1 ∧ RelV v2 u2 := by
      cases rv with
      | cons a0 t0 =>
        cases t0 with
        | cons a1 t1 =>
          cases t1 with
          | cons a2 t2 =>
            cases t2
            exact ⟨_, _, _, rfl, a0, a1, a2⟩
    refine matchSeq_tuple_hit ht (show ((3 : Nat) : Int) < 2 ^ 63 by decide) (by rw [hl]; rfl) ?_ hs hw
    rw [hl]
    refine unpackItems_tuple (items := #[u0, u1, u2]) (I.ok.hd hc) ht fun h' hx => ?_
    exact h3 u0 u1 u2 _ (I.kept (t' := s.toks + 1 + 1) fun b o e => hx b o (Nat.ne_of_lt (Heap.lt_size e)) e) a0 a1 a2
  refine wpAny_matchCases_cons (hit I1 rfl ?_ rfl rfl)
  intro u0 u1 u2 s2 I2 a0 a1 a2
  have no : (eqV v0 (.str w1) || eqV v0 (.str w2) || eqV v0 (.str w3)) = false → ∀ s3, Inv X pins σ H1 s3 →
      wpAny (model X.prog X.w) X.A (matchCases [⟨.MatchSequence [.MatchValue (.Constant (.str w4) j4 q4) r4, .MatchAs none none p5, .MatchAs none (some n2) p6] p7, none, b2⟩] X.env (.ref p) false) (SP X pins D) X.xe s3 := by
    intro hn s3 I3
    rw [hn] at q
    refine wpAny_matchCases_cons (hit I3 rfl ?_ rfl rfl)
    intro u0 u1 u2 s4 I4 a0 a1 a2
    refine wpAny_matchEach_cons (mp_val I4 a0 fl hu fun s5 I5 => ?_)
    split
    · next h4 =>
      refine wpAny_matchEach_cons (wpAny_matchPattern_Capture (wpAny_matchEach_cons (wpAny_matchPattern_Capture (wpAny_matchEach_nil ?_))))
      refine bind_ok I5 hN hi2 hx2 hf2 a2 fun s6 I6 => ?_
      rw [h4] at q
      exact h2.run pins s6 _ H1 D I6 q
    · next h4 =>
      rw [if_neg h4] at q
      exact wpAny_matchCases_nil ⟨σ, H1, I5, q⟩
  have yes : (eqV v0 (.str w1) || eqV v0 (.str w2) || eqV v0 (.str w3)) = true → ∀ s3, Inv X pins σ H1 s3 →
      wpAny (model X.prog X.w) X.A (matchEach [.MatchAs none none p2, .MatchAs none (some n1) p3] X.env [u1, u2]) (fun (r' : Option (List (Str × Value))) s₂ => match r' with
        | none => wpAny (model X.prog X.w) X.A (matchCases [⟨.MatchSequence [.MatchValue (.Constant (.str w4) j4 q4) r4, .MatchAs none none p5, .MatchAs none (some n2) p6] p7, none, b2⟩] X.env (.ref p) false) (SP X pins D) X.xe s₂
        | some more => wpAny (model X.prog X.w) X.A (assignInOrder ((([] : List (Str × Value)) ++ more).map fun (n, _) => bindName X.env n) ((([] : List (Str × Value)) ++ more).map (·.2))) (fun _ s₂ => wpAny (model X.prog X.w) X.A (execs b1 X.env) (SP X pins D) X.xe s₂) X.xe s₂) X.xe s3 := by
    intro hy s3 I3
    rw [hy] at q
    refine wpAny_matchEach_cons (wpAny_matchPattern_Capture (wpAny_matchEach_cons (wpAny_matchPattern_Capture (wpAny_matchEach_nil ?_))))
    exact bind_ok I3 hN hi1 hx1 hf1 a2 fun s6 I6 => h1.run pins s6 _ H1 D I6 q
  refine wpAny_matchEach_cons (wpAny_matchPattern_Or (wpAny_matchFirst_cons (mp_val I2 a0 fl hu fun s3 I3 => ?_)))
  split
  · next h4 => exact yes (by rw [h4]; rfl) s3 I3
  · next h4 =>
    refine wpAny_matchFirst_cons (mp_val I3 a0 fl hu fun s5 I5 => ?_)
    split
    · next h5 => exact yes (by rw [h5]; simp) s5 I5
    · next h5 =>
      refine wpAny_matchFirst_cons (mp_val I5 a0 fl hu fun s6 I6 => ?_)
      split
      · next h6 => exact yes (by rw [h6]; simp) s6 I6
      · next h6 => exact wpAny_matchFirst_nil (no (by simp [h4, h5, h6]) s6 I6)
end

/-! ### the law's own helpers: bag, integer, divisor, lowest -/
def spBag (K : PySem.W.Frag) : Sp := fun vs H Q _ => ∃ (a : Addr) (ns : List Int), vs = [.ref a] ∧ SqL K H a (ns.map V.int) ∧ ∀ (g l : Addr) (H' : Hp), Same H H' → H g = none → H l = none → Bag H' g l → Q (.ref g) H'
def spInteger : Sp := fun vs H Q _ => ∃ g l : Addr, vs = [.ref g] ∧ Bag H g l ∧ ∀ (n : Int) (H' : Hp), n.natAbs ≤ 10 ^ 49 → Bag H' g l → Kp g H H' → Q (.int n) H'
def spLowest : Sp := fun vs H Q _ => ∃ t b : Int, vs = [.int t, .int b] ∧ b ≠ 0 ∧ b.natAbs < 2 ^ 9000 ∧ ∀ p, H p = none → Q (.ref p) (upd H p (.tup [.int (Rat.divInt t b).num, .int ((Rat.divInt t b).den : Int)]))
theorem Bag.keep {H H' : Hp} {g l : Addr} (b : Bag H g l) (s : Same H H') : Bag H' g l := by
  obtain ⟨i, r, sd, c, ns, hg, hl, hi⟩ := b
  exact ⟨i, r, sd, c, ns, s _ _ hg, s _ _ hl, hi⟩
theorem Bag.lst {H : Hp} {g l : Addr} (b : Bag H g l) : ∃ xs, H g = some (.lst xs) := by
  obtain ⟨i, r, sd, c, ns, hg, hl, hi⟩ := b
  exact ⟨_, hg⟩
theorem Bag.ne {H : Hp} {g l p : Addr} (b : Bag H g l) (hp : H p = none) : p ≠ g ∧ p ≠ l := by
  obtain ⟨i, r, sd, c, ns, hg, hl, hi⟩ := b
  exact ⟨(ne_of_none hg hp).symm, (ne_of_none hl hp).symm⟩
/-- a bag stands where nothing of it is written -/
theorem Bag.put {H : Hp} {g l p : Addr} {o : HO} (b : Bag H g l) (n : p ≠ g ∧ p ≠ l) : Bag (upd H p o) g l := by
  obtain ⟨i, r, sd, c, ns, hg, hl, hi⟩ := b
  exact ⟨i, r, sd, c, ns, by rw [upd_ne n.1.symm]; exact hg, by rw [upd_ne n.2.symm]; exact hl, hi⟩
theorem Bag.new {H : Hp} {g l p : Addr} {o : HO} (b : Bag H g l) (hp : H p = none) : Bag (upd H p o) g l := b.keep fun c u e => by
  rw [upd_ne (ne_of_none e hp)]
  exact e
theorem Kp.new {g p : Addr} {H H' : Hp} {o : HO} (k : Kp g H H') (hp : H' p = none) : Kp g H (upd H' p o) := fun b u e n => by
  have e1 := k b u e n
  rw [upd_ne (ne_of_none e1 hp)]
  exact e1
theorem Kp.put {g p : Addr} {H H' : Hp} {o : HO} (k : Kp g H H') (hp : H p = none) : Kp g H (upd H' p o) := fun b u e n => by
  rw [upd_ne (ne_of_none e hp)]
  exact k b u e n
theorem Kp.same {g : Addr} {H H' : Hp} (s : Same H H') : Kp g H H' := fun b u e _ => s b u e
theorem Same.new {H : Hp} {p : Addr} {o : HO} (hp : H p = none) : Same H (upd H p o) := fun b u e => by
  rw [upd_ne (ne_of_none e hp)]
  exact e
theorem size_at {c : Int} (h0 : 0 ≤ c) (h6 : c < 6) (hc : c ≠ 0) : ∃ z : Int, atI [V.int 1, V.int 2, V.int 3, V.int 12, V.int 1000, V.int (10 ^ (49 : Int).toNat)] c = some (.int z) ∧ 0 < z ∧ z ≤ 10 ^ 49 := by
  have : c = 1 ∨ c = 2 ∨ c = 3 ∨ c = 4 ∨ c = 5 := by omega
  rcases this with rfl | rfl | rfl | rfl | rfl
  · exact ⟨2, rfl, by decide, by decide⟩
  · exact ⟨3, rfl, by decide, by decide⟩
  · exact ⟨12, rfl, by decide, by decide⟩
  · exact ⟨1000, rfl, by decide, by decide⟩
  · exact ⟨10 ^ 49, rfl, by decide, by decide⟩
theorem big49 : (10 : Nat) ^ 49 < 2 ^ 200 := by decide
theorem pow_mono {a b : Nat} (h : a ≤ b) : (2 : Nat) ^ a ≤ 2 ^ b := Nat.pow_le_pow_right (by decide) h
theorem lt_pow {n a b : Nat} (h : n < 2 ^ a) (hab : a ≤ b) : n < 2 ^ b := Nat.lt_of_lt_of_le h (pow_mono hab)
theorem lt200 {n : Nat} (h : n ≤ 10 ^ 49) : n < 2 ^ 200 := Nat.lt_of_le_of_lt h big49
theorem lt9000 {n : Nat} (h : n ≤ 10 ^ 49) : n < 2 ^ 9000 := lt_pow (lt200 h) (by decide)
def spLaw (K : PySem.W.Frag) : Sp := fun vs H Q _ => ∃ (a : Addr) (ns : List Int), vs = [.ref a] ∧ SqL K H a (ns.map V.int) ∧ ns.length ≤ 63 ∧ ∀ H', Q (.bl true) H'
theorem neD_same {K : PySem.W.Frag} {H : Hp} {p q : Addr} {a b : Int} {Q : VK} (hp : H p = some (.tup [.int a, .int b])) (hq : H q = some (.tup [.int a, .int b])) (h : Q (.bl false) H) : rNeD K (.ref p) (.ref q) H Q := by
  refine ⟨.tuple [.int a, .int b], .tuple [.int a, .int b], .tup (SqT.of hp) (.cons (.int a) (.cons (.int b) .nil)), .tup (SqT.of hq) (.cons (.int a) (.cons (.int b) .nil)), rfl, rfl, ?_⟩
  have e : PyData.eqv (.tuple [.int a, .int b]) (.tuple [.int a, .int b]) = true := by simp [PyData.eqv, PyData.eqvAll]
  rw [e]
  exact h
theorem or_go {K : PySem.W.Frag} {H : Hp} {σ : L2.St} {Q : VK} {n d : Int} (hd : d ≠ 0) (h : ∀ m : Int, m ≠ 0 → (m = n ∨ m = d) → Q (.int m) H) : ∃ k, TruV K (.int n) H k ∧ if k = true then Q (.int n) H else tC (.int d) σ H Q := by
  by_cases e : n = 0
  · exact ⟨false, by rw [e]; rfl, iteF (h d hd (.inr rfl))⟩
  · exact ⟨true, (show true = (n != 0) by simp [e]), iteT (h n e (.inl rfl))⟩
theorem kit_self {K : PySem.W.Frag} {C : Addr} : PySem.W.kitOne K (.ref C) (.ref C) = some true := by simp [PySem.W.kitOne]
def spNumber : Sp := fun vs H Q _ => ∃ n : Int, vs = [.int n] ∧ Q (.bl true) H
section
variable {P : Program} {w : World} {K : PySem.W.Frag} {mg : Str → Option Value} {base : Heap} {A : Ad}
theorem ok_l_bag (T : Txt K mg A) : FnOk P w K mg base CX0 1 A.l_bag A.fd_l_bag P_l_bag (spBag K) := by
  refine T.F_l_bag.ok sc_l_bag (fun vs H Q E h => ?_) (fun cdv Ar outer s H vs Q E hr h => ?_)
  · obtain ⟨a, ns, rfl, _⟩ := h
    rfl
  · obtain ⟨a, ns, rfl, hS, k⟩ := h
    refine ⟨_, (pss_one (ps_ret (pe_lst (pa_cons (pe_callTy call_list_of (by rfl) T.z_list (by decide +kernel) (pa_cons (pv 0) pa_nil)) (pa_cons pe_int (pa_cons pe_int (pa_cons pe_int (pa_cons pe_int pa_nil)))))))), ?_⟩
    refine ⟨_, rfl, a, _, rfl, .inl hS, fun l hl => ⟨by walk_at "fact", fun g hg => ?_⟩⟩
    have nlg : l ≠ g := fun z => by
      rw [z, upd_same] at hg
      cases hg
    have hg0 : H g = none := by
      rw [upd_ne nlg.symm] at hg
      exact hg
    exact k g l _ ((Same.new hl).trans (Same.new hg)) hg0 hl ⟨0, 0, 17, 0, ns, upd_same, by rw [upd_ne nlg]; exact upd_same, by decide⟩
end

theorem Same.at_new {H H' : Hp} {D : Addr} {o : HO} (hD : H D = none) (s : Same H H') : Same H (upd H' D o) := fun b u e => by
  rw [upd_ne (ne_of_none e hD)]
  exact s b u e
/-- [.. for .. in a list], its parts keep what stands -/
theorem lc_same {K : PySem.W.Frag} {a : Addr} {xs : List V} {g : TG} {tt : TT} {te : TE} {vs : List Nat} {σ : L2.St} {H1 : Hp} {D : Addr} {Qd : Hp → Prop} (f : Nat → V) (hl : H1 a = some (.lst xs)) (hz : xs.length ≤ 1000) (hD : H1 D = none)
    (hs : ∀ i x H' (N : VK) (M : Hp → Prop), xs[i]? = some x → Same H1 H' → (∀ H4, Same H' H4 → N (f i) H4) → g x (wipe σ vs) H' fun σ2 H2 => wipe σ2 vs = wipe σ vs ∧ tt σ2 H2 fun b H3 => if b = true then te σ2 H3 N else M H3)
    (hd : ∀ H', Same H1 H' → H' D = some (.lst ((List.range xs.length).map f)) → Qd H') :
    ∃ W : Nat → Nat → Hp → Prop, (∃ m, W 0 m (upd H1 D (.lst []))) ∧ ∀ i m H, W i m H →
      ((Itl K a).stop i H ∧ Qd H) ∨ ((Itl K a).go i H ∧ ∃ Nx : Hp → Prop, (∀ H', Nx H' → ∃ m', m' < m ∧ W (i + 1) m' H') ∧ ∀ x H', (Itl K a).yld i H x H' → g x (wipe σ vs) H' fun σ2 H2 => wipe σ2 vs = wipe σ vs ∧ tt σ2 H2 fun b H3 =>
        if b = true then te σ2 H3 fun y H4 => ∃ acc, H4 D = some (.lst acc) ∧ acc.length < sizeLine ∧ Nx (upd H4 D (.lst (acc ++ [y]))) else Nx H3) := by
  refine lc_list (K := K) (a := a) (xs := xs) (fun i H' => Wd (Same H1 H' ∧ H' D = some (.lst ((List.range i).map f)))) ⟨Same.new hD, upd_same⟩ (fun i H' _ h => SqL.of (h.ok.1 _ _ hl)) ?_ (fun H' h => hd H' h.ok.1 h.ok.2)
  rintro i x H' hi ⟨s, hd'⟩
  refine hs i x H' _ _ hi s fun H4 s4 => ⟨_, s4 _ _ hd', ?_, Same.at_new hD (s.trans s4), ?_⟩
  · rw [List.length_map, List.length_range]
    have := (List.getElem?_eq_some_iff.mp hi).1
    exact Nat.lt_of_lt_of_le (Nat.lt_of_lt_of_le this hz) (by decide)
  · rw [upd_same, List.range_succ, List.map_append]
    rfl
theorem Same.none {H H' : Hp} {p : Addr} (s : Same H H') (h : H' p = none) : H p = none := by
  cases e : H p with
  | none => rfl
  | some o =>
    rw [s _ _ e] at h
    cases h

/-- what stands anywhere but at the list D is kept -/
theorem kp_of_same {D : Addr} {H H' : Hp} (s : Same H H') : Kp D H H' := fun b o e _ => s b o e
/-- [.. for .. in a list], its parts keep what stands; R tells of each item that is made -/
theorem lc_sameP {K : PySem.W.Frag} {a : Addr} {xs : List V} {g : TG} {tt : TT} {te : TE} {vs : List Nat} {σ : L2.St} {H1 : Hp} {D : Addr} {Qd : Hp → Prop} (R : Nat → V → Hp → Prop) (hl : H1 a = some (.lst xs)) (hz : xs.length ≤ 1000) (hD : H1 D = none)
    (mono : ∀ i y H H' acc, H D = some (.lst acc) → Kp D H H' → R i y H → R i y H')
    (hs : ∀ i x H' (N : VK) (M : Hp → Prop), xs[i]? = some x → Same H1 H' → (∀ y H4, Same H' H4 → R i y H4 → N y H4) → g x (wipe σ vs) H' fun σ2 H2 => wipe σ2 vs = wipe σ vs ∧ tt σ2 H2 fun b H3 => if b = true then te σ2 H3 N else M H3)
    (hd : ∀ ys H', Same H1 H' → ys.length = xs.length → (∀ i y, ys[i]? = some y → R i y H') → H' D = some (.lst ys) → Qd H') :
    ∃ W : Nat → Nat → Hp → Prop, (∃ m, W 0 m (upd H1 D (.lst []))) ∧ ∀ i m H, W i m H →
      ((Itl K a).stop i H ∧ Qd H) ∨ ((Itl K a).go i H ∧ ∃ Nx : Hp → Prop, (∀ H', Nx H' → ∃ m', m' < m ∧ W (i + 1) m' H') ∧ ∀ x H', (Itl K a).yld i H x H' → g x (wipe σ vs) H' fun σ2 H2 => wipe σ2 vs = wipe σ vs ∧ tt σ2 H2 fun b H3 =>
        if b = true then te σ2 H3 fun y H4 => ∃ acc, H4 D = some (.lst acc) ∧ acc.length < sizeLine ∧ Nx (upd H4 D (.lst (acc ++ [y]))) else Nx H3) := by
  refine lc_list (K := K) (a := a) (xs := xs) (fun i H' => Wd (∃ ys : List V, Same H1 H' ∧ ys.length = i ∧ H' D = some (.lst ys) ∧ ∀ j y, ys[j]? = some y → R j y H')) ⟨[], Same.new hD, rfl, upd_same, fun j y h => by cases h⟩ (fun i H' _ h => ?_) ?_ (fun H' h => ?_)
  · obtain ⟨ys, s, _⟩ := h.ok
    exact SqL.of (s _ _ hl)
  · rintro i x H' hi ⟨ys, s, hyl, hd', hR⟩
    refine hs i x H' _ _ hi s fun y H4 s4 r4 => ⟨_, s4 _ _ hd', ?_, ys ++ [y], Same.at_new hD (s.trans s4), ?_, upd_same, fun j z hz => ?_⟩
    · rw [hyl]
      have := (List.getElem?_eq_some_iff.mp hi).1
      exact Nat.lt_of_lt_of_le (Nat.lt_of_lt_of_le this hz) (by decide)
    · rw [List.length_append, hyl]
      rfl
    · have kp : Kp D H4 (upd H4 D (.lst (ys ++ [y]))) := (Kp.refl D H4).up
      rw [List.getElem?_append] at hz
      split at hz
      · exact mono _ _ _ _ _ (s4 _ _ hd') kp (mono _ _ _ _ _ hd' (kp_of_same s4) (hR j z hz))
      · have e : j - ys.length = 0 := by
          cases e : j - ys.length with
          | zero => rfl
          | succ n => rw [e] at hz; cases hz
        rw [e] at hz
        cases hz
        have : j = i := by omega
        subst this
        exact mono _ _ _ _ _ (s4 _ _ hd') kp r4
  · obtain ⟨ys, s, hyl, hd', hR⟩ := h.ok
    exact hd ys H' s hyl hR hd'
/-- an if by a question whose answer is p; the heap may grow -/
theorem tIf_of {t : TT} {a b : TS} {D : Ends} {σ : L2.St} {H : Hp} {p : Prop} (ht : ∀ Q : Bool → Hp → Prop, (∀ H', Same H H' → p → Q true H') → (∀ H', Same H H' → ¬ p → Q false H') → t σ H Q) (ha : ∀ H', Same H H' → p → a D σ H') (hb : ∀ H', Same H H' → ¬ p → b D σ H') : tIfS t a b D σ H :=
  ht _ (fun H' s hp => iteT (ha H' s hp)) (fun H' s hn => iteF (hb H' s hn))
theorem q_dec {p : Prop} [Decidable p] {Q : Bool → Hp → Prop} {H : Hp} (h1 : p → Q true H) (h2 : ¬ p → Q false H) : Q (decide p) H := by
  by_cases e : p
  · rw [decide_eq_true e]
    exact h1 e
  · rw [decide_eq_false e]
    exact h2 e

/-! ### the __init__ of the errors -/
/-- C.__init__(self, v, ..): the error gets its dict; fs: the fields, the last one first -/
def spExcF (C : Addr) (n : Nat) (fs : List V → List (Str × V)) : Sp := fun vs H Q _ => ∃ (a : Addr) (ws : List V), vs = .ref a :: ws ∧ ws.length = n ∧ H a = some (exo a C none) ∧
  ∀ (d : Addr) (H' : Hp), H d = none → d ≠ a → (∀ b o, H b = some o → b ≠ a → H' b = some o) → H' a = some (exo a C (some d)) → H' d = some (exd d (fs ws)) → Q .non H'
section
variable {P : Program} {w : World} {K : PySem.W.Frag} {mg : Str → Option Value} {base : Heap} {A : Ad}
def fs_BadEntry : List V → List (Str × V)
  | [v0, v1] => [("number", v1), ("day", v0)]
  | _ => []
theorem ok_m_BadEntry_init (T : Txt K mg A) : FnOk P w K mg base CX0 3 A.m_BadEntry_init A.fd_m_BadEntry_init P_m_BadEntry_init (spExcF A.BadEntry 2 fs_BadEntry) := by
  refine T.F_m_BadEntry_init.ok sc_m_BadEntry_init (fun vs H Q E h => ?_) (fun cdv Ar outer s H vs Q E hr h => ?_)
  · obtain ⟨a, ws, rfl, hl, _⟩ := h
    rw [List.length_cons, hl]
    rfl
  · obtain ⟨a, ws, rfl, hl, ha, k⟩ := h
    match ws, hl with
    | [v0, v1], _ =>
      refine ⟨_, (pss_cons (ps_expr (pe_ceinit (by rfl) T.g_CostError T.rd_CostError T.cg_CostError T.vi_CostError (pa_cons (pv 0) (pa_cons pe_str pa_nil))))
      (pss_cons (ps_ost (pv 0) (pv 1))
      (pss_one (ps_ost (pv 0) (pv 2))))), ?_⟩
      refine ⟨_, rfl, a, A.BadEntry, _, rfl, by show 1 ≤ 1000; decide, T.ox_BadEntry, ha, ?_⟩
      refine ⟨_, rfl, _, rfl, a, A.BadEntry, rfl, T.ox_BadEntry, T.n_BadEntry_day, .inl ⟨ha, fun d hd nd => ?_⟩⟩
      have ea : upd (upd H d (exd d [("day", v0)])) a (exo a A.BadEntry (some d)) a = some (exo a A.BadEntry (some d)) := upd_same
      have ed : upd (upd H d (exd d [("day", v0)])) a (exo a A.BadEntry (some d)) d = some (exd d [("day", v0)]) := by rw [upd_ne nd, upd_same]
      refine ⟨_, rfl, _, rfl, a, A.BadEntry, rfl, T.ox_BadEntry, T.n_BadEntry_number, .inr ⟨d, _, ea, ed, by show 1 ≤ 900; decide, ?_⟩⟩
      exact k d _ hd nd (fun b o e n => by rw [upd_ne (ne_of_none e hd), upd_ne n, upd_ne (ne_of_none e hd)]; exact e) (by rw [upd_ne nd.symm]; exact ea) upd_same
def fs_NoEntry : List V → List (Str × V)
  | [v0, v1] => [("number", v1), ("day", v0)]
  | _ => []
theorem ok_m_NoEntry_init (T : Txt K mg A) : FnOk P w K mg base CX0 3 A.m_NoEntry_init A.fd_m_NoEntry_init P_m_NoEntry_init (spExcF A.NoEntry 2 fs_NoEntry) := by
  refine T.F_m_NoEntry_init.ok sc_m_NoEntry_init (fun vs H Q E h => ?_) (fun cdv Ar outer s H vs Q E hr h => ?_)
  · obtain ⟨a, ws, rfl, hl, _⟩ := h
    rw [List.length_cons, hl]
    rfl
  · obtain ⟨a, ws, rfl, hl, ha, k⟩ := h
    match ws, hl with
    | [v0, v1], _ =>
      refine ⟨_, (pss_cons (ps_expr (pe_ceinit (by rfl) T.g_CostError T.rd_CostError T.cg_CostError T.vi_CostError (pa_cons (pv 0) (pa_cons pe_str pa_nil))))
      (pss_cons (ps_ost (pv 0) (pv 1))
      (pss_one (ps_ost (pv 0) (pv 2))))), ?_⟩
      refine ⟨_, rfl, a, A.NoEntry, _, rfl, by show 1 ≤ 1000; decide, T.ox_NoEntry, ha, ?_⟩
      refine ⟨_, rfl, _, rfl, a, A.NoEntry, rfl, T.ox_NoEntry, T.n_NoEntry_day, .inl ⟨ha, fun d hd nd => ?_⟩⟩
      have ea : upd (upd H d (exd d [("day", v0)])) a (exo a A.NoEntry (some d)) a = some (exo a A.NoEntry (some d)) := upd_same
      have ed : upd (upd H d (exd d [("day", v0)])) a (exo a A.NoEntry (some d)) d = some (exd d [("day", v0)]) := by rw [upd_ne nd, upd_same]
      refine ⟨_, rfl, _, rfl, a, A.NoEntry, rfl, T.ox_NoEntry, T.n_NoEntry_number, .inr ⟨d, _, ea, ed, by show 1 ≤ 900; decide, ?_⟩⟩
      exact k d _ hd nd (fun b o e n => by rw [upd_ne (ne_of_none e hd), upd_ne n, upd_ne (ne_of_none e hd)]; exact e) (by rw [upd_ne nd.symm]; exact ea) upd_same
end

theorem mk_excF {C : Addr} {n : Nat} {fs : List V → List (Str × V)} {H : Hp} {ws : List V} {Q : XK} (h : ∀ d H', Same H H' → H d = none → H' d = some (.xd (fs ws)) → Q (.ref C) (some d) H') {a : Addr} (ha : H a = none) (hl : ws.length = n := by rfl) :
    spExcF C n fs (.ref a :: ws) (upd H a (exo a C none)) (fun v H2 => v = .non ∧ ∃ (d : Addr) (fs : List (Str × V)), H2 a = some (exo a C (some d)) ∧ H2 d = some (exd d fs) ∧ H d = none ∧ Q (.ref C) (some d) (upd (del H2 a) d (.xd fs))) (fun _ _ _ => False) := by
  refine ⟨a, ws, rfl, hl, upd_same, fun d H' hd nd keep ea ed => ⟨rfl, d, _, ea, ed, ?_, ?_⟩⟩
  · rw [upd_ne nd] at hd
    exact hd
  · rw [upd_ne nd] at hd
    refine h d _ (fun b o e => ?_) hd upd_same
    have n1 := ne_of_none e ha
    have n2 := ne_of_none e hd
    rw [upd_ne n2, del_ne n1]
    exact keep b o (by rw [upd_ne n1]; exact e) n1

/-! ### names that the law draws -/
section
open PySem.Spec PyProof.Rows
variable {X : Cx}
/-- a text times 0 or 1 -/
theorem op_mul01 : OpR X (binaryOp .Mult) (fun x y H Q => ∃ (z : Str) (n : Int), x = .str z ∧ y = .int n ∧ (n = 0 ∨ n = 1) ∧ Q (.str (if n = 0 then Str.empty else z)) H) := by
  intro pins s σ H x y v u Q I rx ry h
  obtain ⟨z, n, rfl, rfl, hn, q⟩ := h
  obtain ⟨t, rfl⟩ := rx
  obtain ⟨t', rfl⟩ := ry
  rcases hn with rfl | rfl
  · exact PySem.P.mul_str_none (by decide) (by decide) ⟨.str Str.empty, H, I.tok _, ⟨_, rfl⟩, q⟩
  · refine PySem.P.mul_str (by decide) (fun _ h => absurd h (by simp)) (fun _ h => absurd h (by simp)) ?_
    show (Made.val (.str z t)).post _ s
    exact ⟨.str z, H, I, ⟨_, rfl⟩, q⟩
end
/-- a name: a few small letters -/
def NmOk (n : List Nat) : Prop := 1 ≤ n.length ∧ n.length ≤ 12 ∧ ∀ c ∈ n, 97 ≤ c ∧ c < 123
def vS (l : List Nat) : V := .str (SX.S l)
/-- the k-th name -/
def nmAt (st : List Nat) (wh : Nat) (sh lo : Int) (k : Nat) : List Nat := st.take wh ++ [97 + ((sh + 7 * (k : Int)) % 26).toNat] ++ st.drop wh ++ (if (k : Int) % 3 = lo then [97 + sh.toNat] else [])
theorem nm_len {st : List Nat} {wh : Nat} {sh lo : Int} {k : Nat} : (nmAt st wh sh lo k).length = st.length + 1 + (if (k : Int) % 3 = lo then 1 else 0) := by
  unfold nmAt
  rw [List.length_append, List.length_append, List.length_append, List.length_take, List.length_drop, List.length_singleton]
  split
  · rw [List.length_singleton]
    omega
  · rw [List.length_nil]
    omega
theorem nm_at {st : List Nat} {wh : Nat} {sh lo : Int} {k : Nat} (hw : wh ≤ st.length) : (nmAt st wh sh lo k)[wh]? = some (97 + ((sh + 7 * (k : Int)) % 26).toNat) := by
  have h1 : (st.take wh).length = wh := by
    rw [List.length_take]
    omega
  unfold nmAt
  rw [List.append_assoc, List.append_assoc, List.getElem?_append_right (by omega), h1, Nat.sub_self]
  rfl
theorem nm_inj {st : List Nat} {wh : Nat} {sh lo : Int} {k j : Nat} (hw : wh ≤ st.length) (hk : k < 26) (hj : j < 26) (e : nmAt st wh sh lo k = nmAt st wh sh lo j) : k = j := by
  have h := nm_at (sh := sh) (lo := lo) (k := k) hw
  rw [e, nm_at hw] at h
  have h := Option.some.inj h
  omega
theorem nm_ok {st : List Nat} {wh : Nat} {sh lo : Int} {k : Nat} (hs : st.length ≤ 10) (hc : ∀ c ∈ st, 97 ≤ c ∧ c < 123) (h0 : 0 ≤ sh) (h1 : sh < 26) : NmOk (nmAt st wh sh lo k) := by
  refine ⟨by rw [nm_len]; omega, by rw [nm_len]; split <;> omega, fun c hm => ?_⟩
  unfold nmAt at hm
  simp only [List.mem_append, List.mem_singleton] at hm
  rcases hm with ((hm | hm) | hm) | hm
  · exact hc c (List.mem_of_mem_take hm)
  · omega
  · exact hc c (List.mem_of_mem_drop hm)
  · split at hm
    · rw [List.mem_singleton] at hm
      omega
    · cases hm
def lettersZ : Str := "abcdefghijklmnopqrstuvwxyz"
theorem letter_at {c : Int} (h0 : 0 ≤ c) (h1 : c < 26) : atI lettersZ.cps.toList c = some (97 + c.toNat) := by
  have : ∀ n : Fin 26, atI lettersZ.cps.toList ((n.val : Nat) : Int) = some (97 + n.val) := by decide +kernel
  have h := this ⟨c.toNat, by omega⟩
  rw [show ((c.toNat : Nat) : Int) = c by omega] at h
  exact h
def spNames : Sp := fun vs H Q _ => ∃ (g l q : Addr) (cnt : Int) (ws : List (List Nat)), vs = [.ref g, .int cnt, .ref q] ∧ Bag H g l ∧ q ≠ g ∧ 1 ≤ cnt ∧ cnt ≤ 26 ∧ H q = some (.lst (ws.map vS)) ∧ 1 ≤ ws.length ∧ ws.length ≤ 1000 ∧ (∀ w ∈ ws, w.length ≤ 1000) ∧
  ∀ (p : Addr) (ns : List (List Nat)) (H' : Hp), H p = none → H' p = some (.lst (ns.map vS)) → ns.length = cnt.toNat → ns.Nodup → (∀ n ∈ ns, NmOk n ∨ n ∈ ws) → Bag H' g l → Kp g H H' → Q (.ref p) H'
theorem len_at {c : Int} (h0 : 0 ≤ c) (h5 : c < 5) : ∃ z : Int, atI [V.int 0, .int 1, .int 2, .int 3, .int 10] c = some (.int z) ∧ 0 ≤ z ∧ z ≤ 10 := by
  have : c = 0 ∨ c = 1 ∨ c = 2 ∨ c = 3 ∨ c = 4 := by omega
  rcases this with rfl | rfl | rfl | rfl | rfl
  · exact ⟨0, rfl, by decide, by decide⟩
  · exact ⟨1, rfl, by decide, by decide⟩
  · exact ⟨2, rfl, by decide, by decide⟩
  · exact ⟨3, rfl, by decide, by decide⟩
  · exact ⟨10, rfl, by decide, by decide⟩
theorem kp_none {g p : Addr} {H H' : Hp} (k : Kp g H H') (h : H' p = none) (n : p ≠ g) : H p = none := by
  cases e : H p with
  | none => rfl
  | some o =>
    rw [k _ _ e n] at h
    cases h
theorem joinL_chars : ∀ cs : List Nat, TL.joinL [] (cs.map fun c => [c]) = cs
  | [] => rfl
  | [c] => rfl
  | c :: d :: cs => by
    have ih := joinL_chars (d :: cs)
    show [c] ++ ([] ++ TL.joinL [] ((d :: cs).map fun c => [c])) = _
    rw [ih]
    rfl
theorem join_chars (cs : List Nat) : Txt.join (Str.ofString "") (cs.map fun c => SX.S [c]) = SX.S cs := by
  have h := SX.join_S [] (cs.map fun c => [c])
  rw [List.map_map, joinL_chars] at h
  exact h
theorem cut_to {st : List Nat} {wh : Int} (h0 : 0 ≤ wh) (h1 : wh.toNat ≤ st.length) : cutS (SX.S st) none (some wh) = SX.S (st.take wh.toNat) := by
  have e : HT.sIx (SX.S st).length (SX.S st).length (some wh) = wh.toNat := by
    show (if wh < 0 then _ else min wh.toNat _) = _
    rw [if_neg (by omega), SX.S_len]
    omega
  unfold cutS
  rw [HT.sIx_none, e, Nat.sub_zero, List.drop_zero]
theorem cut_from {st : List Nat} {wh : Int} (h0 : 0 ≤ wh) (h1 : wh.toNat ≤ st.length) : cutS (SX.S st) (some wh) none = SX.S (st.drop wh.toNat) := by
  have e : HT.sIx (SX.S st).length 0 (some wh) = wh.toNat := by
    show (if wh < 0 then _ else min wh.toNat _) = _
    rw [if_neg (by omega), SX.S_len]
    omega
  unfold cutS
  rw [HT.sIx_none, e, SX.S_len, List.take_of_length_le (by rw [List.length_drop]; exact Nat.le_refl _)]
theorem nodup_set {α : Type} {l : List α} {j : Nat} {x : α} (h : l.Nodup) (hx : x ∉ l) : (l.set j x).Nodup := by
  unfold List.Nodup at *
  rw [List.pairwise_iff_getElem] at *
  intro a b ha hb hab
  rw [List.length_set] at ha hb
  rw [List.getElem_set, List.getElem_set]
  split
  · rw [if_neg (by omega)]
    exact fun e => hx (e ▸ List.getElem_mem _)
  · split
    · exact fun e => hx (e ▸ List.getElem_mem _)
    · exact h a b ha hb hab
theorem ixN_in {n : Nat} {i : Int} (h0 : 0 ≤ i) (h1 : i < (n : Int)) : ixN n i = some i.toNat := by
  unfold ixN
  rw [if_pos h0, if_pos h1]
theorem mem_set_of {α : Type} {l : List α} {j : Nat} {x y : α} (h : y ∈ l.set j x) : y = x ∨ y ∈ l := by
  rcases List.mem_or_eq_of_mem_set h with h | h
  · exact .inr h
  · exact .inl h
theorem inV_names {ns : List (List Nat)} {x : List Nat} : inV (vS x) (ns.map vS) = decide (x ∈ ns) := by
  unfold inV
  rw [List.any_map, Bool.eq_iff_iff, List.any_eq_true, decide_eq_true_iff]
  constructor
  · rintro ⟨y, hy, e⟩
    have e2 : (SX.S y == SX.S x) = true := e
    rw [SX.S_beq, beq_iff_eq] at e2
    exact e2 ▸ hy
  · intro h
    refine ⟨x, h, ?_⟩
    show (SX.S x == SX.S x) = true
    rw [SX.S_beq, beq_iff_eq]
theorem flat_names (ns : List (List Nat)) : (ns.map vS).all flatV = true := by
  rw [List.all_map, List.all_eq_true]
  intro x _
  rfl
/-- what the names are, once they stand -/
def NmsOk (ns ws : List (List Nat)) (cnt : Int) : Prop := ns.length = cnt.toNat ∧ ns.Nodup ∧ ∀ n ∈ ns, NmOk n ∨ n ∈ ws
theorem nms_set {ns ws : List (List Nat)} {cnt : Int} {j : Nat} {x : List Nat} (h : NmsOk ns ws cnt) (hx : x ∉ ns) (ok : NmOk x ∨ x ∈ ws) : NmsOk (ns.set j x) ws cnt :=
  ⟨by rw [List.length_set]; exact h.1, nodup_set h.2.1 hx, fun n hn => by
    rcases mem_set_of hn with rfl | hn
    · exact ok
    · exact h.2.2 n hn⟩
theorem nms_range {st : List Nat} {wh : Nat} {sh lo cnt : Int} {ws : List (List Nat)} (hw : wh ≤ st.length) (hs : st.length ≤ 10) (hc : ∀ c ∈ st, 97 ≤ c ∧ c < 123) (h0 : 0 ≤ sh) (h1 : sh < 26) (hcn : cnt ≤ 26) :
    NmsOk ((List.range cnt.toNat).map fun k => nmAt st wh sh lo k) ws cnt := by
  refine ⟨by rw [List.length_map, List.length_range], ?_, fun n hn => ?_⟩
  · unfold List.Nodup
    rw [List.pairwise_map]
    refine List.Pairwise.imp_of_mem ?_ List.nodup_range
    intro a b ha hb hab e
    rw [List.mem_range] at ha hb
    exact hab (nm_inj hw (by omega) (by omega) e)
  · obtain ⟨k, _, rfl⟩ := List.mem_map.mp hn
    exact .inl (nm_ok hs hc h0 h1)
section
variable {P : Program} {w : World} {K : PySem.W.Frag} {mg : Str → Option Value} {base : Heap} {A : Ad}
theorem ok_l_names (T : Txt K mg A) : FnOk P w K mg base CX0 2 A.l_names A.fd_l_names P_l_names spNames := by
  refine T.F_l_names.ok sc_l_names (fun vs H Q E h => ?_) (fun cdv Ar outer s H vs Q E hr h => ?_)
  · obtain ⟨g, l, q, cnt, ws, rfl, _⟩ := h
    rfl
  · obtain ⟨g, l, q, cnt, ws, rfl, hB, nqg, hc1, hc26, hq, hw1, hw2, hw3, k⟩ := h
    refine ⟨_, (pss_cons (ps_set (i := 3) sc_l_names.nd rfl (Or.inr rfl) pe_str)
      (pss_cons (ps_set (i := 4) sc_l_names.nd rfl (Or.inl rfl) (pe_ix ix_list (pe_lst (pa_cons pe_int (pa_cons pe_int (pa_cons pe_int (pa_cons pe_int (pa_cons pe_int pa_nil)))))) (pe_call (ok_l_draw T) (hr.mono (by decide)) (by rfl) T.g__law_draw T.F_l_draw.kp T.b_l_draw .nil pass0 (pa_cons (pv 0) (pa_cons pe_int pa_nil))) (fun _ _ => rfl)))
      (pss_cons (ps_set (i := 5) sc_l_names.nd rfl (Or.inl rfl) (pe_join pe_str (pe_g (pe_lcV (own := [("_law_k", 10)]) rfl sc_l_names.nd (pi_range1 rfl T.z_range (pa_cons (pv 4) pa_nil)) (blkOk_by (own := [("_law_k", 10)]) (N := N_l_names) (sc := defScope s_l_names) (by decide +kernel)) (fun _ _ _ _ _ => (pg_name (i := 10) sc_l_names.nd rfl (Or.inl rfl))) (fun _ _ _ _ _ => pts_nil) (fun _ _ _ _ _ => (pe_ix ix_str (pv 3) (pe_call (ok_l_draw T) (hr.mono (by decide)) (by rfl) T.g__law_draw T.F_l_draw.kp T.b_l_draw .nil pass0 (pa_cons (pv 0) (pa_cons pe_int pa_nil))) (fun _ _ => rfl))) (fun _ _ _ _ _ => rfl) (fun _ _ _ _ _ => rfl) (fun _ _ _ _ _ => rfl)))))
      (pss_cons (ps_set (i := 6) sc_l_names.nd rfl (Or.inl rfl) (pe_call (ok_l_draw T) (hr.mono (by decide)) (by rfl) T.g__law_draw T.F_l_draw.kp T.b_l_draw .nil pass0 (pa_cons (pv 0) (pa_cons (pe_op op_add (pv 4) pe_int) pa_nil))))
      (pss_cons (ps_set (i := 7) sc_l_names.nd rfl (Or.inl rfl) (pe_call (ok_l_draw T) (hr.mono (by decide)) (by rfl) T.g__law_draw T.F_l_draw.kp T.b_l_draw .nil pass0 (pa_cons (pv 0) (pa_cons pe_int pa_nil))))
      (pss_cons (ps_set (i := 8) sc_l_names.nd rfl (Or.inl rfl) (pe_call (ok_l_draw T) (hr.mono (by decide)) (by rfl) T.g__law_draw T.F_l_draw.kp T.b_l_draw .nil pass0 (pa_cons (pv 0) (pa_cons pe_int pa_nil))))
      (pss_cons (ps_set (i := 9) sc_l_names.nd rfl (Or.inl rfl) (pe_lst pa_nil))
      (pss_cons (ps_g (ps_for PassesOwn.never rfl (pi_range1 rfl T.z_range (pa_cons (pv 1) pa_nil)) (pg_name (i := 10) sc_l_names.nd rfl (Or.inl rfl)) (pss_cons (ps_set (i := 11) sc_l_names.nd rfl (Or.inl rfl) (pe_op op_add_str (pe_op op_add_str (pe_slice sl_str (pv 5) po_none (po_some (pv 6))) (pe_ix ix_str (pv 3) (pe_op op_mod (pe_callTy call_int1 (by rfl) T.z_int (by decide +kernel) (pa_cons (pe_op op_add (pv 7) (pe_op op_mul pe_int (pv 10))) pa_nil)) pe_int) (fun _ _ => rfl))) (pe_slice sl_str (pv 5) (po_some (pv 6)) po_none)))
      (pss_one (ps_expr (pe_bm PySem.F.plainAttrs_list PySem.F.slot_list_append PySem.F.type_list_append mt_append (pv 9) (pa_cons (pe_op op_add_str (pv 11) (pe_op op_mul01 (pe_ix ix_str (pv 3) (pv 7) (fun _ _ => rfl)) (pe_callTy call_int1 (by rfl) T.z_int (by decide +kernel) (pa_cons (pe_cmpR op_eq (pe_op op_mod (pe_callTy call_int1 (by rfl) T.z_int (by decide +kernel) (pa_cons (pv 10) pa_nil)) pe_int) (pv 8) (nomark _)) pa_nil)))) pa_nil)))))))
      (pss_g (Evl.pss_cut (ps_if (PW.pt (pw_and (pt_cmpR op_gt (pv 1) pe_int (nomark _)) (pw_and (pt_cmpR op_lt (pv 4) pe_int (nomark _)) (pw_and1 (pt_cmpR op_eq (pv 8) pe_int (nomark _)))))) (pss_one (ps_asg (pe_op op_add_str (pe_ix ix_list (pv 9) pe_int (fun _ _ => rfl)) (pe_ix ix_str (pv 3) (pe_call (ok_l_draw T) (hr.mono (by decide)) (by rfl) T.g__law_draw T.F_l_draw.kp T.b_l_draw .nil pass0 (pa_cons (pv 0) (pa_cons pe_int pa_nil))) (fun _ _ => rfl))) (pg_sub (pv 9) pe_int set_list))) pss_nil)
      (pss_cons (ps_set (i := 12) sc_l_names.nd rfl (Or.inl rfl) (pe_call (ok_l_draw T) (hr.mono (by decide)) (by rfl) T.g__law_draw T.F_l_draw.kp T.b_l_draw .nil pass0 (pa_cons (pv 0) (pa_cons (pe_op op_mul pe_int (pv 1)) pa_nil))))
      (pss_cons (ps_set (i := 13) sc_l_names.nd rfl (Or.inl rfl) (pe_ix ix_list (pv 2) (pe_call (ok_l_draw T) (hr.mono (by decide)) (by rfl) T.g__law_draw T.F_l_draw.kp T.b_l_draw .nil pass0 (pa_cons (pv 0) (pa_cons (pe_callB call_len_seq (by rfl) T.z_len (by decide +kernel) (pa_cons (pv 2) pa_nil)) pa_nil))) (fun _ _ => rfl)))
      (pss_g (Evl.pss_cut (ps_if (PW.pt (pw_and (pt_cmpR op_lt (pv 12) (pv 1) (nomark _)) (pw_and1 (pt_cmpR op_notIn_seq (pv 13) (pv 9) (by rfl))))) (pss_one (ps_asg (pv 13) (pg_sub (pv 9) (pv 12) set_list))) pss_nil)
      (pss_one (ps_ret (pv 9))))))))))))))))), ?_⟩
    walk_at "go"
    intro p1 hp1
    have B1 := hB.new (o := .lst [V.int 0, .int 1, .int 2, .int 3, .int 10]) hp1
    have nq1 := ne_of_none hq hp1
    have hq1 := Same.new (o := .lst [V.int 0, .int 1, .int 2, .int 3, .int 10]) hp1 _ _ hq
    walk_at "go"
    intro c0 H2 c00 c01 B2 K2
    obtain ⟨sz, hsz, hsz0, hsz1⟩ := len_at c00 c01
    have hl2 := K2 _ _ upd_same (hB.ne hp1).1
    have hq2 := K2 _ _ hq1 nqg
    have K02 : Kp g H H2 := (Kp.same (Same.new hp1)).trans K2
    refine ⟨p1, _, _, _, rfl, rfl, SqL.of hl2, hsz, ?_⟩
    refine ⟨⟨_, rfl⟩, ?_⟩
    refine ⟨⟨_, rfl, _, rfl, by omega, by omega, fun D hD => ?_⟩⟩
    have nD := (B2.ne hD).1
    have hD0 : H D = none := kp_none K02 hD nD
    refine lc_range (fun i H' => Wd (∃ cs : List Nat, cs.length = i ∧ (∀ c ∈ cs, 97 ≤ c ∧ c < 123) ∧ H' D = some (.lst (cs.map fun c => vS [c])) ∧ Bag H' g l ∧ Kp g H H')) ⟨[], rfl, fun c h => (by cases h), upd_same, B2.new hD, K02.new hD⟩ ?_ ?_
    · rintro i H3 hi ⟨cs, hcl, hcs, hD3, B3, K3⟩
      refine ⟨rfl, ⟨_, rfl, _, rfl, g, l, _, rfl, B3, by decide, by decide, fun n H4 n0 n1 B4 K4 => ?_⟩⟩
      refine ⟨_, _, _, rfl, rfl, (by decide : lettersZ.length ≤ sizeLine), letter_at n0 n1, _, K4 _ _ hD3 nD, ?_, ?_⟩
      · rw [List.length_map, hcl]
        exact Nat.lt_of_lt_of_le (by omega : i < 100) (by decide)
      · refine ⟨cs ++ [97 + n.toNat], by rw [List.length_append, hcl]; rfl, fun c hm => ?_, ?_, B4.put (B2.ne hD), (K3.trans K4).put hD0⟩
        · rcases List.mem_append.mp hm with hm | hm
          · exact hcs c hm
          · rw [List.mem_singleton] at hm
            omega
        · rw [upd_same, List.map_append]
          rfl
    · rintro H3 ⟨st, hsl, hst, hD3, B3, K3⟩
      have hq3 := K3 _ _ hq nqg
      refine ⟨_, D, st.map fun c => SX.S [c], rfl, rfl, .inl (SqL.of (by rw [List.map_map]; exact hD3)), ?_, ?_⟩
      · have e : ∀ cs : List Nat, ((cs.map fun c => SX.S [c]).map (·.length)).sum = cs.length := fun cs => by
          induction cs with
          | nil => rfl
          | cons c cs ih =>
            rw [List.map_cons, List.map_cons, List.sum_cons, ih, List.length_cons, Nat.add_comm]
            rfl
        rw [e, List.length_map, hsl]
        show sz.toNat + sz.toNat * 0 ≤ _
        omega
      · rw [join_chars]
        have hz9 : (sz + 1).natAbs < 2 ^ 9000 := lt_pow (a := 10) (by omega) (by decide)
        walk_at "go"
        intro wh H4 wh0 wh1 B4 K4
        walk_at "go"
        intro sh H5 sh0 sh1 B5 K5
        walk_at "go"
        intro lo H6 lo0 lo1 B6 K6
        walk_at "go"
        intro f hf
        have K36 := K4.trans (K5.trans K6)
        have K6' := K3.trans K36
        have nf := B6.ne hf
        have hf0 : H f = none := kp_none K6' hf nf.1
        have hq6 := K6' _ _ hq nqg
        have hwl : wh.toNat ≤ st.length := by omega
        have c1 : cutS (SX.S st) none (some wh) = SX.S (st.take wh.toNat) := cut_to wh0 hwl
        have c2 : cutS (SX.S st) (some wh) none = SX.S (st.drop wh.toNat) := cut_from wh0 hwl
        have sl : ∀ l : List Nat, l.length ≤ 1000 → (SX.S l).length ≤ sizeLine := fun l h => by
          rw [SX.S_len]
          exact Nat.le_trans h (by decide)
        refine ⟨⟨_, rfl, _, rfl, by omega, by omega, for_range (lo := 0) (n := cnt.toNat) (fun i σ' H' => Wd (∃ o10 o11 : Option V, σ' = [some (.ref g), some (.int cnt), some (.ref q), some (.str lettersZ), some (.int sz), some (vS st), some (.int wh), some (.int sh), some (.int lo), some (.ref f), o10, o11, none, none] ∧
          H' = upd H6 f (.lst ((List.range i).map fun k => vS (nmAt st wh.toNat sh lo k))))) ⟨none, none, rfl, rfl⟩ ?_ ?_⟩⟩
        · rintro i σ' H7 hi ⟨o10, o11, rfl, rfl⟩
          refine ⟨_, rfl, _, rfl, wh, rfl, _, rfl, sl st (by omega), ?_⟩
          rw [c1]
          have hi26 : (i : Int) < 26 := by omega
          refine ⟨_, rfl, _, rfl, _, rfl, _, _, rfl, rfl, .inl ⟨by decide, by decide⟩, _, _, rfl, rfl, .inl ⟨_, rfl, _, _, rfl, rfl, (show (0 : Int) < 26 by decide), _, _, _, rfl, rfl, (by decide : lettersZ.length ≤ sizeLine), letter_at (Int.emod_nonneg _ (by decide)) (Int.emod_lt_of_pos _ (by decide)), ?_⟩⟩
          have e1 : SX.S (st.take wh.toNat) ++ (⟨#[97 + ((sh + 7 * (0 + (i : Int))) % 26).toNat]⟩ : Str) = SX.S (st.take wh.toNat ++ [97 + ((sh + 7 * (i : Int)) % 26).toNat]) := by
            rw [Int.zero_add]
            exact SX.S_cat _ _
          have l1 : (st.take wh.toNat).length ≤ 10 := by
            rw [List.length_take]
            omega
          have l2 : (st.drop wh.toNat).length ≤ 10 := by
            rw [List.length_drop]
            omega
          refine ⟨_, _, rfl, rfl, ?_, ?_⟩
          · rw [SX.S_len]
            exact Nat.le_trans (by show _ + 1 ≤ 1000; omega) (by decide : 1000 ≤ sizeLine)
          rw [e1]
          refine ⟨_, rfl, _, rfl, wh, rfl, _, rfl, sl st (by omega), ?_⟩
          rw [c2]
          refine ⟨_, _, rfl, rfl, ?_, ?_⟩
          · rw [SX.S_len, SX.S_len, List.length_append]
            exact Nat.le_trans (by rw [List.length_singleton]; omega) (by decide : 1000 ≤ sizeLine)
          rw [SX.S_cat]
          refine ⟨_, rfl, .inl ⟨rfl, _, SqL.of upd_same⟩, _, rfl, _, rfl, _, rfl, _, _, _, rfl, rfl, (by decide : lettersZ.length ≤ sizeLine), letter_at sh0 sh1, ?_⟩
          refine ⟨_, rfl, .inl ⟨_, rfl, _, _, rfl, rfl, (show (0 : Int) < 3 by decide), _, rfl, rfl, .inr ⟨_, rfl, ?_⟩⟩⟩
          refine ⟨_, _, rfl, rfl, ?_, ?_⟩
          · split
            · exact .inr rfl
            · exact .inl rfl
          have e2 : SX.S (st.take wh.toNat ++ [97 + ((sh + 7 * (i : Int)) % 26).toNat] ++ st.drop wh.toNat) ++ (if (if (decide (V.int ((0 + (i : Int)) % 3) = V.int lo)) = true then (1 : Int) else 0) = 0 then Str.empty else (⟨#[97 + sh.toNat]⟩ : Str)) = SX.S (nmAt st wh.toNat sh lo i) := by
            unfold nmAt
            rw [Int.zero_add]
            by_cases e : (i : Int) % 3 = lo
            · rw [if_pos (decide_eq_true (congrArg V.int e)), if_neg (by decide), if_pos e]
              exact SX.S_cat _ _
            · rw [if_neg (fun z => e (V.int.inj (of_decide_eq_true z))), if_pos rfl, if_neg e]
              exact SX.S_cat _ []
          refine ⟨_, _, rfl, rfl, ?_, ?_⟩
          · rw [SX.S_len, List.length_append, List.length_append, List.length_singleton]
            refine Nat.le_trans (Nat.add_le_add_left (m := 1) ?_ _) (Nat.le_trans (by omega : _ ≤ 1000) (by decide : 1000 ≤ sizeLine))
            split
            · rw [if_neg (by decide)]
              exact Nat.le_refl 1
            · rw [if_pos rfl]
              exact Nat.zero_le 1
          rw [e2]
          refine ⟨f, _, _, rfl, rfl, upd_same, ?_, _, _, rfl, ?_⟩
          · rw [List.length_map, List.length_range]
            exact Nat.lt_of_lt_of_le (by omega : i < 1000) (by decide)
          · rw [upd_upd, List.range_succ, List.map_append]
            rfl
        · rintro σ' H7 ⟨o10, o11, rfl, rfl⟩
          have hnm := nms_range (st := st) (wh := wh.toNat) (sh := sh) (lo := lo) (cnt := cnt) (ws := ws) hwl (by omega) hst sh0 sh1 hc26
          have nfq : f ≠ q := fun e => by rw [e, hq6] at hf; cases hf
          refine ⟨⟨fun σ' H' => Wd (∃ (ns : List (List Nat)), σ' = [some (.ref g), some (.int cnt), some (.ref q), some (.str lettersZ), some (.int sz), some (vS st), some (.int wh), some (.int sh), some (.int lo), some (.ref f), o10, o11, none, none] ∧
            H' f = some (.lst (ns.map vS)) ∧ NmsOk ns ws cnt ∧ Bag H' g l ∧ Kp g H H'), ?_, ?_⟩⟩
          · have B7 := B6.new (o := .lst ((List.range cnt.toNat).map fun k => vS (nmAt st wh.toNat sh lo k))) hf
            have K7 : Kp g H (upd H6 f (.lst ((List.range cnt.toNat).map fun k => vS (nmAt st wh.toNat sh lo k)))) := K6'.put hf0
            have stay : Wd (∃ (ns : List (List Nat)), [some (.ref g), some (.int cnt), some (.ref q), some (.str lettersZ), some (.int sz), some (vS st), some (.int wh), some (.int sh), some (.int lo), some (.ref f), o10, o11, none, none] = [some (.ref g), some (.int cnt), some (.ref q), some (.str lettersZ), some (.int sz), some (vS st), some (.int wh), some (.int sh), some (.int lo), some (.ref f), o10, o11, none, none] ∧
              (upd H6 f (.lst ((List.range cnt.toNat).map fun k => vS (nmAt st wh.toNat sh lo k)))) f = some (.lst (ns.map vS)) ∧ NmsOk ns ws cnt ∧ Bag (upd H6 f (.lst ((List.range cnt.toNat).map fun k => vS (nmAt st wh.toNat sh lo k)))) g l ∧ Kp g H (upd H6 f (.lst ((List.range cnt.toNat).map fun k => vS (nmAt st wh.toNat sh lo k))))) :=
              ⟨_, rfl, by rw [upd_same, List.map_map]; rfl, hnm, B7, K7⟩
            walk_at "go"
            refine if_dec (fun e1 => ?_) (fun _ => stay)
            walk_at "go"
            refine if_dec (fun e2 => ?_) (fun _ => stay)
            walk_at "go"
            refine if_int (fun e3 => ?_) (fun _ => stay)
            subst e3
            obtain ⟨m, hm⟩ : ∃ m, cnt.toNat = m + 2 := ⟨cnt.toNat - 2, by omega⟩
            refine ⟨_, rfl, f, _, _, vS (nmAt st wh.toNat sh 3 0), rfl, rfl, SqL.of upd_same, ?_, _, rfl, _, rfl, g, l, _, rfl, B7, by decide, by decide, fun n H8 n0 n1 B8 K8 => ?_⟩
            · refine atI_nat (j := 0) ?_
              rw [List.getElem?_map, List.getElem?_range (by omega)]
              rfl
            have hf8 := K8 _ _ upd_same nf.1
            refine ⟨_, _, _, rfl, rfl, (by decide : lettersZ.length ≤ sizeLine), letter_at n0 n1, _, _, rfl, rfl, ?_, ?_⟩
            · show (SX.S _).length + 1 ≤ _
              rw [SX.S_len, nm_len]
              refine Nat.le_trans ?_ (by decide : 1000 ≤ sizeLine)
              split <;> omega
            have e4 : SX.S (nmAt st wh.toNat sh 3 0) ++ (⟨#[97 + n.toNat]⟩ : Str) = SX.S (nmAt st wh.toNat sh 3 0 ++ [97 + n.toNat]) := SX.S_cat _ _
            have n3 : ∀ k : Nat, ((k : Int) % 3 = 3) = False := fun k => by
              rw [eq_iff_iff]
              exact ⟨fun h => by omega, fun h => h.elim⟩
            have le : ∀ k, (nmAt st wh.toNat sh 3 k).length = st.length + 1 := fun k => by
              rw [nm_len, if_neg (by rw [n3]; exact fun h => h)]
            refine ⟨_, rfl, f, _, _, 1, rfl, rfl, hf8, ?_, ?_⟩
            · rw [List.length_map, List.length_range, hm]
              exact ixN_in (by decide) (by show (1 : Int) < ((m + 2 : Nat) : Int); omega)
            · refine ⟨((List.range cnt.toNat).map fun k => nmAt st wh.toNat sh 3 k).set 1 (nmAt st wh.toNat sh 3 0 ++ [97 + n.toNat]), rfl, ?_, nms_set hnm ?_ (.inl ?_), B8.put nf, (K7.trans K8).put hf0⟩
              · rw [upd_same, List.map_set, List.map_map]
                show some (HO.lst (List.set _ 1 (V.str (SX.S (nmAt st wh.toNat sh 3 0) ++ (⟨#[97 + n.toNat]⟩ : Str))))) = _
                rw [e4]
                rfl
              · intro hm
                obtain ⟨k, _, e⟩ := List.mem_map.mp hm
                have e5 := congrArg List.length e
                rw [List.length_append, le, le, List.length_singleton] at e5
                omega
              · have ok := nm_ok (st := st) (wh := wh.toNat) (sh := sh) (lo := 3) (k := 0) (by omega) hst sh0 sh1
                refine ⟨by rw [List.length_append, le]; omega, by rw [List.length_append, le, List.length_singleton]; omega, fun c hc => ?_⟩
                rcases List.mem_append.mp hc with hc | hc
                · exact ok.2.2 c hc
                · rw [List.mem_singleton] at hc
                  omega
          · rintro σ' H8 ⟨ns, rfl, hf8, hnm8, B8, K8⟩
            have hc9 : (4 * cnt).natAbs < 2 ^ 9000 := lt_pow (a := 10) (by omega) (by decide)
            walk_at "go"
            intro sp H9 sp0 sp1 B9 K9
            have hq9 := (K8.trans K9) _ _ hq nqg
            have hf9 := K9 _ _ hf8 nf.1
            have hw9 : ((ws.map vS).length : Int).natAbs < 2 ^ 9000 := lt_pow (a := 10) (by rw [List.length_map]; omega) (by decide)
            refine ⟨_, rfl, _, rfl, _, rfl, q, _, rfl, .inl (SqL.of hq9), g, l, _, rfl, B9, ?_, hw9, fun wi H10 wi0 wi1 B10 K10 => ?_⟩
            · rw [List.length_map]
              omega
            rw [List.length_map] at wi1
            obtain ⟨j, rfl⟩ := Int.eq_ofNat_of_zero_le wi0
            have hj : j < ws.length := by omega
            have hwj : (ws.map vS)[j]? = some (vS ws[j]) := by rw [List.getElem?_map, List.getElem?_eq_getElem hj]; rfl
            have hq10 := K10 _ _ hq9 nqg
            have hf10 := K10 _ _ hf9 nf.1
            have K10' := (K8.trans K9).trans K10
            refine ⟨q, _, _, _, rfl, rfl, SqL.of hq10, atI_nat hwj, ?_⟩
            refine ⟨⟨fun σ' H' => Wd (∃ (ns : List (List Nat)) (o : List (Option V)), σ' = [some (.ref g), some (.int cnt), some (.ref q), some (.str lettersZ), some (.int sz), some (vS st), some (.int wh), some (.int sh), some (.int lo), some (.ref f)] ++ o ∧
              H' f = some (.lst (ns.map vS)) ∧ NmsOk ns ws cnt ∧ Bag H' g l ∧ Kp g H H'), ?_, ?_⟩⟩
            · walk_at "go"
              refine if_dec (fun e1 => ?_) (fun _ => ⟨ns, [_, _, _, _], rfl, hf10, hnm8, B10, K10'⟩)
              refine ⟨_, rfl, _, rfl, f, _, rfl, .inl (SqL.of hf10), rfl, flat_names ns, _, rfl, ?_⟩
              show if (!inV (vS ws[j]) (ns.map vS)) = true then _ else _
              rw [inV_names]
              by_cases hm : ws[j] ∈ ns
              · rw [decide_eq_true hm]
                exact iteF ⟨ns, [_, _, _, _], rfl, hf10, hnm8, B10, K10'⟩
              · rw [decide_eq_false hm]
                refine iteT ⟨_, rfl, _, rfl, _, rfl, f, _, _, sp.toNat, rfl, rfl, hf10, ?_, ?_⟩
                · rw [List.length_map, hnm8.1]
                  exact ixN_in sp0 (by omega)
                · refine ⟨ns.set sp.toNat ws[j], [_, _, _, _], rfl, ?_, nms_set hnm8 hm (.inr (List.getElem_mem _)), B10.put nf, K10'.put hf0⟩
                  rw [upd_same, List.map_set]
            · rintro σ' H11 ⟨ns, o, rfl, hf11, hnm11, B11, K11⟩
              exact ⟨_, rfl, k f ns H11 hf0 hf11 hnm11.1 hnm11.2.1 hnm11.2.2 B11 K11⟩
end

/-! ### is_name, is_number -/
/-- a plain value: an int, a text or nothing -/
inductive Pl : V → Prop
  | int (i : Int) : Pl (.int i)
  | str (s : Str) : Pl (.str s)
  | non : Pl .non
theorem Pl.flat {v : V} (h : Pl v) : flatV v = true := by cases h <;> rfl
def nameL (cs : List Nat) : Bool := decide (1 ≤ cs.length) && (decide (cs.length ≤ 12) && cs.all fun c => decide (c ∈ lettersZ.cps.toList))
def nameV : V → Bool
  | .str z => nameL z.cps.toList
  | _ => false
def numV (lo : Int) : V → Bool
  | .int n => decide (lo ≤ n) && decide (n ≤ 1000000)
  | _ => false
def spIsName : Sp := fun vs H Q _ => ∃ v : V, vs = [v] ∧ Pl v ∧ (∀ z, v = .str z → z.length ≤ 1000) ∧ ∀ H', Same H H' → Q (.bl (nameV v)) H'
/-- a plain value or a tuple -/
def Pn (H : Hp) (v : V) : Prop := Pl v ∨ ∃ p xs, v = .ref p ∧ H p = some (.tup xs)
def spIsNumber : Sp := fun vs H Q _ => ∃ (v : V) (lo : Int), vs = [v, .int lo] ∧ Pn H v ∧ Q (.bl (numV lo v)) H
section
variable {P : Program} {w : World} {K : PySem.W.Frag} {mg : Str → Option Value} {base : Heap} {A : Ad}
theorem ok_f_is_number (T : Txt K mg A) : FnOk P w K mg base CX0 1 A.f_is_number A.fd_f_is_number P_f_is_number spIsNumber := by
  refine T.F_f_is_number.ok sc_f_is_number (fun vs H Q E h => ?_) (fun cdv Ar outer s H vs Q E hr h => ?_)
  · obtain ⟨v, lo, rfl, _⟩ := h
    rfl
  · obtain ⟨v, lo, rfl, hv, k⟩ := h
    refine ⟨_, (pss_one (ps_ret (pe_and (pe_callB call_isi (by rfl) T.z_isinstance (by decide +kernel) (pa_cons (pv 0) (pa_cons (pe_bltn (v := .ty "int") (by rfl) T.z_int (by decide +kernel) rfl) pa_nil))) (pe_and (pe_not (pe_callB call_isi (by rfl) T.z_isinstance (by decide +kernel) (pa_cons (pv 0) (pa_cons (pe_bltn (v := .ty "bool") (by rfl) T.z_bool (by decide +kernel) rfl) pa_nil)))) (pe_one (pe_chain op_le op_le (pv 1) (pv 0) (pe_glob (v := .int 1000000) (by rfl) T.g_MOST.choose_spec ⟨_, rfl⟩))))))), ?_⟩
    rcases hv with hv | ⟨p, xs, rfl, hp⟩
    case inr => exact ⟨_, rfl, _, _, _, _, _, rfl, .ty "int", .base (.tup hp), kit_ty (b := "int") (r := false) (by decide +kernel), false, rfl, iteF k⟩
    cases hv with
    | int i =>
      refine ⟨_, rfl, _, _, _, _, _, rfl, .ty "int", .base (.int i), kit_ty (b := "int") (r := true) (by decide +kernel), true, rfl, iteT ?_⟩
      refine ⟨_, rfl, _, _, _, _, _, rfl, .ty "bool", .base (.int i), kit_ty (b := "bool") (r := false) (by decide +kernel), ?_⟩
      refine ⟨_, rfl, true, rfl, iteT ?_⟩
      have e : numV lo (.int i) = (decide (lo ≤ i) && decide (i ≤ 1000000)) := rfl
      by_cases h0 : lo ≤ i
      · refine ⟨_, rfl, _, rfl, _, _, rfl, rfl, true, congrArg V.bl (decide_eq_true h0), iteT ?_⟩
        rw [e, decide_eq_true h0, Bool.true_and] at k
        exact ⟨_, _, rfl, rfl, k⟩
      · refine ⟨_, rfl, _, rfl, _, _, rfl, rfl, false, congrArg V.bl (decide_eq_false h0), iteF ?_⟩
        rw [e, decide_eq_false h0, Bool.false_and] at k
        exact k
    | str z => exact ⟨_, rfl, _, _, _, _, _, rfl, .ty "int", .base (.str z), kit_ty (b := "int") (r := false) (by decide +kernel), false, rfl, iteF k⟩
    | non => exact ⟨_, rfl, _, _, _, _, _, rfl, .ty "int", .base .non, kit_ty (b := "int") (r := false) (by decide +kernel), false, rfl, iteF k⟩
theorem ok_f_is_name (T : Txt K mg A) : FnOk P w K mg base CX0 1 A.f_is_name A.fd_f_is_name P_f_is_name spIsName := by
  refine T.F_f_is_name.ok sc_f_is_name (fun vs H Q E h => ?_) (fun cdv Ar outer s H vs Q E hr h => ?_)
  · obtain ⟨v, rfl, _⟩ := h
    rfl
  · obtain ⟨v, rfl, hv, hz, k⟩ := h
    refine ⟨_, (pss_one (ps_ret (pe_and (pe_callB call_isi (by rfl) T.z_isinstance (by decide +kernel) (pa_cons (pv 0) (pa_cons (pe_bltn (v := .ty "str") (by rfl) T.z_str (by decide +kernel) rfl) pa_nil))) (pe_and (pe_chain op_le op_le pe_int (pe_callB (call_len_str) (by rfl) T.z_len (by decide +kernel) (pa_cons (pv 0) pa_nil)) (pe_glob (v := .int 12) (by rfl) T.g_LONGEST.choose_spec ⟨_, rfl⟩)) (pe_one (pe_callB (cr_all rfl) (by rfl) T.z_all (by decide +kernel) (pa_cons (pe_g (pe_lcV (own := [("letter", 1)]) rfl sc_f_is_name.nd (pi_str (pv 0)) (blkOk_by (own := [("letter", 1)]) (N := N_f_is_name) (sc := defScope s_f_is_name) (by decide +kernel)) (fun _ _ _ _ _ => (pg_name (i := 1) sc_f_is_name.nd rfl (Or.inl rfl))) (fun _ _ _ _ _ => pts_nil) (fun _ _ _ _ _ => (pe_cmpR op_in_sign (pv 1) (pe_glob (v := .str "abcdefghijklmnopqrstuvwxyz") (by rfl) T.g_LETTERS.choose_spec ⟨_, rfl⟩) (by rfl))) (fun _ _ _ _ _ => rfl) (fun _ _ _ _ _ => rfl) (fun _ _ _ _ _ => rfl))) pa_nil))))))), ?_⟩
    cases hv with
    | int i => exact ⟨_, rfl, _, _, _, _, _, rfl, .ty "str", .base (.int i), kit_ty (b := "str") (r := false) (by decide +kernel), false, rfl, iteF (k H fun _ _ h => h)⟩
    | non => exact ⟨_, rfl, _, _, _, _, _, rfl, .ty "str", .base .non, kit_ty (b := "str") (r := false) (by decide +kernel), false, rfl, iteF (k H fun _ _ h => h)⟩
    | str z =>
      have hz := hz z rfl
      have hzs : z.length ≤ sizeLine := Nat.le_trans hz (by decide)
      refine ⟨_, rfl, _, _, _, _, _, rfl, .ty "str", .base (.str z), kit_ty (b := "str") (r := true) (by decide +kernel), true, rfl, iteT ?_⟩
      have e : nameV (.str z) = (decide (1 ≤ z.length) && (decide (z.length ≤ 12) && z.cps.toList.all fun c => decide (c ∈ lettersZ.cps.toList))) := rfl
      have e1 : decide ((1 : Int) ≤ (z.length : Int)) = decide (1 ≤ z.length) := by
        rw [decide_eq_decide]
        omega
      have e2 : decide ((z.length : Int) ≤ 12) = decide (z.length ≤ 12) := by
        rw [decide_eq_decide]
        omega
      refine ⟨_, rfl, _, rfl, hzs, _, _, rfl, rfl, decide (1 ≤ z.length), congrArg V.bl e1, ?_⟩
      by_cases h1 : 1 ≤ z.length
      · rw [decide_eq_true h1]
        refine iteT ⟨_, _, rfl, rfl, decide (z.length ≤ 12), congrArg V.bl e2, ?_⟩
        by_cases h2 : z.length ≤ 12
        · rw [decide_eq_true h2]
          refine iteT ⟨⟨_, rfl, z, rfl, fun D hD => ?_⟩⟩
          refine lc_it walk_str (fun i H' => Wd (Same H H' ∧ H' D = some (.lst ((z.cps.toList.take i).map fun c => V.bl (decide (c ∈ lettersZ.cps.toList)))))) ⟨Same.new hD, upd_same⟩ (fun _ _ _ _ => trivial) ?_ ?_
          · rintro i x H1 H2 hi ⟨s1, h1'⟩ ⟨rfl, c, hc, rfl⟩
            have hi' : i < z.cps.toList.length := by simpa using hi
            have hc' : z.cps.toList[i]? = some c := by rw [Array.getElem?_toList]; exact hc
            refine ⟨rfl, _, rfl, c, _, rfl, rfl, _, h1', ?_, Same.at_new hD s1, ?_⟩
            · rw [List.length_map, List.length_take]
              exact Nat.lt_of_lt_of_le (by have : z.cps.toList.length = z.length := by simp [Str.length]
                                           omega : _ < 1000) (by decide)
            · rw [upd_same, take_more hc', List.map_append]
              rfl
          · rintro H1 ⟨s1, h1'⟩
            refine ⟨D, z.cps.toList.map fun c => decide (c ∈ lettersZ.cps.toList), rfl, SqL.of ?_, ?_⟩
            · rw [h1', List.take_of_length_le (by simp), List.map_map]
              rfl
            · have kk := k H1 s1
              rw [e, decide_eq_true h1, decide_eq_true h2, Bool.true_and, Bool.true_and] at kk
              rw [List.all_map]
              exact kk
        · rw [decide_eq_false h2]
          refine iteF ?_
          have kk := k H fun _ _ h => h
          rw [e, decide_eq_false h2, Bool.false_and, Bool.and_false] at kk
          exact kk
      · rw [decide_eq_false h1]
        refine iteF ⟨_, rfl, iteF ?_⟩
        have kk := k H fun _ _ h => h
        rw [e, decide_eq_false h1, Bool.false_and] at kk
        exact kk
end

/-! ### is_entry -/
def entOk (v0 v1 v2 : V) : Bool := nameV v1 && (if (eqV v0 (.str "buy") || eqV v0 (.str "sell") || eqV v0 (.str "back")) = true then numV 1 v2 else if eqV v0 (.str "late") = true then nameV v2 else false)
def shortV (v : V) : Prop := ∀ z, v = .str z → z.length ≤ 1000
def EntTup (H : Hp) (v v0 v1 v2 : V) : Prop := ∃ p, v = .ref p ∧ H p = some (.tup [v0, v1, v2]) ∧ Pl v0 ∧ Pl v1 ∧ Pl v2 ∧ shortV v1 ∧ shortV v2
/-- what is no tuple of three things -/
def NoEnt (H : Hp) (v : V) : Prop := Pl v ∨ ∃ p xs, v = .ref p ∧ (H p = some (.lst xs) ∨ (H p = some (.tup xs) ∧ xs.length ≠ 3 ∧ xs.length ≤ 1000))
def spIsEntry : Sp := fun vs H Q _ => ∃ v : V, vs = [v] ∧ ((∃ v0 v1 v2, EntTup H v v0 v1 v2 ∧ ∀ H', Same H H' → Q (.bl (entOk v0 v1 v2)) H') ∨ (NoEnt H v ∧ ∀ H', Same H H' → Q (.bl false) H'))
section
variable {P : Program} {w : World} {K : PySem.W.Frag} {mg : Str → Option Value} {base : Heap} {A : Ad}
theorem ok_f_is_entry (T : Txt K mg A) : FnOk P w K mg base CX0 2 A.f_is_entry A.fd_f_is_entry P_f_is_entry spIsEntry := by
  refine T.F_f_is_entry.ok sc_f_is_entry (fun vs H Q E h => ?_) (fun cdv Ar outer s H vs Q E hr h => ?_)
  · obtain ⟨v, rfl, _⟩ := h
    rfl
  · obtain ⟨v, rfl, h⟩ := h
    refine ⟨_, (pss_cons (ps_if (PW.pt (pw_or (pt_not (pt_val (pe_callB call_isi (by rfl) T.z_isinstance (by decide +kernel) (pa_cons (pv 0) (pa_cons (pe_bltn (v := .ty "tuple") (by rfl) T.z_tuple (by decide +kernel) rfl) pa_nil))))) (pw_or (pt_cmpR op_ne (pe_callB call_len_seq (by rfl) T.z_len (by decide +kernel) (pa_cons (pv 0) pa_nil)) pe_int (nomark _)) (pw_or1 (pt_not (pt_val (pe_call (ok_f_is_name T) (hr.mono (by decide)) (by rfl) T.g_is_name T.F_f_is_name.kp T.b_f_is_name .nil pass0 (pa_cons (pe_ix ix_tup (pv 0) pe_int (fun _ _ => rfl)) pa_nil)))))))) (pss_one (ps_ret pe_bl)) pss_nil)
      (pss_cons (ps_match3 (w1 := "buy") (w2 := "sell") (w3 := "back") (w4 := "late") (i1 := 1) (i2 := 2) rfl hr.units sc_f_is_entry.nd rfl (Or.inl rfl) rfl (Or.inl rfl) (pv 0) (pss_one (ps_ret (pe_call (ok_f_is_number T) (hr.mono (by decide)) (by rfl) T.g_is_number T.F_f_is_number.kp T.b_f_is_number .nil pass0 (pa_cons (pv 1) (pa_cons pe_int pa_nil))))) (pss_one (ps_ret (pe_call (ok_f_is_name T) (hr.mono (by decide)) (by rfl) T.g_is_name T.F_f_is_name.kp T.b_f_is_name .nil pass0 (pa_cons (pv 2) pa_nil)))))
      (pss_one (ps_ret pe_bl)))), ?_⟩
    rcases h with ⟨v0, v1, v2, ⟨p, rfl, hp, h0, h1, h2, s1, s2⟩, k⟩ | ⟨hN, k⟩
    · refine ⟨_, rfl, _, _, _, _, _, rfl, .ty "tuple", .base (.tup hp), kit_ty (b := "tuple") (r := true) (by decide +kernel), _, rfl, iteF ?_⟩
      refine ⟨_, rfl, p, _, rfl, .inr (SqT.of hp), rfl, _, rfl, iteF ?_⟩
      refine ⟨_, rfl, p, _, _, v1, rfl, rfl, SqT.of hp, rfl, v1, rfl, h1, s1, fun H1 e1 => ⟨_, rfl, ?_⟩⟩
      cases n1 : nameV v1 with
      | false =>
        refine iteT ?_
        have kk := k H1 e1
        unfold entOk at kk
        rw [n1, Bool.false_and] at kk
        exact kk
      | true =>
        have hp1 := e1 _ _ hp
        refine iteF ⟨_, rfl, p, v0, v1, v2, rfl, hp1, h0.flat, ?_⟩
        have kk := fun H' (e : Same H1 H') => k H' (e1.trans e)
        unfold entOk at kk
        rw [n1, Bool.true_and] at kk
        split
        · next e =>
          rw [if_pos e] at kk
          exact ⟨_, rfl, v2, 1, rfl, .inl h2, kk H1 fun _ _ h => h⟩
        · next e =>
          rw [if_neg e] at kk
          split
          · next e' =>
            rw [if_pos e'] at kk
            exact ⟨_, rfl, v2, rfl, h2, s2, fun H' s' => kk H' s'⟩
          · next e' =>
            rw [if_neg e'] at kk
            exact kk H1 fun _ _ h => h
    · rcases hN with hv | ⟨p, xs, rfl, hp | ⟨hp, hl, hz⟩⟩
      · cases hv with
        | int i => exact ⟨_, rfl, _, _, _, _, _, rfl, .ty "tuple", .base (.int i), kit_ty (b := "tuple") (r := false) (by decide +kernel), _, rfl, iteT (k H fun _ _ h => h)⟩
        | str z => exact ⟨_, rfl, _, _, _, _, _, rfl, .ty "tuple", .base (.str z), kit_ty (b := "tuple") (r := false) (by decide +kernel), _, rfl, iteT (k H fun _ _ h => h)⟩
        | non => exact ⟨_, rfl, _, _, _, _, _, rfl, .ty "tuple", .base .non, kit_ty (b := "tuple") (r := false) (by decide +kernel), _, rfl, iteT (k H fun _ _ h => h)⟩
      · exact ⟨_, rfl, _, _, _, _, _, rfl, .ty "tuple", .base (.lst hp), kit_ty (b := "tuple") (r := false) (by decide +kernel), _, rfl, iteT (k H fun _ _ h => h)⟩
      · refine ⟨_, rfl, _, _, _, _, _, rfl, .ty "tuple", .base (.tup hp), kit_ty (b := "tuple") (r := true) (by decide +kernel), _, rfl, iteF ?_⟩
        refine ⟨_, rfl, p, _, rfl, .inr (SqT.of hp), rfl, _, rfl, ?_⟩
        refine ifNF (fun e => hl ?_) (k H fun _ _ h => h)
        have := V.int.inj e
        omega
end

/-! ### a book's entries -/
structure En where
  d : Int
  n : Int
  e : Addr
  kd : Str
  nm : Str
  x : V
def kvE (es : List En) : List (List L2.Key × V) := kvT (es.map fun t => (t.d, t.n, V.ref t.e))
abbrev keyE (d n : Int) : List L2.Key := [.inl d, .inl n]
def isE (d n : Int) (t : En) : Bool := decide (t.d = d) && decide (t.n = n)
theorem isE_iff {d n : Int} {t : En} : isE d n t = true ↔ t.d = d ∧ t.n = n := by
  unfold isE
  rw [Bool.and_eq_true, decide_eq_true_iff, decide_eq_true_iff]
theorem keyE_eq {d n : Int} {t : En} : (([.inl t.d, .inl t.n] : List L2.Key) = keyE d n) ↔ isE d n t = true := by
  rw [isE_iff]
  constructor
  · intro h
    injection h with h1 h2
    injection h2 with h2 _
    exact ⟨Sum.inl.inj h1, Sum.inl.inj h2⟩
  · rintro ⟨rfl, rfl⟩
    rfl
def atE (es : List En) (d n : Int) : Option En := es.find? (isE d n)
def dropE (es : List En) (d n : Int) : List En := es.filter fun t => !isE d n t
def putE (es : List En) (t : En) : List En := if (atE es t.d t.n).isSome = true then es.map (fun u => if isE t.d t.n u = true then t else u) else es ++ [t]
theorem val_kvE {d n : Int} : ∀ es : List En, valV (kvE es) (keyE d n) = (atE es d n).map fun t => V.ref t.e
  | [] => rfl
  | t :: es => by
    have ih := val_kvE (d := d) (n := n) es
    by_cases h : isE d n t = true
    · rw [show kvE (t :: es) = ([.inl t.d, .inl t.n], V.ref t.e) :: kvE es from rfl, valV_pos (keyE_eq.mpr h)]
      unfold atE
      rw [List.find?_cons, h]
      rfl
    · rw [show kvE (t :: es) = ([.inl t.d, .inl t.n], V.ref t.e) :: kvE es from rfl, valV_neg (fun e => h (keyE_eq.mp e)), ih]
      unfold atE
      rw [List.find?_cons, (by simpa using h : isE d n t = false)]
theorem drop_kvE {d n : Int} : ∀ es : List En, dropK (kvE es) (keyE d n) = kvE (dropE es d n)
  | [] => rfl
  | t :: es => by
    have ih := drop_kvE (d := d) (n := n) es
    unfold dropK at ih ⊢
    unfold dropE at ih ⊢
    rw [show kvE (t :: es) = ([.inl t.d, .inl t.n], V.ref t.e) :: kvE es from rfl]
    by_cases h : isE d n t = true
    · rw [List.filter_cons_of_neg (by simp [keyE_eq.mpr h]), List.filter_cons_of_neg (by simp [h]), ih]
    · have hk : decide ((([.inl t.d, .inl t.n] : List L2.Key), V.ref t.e).1 ≠ keyE d n) = true := decide_eq_true fun e => h (keyE_eq.mp e)
      rw [List.filter_cons_of_pos (p := fun kv : List L2.Key × V => decide (kv.1 ≠ keyE d n)) hk, List.filter_cons_of_pos (by simpa using h), ih]
      rfl
theorem put_kvE {es : List En} {t : En} : putK (kvE es) (keyE t.d t.n) (.ref t.e) = kvE (putE es t) := by
  have hany : ((kvE es).any fun kv => decide (kv.1 = keyE t.d t.n)) = (atE es t.d t.n).isSome := by
    rw [valV_any, val_kvE, Option.isSome_map]
  unfold putK putE
  rw [hany]
  split
  · unfold kvE kvT
    rw [List.map_map, List.map_map, List.map_map, List.map_map]
    refine List.map_congr_left fun u _ => ?_
    show (if ([.inl u.d, .inl u.n] : List L2.Key) = keyE t.d t.n then _ else _) = _
    by_cases h : isE t.d t.n u = true
    · rw [if_pos (keyE_eq.mpr h)]
      show _ = (fun t : En => (([.inl t.d, .inl t.n] : List L2.Key), V.ref t.e)) (if isE t.d t.n u = true then t else u)
      rw [if_pos h]
      show (([.inl u.d, .inl u.n] : List L2.Key), V.ref t.e) = ([.inl t.d, .inl t.n], V.ref t.e)
      rw [(isE_iff.mp h).1, (isE_iff.mp h).2]
    · rw [if_neg (fun e => h (keyE_eq.mp e))]
      show _ = (fun t : En => (([.inl t.d, .inl t.n] : List L2.Key), V.ref t.e)) (if isE t.d t.n u = true then t else u)
      rw [if_neg h]
  · unfold kvE kvT
    rw [List.map_append, List.map_append]
    rfl
/-- by day and number -/
def leK (a b : Int × Int) : Bool := !SrtO.lexB b a
theorem leK_iff {a b : Int × Int} : leK a b = true ↔ a.1 < b.1 ∨ (a.1 = b.1 ∧ a.2 ≤ b.2) := by
  unfold leK
  rw [Bool.not_eq_true', SrtO.lexB_no]
  omega
def keysE (es : List En) : List (Int × Int) := es.map fun t => (t.d, t.n)
def srtK (es : List En) : List (Int × Int) := (keysE es).mergeSort leK
theorem srtK_uniq {es : List En} {ps : List (Int × Int)} (h : ps.Perm (keysE es)) (hs : ps.Pairwise (fun a b => SrtO.lexB b a = false)) : ps = srtK es := by
  refine List.Perm.eq_of_pairwise (le := fun a b => leK a b = true) (fun a b _ _ h1 h2 => ?_) (hs.imp fun {a b} z => by unfold leK; rw [z]; rfl) ?_ (h.trans (List.mergeSort_perm _ _).symm)
  · rw [leK_iff] at h1 h2
    exact Prod.ext (by omega) (by omega)
  · refine List.pairwise_mergeSort (le := leK) (fun a b c h1 h2 => ?_) (fun a b => ?_) _
    · rw [leK_iff] at h1 h2 ⊢
      omega
    · rw [Bool.or_eq_true, leK_iff, leK_iff]
      omega
theorem mem_srtK {es : List En} {p : Int × Int} : p ∈ srtK es ↔ ∃ t ∈ es, (t.d, t.n) = p := by
  unfold srtK
  rw [(List.mergeSort_perm _ _).mem_iff]
  unfold keysE
  rw [List.mem_map]
theorem len_srtK {es : List En} : (srtK es).length = es.length := by
  unfold srtK keysE
  rw [List.length_mergeSort, List.length_map]
theorem atE_some {es : List En} {d n : Int} {t : En} (h : atE es d n = some t) : t ∈ es ∧ t.d = d ∧ t.n = n := by
  have h1 := List.find?_some h
  exact ⟨List.mem_of_find?_eq_some h, isE_iff.mp h1⟩
theorem atE_mem {es : List En} {t : En} (h : t ∈ es) : ∃ u, atE es t.d t.n = some u := by
  cases e : atE es t.d t.n with
  | some u => exact ⟨u, rfl⟩
  | none =>
    have := List.find?_eq_none.mp e t h
    exact absurd (isE_iff.mpr ⟨rfl, rfl⟩) this
/-- the names of a kind, in the order of the places, each once -/
def namedE (es : List En) (kd : Str) : List (Int × Int) → List Str → List Str
  | [], acc => acc
  | p :: ps, acc => namedE es kd ps (match atE es p.1 p.2 with
    | some t => if t.kd = kd ∧ t.nm ∉ acc then acc ++ [t.nm] else acc
    | none => acc)
def EntsAt (H : Hp) (es : List En) : Prop := ∀ t ∈ es, H t.e = some (.tup [.str t.kd, .str t.nm, t.x])
theorem EntsAt.keep {H H' : Hp} {es : List En} (h : EntsAt H es) (s : ∀ b xs, H b = some (.tup xs) → H' b = some (.tup xs)) : EntsAt H' es := fun t ht => s _ _ (h t ht)
/-- the book at b, its dict at dd -/
def BookAt (C : Addr) (H : Hp) (b dd : Addr) (es : List En) : Prop := (∃ dx, H b = some (.ins C dx [("entries", .ref dd)])) ∧ H dd = some (.dT (kvE es))
theorem BookAt.same {C : Addr} {H H' : Hp} {b dd : Addr} {es : List En} (h : BookAt C H b dd es) (s : Same H H') : BookAt C H' b dd es := by
  obtain ⟨⟨dx, h1⟩, h2⟩ := h
  exact ⟨⟨dx, s _ _ h1⟩, s _ _ h2⟩
theorem mem_putE {es : List En} {t u : En} (h : u ∈ putE es t) : u = t ∨ u ∈ es := by
  unfold putE at h
  split at h
  · obtain ⟨v, hv, e⟩ := List.mem_map.mp h
    split at e
    · exact .inl e.symm
    · exact .inr (e ▸ hv)
  · rcases List.mem_append.mp h with h | h
    · exact .inr h
    · exact .inl (List.mem_singleton.mp h)
theorem len_putE {es : List En} {t : En} : (putE es t).length ≤ es.length + 1 := by
  unfold putE
  split
  · rw [List.length_map]
    exact Nat.le_succ _
  · rw [List.length_append]
    exact Nat.le_refl _

/-- the places of the entries lie close together: their hashes are apart -/
structure Near (es : List En) : Prop where
  d0 : ∀ u ∈ es, 0 ≤ u.d ∧ u.d < 2 ^ 60
  n0 : ∀ u ∈ es, 0 ≤ u.n ∧ u.n ≤ 1000000
  dd : ∀ u ∈ es, ∀ v ∈ es, u.d ≤ v.d + 1000
theorem Near.sub {es fs : List En} (h : Near es) (s : ∀ u ∈ fs, ∃ v ∈ es, u.d = v.d ∧ u.n = v.n) : Near fs := by
  refine ⟨fun u hu => ?_, fun u hu => ?_, fun u hu v hv => ?_⟩
  · obtain ⟨w, hw, e1, _⟩ := s u hu
    rw [e1]
    exact h.d0 w hw
  · obtain ⟨w, hw, _, e2⟩ := s u hu
    rw [e2]
    exact h.n0 w hw
  · obtain ⟨w, hw, e1, _⟩ := s u hu
    obtain ⟨w2, hw2, e2, _⟩ := s v hv
    rw [e1, e2]
    exact h.dd w hw w2 hw2
theorem key_hashU {P : Program} {w : World} {es : List En} (h : Near es) {u : En} (hu : u ∈ es) : (PySem.tupleKind (mixKind P w)).hash (keyE u.d u.n) = TH.hash2 u.d.toNat u.n.toNat := by
  have a := h.d0 u hu
  have b := h.n0 u hu
  have c : u.n < 2 ^ 60 := Int.lt_of_le_of_lt b.2 (by decide)
  rw [show keyE u.d u.n = [Sum.inl u.d, Sum.inl u.n] from rfl]
  rw [key_hash a.1 a.2 b.1 c]
theorem near_inj {es : List En} (h : Near es) {u v : En} (hu : u ∈ es) (hv : v ∈ es) (z : TH.hash2 u.d.toNat u.n.toNat = TH.hash2 v.d.toNat v.n.toNat) : (u.d, u.n) = (v.d, v.n) := by
  have a := h.d0 u hu
  have b := h.n0 u hu
  have a2 := h.d0 v hv
  have b2 := h.n0 v hv
  have c := h.dd u hu v hv
  have c2 := h.dd v hv u hu
  obtain ⟨e1, e2⟩ := TH.hash2_inj (by omega) (by omega) (by omega) (by omega) z
  have h1 : u.d = v.d := by omega
  have h2 : u.n = v.n := by omega
  rw [h1, h2]
theorem hap_kvE {es : List En} (nd : (keysE es).Nodup) (h : Near es) : HAp (kvE es) := by
  intro P w
  unfold keysE List.Nodup at nd
  rw [List.pairwise_map] at nd
  unfold kvE kvT List.Nodup
  rw [List.pairwise_map, List.pairwise_map, List.pairwise_map]
  refine nd.imp_of_mem fun {u v} hu hv ne z => ne (near_inj h hu hv ?_)
  rw [← key_hashU (P := P) (w := w) h hu, ← key_hashU (P := P) (w := w) h hv]
  exact z

/-! ### the book -/
section
variable {P : Program} {w : World} {K : PySem.W.Frag} {mg : Str → Option Value} {base : Heap} {A : Ad}
def spBookInit (C : Addr) : Sp := fun vs H Q _ => ∃ b dx, vs = [.ref b] ∧ H b = some (.ins C dx []) ∧ ∀ d, H d = none → Q .non (upd (upd H d (.dT [])) b (.ins C dx [("entries", .ref d)]))
theorem ok_m_Book_init (T : Txt K mg A) : FnOk P w K mg base CX0 1 A.m_Book_init A.fd_m_Book_init P_m_Book_init (spBookInit A.Book) := by
  refine T.F_m_Book_init.ok sc_m_Book_init (fun vs H Q E h => ?_) (fun cdv Ar outer s H vs Q E hr h => ?_)
  · obtain ⟨b, dx, rfl, _⟩ := h
    rfl
  · obtain ⟨b, dx, rfl, hb, k⟩ := h
    refine ⟨_, (pss_one (ps_fld (pv 0) (pe_dnewT) rfl)), ?_⟩
    intro d hd
    exact ⟨_, rfl, b, A.Book, dx, [], rfl, by rw [upd_ne (ne_of_none hb hd)]; exact hb, T.cl_Book, T.n_Book_entries, by show 0 < 1000; decide, k d hd⟩
def spContains (C : Addr) : Sp := fun vs H Q _ => ∃ b dd t es d n, vs = [.ref b, .ref t] ∧ BookAt C H b dd es ∧ H t = some (.tup [.int d, .int n]) ∧ Q (.bl (atE es d n).isSome) H
theorem ok_m_Book_contains (T : Txt K mg A) : FnOk P w K mg base CX0 1 A.m_Book_contains A.fd_m_Book_contains P_m_Book_contains (spContains A.Book) := by
  refine T.F_m_Book_contains.ok sc_m_Book_contains (fun vs H Q E h => ?_) (fun cdv Ar outer s H vs Q E hr h => ?_)
  · obtain ⟨b, dd, t, es, d, n, rfl, _⟩ := h
    rfl
  · obtain ⟨b, dd, t, es, d, n, rfl, ⟨⟨dx, hb⟩, hd⟩, ht, k⟩ := h
    refine ⟨_, (pss_one (ps_ret (pe_cmp (pc_din (hu_of hr) (pv 1) (pe_fld (pv 0) rfl)) rfl))), ?_⟩
    refine ⟨_, rfl, _, rfl, b, A.Book, dx, _, _, rfl, hb, T.cl_Book, T.n_Book_entries, rfl, dd, _, rfl, DGet.t (k := keyE d n) hd ht, ?_⟩
    rw [val_kvE, Option.isSome_map]
    exact k
def spLen (C : Addr) : Sp := fun vs H Q _ => ∃ b dd es, vs = [.ref b] ∧ BookAt C H b dd es ∧ Q (.int (es.length : Nat)) H
theorem ok_m_Book_len (T : Txt K mg A) : FnOk P w K mg base CX0 1 A.m_Book_len A.fd_m_Book_len P_m_Book_len (spLen A.Book) := by
  refine T.F_m_Book_len.ok sc_m_Book_len (fun vs H Q E h => ?_) (fun cdv Ar outer s H vs Q E hr h => ?_)
  · obtain ⟨b, dd, es, rfl, _⟩ := h
    rfl
  · obtain ⟨b, dd, es, rfl, ⟨⟨dx, hb⟩, hd⟩, k⟩ := h
    refine ⟨_, (pss_one (ps_ret (pe_callB (call_len_dT) (by rfl) T.z_len (by decide +kernel) (pa_cons (pe_fld (pv 0) rfl) pa_nil)))), ?_⟩
    refine ⟨_, rfl, b, A.Book, dx, _, _, rfl, hb, T.cl_Book, T.n_Book_entries, rfl, dd, _, rfl, hd, ?_⟩
    have e : (kvE es).length = es.length := by unfold kvE kvT; rw [List.length_map, List.length_map]
    rw [e]
    exact k
def noE (n d : V) : List (Str × V) := [("number", n), ("day", d)]
def spGetItem (C CE : Addr) : Sp := fun vs H Q E => ∃ b dd t es d n, vs = [.ref b, .ref t] ∧ BookAt C H b dd es ∧ H t = some (.tup [.int d, .int n]) ∧ (∀ u, atE es d n = some u → Q (.ref u.e) H) ∧
  (atE es d n = none → ∀ x H', Same H H' → H' x = some (.xd (noE (.int n) (.int d))) → E (.ref CE) (some x) H')
theorem ok_m_Book_getitem (T : Txt K mg A) : FnOk P w K mg base (L2.CX P w) 5 A.m_Book_getitem A.fd_m_Book_getitem P_m_Book_getitem (spGetItem A.Book A.NoEntry) := by
  refine T.F_m_Book_getitem.okX sc_m_Book_getitem (fun vs H Q E h => ?_) (fun cdv Ar outer s H vs Q E hr h => ?_)
  · obtain ⟨b, dd, t, es, d, n, rfl, _⟩ := h
    rfl
  · obtain ⟨b, dd, t, es, d, n, rfl, ⟨⟨dx, hb⟩, hd⟩, ht, k1, k2⟩ := h
    refine ⟨_, (pss_cons (ps_asg (pv 1) (pg_tup (n := 2) rfl (pgs_cons (pg_name (i := 2) sc_m_Book_getitem.nd rfl (Or.inl rfl)) (pgs_cons (pg_name (i := 3) sc_m_Book_getitem.nd rfl (Or.inl rfl)) pgs_nil))))
      (pss_cons (ps_if (pt_cmp (pc_dnotin (hu_of hr) (pv 1) (pe_fld (pv 0) rfl))) (pss_one (ps_raise rfl (takes_of rfl rfl rfl rfl) (pmk_oex T.ox_NoEntry T.oi_NoEntry T.ot_NoEntry (ok_m_NoEntry_init T) (hr.mono (by decide)) T.b_m_NoEntry_init .nil pass0 (by rfl) T.g_NoEntry (pa_cons (pv 2) (pa_cons (pv 3) pa_nil))))) pss_nil)
      (pss_one (ps_ret (pe_dget (hu_of hr) (pe_fld (pv 0) rfl) (pv 1) (fun _ _ => rfl)))))), ?_⟩
    refine ⟨_, rfl, t, _, rfl, SqT.of ht, rfl, _, _, rfl, _, _, rfl, rfl, ?_⟩
    refine ⟨_, rfl, _, rfl, b, A.Book, dx, _, _, rfl, hb, T.cl_Book, T.n_Book_entries, rfl, dd, _, rfl, DGet.t (k := keyE d n) hd ht, _, rfl, ?_⟩
    rw [val_kvE, Option.isSome_map]
    cases e : atE es d n with
    | none => exact iteT ⟨_, rfl, _, rfl, (by show 2 ≤ 1000; decide), fun a ha => mk_excF (fun x H' s _ h => k2 e x H' s h) ha⟩
    | some u =>
      refine iteF ⟨_, rfl, b, A.Book, dx, _, _, rfl, hb, T.cl_Book, T.n_Book_entries, rfl, _, rfl, dd, V.ref u.e, rfl, ?_, k1 u e⟩
      have g := DGet.t (k := keyE d n) hd ht
      rw [val_kvE, e] at g
      exact g
def spRemove (C CE : Addr) : Sp := fun vs H Q E => ∃ b dd es d n, vs = [.ref b, .int d, .int n] ∧ BookAt C H b dd es ∧ ((atE es d n).isSome = true → ∀ H', Same H H' → Q .non (upd H' dd (.dT (kvE (dropE es d n))))) ∧
  (atE es d n = none → ∀ x H', Same H H' → H' x = some (.xd (noE (.int n) (.int d))) → E (.ref CE) (some x) H')
theorem ok_m_Book_remove (T : Txt K mg A) : FnOk P w K mg base (L2.CX P w) 5 A.m_Book_remove A.fd_m_Book_remove P_m_Book_remove (spRemove A.Book A.NoEntry) := by
  refine T.F_m_Book_remove.okX sc_m_Book_remove (fun vs H Q E h => ?_) (fun cdv Ar outer s H vs Q E hr h => ?_)
  · obtain ⟨b, dd, es, d, n, rfl, _⟩ := h
    rfl
  · obtain ⟨b, dd, es, d, n, rfl, ⟨⟨dx, hb⟩, hd⟩, k1, k2⟩ := h
    refine ⟨_, (pss_cons (ps_if (pt_cmp (pc_dnotin (hu_of hr) (pe_tup (pa_cons (pv 1) (pa_cons (pv 2) pa_nil))) (pe_fld (pv 0) rfl))) (pss_one (ps_raise rfl (takes_of rfl rfl rfl rfl) (pmk_oex T.ox_NoEntry T.oi_NoEntry T.ot_NoEntry (ok_m_NoEntry_init T) (hr.mono (by decide)) T.b_m_NoEntry_init .nil pass0 (by rfl) T.g_NoEntry (pa_cons (pv 1) (pa_cons (pv 2) pa_nil))))) pss_nil)
      (pss_one (ps_ddelT (hu_of hr) (pe_fld (pv 0) rfl) (pe_tup (pa_cons (pv 1) (pa_cons (pv 2) pa_nil)))))), ?_⟩
    refine ⟨_, rfl, _, rfl, (by show 2 ≤ sizeLine; decide), fun t ht => ?_⟩
    have s1 := Same.new (o := .tup [V.int d, .int n]) ht
    refine ⟨_, rfl, b, A.Book, dx, _, _, rfl, s1 _ _ hb, T.cl_Book, T.n_Book_entries, rfl, dd, _, rfl, DGet.t (k := keyE d n) (s1 _ _ hd) upd_same, _, rfl, ?_⟩
    rw [val_kvE, Option.isSome_map]
    cases e : atE es d n with
    | none => exact iteT ⟨_, rfl, _, rfl, (by show 2 ≤ 1000; decide), fun a ha => mk_excF (fun x H' s _ h => k2 e x H' (s1.trans s) h) ha⟩
    | some u =>
      refine iteF ⟨_, rfl, b, A.Book, dx, _, _, rfl, s1 _ _ hb, T.cl_Book, T.n_Book_entries, rfl, _, rfl, _, rfl, (by show 2 ≤ sizeLine; decide), fun t2 ht2 => ?_⟩
      have s2 := Same.new (o := .tup [V.int d, .int n]) ht2
      refine ⟨dd, t2, _, keyE d n, rfl, rfl, s2 _ _ (s1 _ _ hd), upd_same, ?_, ?_⟩
      · rw [val_kvE, e]
        rfl
      · rw [drop_kvE]
        exact k1 (by rw [e]; rfl) _ (s1.trans s2)
def spPlaces (C : Addr) : Sp := fun vs H Q _ => ∃ b dd es, vs = [.ref b] ∧ BookAt C H b dd es ∧ ∀ bs p, H p = none → All2 (fun b q => H b = some (.tup [.int q.1, .int q.2])) bs (srtK es) → Q (.ref p) (upd H p (.lst (bs.map V.ref)))
theorem ok_m_Book_places (T : Txt K mg A) : FnOk P w K mg base CX0 1 A.m_Book_places A.fd_m_Book_places P_m_Book_places (spPlaces A.Book) := by
  refine T.F_m_Book_places.ok sc_m_Book_places (fun vs H Q E h => ?_) (fun cdv Ar outer s H vs Q E hr h => ?_)
  · obtain ⟨b, dd, es, rfl, _⟩ := h
    rfl
  · obtain ⟨b, dd, es, rfl, ⟨⟨dx, hb⟩, hd⟩, k⟩ := h
    refine ⟨_, (pss_one (ps_ret (pe_callB (cr_sortedDT rfl) (by rfl) T.z_sorted (by decide +kernel) (pa_cons (pe_fld (pv 0) rfl) pa_nil)))), ?_⟩
    refine ⟨_, rfl, b, A.Book, dx, _, _, rfl, hb, T.cl_Book, T.n_Book_entries, rfl, ⟨dd, es.map fun t : En => (t.d, t.n, V.ref t.e), rfl, hd, fun bs ps p hp h2 hperm hs => ?_⟩⟩
    rw [List.map_map] at hperm
    have e := srtK_uniq (es := es) hperm hs
    subst e
    exact k bs p hp h2
def SetOk (H : Hp) (v : V) (ok : Bool) : Prop := (∃ v0 v1 v2, EntTup H v v0 v1 v2 ∧ ok = entOk v0 v1 v2) ∨ (NoEnt H v ∧ ok = false)
def spSetItem (C CE : Addr) : Sp := fun vs H Q E => ∃ b dd t es vd vn v ok, vs = [.ref b, .ref t, v] ∧ BookAt C H b dd es ∧ es.length < 1000 ∧ H t = some (.tup [vd, vn]) ∧ Pn H vd ∧ Pn H vn ∧ SetOk H v ok ∧
  (∀ d n, vd = .int d → vn = .int n → (numV 0 vd && (numV 0 vn && ok)) = true → ∀ H', Same H H' → Q .non (upd H' dd (.dT (putK (kvE es) (keyE d n) v)))) ∧
  ((numV 0 vd && (numV 0 vn && ok)) = false → ∀ x H', Same H H' → H' x = some (.xd (noE vn vd)) → E (.ref CE) (some x) H')
theorem num_int {lo : Int} {v : V} (h : numV lo v = true) : ∃ i, v = .int i := by
  cases v with
  | int i => exact ⟨i, rfl⟩
  | _ => cases h
theorem ok_m_Book_setitem (T : Txt K mg A) : FnOk P w K mg base (L2.CX P w) 5 A.m_Book_setitem A.fd_m_Book_setitem P_m_Book_setitem (spSetItem A.Book A.BadEntry) := by
  refine T.F_m_Book_setitem.okX sc_m_Book_setitem (fun vs H Q E h => ?_) (fun cdv Ar outer s H vs Q E hr h => ?_)
  · obtain ⟨b, dd, t, es, vd, vn, v, ok, rfl, _⟩ := h
    rfl
  · obtain ⟨b, dd, t, es, vd, vn, v, ok, rfl, ⟨⟨dx, hb⟩, hd⟩, hz, ht, hvd, hvn, hok, k1, k2⟩ := h
    refine ⟨_, (pss_cons (ps_asg (pv 1) (pg_tup (n := 2) rfl (pgs_cons (pg_name (i := 3) sc_m_Book_setitem.nd rfl (Or.inl rfl)) (pgs_cons (pg_name (i := 4) sc_m_Book_setitem.nd rfl (Or.inl rfl)) pgs_nil))))
      (pss_cons (ps_if (PW.pt (pw_or (pt_not (pt_val (pe_call (ok_f_is_number T) (hr.mono (by decide)) (by rfl) T.g_is_number T.F_f_is_number.kp T.b_f_is_number .nil pass0 (pa_cons (pv 3) (pa_cons pe_int pa_nil))))) (pw_or (pt_not (pt_val (pe_call (ok_f_is_number T) (hr.mono (by decide)) (by rfl) T.g_is_number T.F_f_is_number.kp T.b_f_is_number .nil pass0 (pa_cons (pv 4) (pa_cons pe_int pa_nil))))) (pw_or1 (pt_not (pt_val (pe_call (ok_f_is_entry T) (hr.mono (by decide)) (by rfl) T.g_is_entry T.F_f_is_entry.kp T.b_f_is_entry .nil pass0 (pa_cons (pv 2) pa_nil)))))))) (pss_one (ps_raise rfl (takes_of rfl rfl rfl rfl) (pmk_oex T.ox_BadEntry T.oi_BadEntry T.ot_BadEntry (ok_m_BadEntry_init T) (hr.mono (by decide)) T.b_m_BadEntry_init .nil pass0 (by rfl) T.g_BadEntry (pa_cons (pv 3) (pa_cons (pv 4) pa_nil))))) pss_nil)
      (pss_one (ps_dput (hu_of hr) (pe_fld (pv 0) rfl) (pv 1) (pv 2) rfl)))), ?_⟩
    refine ⟨_, rfl, t, _, rfl, SqT.of ht, rfl, _, _, rfl, _, _, rfl, rfl, ?_⟩
    refine ⟨_, rfl, vd, 0, rfl, hvd, _, rfl, ?_⟩
    have bad : (numV 0 vd && (numV 0 vn && ok)) = false → ∀ H1, Same H H1 → ∀ a, H1 a = none → _ := fun e H1 s1 a ha => mk_excF (C := A.BadEntry) (n := 2) (fs := fs_BadEntry) (H := H1) (ws := [vd, vn]) (Q := E) (fun x H' s _ h => k2 e x H' (s1.trans s) h) ha
    cases n1 : numV 0 vd with
    | false => exact iteT ⟨_, rfl, _, rfl, (by show 2 ≤ 1000; decide), bad (by rw [n1]; rfl) H fun _ _ h => h⟩
    | true =>
      refine iteF ⟨_, rfl, vn, 0, rfl, hvn, _, rfl, ?_⟩
      cases n2 : numV 0 vn with
      | false => exact iteT ⟨_, rfl, _, rfl, (by show 2 ≤ 1000; decide), bad (by rw [n1, n2]; rfl) H fun _ _ h => h⟩
      | true =>
        refine iteF ⟨_, rfl, v, rfl, ?_⟩
        obtain ⟨d, rfl⟩ := num_int n1
        obtain ⟨n, rfl⟩ := num_int n2
        have hzl : (kvE es).length < sizeLine := by
          unfold kvE kvT
          rw [List.length_map, List.length_map]
          exact Nat.lt_of_lt_of_le hz (by decide)
        rcases hok with ⟨v0, v1, v2, hE, rfl⟩ | ⟨hN, rfl⟩
        · refine .inl ⟨v0, v1, v2, hE, fun H1 s1 => ⟨_, rfl, ?_⟩⟩
          cases e : entOk v0 v1 v2 with
          | false => exact iteT ⟨_, rfl, _, rfl, (by show 2 ≤ 1000; decide), bad (by rw [n1, n2, e]; rfl) H1 s1⟩
          | true =>
            refine iteF ⟨_, rfl, _, rfl, b, A.Book, dx, _, _, rfl, s1 _ _ hb, T.cl_Book, T.n_Book_entries, rfl, _, rfl, dd, _, rfl, DPut.t (k := keyE d n) (s1 _ _ hd) (s1 _ _ ht) hzl, ?_⟩
            exact k1 d n rfl rfl (by rw [n1, n2, e]; rfl) H1 s1
        · refine .inr ⟨hN, fun H1 s1 => ⟨_, rfl, iteT ⟨_, rfl, _, rfl, (by show 2 ≤ 1000; decide), bad (by rw [n1, n2]; rfl) H1 s1⟩⟩⟩
theorem upd_idem {H : Hp} {a : Addr} {o : HO} (h : H a = some o) : H = upd H a o := funext fun b => by
  by_cases e : b = a
  · rw [e, upd_same, h]
  · rw [upd_ne e]
def stepE (es : List En) (kd : Str) (acc : List Str) (p : Int × Int) : List Str := match atE es p.1 p.2 with
  | some t => if t.kd = kd ∧ t.nm ∉ acc then acc ++ [t.nm] else acc
  | none => acc
theorem named_app {es : List En} {kd : Str} {p : Int × Int} : ∀ {ps : List (Int × Int)} {acc : List Str}, namedE es kd (ps ++ [p]) acc = stepE es kd (namedE es kd ps acc) p
  | [], acc => rfl
  | q :: ps, acc => named_app (ps := ps)
theorem step_len {es : List En} {kd : Str} {acc : List Str} {p : Int × Int} : (stepE es kd acc p).length ≤ acc.length + 1 := by
  unfold stepE
  split
  · split
    · rw [List.length_append, List.length_singleton]
      exact Nat.le_refl _
    · exact Nat.le_succ _
  · exact Nat.le_succ _
theorem named_len {es : List En} {kd : Str} : ∀ (ps : List (Int × Int)) {acc : List Str}, (namedE es kd ps acc).length ≤ ps.length + acc.length
  | [], acc => by rw [List.length_nil, Nat.zero_add]; exact Nat.le_refl _
  | p :: ps, acc => by
    have h := named_len (es := es) (kd := kd) ps (acc := stepE es kd acc p)
    have h2 := step_len (es := es) (kd := kd) (acc := acc) (p := p)
    rw [List.length_cons]
    exact Nat.le_trans h (by omega)
theorem inV_strs {ns : List Str} {x : Str} : inV (.str x) (ns.map V.str) = decide (x ∈ ns) := by
  unfold inV
  rw [List.any_map, Bool.eq_iff_iff, List.any_eq_true, decide_eq_true_iff]
  constructor
  · rintro ⟨y, hy, e⟩
    have e2 : (y == x) = true := e
    rw [beq_iff_eq] at e2
    exact e2 ▸ hy
  · intro h
    refine ⟨x, h, ?_⟩
    show (x == x) = true
    rw [beq_iff_eq]
theorem flat_strs (ns : List Str) : (ns.map V.str).all flatV = true := by
  rw [List.all_map, List.all_eq_true]
  intro x _
  rfl
def spNamed (C : Addr) : Sp := fun vs H Q _ => ∃ b dd es kd, vs = [.ref b, .str kd] ∧ BookAt C H b dd es ∧ EntsAt H es ∧ es.length < 1000 ∧ ∀ p H', Same H H' → H p = none → H' p = some (.lst ((namedE es kd (srtK es) []).map V.str)) → Q (.ref p) H'
theorem ok_m_Book_named (T : Txt K mg A) : FnOk P w K mg base CX0 2 A.m_Book_named A.fd_m_Book_named P_m_Book_named (spNamed A.Book) := by
  refine T.F_m_Book_named.ok sc_m_Book_named (fun vs H Q E h => ?_) (fun cdv Ar outer s H vs Q E hr h => ?_)
  · obtain ⟨b, dd, es, kd, rfl, _⟩ := h
    rfl
  · obtain ⟨b, dd, es, kd, rfl, B, hE, hz, k⟩ := h
    refine ⟨_, (pss_cons (ps_set (i := 2) sc_m_Book_named.nd rfl (Or.inl rfl) (pe_lst pa_nil))
      (pss_cons (ps_g (ps_for PassesOwn.never rfl (pi_list (pe_meth0 (pv 0) T.cl_Book T.m_Book_places (ok_m_Book_places T) (hr.mono (by decide)) T.b_m_Book_places .nil pass0)) (pg_name (i := 3) sc_m_Book_named.nd rfl (Or.inl rfl)) (pss_cons (ps_set (i := 4) sc_m_Book_named.nd rfl (Or.inl rfl) (pe_dget (hu_of hr) (pe_fld (pv 0) rfl) (pv 3) (fun _ _ => rfl)))
      (pss_one (ps_if (PW.pt (pw_and (pt_cmpR op_eq (pe_ix ix_tup (pv 4) pe_int (fun _ _ => rfl)) (pv 1) (nomark _)) (pw_and1 (pt_cmpR op_notIn_seq (pe_ix ix_tup (pv 4) pe_int (fun _ _ => rfl)) (pv 2) (by rfl))))) (pss_one (ps_expr (pe_bm PySem.F.plainAttrs_list PySem.F.slot_list_append PySem.F.type_list_append mt_append (pv 2) (pa_cons (pe_ix ix_tup (pv 4) pe_int (fun _ _ => rfl)) pa_nil)))) pss_nil)))))
      (pss_one (ps_ret (pv 2))))), ?_⟩
    refine ⟨Nat.zero_le _, fun f hf => ?_⟩
    have s1 := Same.new (o := .lst []) hf
    have B1 := B.same s1
    obtain ⟨⟨dx, hb⟩, hd⟩ := B1
    refine ⟨⟨_, rfl, b, dx, _, rfl, hb, rfl, b, dd, es, rfl, ⟨⟨dx, hb⟩, hd⟩, fun bs p hp h2 => ?_⟩⟩
    have s2 := Same.new (o := .lst (bs.map V.ref)) hp
    have nfp : f ≠ p := ne_of_none upd_same hp
    have base2 : Same H (upd (upd H f (.lst [])) p (.lst (bs.map V.ref))) := s1.trans s2
    have hfb : (upd (upd H f (.lst [])) p (.lst (bs.map V.ref))) f = some (.lst []) := by rw [upd_ne nfp, upd_same]
    have hpb : (upd (upd H f (.lst [])) p (.lst (bs.map V.ref))) p = some (.lst (bs.map V.ref)) := upd_same
    have hbb := s2 _ _ hb
    have hdb := s2 _ _ hd
    have hkb : ∀ (i : Nat) (x : Addr) (y : Int × Int), bs[i]? = some x → (srtK es)[i]? = some y → (upd (upd H f (.lst [])) p (.lst (bs.map V.ref))) x = some (.tup [.int y.1, .int y.2]) := fun i x y hx hy => s2 _ _ (h2.2 i x y hx hy)
    have hEb : EntsAt (upd (upd H f (.lst [])) p (.lst (bs.map V.ref))) es := hE.keep fun b xs h => base2 _ _ h
    generalize upd (upd H f (.lst [])) p (.lst (bs.map V.ref)) = Hb at base2 hfb hpb hbb hdb hkb hEb ⊢
    have nfd : dd ≠ f := ne_of hdb hfb (by intro z; cases z)
    have nfb : b ≠ f := ne_of hbb hfb (by intro z; cases z)
    refine ⟨p, rfl, ⟨_, SqL.of hpb⟩, for_list (xs := bs.map V.ref) (fun i σ' H' => Wd (∃ o3 o4 : Option V, σ' = [some (.ref b), some (.str kd), some (.ref f), o3, o4] ∧ H' = upd Hb f (.lst ((namedE es kd ((srtK es).take i) []).map V.str)))) ⟨none, none, rfl, upd_idem hfb⟩ ?_ ?_ ?_⟩
    · rintro i σ' H' _ ⟨o3, o4, rfl, rfl⟩
      exact SqL.of (by rw [upd_ne nfp.symm]; exact hpb)
    · rintro i x σ' H' hx ⟨o3, o4, rfl, rfl⟩
      rw [List.getElem?_map] at hx
      obtain ⟨q, hq, rfl⟩ := Option.map_eq_some_iff.mp hx
      obtain ⟨y, hy, _⟩ := h2.get hq
      have hqt := hkb i q y hq hy
      have nqf : q ≠ f := ne_of hqt hfb (by intro z; cases z)
      obtain ⟨t0, ht0, e0⟩ := mem_srtK.mp (List.mem_of_getElem? hy)
      obtain ⟨t, ht⟩ := atE_mem ht0
      obtain ⟨hmem, e1, e2⟩ := atE_some ht
      have ey : y = (t0.d, t0.n) := e0.symm
      have ht' : atE es y.1 y.2 = some t := by rw [ey]; exact ht
      have hte := hEb t hmem
      have ntf : t.e ≠ f := ne_of hte hfb (by intro z; cases z)
      have g := DGet.t (H := upd Hb f (.lst ((namedE es kd ((srtK es).take i) []).map V.str))) (a := dd) (b := q) (kvs := kvE es) (k := keyE y.1 y.2) (by rw [upd_ne nfd]; exact hdb) (by rw [upd_ne nqf]; exact hqt)
      rw [val_kvE, ht'] at g
      have hte' : upd Hb f (.lst ((namedE es kd ((srtK es).take i) []).map V.str)) t.e = some (.tup [.str t.kd, .str t.nm, t.x]) := by rw [upd_ne ntf]; exact hte
      refine ⟨_, rfl, b, A.Book, dx, _, _, rfl, by rw [upd_ne nfb]; exact hbb, T.cl_Book, T.n_Book_entries, rfl, _, rfl, dd, V.ref t.e, rfl, g, ?_⟩
      refine ⟨_, rfl, t.e, _, _, .str t.kd, rfl, rfl, SqT.of hte', rfl, _, rfl, rfl, _, rfl, ?_⟩
      have hst : namedE es kd ((srtK es).take (i + 1)) [] = stepE es kd (namedE es kd ((srtK es).take i) []) y := by rw [take_more hy, named_app]
      unfold stepE at hst
      rw [ht'] at hst
      have stay : ¬ (t.kd = kd ∧ t.nm ∉ namedE es kd ((srtK es).take i) []) → Wd (∃ o3 o4 : Option V, [some (.ref b), some (.str kd), some (.ref f), some (.ref q), some (.ref t.e)] = [some (.ref b), some (.str kd), some (.ref f), o3, o4] ∧ upd Hb f (.lst ((namedE es kd ((srtK es).take i) []).map V.str)) = upd Hb f (.lst ((namedE es kd ((srtK es).take (i + 1)) []).map V.str))) := fun hn => by
        refine ⟨_, _, rfl, ?_⟩
        rw [hst]
        show _ = upd Hb f (.lst ((if t.kd = kd ∧ t.nm ∉ namedE es kd ((srtK es).take i) [] then _ else _ : List Str).map V.str))
        rw [if_neg hn]
      refine if_dec (fun e => ?_) (fun e => stay fun h => e (congrArg V.str h.1))
      have ek : t.kd = kd := V.str.inj e
      refine ⟨_, rfl, t.e, _, _, .str t.nm, rfl, rfl, SqT.of hte', rfl, _, rfl, f, _, rfl, .inl (SqL.of upd_same), rfl, flat_strs _, _, rfl, ?_⟩
      show if (!inV (.str t.nm) ((namedE es kd ((srtK es).take i) []).map V.str)) = true then _ else _
      rw [inV_strs]
      by_cases hm : t.nm ∈ namedE es kd ((srtK es).take i) []
      · rw [decide_eq_true hm]
        exact iteF (stay fun h => h.2 hm)
      · rw [decide_eq_false hm]
        refine iteT ⟨_, rfl, .inl ⟨rfl, _, SqL.of upd_same⟩, _, rfl, t.e, _, _, .str t.nm, rfl, rfl, SqT.of hte', rfl, f, _, _, rfl, rfl, upd_same, ?_, _, _, rfl, ?_⟩
        · rw [List.length_map]
          exact Nat.lt_of_lt_of_le (Nat.lt_of_le_of_lt (named_len _) (by rw [List.length_take, len_srtK]; show min _ _ + 0 < 1000; omega)) (by decide)
        · rw [upd_upd, hst]
          show _ = upd Hb f (.lst ((if t.kd = kd ∧ t.nm ∉ namedE es kd ((srtK es).take i) [] then _ else _ : List Str).map V.str))
          rw [if_pos ⟨ek, hm⟩, List.map_append]
          rfl
    · rintro σ' H' ⟨o3, o4, rfl, rfl⟩
      refine ⟨_, rfl, k f _ (Same.at_new hf base2) hf ?_⟩
      rw [upd_same, List.length_map, h2.1, List.take_of_length_le (Nat.le_refl _)]
def spKind (C : Addr) (kd : Str) : Sp := fun vs H Q _ => ∃ b dd es, vs = [.ref b] ∧ BookAt C H b dd es ∧ EntsAt H es ∧ es.length < 1000 ∧ ∀ p H', Same H H' → H p = none → H' p = some (.lst ((namedE es kd (srtK es) []).map V.str)) → Q (.ref p) H'
theorem ok_m_Book_lots (T : Txt K mg A) : FnOk P w K mg base CX0 3 A.m_Book_lots A.fd_m_Book_lots P_m_Book_lots (spKind A.Book "buy") := by
  refine T.F_m_Book_lots.ok sc_m_Book_lots (fun vs H Q E h => ?_) (fun cdv Ar outer s H vs Q E hr h => ?_)
  · obtain ⟨b, dd, es, rfl, _⟩ := h
    rfl
  · obtain ⟨b, dd, es, rfl, B, hE, hz, k⟩ := h
    obtain ⟨⟨dx, hb⟩, hd⟩ := B
    exact ⟨_, (pss_one (ps_ret (pe_meth (pv 0) T.cl_Book T.m_Book_named (ok_m_Book_named T) (hr.mono (by decide)) T.b_m_Book_named .nil pass0 (pa_cons pe_str pa_nil)))), _, rfl, b, dx, _, rfl, hb, rfl, b, dd, es, "buy", rfl, ⟨⟨dx, hb⟩, hd⟩, hE, hz, k⟩
theorem ok_m_Book_sales (T : Txt K mg A) : FnOk P w K mg base CX0 3 A.m_Book_sales A.fd_m_Book_sales P_m_Book_sales (spKind A.Book "sell") := by
  refine T.F_m_Book_sales.ok sc_m_Book_sales (fun vs H Q E h => ?_) (fun cdv Ar outer s H vs Q E hr h => ?_)
  · obtain ⟨b, dd, es, rfl, _⟩ := h
    rfl
  · obtain ⟨b, dd, es, rfl, B, hE, hz, k⟩ := h
    obtain ⟨⟨dx, hb⟩, hd⟩ := B
    exact ⟨_, (pss_one (ps_ret (pe_meth (pv 0) T.cl_Book T.m_Book_named (ok_m_Book_named T) (hr.mono (by decide)) T.b_m_Book_named .nil pass0 (pa_cons pe_str pa_nil)))), _, rfl, b, dx, _, rfl, hb, rfl, b, dd, es, "sell", rfl, ⟨⟨dx, hb⟩, hd⟩, hE, hz, k⟩
theorem ok_m_Book_late_costs (T : Txt K mg A) : FnOk P w K mg base CX0 3 A.m_Book_late_costs A.fd_m_Book_late_costs P_m_Book_late_costs (spKind A.Book "late") := by
  refine T.F_m_Book_late_costs.ok sc_m_Book_late_costs (fun vs H Q E h => ?_) (fun cdv Ar outer s H vs Q E hr h => ?_)
  · obtain ⟨b, dd, es, rfl, _⟩ := h
    rfl
  · obtain ⟨b, dd, es, rfl, B, hE, hz, k⟩ := h
    obtain ⟨⟨dx, hb⟩, hd⟩ := B
    exact ⟨_, (pss_one (ps_ret (pe_meth (pv 0) T.cl_Book T.m_Book_named (ok_m_Book_named T) (hr.mono (by decide)) T.b_m_Book_named .nil pass0 (pa_cons pe_str pa_nil)))), _, rfl, b, dx, _, rfl, hb, rfl, b, dd, es, "late", rfl, ⟨⟨dx, hb⟩, hd⟩, hE, hz, k⟩
end

/-! ### names that are valid; what is picked -/
theorem letter_mem {c : Nat} (h : 97 ≤ c ∧ c < 123) : c ∈ lettersZ.cps.toList := by
  have : ∀ n : Fin 26, (97 + n.val) ∈ lettersZ.cps.toList := by decide +kernel
  have h2 := this ⟨c - 97, by omega⟩
  rw [show 97 + (c - 97) = c by omega] at h2
  exact h2
theorem name_ok {n : List Nat} (h : NmOk n) : nameV (vS n) = true := by
  show nameL (SX.S n).cps.toList = true
  have e : (SX.S n).cps.toList = n := rfl
  rw [e]
  unfold nameL
  rw [decide_eq_true h.1, decide_eq_true h.2.1, Bool.true_and, Bool.true_and, List.all_eq_true]
  intro c hc
  exact decide_eq_true (letter_mem (h.2.2 c hc))
def spPick : Sp := fun vs H Q _ => ∃ (g l q : Addr) (xs : List V), vs = [.ref g, .ref q] ∧ Bag H g l ∧ q ≠ g ∧ H q = some (.lst xs) ∧ 1 ≤ xs.length ∧ xs.length ≤ 1000 ∧ ∀ (v : V) (H' : Hp), v ∈ xs → Bag H' g l → Kp g H H' → Q v H'
section
variable {P : Program} {w : World} {K : PySem.W.Frag} {mg : Str → Option Value} {base : Heap} {A : Ad}
theorem ok_l_pick (T : Txt K mg A) : FnOk P w K mg base CX0 2 A.l_pick A.fd_l_pick P_l_pick spPick := by
  refine T.F_l_pick.ok sc_l_pick (fun vs H Q E h => ?_) (fun cdv Ar outer s H vs Q E hr h => ?_)
  · obtain ⟨g, l, q, xs, rfl, _⟩ := h
    rfl
  · obtain ⟨g, l, q, xs, rfl, B, nq, hq, h1, h2, k⟩ := h
    refine ⟨_, (pss_one (ps_ret (pe_ix ix_list (pv 1) (pe_call (ok_l_draw T) (hr.mono (by decide)) (by rfl) T.g__law_draw T.F_l_draw.kp T.b_l_draw .nil pass0 (pa_cons (pv 0) (pa_cons (pe_callB call_len_seq (by rfl) T.z_len (by decide +kernel) (pa_cons (pv 1) pa_nil)) pa_nil))) (fun _ _ => rfl)))), ?_⟩
    refine ⟨_, rfl, _, rfl, _, rfl, q, _, rfl, .inl (SqL.of hq), g, l, _, rfl, B, by omega, lt_pow (a := 10) (by omega) (by decide), fun c H1 c0 c1 B1 K1 => ?_⟩
    have hq1 := K1 _ _ hq nq
    obtain ⟨j, rfl⟩ := Int.eq_ofNat_of_zero_le c0
    have hj : j < xs.length := by omega
    exact ⟨q, _, _, _, rfl, rfl, SqL.of hq1, atI_nat (List.getElem?_eq_getElem hj), k _ H1 (List.getElem_mem hj) B1 K1⟩
end

/-! ### the law's next place -/
/-- the drawn entries: a list of triples -/
def Tri (H : Hp) (t : Addr) (u : En) : Prop := H t = some (.tup [.int u.d, .int u.n, .ref u.e])
def ltE (a b : En) : Prop := a.d < b.d ∨ (a.d = b.d ∧ a.n < b.n)
def spNext : Sp := fun vs H Q _ => ∃ (g l q : Addr) (ts : List Addr) (es : List En), vs = [.ref g, .ref q] ∧ Bag H g l ∧ q ≠ g ∧ H q = some (.lst (ts.map V.ref)) ∧ All2 (Tri H) ts es ∧ (∀ u ∈ es, 0 ≤ u.d ∧ 0 ≤ u.n) ∧
  ∀ (p : Addr) (d n : Int) (H' : Hp), H' p = some (.tup [.int d, .int n]) → 0 ≤ d → 0 ≤ n → (es = [] → d ≤ 3 ∧ n ≤ 2) → (∀ u, es.getLast? = some u → (u.d < d ∨ (u.d = d ∧ u.n < n)) ∧ d ≤ u.d + 9 ∧ n ≤ u.n + 3) → Bag H' g l → Kp g H H' → Q (.ref p) H'
theorem last_at {α : Type} {xs : List α} {x : α} (h : xs.getLast? = some x) : atI xs (-1) = some x := by
  have hl : 0 < xs.length := List.length_pos_iff.mpr fun e => by rw [e] at h; cases h
  unfold atI ixN
  rw [if_neg (by decide), if_pos (by omega)]
  rw [List.getLast?_eq_getElem?] at h
  show xs[(-1 + (xs.length : Int)).toNat]? = _
  rw [show (-1 + (xs.length : Int)).toNat = xs.length - 1 by omega]
  exact h
theorem All2.last {α β : Type} {R : α → β → Prop} {xs : List α} {ys : List β} {y : β} (h : All2 R xs ys) (hy : ys.getLast? = some y) : ∃ x, xs.getLast? = some x ∧ R x y := by
  rw [List.getLast?_eq_getElem?] at hy
  have hl : 0 < ys.length := List.length_pos_iff.mpr fun e => by rw [e] at hy; cases hy
  have hx : ys.length - 1 < xs.length := by rw [h.1]; omega
  refine ⟨xs[ys.length - 1], ?_, h.2 _ _ _ (List.getElem?_eq_getElem hx) hy⟩
  rw [List.getLast?_eq_getElem?, h.1]
  exact List.getElem?_eq_getElem hx
section
variable {P : Program} {w : World} {K : PySem.W.Frag} {mg : Str → Option Value} {base : Heap} {A : Ad}
theorem ok_l_next (T : Txt K mg A) : FnOk P w K mg base CX0 2 A.l_next A.fd_l_next P_l_next spNext := by
  refine T.F_l_next.ok sc_l_next (fun vs H Q E h => ?_) (fun cdv Ar outer s H vs Q E hr h => ?_)
  · obtain ⟨g, l, q, ts, es, rfl, _⟩ := h
    rfl
  · obtain ⟨g, l, q, ts, es, rfl, B, nq, hq, h2, hp, k⟩ := h
    refine ⟨_, (pss_cons (ps_if (pt_cmpR (op_eqNil hr.units) (pv 1) (pe_lst pa_nil) (nomark _)) (pss_one (ps_ret (pe_tup (pa_cons (pe_call (ok_l_draw T) (hr.mono (by decide)) (by rfl) T.g__law_draw T.F_l_draw.kp T.b_l_draw .nil pass0 (pa_cons (pv 0) (pa_cons pe_int pa_nil))) (pa_cons (pe_call (ok_l_draw T) (hr.mono (by decide)) (by rfl) T.g__law_draw T.F_l_draw.kp T.b_l_draw .nil pass0 (pa_cons (pv 0) (pa_cons pe_int pa_nil))) pa_nil))))) pss_nil)
      (pss_cons (ps_set (i := 2) sc_l_next.nd rfl (Or.inl rfl) (pe_ix ix_list (pe_lst (pa_cons pe_int (pa_cons pe_int (pa_cons pe_int (pa_cons pe_int (pa_cons pe_int (pa_cons pe_int (pa_cons pe_int pa_nil)))))))) (pe_call (ok_l_draw T) (hr.mono (by decide)) (by rfl) T.g__law_draw T.F_l_draw.kp T.b_l_draw .nil pass0 (pa_cons (pv 0) (pa_cons pe_int pa_nil))) (fun _ _ => rfl)))
      (pss_cons (ps_if (pt_cmpR op_eq (pv 2) pe_int (nomark _)) (pss_one (ps_ret (pe_tup (pa_cons (pe_ix ix_tup (pe_ix ix_list (pv 1) (pe_un un_neg pe_int) (fun _ _ => rfl)) pe_int (fun _ _ => rfl)) (pa_cons (pe_op op_add (pe_op op_add (pe_ix ix_tup (pe_ix ix_list (pv 1) (pe_un un_neg pe_int) (fun _ _ => rfl)) pe_int (fun _ _ => rfl)) pe_int) (pe_call (ok_l_draw T) (hr.mono (by decide)) (by rfl) T.g__law_draw T.F_l_draw.kp T.b_l_draw .nil pass0 (pa_cons (pv 0) (pa_cons pe_int pa_nil)))) pa_nil))))) pss_nil)
      (pss_one (ps_ret (pe_tup (pa_cons (pe_op op_add (pe_ix ix_tup (pe_ix ix_list (pv 1) (pe_un un_neg pe_int) (fun _ _ => rfl)) pe_int (fun _ _ => rfl)) (pv 2)) (pa_cons (pe_call (ok_l_draw T) (hr.mono (by decide)) (by rfl) T.g__law_draw T.F_l_draw.kp T.b_l_draw .nil pass0 (pa_cons (pv 0) (pa_cons pe_int pa_nil))) pa_nil)))))))), ?_⟩
    refine ⟨_, rfl, Nat.zero_le _, fun z hz => ⟨q, z, _, rfl, rfl, SqL.of (Same.new hz _ _ hq), SqL.of upd_same, _, rfl, ?_⟩⟩
    have B1 := B.new (o := .lst []) hz
    have s1 := Same.new (o := .lst []) hz
    have hq1 := s1 _ _ hq
    rcases hes : es with _ | ⟨u0, us⟩
    · have ht : ts = [] := List.eq_nil_of_length_eq_zero (by rw [h2.1, hes]; rfl)
      subst ht
      refine iteT ⟨_, rfl, g, l, _, rfl, B1, by decide, by decide, fun d H2 d0 d1 B2 K2 => ?_⟩
      refine ⟨_, rfl, g, l, _, rfl, B2, by decide, by decide, fun n H3 n0 n1 B3 K3 => ⟨(by show 2 ≤ sizeLine; decide), fun p hp' => ?_⟩⟩
      exact k p d n _ upd_same d0 n0 (fun _ => ⟨by omega, by omega⟩) (fun u hu => by rw [hes] at hu; cases hu) (B3.new hp') (((Kp.same s1).trans (K2.trans K3)).new hp')
    · obtain ⟨u, hu⟩ : ∃ u, es.getLast? = some u := ⟨_, by rw [hes]; exact List.getLast?_eq_some_getLast (by simp)⟩
      obtain ⟨t, htl, htu⟩ := h2.last hu
      have hum : u ∈ es := List.mem_of_getLast? hu
      have hn : ts ≠ [] := fun e => by rw [e] at htl; cases htl
      have he : (ts.map V.ref).isEmpty = false := by
        cases ts with
        | nil => exact absurd rfl hn
        | cons _ _ => rfl
      have htl' : (ts.map V.ref).getLast? = some (.ref t) := by rw [List.getLast?_map, htl]; rfl
      show if (ts.map V.ref).isEmpty = true then _ else _
      rw [he]
      refine iteF ⟨(by show 7 ≤ sizeLine; decide), fun z2 hz2 => ?_⟩
      have s2 := Same.new (o := .lst [V.int 0, .int 0, .int 0, .int 1, .int 1, .int 2, .int 9]) hz2
      have B2 := B1.new (o := .lst [V.int 0, .int 0, .int 0, .int 1, .int 1, .int 2, .int 9]) hz2
      refine ⟨_, rfl, g, l, _, rfl, B2, by decide, by decide, fun c H3 c0 c1 B3 K3 => ?_⟩
      have hz3 := K3 _ _ upd_same (B1.ne hz2).1
      have K03 : Kp g H H3 := (Kp.same (s1.trans s2)).trans K3
      have hq3 := K03 _ _ hq nq
      obtain ⟨xs, hg⟩ := B.lst
      have ht3 : H3 t = some (.tup [.int u.d, .int u.n, .ref u.e]) := K03 _ _ htu (ne_of htu hg (by intro z; cases z))
      obtain ⟨st, hst, st0, st9⟩ : ∃ st : Int, atI [V.int 0, .int 0, .int 0, .int 1, .int 1, .int 2, .int 9] c = some (.int st) ∧ 0 ≤ st ∧ st ≤ 9 := by
        have : c = 0 ∨ c = 1 ∨ c = 2 ∨ c = 3 ∨ c = 4 ∨ c = 5 ∨ c = 6 := by omega
        rcases this with rfl | rfl | rfl | rfl | rfl | rfl | rfl <;> exact ⟨_, rfl, by decide, by decide⟩
      refine ⟨z2, _, _, _, rfl, rfl, SqL.of hz3, hst, _, rfl, rfl, _, rfl, if_int (fun e => ?_) (fun e => ?_)⟩
      · refine ⟨_, rfl, 1, rfl, q, _, _, _, rfl, rfl, SqL.of hq3, last_at htl', t, _, _, _, rfl, rfl, SqT.of ht3, rfl, ?_⟩
        refine ⟨_, rfl, 1, rfl, q, _, _, _, rfl, rfl, SqL.of hq3, last_at htl', t, _, _, _, rfl, rfl, SqT.of ht3, rfl, _, _, rfl, rfl, ?_⟩
        refine ⟨_, rfl, g, l, _, rfl, B3, by decide, by decide, fun c2 H4 e0 e1 B4 K4 => ⟨_, _, rfl, rfl, (by show 2 ≤ sizeLine; decide), fun p hp' => ?_⟩⟩
        refine k p u.d (u.n + 1 + c2) _ upd_same (hp u hum).1 (by have := (hp u hum).2; omega) (fun z => by rw [hes] at z; cases z) (fun u' hu' => ?_) (B4.new hp') ((K03.trans K4).new hp')
        rw [hu] at hu'
        cases hu'
        exact ⟨.inr ⟨rfl, by omega⟩, by omega, by omega⟩
      · refine ⟨_, rfl, 1, rfl, q, _, _, _, rfl, rfl, SqL.of hq3, last_at htl', t, _, _, _, rfl, rfl, SqT.of ht3, rfl, _, rfl, _, _, rfl, rfl, ?_⟩
        refine ⟨_, rfl, g, l, _, rfl, B3, by decide, by decide, fun c2 H4 e0 e1 B4 K4 => ⟨(by show 2 ≤ sizeLine; decide), fun p hp' => ?_⟩⟩
        have hs1 : 1 ≤ st := by omega
        refine k p (u.d + st) c2 _ upd_same (by have := (hp u hum).1; omega) e0 (fun z => by rw [hes] at z; cases z) (fun u' hu' => ?_) (B4.new hp') ((K03.trans K4).new hp')
        rw [hu] at hu'
        cases hu'
        have := (hp u hum).2
        exact ⟨.inl (by omega), by omega, by omega⟩
end

/-! ### a drawn order -/
def spMixed : Sp := fun vs H Q _ => ∃ (g l q : Addr) (xs : List V), vs = [.ref g, .ref q] ∧ Bag H g l ∧ H q = some (.lst xs) ∧ xs.length ≤ 1000 ∧
  ∀ (p : Addr) (ys : List V) (H' : Hp), ys.Perm xs → H p = none → H' p = some (.lst ys) → Bag H' g l → Kp g H H' → Q (.ref p) H'
theorem perm_pop {α : Type} : ∀ {zs : List α} {k : Nat} {y : α}, zs[k]? = some y → (y :: zs.eraseIdx k).Perm zs
  | z :: zs, 0, y, h => by
    simp at h
    subst h
    exact .refl _
  | z :: zs, k + 1, y, h => by
    have ih := perm_pop (zs := zs) (k := k) (y := y) (by simpa using h)
    exact (List.Perm.swap z y _).trans (ih.cons z)
theorem seq_ix {i : Int} {n : Nat} (h0 : 0 ≤ i) (h1 : i < n) : seqIndex? i n = some i.toNat := by
  have e : (if i < 0 then i + (n : Int) else i) = i := if_neg (by omega)
  unfold seqIndex?
  simp only [e, h0, h1, decide_true, Bool.and_self, if_true]
section
variable {P : Program} {w : World} {K : PySem.W.Frag} {mg : Str → Option Value} {base : Heap} {A : Ad}
theorem ok_l_mixed (T : Txt K mg A) : FnOk P w K mg base CX0 2 A.l_mixed A.fd_l_mixed P_l_mixed spMixed := by
  refine T.F_l_mixed.ok sc_l_mixed (fun vs H Q E h => ?_) (fun cdv Ar outer s H vs Q E hr h => ?_)
  · obtain ⟨g, l, q, xs, rfl, _⟩ := h
    rfl
  · obtain ⟨g, l, q, xs, rfl, hB, hq, hlen, k⟩ := h
    refine ⟨_, (pss_cons (ps_set (i := 2) sc_l_mixed.nd rfl (Or.inl rfl) (pe_callTy call_list_of (by rfl) T.z_list (by decide +kernel) (pa_cons (pv 1) pa_nil)))
      (pss_cons (ps_set (i := 3) sc_l_mixed.nd rfl (Or.inl rfl) (pe_lst pa_nil))
      (pss_cons (ps_g (ps_for PassesOwn.never rfl (pi_range1 rfl T.z_range (pa_cons (pe_callB call_len_seq (by rfl) T.z_len (by decide +kernel) (pa_cons (pv 1) pa_nil)) pa_nil)) (pg_name (i := 4) sc_l_mixed.nd rfl (Or.inl rfl)) (pss_one (ps_expr (pe_bm PySem.F.plainAttrs_list PySem.F.slot_list_append PySem.F.type_list_append mt_append (pv 3) (pa_cons (pe_bm PySem.F.plainAttrs_list PySem.F.slot_list_pop PySem.F.type_list_pop mt_popAt (pv 2) (pa_cons (pe_call (ok_l_draw T) (hr.mono (by decide)) (by rfl) T.g__law_draw T.F_l_draw.kp T.b_l_draw .nil pass0 (pa_cons (pv 0) (pa_cons (pe_callB call_len_seq (by rfl) T.z_len (by decide +kernel) (pa_cons (pv 2) pa_nil)) pa_nil))) pa_nil)) pa_nil))))))
      (pss_one (ps_ret (pv 3)))))), ?_⟩
    refine ⟨_, rfl, q, xs, rfl, .inl (SqL.of hq), fun a ha => ⟨Nat.zero_le _, fun f hf => ?_⟩⟩
    have naf : a ≠ f := fun z => by
      rw [z, upd_same] at hf
      cases hf
    have hf0 : H f = none := by
      rw [upd_ne naf.symm] at hf
      exact hf
    have na := hB.ne ha
    have nf := hB.ne hf0
    have nqa := ne_of_none hq ha
    have nqf := ne_of_none hq hf0
    refine ⟨⟨_, rfl, q, xs, rfl, .inl (SqL.of (by rw [upd_ne nqf, upd_ne nqa]; exact hq)), _, rfl, by omega, by omega, for_range (lo := 0) (n := xs.length) (fun i σ' H' => Wd (∃ (ys zs : List V) (v : Option V),
      σ' = [some (.ref g), some (.ref q), some (.ref a), some (.ref f), v] ∧ H' a = some (.lst zs) ∧ H' f = some (.lst ys) ∧ (ys ++ zs).Perm xs ∧ zs.length + i = xs.length ∧ Bag H' g l ∧ Kp g H H'))
      ⟨[], xs, none, rfl, by rw [upd_ne naf, upd_same], upd_same, .refl _, rfl, (hB.put na).put nf, ((Kp.refl g H).put ha).put hf0⟩ ?_ ?_⟩⟩
    · rintro i σ' H' hi ⟨ys, zs, v, rfl, h1, h2, hp, hz, B1, K1⟩
      have z9 : ((zs.length : Nat) : Int).natAbs < 2 ^ 9000 := lt_pow (a := 10) (by omega) (by decide)
      have yl : ys.length ≤ 1000 := by
        have := hp.length_eq
        rw [List.length_append] at this
        omega
      refine ⟨_, rfl, .inl ⟨rfl, _, SqL.of h2⟩, _, rfl, .inl ⟨rfl, _, SqL.of h1⟩, _, rfl, _, rfl, a, zs, rfl, .inl (SqL.of h1), g, l, _, rfl, B1, by omega, z9, fun n H2 n0 n1 B2 K2 => ?_⟩
      have h1' := K2 _ _ h1 na.1
      have h2' := K2 _ _ h2 nf.1
      have hk : n.toNat < zs.length := by omega
      have hy : zs[n.toNat]? = some zs[n.toNat] := List.getElem?_eq_getElem hk
      refine ⟨a, zs, n, n.toNat, zs[n.toNat], rfl, rfl, h1', by omega, by omega, seq_ix n0 n1, hy, f, ys, _, rfl, rfl, (by rw [upd_ne naf.symm]; exact h2'), Nat.lt_of_le_of_lt yl (by decide), ?_⟩
      refine ⟨ys ++ [zs[n.toNat]], zs.eraseIdx n.toNat, _, rfl, by rw [upd_ne naf, upd_same], upd_same, ?_, ?_, (B2.put na).put nf, ((K1.trans K2).put ha).put hf0⟩
      · rw [List.append_assoc]
        exact ((perm_pop hy).append_left ys).trans hp
      · rw [List.length_eraseIdx, if_pos hk]
        omega
    · rintro σ' H' ⟨ys, zs, v, rfl, h1, h2, hp, hz, B1, K1⟩
      have e : zs = [] := List.eq_nil_of_length_eq_zero (by omega)
      subst e
      rw [List.append_nil] at hp
      exact ⟨_, rfl, k f ys H' hp hf0 h2 B1 K1⟩
end

def words4 : List (List Nat) := [[98, 117, 121], [115, 101, 108, 108], [98, 97, 99, 107], [108, 97, 116, 101]]
theorem words_ok : ∀ n ∈ words4, nameV (vS n) = true ∧ n.length ≤ 1000 := by
  intro n hn
  simp only [words4, List.mem_cons, List.not_mem_nil, or_false] at hn
  rcases hn with rfl | rfl | rfl | rfl <;> exact ⟨by decide +kernel, by decide⟩
theorem late_no : (eqV (.str "late") (.str "buy") || eqV (.str "late") (.str "sell") || eqV (.str "late") (.str "back")) = false := by decide +kernel
theorem late_yes : eqV (.str "late") (.str "late") = true := by decide +kernel
theorem ent_units {kd nm : Str} {i : Int} (hk : (eqV (.str kd) (.str "buy") || eqV (.str kd) (.str "sell") || eqV (.str kd) (.str "back")) = true) (hn : nameV (.str nm) = true) (h1 : 1 ≤ i) (h2 : i ≤ 1000000) : entOk (.str kd) (.str nm) (.int i) = true := by
  unfold entOk
  rw [hn, if_pos hk]
  show (true && (decide (1 ≤ i) && decide (i ≤ 1000000))) = true
  rw [decide_eq_true h1, decide_eq_true h2]
  rfl
theorem ent_late {nm lot : Str} (hn : nameV (.str nm) = true) (hl : nameV (.str lot) = true) : entOk (.str "late") (.str nm) (.str lot) = true := by
  unfold entOk
  rw [hn, if_neg (by rw [late_no]; decide), if_pos late_yes, hl]
  rfl

/-! ### the entries that the law draws -/
def NamesOk (ns : List (List Nat)) : Prop := ∀ n ∈ ns, nameV (vS n) = true ∧ n.length ≤ 1000
def EnOk (u : En) : Prop := entOk (.str u.kd) (.str u.nm) u.x = true ∧ Pl u.x ∧ shortV (.str u.nm) ∧ shortV u.x
structure EL (H : Hp) (g l nq sq eq bq lq : Addr) (ns bs : List (List Nat)) (ts : List Addr) (es : List En) (kvs : List (L2.Key × V)) : Prop where
  bag : Bag H g l
  N : H nq = some (.lst (ns.map vS))
  S : H sq = some (.lst (ns.map vS).reverse)
  E : H eq = some (.lst (ts.map V.ref))
  T : All2 (Tri H) ts es
  ent : EntsAt H es
  B : H bq = some (.lst (bs.map vS))
  L : H lq = some (.dK kvs)
  gn : nq ≠ g ∧ sq ≠ g
  ge : eq ≠ g ∧ eq ≠ l
  gb : bq ≠ g ∧ bq ≠ l
  dd : eq ≠ nq ∧ eq ≠ sq ∧ eq ≠ bq ∧ bq ≠ nq ∧ bq ≠ sq
structure ELp (ns bs : List (List Nat)) (es : List En) (kvs : List (L2.Key × V)) (i : Nat) (stock costs : Int) : Prop where
  nl : ns.length = 9
  nok : NamesOk ns
  bl : bs.length ≤ 6
  bm : ∀ b ∈ bs, b ∈ ns
  eok : ∀ u ∈ es, EnOk u
  rng : ∀ u ∈ es, 0 ≤ u.d ∧ 0 ≤ u.n ∧ u.d ≤ 9 * i + 3 ∧ u.n ≤ 3 * i + 3
  inc : es.Pairwise ltE
  el : es.length ≤ i
  kl : kvs.length ≤ i
  kv : ∀ p ∈ kvs, ∃ m ∈ ns, p.1 = Sum.inr (SX.S m) ∧ ∃ j : Int, p.2 = .int j ∧ 0 ≤ j ∧ j ≤ 1000000
  s0 : 0 ≤ stock
  s1 : stock ≤ i * 1000000
  c0 : 0 ≤ costs
  c3 : costs ≤ 3
  z : i = 0 → stock = 0 ∧ bs = []
theorem EL.move {H H' : Hp} {g l nq sq eq bq lq : Addr} {ns bs : List (List Nat)} {ts : List Addr} {es : List En} {kvs : List (L2.Key × V)} (h : EL H g l nq sq eq bq lq ns bs ts es kvs) (bag : Bag H' g l) (k : Kp g H H') : EL H' g l nq sq eq bq lq ns bs ts es kvs := by
  obtain ⟨xs, hg⟩ := h.bag.lst
  exact ⟨bag, k _ _ h.N h.gn.1, k _ _ h.S h.gn.2, k _ _ h.E h.ge.1, h.T.mono fun x y z => k _ _ z (ne_of z hg (by intro z; cases z)), fun t ht => k _ _ (h.ent t ht) (ne_of (h.ent t ht) hg (by intro z; cases z)), k _ _ h.B h.gb.1, k _ _ h.L (ne_of h.L hg (by intro z; cases z)), h.gn, h.ge, h.gb, h.dd⟩
theorem EL.same {H H' : Hp} {g l nq sq eq bq lq : Addr} {ns bs : List (List Nat)} {ts : List Addr} {es : List En} {kvs : List (L2.Key × V)} (h : EL H g l nq sq eq bq lq ns bs ts es kvs) (s : Same H H') : EL H' g l nq sq eq bq lq ns bs ts es kvs := h.move (h.bag.keep s) (Kp.same s)
theorem EL.bput {H : Hp} {g l nq sq eq bq lq : Addr} {ns bs : List (List Nat)} {ts : List Addr} {es : List En} {kvs : List (L2.Key × V)} (h : EL H g l nq sq eq bq lq ns bs ts es kvs) (bs' : List (List Nat)) : EL (upd H bq (.lst (bs'.map vS))) g l nq sq eq bq lq ns bs' ts es kvs := by
  have n : ∀ {a : Addr} {xs : List V}, H a = some (.tup xs) → a ≠ bq := fun z => ne_of z h.B (by intro z; cases z)
  exact ⟨h.bag.put h.gb, by rw [upd_ne h.dd.2.2.2.1.symm]; exact h.N, by rw [upd_ne h.dd.2.2.2.2.symm]; exact h.S, by rw [upd_ne h.dd.2.2.1]; exact h.E, h.T.mono fun x y z => (by unfold Tri; rw [upd_ne (n z)]; exact z), fun t ht => by rw [upd_ne (n (h.ent t ht))]; exact h.ent t ht, upd_same, by rw [upd_ne (ne_of h.L h.B (by intro z; cases z))]; exact h.L, h.gn, h.ge, h.gb, h.dd⟩
theorem EL.lput {H : Hp} {g l nq sq eq bq lq : Addr} {ns bs : List (List Nat)} {ts : List Addr} {es : List En} {kvs : List (L2.Key × V)} (h : EL H g l nq sq eq bq lq ns bs ts es kvs) (kvs' : List (L2.Key × V)) : EL (upd H lq (.dK kvs')) g l nq sq eq bq lq ns bs ts es kvs' := by
  have k : ∀ c o, H c = some o → (∀ kvs, o ≠ .dK kvs) → upd H lq (.dK kvs') c = some o := fun c o e n => by
    rw [upd_ne fun z => by rw [z, h.L] at e; exact n _ (Option.some.inj e).symm]
    exact e
  obtain ⟨i, r, s, c, xs, h1, h2, h3⟩ := h.bag.ex
  exact ⟨⟨i, r, s, c, xs, k _ _ h1 (by intro _ z; cases z), k _ _ h2 (by intro _ z; cases z), h3⟩, k _ _ h.N (by intro _ z; cases z), k _ _ h.S (by intro _ z; cases z), k _ _ h.E (by intro _ z; cases z), h.T.mono fun x y z => k _ _ z (by intro _ z; cases z), fun t ht => k _ _ (h.ent t ht) (by intro _ z; cases z), k _ _ h.B (by intro _ z; cases z), upd_same, h.gn, h.ge, h.gb, h.dd⟩
theorem EL.eput {H : Hp} {g l nq sq eq bq lq t : Addr} {ns bs : List (List Nat)} {ts : List Addr} {es : List En} {kvs : List (L2.Key × V)} {u : En} (h : EL H g l nq sq eq bq lq ns bs ts es kvs) (ht : Tri H t u) (hu : H u.e = some (.tup [.str u.kd, .str u.nm, u.x])) : EL (upd H eq (.lst ((ts ++ [t]).map V.ref))) g l nq sq eq bq lq ns bs (ts ++ [t]) (es ++ [u]) kvs := by
  have n : ∀ {a : Addr} {xs : List V}, H a = some (.tup xs) → a ≠ eq := fun z => ne_of z h.E (by intro z; cases z)
  refine ⟨h.bag.put h.ge, by rw [upd_ne h.dd.1.symm]; exact h.N, by rw [upd_ne h.dd.2.1.symm]; exact h.S, upd_same, (h.T.app (.one ht)).mono fun x y z => (by unfold Tri; rw [upd_ne (n z)]; exact z), fun v hv => ?_, by rw [upd_ne h.dd.2.2.1.symm]; exact h.B, by rw [upd_ne (ne_of h.L h.E (by intro z; cases z))]; exact h.L, h.gn, h.ge, h.gb, h.dd⟩
  rcases List.mem_append.mp hv with hv | hv
  · rw [upd_ne (n (h.ent v hv))]
    exact h.ent v hv
  · rw [List.mem_singleton] at hv
    subst hv
    rw [upd_ne (n hu)]
    exact hu
theorem upd_back {H : Hp} {a d : Addr} {u x y : HO} (h : H a = some u) (n : d ≠ a) : upd (upd (upd H a x) d y) a u = upd H d y := funext fun b => by
  by_cases e : b = a
  · rw [e, upd_same, upd_ne n.symm, h]
  · rw [upd_ne e]
    by_cases e2 : b = d
    · rw [e2, upd_same, upd_same]
    · rw [upd_ne e2, upd_ne e2, upd_ne e]
theorem mem_putK {kvs : List (L2.Key × V)} {k : L2.Key} {v : V} {p : L2.Key × V} (h : p ∈ putK kvs k v) : p = (k, v) ∨ p ∈ kvs := by
  unfold putK at h
  split at h
  · obtain ⟨q, hq, e⟩ := List.mem_map.mp h
    split at e
    · next ek => exact .inl (by rw [← e, ek])
    · exact .inr (e ▸ hq)
  · rcases List.mem_append.mp h with h | h
    · exact .inr h
    · exact .inl (List.mem_singleton.mp h)
theorem len_putK {kvs : List (L2.Key × V)} {k : L2.Key} {v : V} : (putK kvs k v).length ≤ kvs.length + 1 := by
  unfold putK
  split
  · rw [List.length_map]
    exact Nat.le_succ _
  · rw [List.length_append]
    exact Nat.le_refl _
theorem valV_mem {kvs : List (L2.Key × V)} {k : L2.Key} {v : V} (h : valV kvs k = some v) : (k, v) ∈ kvs := by
  unfold valV at h
  obtain ⟨p, hp, rfl⟩ := Option.map_eq_some_iff.mp h
  have h1 := List.find?_some hp
  have h2 : p.1 = k := of_decide_eq_true h1
  rw [← h2]
  exact List.mem_of_find?_eq_some hp
theorem mem_valV {kvs : List (L2.Key × V)} {k : L2.Key} {v : V} (h : (k, v) ∈ kvs) : ∃ v', valV kvs k = some v' := by
  cases e : valV kvs k with
  | some v' => exact ⟨v', rfl⟩
  | none =>
    unfold valV at e
    rw [Option.map_eq_none_iff] at e
    have := List.find?_eq_none.mp e _ h
    exact absurd (decide_eq_true rfl) this
theorem buy_yes : (eqV (.str "buy") (.str "buy") || eqV (.str "buy") (.str "sell") || eqV (.str "buy") (.str "back")) = true := by decide +kernel
theorem sell_yes : (eqV (.str "sell") (.str "buy") || eqV (.str "sell") (.str "sell") || eqV (.str "sell") (.str "back")) = true := by decide +kernel
theorem back_yes : (eqV (.str "back") (.str "buy") || eqV (.str "back") (.str "sell") || eqV (.str "back") (.str "back")) = true := by decide +kernel
theorem at_mem {xs : List V} {j : Nat} (h : j < xs.length) : ∃ x ∈ xs, atI xs (j : Int) = some x := ⟨xs[j], List.getElem_mem h, atI_nat (List.getElem?_eq_getElem h)⟩
theorem lt_last {es : List En} {u : En} {v : En} (hp : es.Pairwise ltE) (hu : u ∈ es) (h : ∀ w, es.getLast? = some w → w.d < v.d ∨ (w.d = v.d ∧ w.n < v.n)) : ltE u v := by
  cases hl : es.getLast? with
  | none => rw [List.getLast?_eq_none_iff.mp hl] at hu; cases hu
  | some w =>
    have hw := h w hl
    by_cases e : u = w
    · rw [e]
      exact hw
    · obtain ⟨l, rfl⟩ := List.getLast?_eq_some_iff.mp hl
      rw [List.pairwise_append] at hp
      have hul : u ∈ l := by
        rcases List.mem_append.mp hu with z | z
        · exact z
        · exact absurd (List.mem_singleton.mp z) e
      have := hp.2.2 u hul w (List.mem_singleton.mpr rfl)
      unfold ltE at this ⊢
      omega
def spEntries : Sp := fun vs H Q _ => ∃ (g l : Addr) (most : Int), vs = [.ref g, .int most] ∧ Bag H g l ∧ 1 ≤ most ∧ most ≤ 100 ∧
  ∀ (q : Addr) (ts : List Addr) (es : List En) (H' : Hp), H q = none → H' q = some (.lst (ts.map V.ref)) → All2 (Tri H') ts es → EntsAt H' es → (∀ u ∈ es, EnOk u) → (∀ u ∈ es, 0 ≤ u.d ∧ 0 ≤ u.n ∧ u.d ≤ 1000 ∧ u.n ≤ 1000) → es.Pairwise ltE → es ≠ [] → (es.length : Int) ≤ most → Bag H' g l → Kp g H H' → Q (.ref q) H'
section
variable {P : Program} {w : World} {K : PySem.W.Frag} {mg : Str → Option Value} {base : Heap} {A : Ad}
theorem ok_l_entries (T : Txt K mg A) : FnOk P w K mg base CX0 3 A.l_entries A.fd_l_entries P_l_entries spEntries := by
  refine T.F_l_entries.ok sc_l_entries (fun vs H Q E h => ?_) (fun cdv Ar outer s H vs Q E hr h => ?_)
  · obtain ⟨g, l, most, rfl, _⟩ := h
    rfl
  · obtain ⟨g, l, most, rfl, B, m1, m2, k⟩ := h
    refine ⟨_, (pss_cons (ps_set (i := 2) sc_l_entries.nd rfl (Or.inl rfl) (pe_op op_add pe_int (pe_call (ok_l_draw T) (hr.mono (by decide)) (by rfl) T.g__law_draw T.F_l_draw.kp T.b_l_draw .nil pass0 (pa_cons (pv 0) (pa_cons (pv 1) pa_nil)))))
      (pss_cons (ps_set (i := 3) sc_l_entries.nd rfl (Or.inl rfl) (pe_ix ix_list (pe_lst (pa_cons pe_int (pa_cons pe_int pa_nil))) (pe_op op_fdiv (pe_call (ok_l_draw T) (hr.mono (by decide)) (by rfl) T.g__law_draw T.F_l_draw.kp T.b_l_draw .nil pass0 (pa_cons (pv 0) (pa_cons pe_int pa_nil))) pe_int) (fun _ _ => rfl)))
      (pss_cons (ps_set (i := 4) sc_l_entries.nd rfl (Or.inl rfl) (pe_call (ok_l_names T) (hr.mono (by decide)) (by rfl) T.g__law_names T.F_l_names.kp T.b_l_names .nil pass0 (pa_cons (pv 0) (pa_cons pe_int (pa_cons (pe_lst (pa_cons pe_str (pa_cons pe_str (pa_cons pe_str (pa_cons pe_str pa_nil))))) pa_nil)))))
      (pss_cons (ps_set (i := 5) sc_l_entries.nd rfl (Or.inl rfl) (pe_revL (pv 4)))
      (pss_cons (ps_set (i := 6) sc_l_entries.nd rfl (Or.inl rfl) (pe_lst pa_nil))
      (pss_cons (ps_set (i := 7) sc_l_entries.nd rfl (Or.inl rfl) (pe_lst pa_nil))
      (pss_cons (ps_set (i := 8) sc_l_entries.nd rfl (Or.inr rfl) (pe_dnewK))
      (pss_cons (ps_set (i := 9) sc_l_entries.nd rfl (Or.inl rfl) pe_int)
      (pss_cons (ps_set (i := 10) sc_l_entries.nd rfl (Or.inl rfl) pe_int)
      (pss_cons (ps_g (ps_for PassesOwn.never rfl (pi_range1 rfl T.z_range (pa_cons (pv 2) pa_nil)) (pg_name (i := 11) sc_l_entries.nd rfl (Or.inl rfl)) (pss_cons (ps_set (i := 12) sc_l_entries.nd rfl (Or.inl rfl) (pe_call (ok_l_draw T) (hr.mono (by decide)) (by rfl) T.g__law_draw T.F_l_draw.kp T.b_l_draw .nil pass0 (pa_cons (pv 0) (pa_cons pe_int pa_nil))))
      (pss_cons (ps_g (ps_lock (ps_setLcV (i := 13) (own := [("_law_sale", 16)]) rfl sc_l_entries.nd rfl rfl (sw_true rfl rfl rfl (by decide +kernel)) (pi_keys (pv 8)) (blkOk_by (own := [("_law_sale", 16)]) (N := N_l_entries) (sc := defScope s_l_entries) (by decide +kernel)) (fun _ _ _ _ _ => (pg_name (i := 16) sc_l_entries.nd rfl (Or.inl rfl))) (fun _ _ _ _ _ => (pts_one (pt_cmpR op_gt (pe_dget (hu_of hr) (pv 8) (pv 16) (fun _ _ => rfl)) pe_int (nomark _)))) (fun _ _ _ _ _ => (pv 16)) (fun _ _ _ _ _ => rfl) (fun _ _ _ _ _ => rfl) (fun _ _ _ _ _ => rfl))))
      (pss_cons (ps_set (i := 14) sc_l_entries.nd rfl (Or.inl rfl) pe_non)
      (pss_g (Evl.pss_cut (ps_if (PW.pt (pw_and (pt_cmpR op_lt (pe_callB call_len_seq (by rfl) T.z_len (by decide +kernel) (pa_cons (pv 7) pa_nil)) pe_int (nomark _)) (pw_and1 (PW.pt (pw_or (pt_cmpR op_eq (pv 9) pe_int (nomark _)) (pw_or1 (pt_cmpR op_lt (pv 12) pe_int (nomark _)))))))) (pss_cons (ps_set (i := 15) sc_l_entries.nd rfl (Or.inl rfl) (pe_op op_add pe_int (pe_call (ok_l_draw T) (hr.mono (by decide)) (by rfl) T.g__law_draw T.F_l_draw.kp T.b_l_draw .nil pass0 (pa_cons (pv 0) (pa_cons (pv 3) pa_nil)))))
      (pss_cons (ps_set (i := 14) sc_l_entries.nd rfl (Or.inl rfl) (pe_tup (pa_cons pe_str (pa_cons (pe_ix ix_list (pv 4) (pe_callB call_len_seq (by rfl) T.z_len (by decide +kernel) (pa_cons (pv 7) pa_nil)) (fun _ _ => rfl)) (pa_cons (pv 15) pa_nil)))))
      (pss_cons (ps_expr (pe_bm PySem.F.plainAttrs_list PySem.F.slot_list_append PySem.F.type_list_append mt_append (pv 7) (pa_cons (pe_ix ix_list (pv 4) (pe_callB call_len_seq (by rfl) T.z_len (by decide +kernel) (pa_cons (pv 7) pa_nil)) (fun _ _ => rfl)) pa_nil)))
      (pss_one (ps_set (i := 9) sc_l_entries.nd rfl (Or.inl rfl) (pe_op op_add (pv 9) (pv 15))))))) (pss_one (ps_if (PW.pt (pw_and (pt_cmpR op_gt (pv 9) pe_int (nomark _)) (pw_and (pt_cmpR op_lt (pv 12) pe_int (nomark _)) (pw_and1 (pt_cmpR op_lt (pe_callB (call_lenD) (by rfl) T.z_len (by decide +kernel) (pa_cons (pv 8) pa_nil)) pe_int (nomark _)))))) (pss_cons (ps_set (i := 15) sc_l_entries.nd rfl (Or.inl rfl) (pe_op op_add pe_int (pe_call (ok_l_draw T) (hr.mono (by decide)) (by rfl) T.g__law_draw T.F_l_draw.kp T.b_l_draw .nil pass0 (pa_cons (pv 0) (pa_cons (pv 9) pa_nil)))))
      (pss_g (Evl.pss_cut (ps_if (PW.pt (pw_and (pt_cmpR op_eq (pv 12) pe_int (nomark _)) (pw_and1 (pt_cmpR op_le (pv 9) pe_int (nomark _))))) (pss_one (ps_set (i := 15) sc_l_entries.nd rfl (Or.inl rfl) (pv 9))) pss_nil)
      (pss_cons (ps_set (i := 15) sc_l_entries.nd rfl (Or.inl rfl) (pe_callB (call_min2 rfl) (by rfl) T.z_min (by decide +kernel) (pa_cons (pv 15) (pa_cons pe_int pa_nil))))
      (pss_cons (ps_set (i := 14) sc_l_entries.nd rfl (Or.inl rfl) (pe_tup (pa_cons pe_str (pa_cons (pe_ix ix_list (pv 5) (pe_callB (call_lenD) (by rfl) T.z_len (by decide +kernel) (pa_cons (pv 8) pa_nil)) (fun _ _ => rfl)) (pa_cons (pv 15) pa_nil)))))
      (pss_cons (ps_dput (hu_of hr) (pv 8) (pe_ix ix_list (pv 5) (pe_callB call_lenD (by rfl) T.z_len (by decide +kernel) (pa_cons (pv 8) pa_nil)) (fun _ _ => rfl)) (pv 15) rfl)
      (pss_one (ps_set (i := 9) sc_l_entries.nd rfl (Or.inl rfl) (pe_op op_sub (pv 9) (pv 15)))))))))) (pss_one (ps_if (PW.pt (pw_and (pt_cmpR (op_neNil hr.units) (pv 13) (pe_lst pa_nil) (nomark _)) (pw_and1 (pt_cmpR op_lt (pv 12) pe_int (nomark _))))) (pss_cons (ps_set (i := 16) sc_l_entries.nd rfl (Or.inl rfl) (pe_call (ok_l_pick T) (hr.mono (by decide)) (by rfl) T.g__law_pick T.F_l_pick.kp T.b_l_pick .nil pass0 (pa_cons (pv 0) (pa_cons (pv 13) pa_nil))))
      (pss_cons (ps_set (i := 15) sc_l_entries.nd rfl (Or.inl rfl) (pe_op op_add pe_int (pe_call (ok_l_draw T) (hr.mono (by decide)) (by rfl) T.g__law_draw T.F_l_draw.kp T.b_l_draw .nil pass0 (pa_cons (pv 0) (pa_cons (pe_dget (hu_of hr) (pv 8) (pv 16) (fun _ _ => rfl)) pa_nil)))))
      (pss_cons (ps_set (i := 14) sc_l_entries.nd rfl (Or.inl rfl) (pe_tup (pa_cons pe_str (pa_cons (pv 16) (pa_cons (pv 15) pa_nil)))))
      (pss_cons (ps_dput (hu_of hr) (pv 8) (pv 16) (pe_op op_sub (pe_dget (hu_of hr) (pv 8) (pv 16) (fun _ _ => rfl)) (pv 15)) rfl)
      (pss_one (ps_set (i := 9) sc_l_entries.nd rfl (Or.inl rfl) (pe_op op_add (pv 9) (pv 15)))))))) (pss_one (ps_if (PW.pt (pw_and (pt_cmpR (op_neNil hr.units) (pv 7) (pe_lst pa_nil) (nomark _)) (pw_and1 (pt_cmpR op_lt (pv 10) pe_int (nomark _))))) (pss_cons (ps_set (i := 14) sc_l_entries.nd rfl (Or.inl rfl) (pe_tup (pa_cons pe_str (pa_cons (pe_ix ix_list (pv 4) (pe_op op_add pe_int (pv 10)) (fun _ _ => rfl)) (pa_cons (pe_call (ok_l_pick T) (hr.mono (by decide)) (by rfl) T.g__law_pick T.F_l_pick.kp T.b_l_pick .nil pass0 (pa_cons (pv 0) (pa_cons (pv 7) pa_nil))) pa_nil)))))
      (pss_one (ps_set (i := 10) sc_l_entries.nd rfl (Or.inl rfl) (pe_op op_add (pv 10) pe_int)))) pss_nil)))))))
      (pss_one (ps_if (pt_cmpR op_notN (pv 14) pe_non (nomark _)) (pss_cons (ps_asg (pe_call (ok_l_next T) (hr.mono (by decide)) (by rfl) T.g__law_next T.F_l_next.kp T.b_l_next .nil pass0 (pa_cons (pv 0) (pa_cons (pv 6) pa_nil))) (pg_tup (n := 2) rfl (pgs_cons (pg_name (i := 17) sc_l_entries.nd rfl (Or.inl rfl)) (pgs_cons (pg_name (i := 18) sc_l_entries.nd rfl (Or.inl rfl)) pgs_nil))))
      (pss_one (ps_expr (pe_bm PySem.F.plainAttrs_list PySem.F.slot_list_append PySem.F.type_list_append mt_append (pv 6) (pa_cons (pe_tup (pa_cons (pv 17) (pa_cons (pv 18) (pa_cons (pv 14) pa_nil)))) pa_nil))))) pss_nil)))))))))
      (pss_one (ps_ret (pv 6))))))))))))), ?_⟩
    refine ⟨_, rfl, _, rfl, g, l, _, rfl, B, by omega, lt_pow (a := 10) (by omega) (by decide), fun c1 H1 c10 c11 B1 K1 => ⟨_, _, rfl, rfl, ?_⟩⟩
    refine ⟨(by show 2 ≤ sizeLine; decide), fun z1 hz1 => ?_⟩
    have B1' := B1.new (o := .lst [V.int 6, .int 1000000]) hz1
    refine ⟨_, rfl, g, l, _, rfl, B1', by decide, by decide, fun c2 H2 c20 c21 B2 K2 => ?_⟩
    have hz2 := K2 _ _ upd_same (B1.ne hz1).1
    have K02 : Kp g H H2 := (K1.new hz1).trans K2
    obtain ⟨sz, hsz, sz1, sz2⟩ : ∃ sz : Int, atI [V.int 6, .int 1000000] (c2 / 7) = some (.int sz) ∧ 1 ≤ sz ∧ sz ≤ 1000000 := by
      have : c2 / 7 = 0 ∨ c2 / 7 = 1 := by omega
      rcases this with h | h <;> rw [h] <;> exact ⟨_, rfl, by decide, by decide⟩
    refine ⟨_, _, rfl, rfl, ⟨by decide, by decide⟩, z1, _, _, _, rfl, rfl, SqL.of hz2, hsz, ?_⟩
    refine ⟨_, rfl, (by show 4 ≤ sizeLine; decide), fun wq hwq => ?_⟩
    have B2' := B2.new (o := .lst [V.str "buy", .str "sell", .str "back", .str "late"]) hwq
    refine ⟨g, l, wq, 9, words4, rfl, B2', (B2.ne hwq).1, by decide, by decide, upd_same, by decide, by decide, by decide, fun nq ns H3 nnq hnq hnl hnd hno B3 K3 => ?_⟩
    have NO : NamesOk ns := fun n hn => by
      rcases hno n hn with h | h
      · exact ⟨name_ok h, Nat.le_trans h.2.1 (by decide)⟩
      · exact words_ok n h
    have K03 : Kp g H H3 := (K02.new hwq).trans K3
    have nqg : nq ≠ g := fun e => by
      obtain ⟨xs, hg⟩ := B2'.lst
      rw [e, hg] at nnq
      cases nnq
    refine ⟨_, rfl, nq, _, rfl, SqL.of hnq, fun sq hsq => ?_⟩
    refine ⟨Nat.zero_le _, fun eq heq => ⟨Nat.zero_le _, fun bq hbq lq hlq => ?_⟩⟩
    have v1 := Same.new (o := .lst (ns.map vS).reverse) hsq
    have v2 := Same.new (o := .lst []) heq
    have v3 := Same.new (o := .lst []) hbq
    have v4 := Same.new (o := .dK []) hlq
    have v14 := v1.trans (v2.trans (v3.trans v4))
    have q1 : H3 eq = none := Same.none v1 heq
    have q2 : H3 bq = none := Same.none (v1.trans v2) hbq
    have st : EL (upd (upd (upd (upd H3 sq (.lst (ns.map vS).reverse)) eq (.lst [])) bq (.lst [])) lq (.dK [])) g l nq sq eq bq lq ns [] [] [] [] :=
      ⟨B3.keep v14, v14 _ _ hnq, (v2.trans (v3.trans v4)) _ _ upd_same, (v3.trans v4) _ _ upd_same, .nil, fun t ht => (by cases ht), v4 _ _ upd_same, upd_same, ⟨nqg, (B3.ne hsq).1⟩, B3.ne q1, B3.ne q2,
        ⟨(ne_of_none hnq q1).symm, (ne_of_none upd_same heq).symm, ne_of_none upd_same hbq, (ne_of_none hnq q2).symm, (ne_of_none (v2 _ _ upd_same) hbq).symm⟩⟩
    have KS : Kp g H (upd (upd (upd (upd H3 sq (.lst (ns.map vS).reverse)) eq (.lst [])) bq (.lst [])) lq (.dK [])) := K03.trans (Kp.same v14)
    have feq : H eq = none := kp_none K03 q1 (B3.ne q1).1
    have fbq : H bq = none := kp_none K03 q2 (B3.ne q2).1
    have flq : H lq = none := kp_none (K03.trans (Kp.same (v1.trans (v2.trans v3)))) hlq ((B3.keep (v1.trans (v2.trans v3))).ne hlq).1
    generalize upd (upd (upd (upd H3 sq (.lst (ns.map vS).reverse)) eq (.lst [])) bq (.lst [])) lq (.dK []) = H4 at st KS ⊢
    have pp : ELp ns [] [] [] 0 0 0 := ⟨hnl, NO, by decide, fun b hb => (by cases hb), fun u hu => (by cases hu), fun u hu => (by cases hu), .nil, Nat.le_refl _, Nat.le_refl _, fun p hp => (by cases hp), by decide, by decide, by decide, by decide, fun _ => ⟨rfl, rfl⟩⟩
    refine ⟨⟨_, rfl, 1 + c1, rfl, by omega, by omega, for_range (lo := 0) (n := (1 + c1).toNat) (fun i σ' H' => Wd (∃ (bs : List (List Nat)) (ts : List Addr) (es : List En) (kvs : List (L2.Key × V)) (stock costs : Int) (o : List (Option V)), o.length = 8 ∧
      σ' = [some (.ref g), some (.int most), some (.int (1 + c1)), some (.int sz), some (.ref nq), some (.ref sq), some (.ref eq), some (.ref bq), some (.ref lq), some (.int stock), some (.int costs)] ++ o ∧ EL H' g l nq sq eq bq lq ns bs ts es kvs ∧ ELp ns bs es kvs i stock costs ∧ (i = 0 ∨ es ≠ []) ∧ Kp g H H'))
      ⟨[], [], [], [], 0, 0, [none, none, none, none, none, none, none, none], rfl, rfl, st, pp, .inl rfl, KS⟩ ?_ ?_⟩⟩
    · rintro i σ' H5 hi ⟨bs, ts, es, kvs, stock, costs, o, hol, rfl, st, pp, hne, KH⟩
      match o, hol with
      | [o11, o12, o13, o14, o15, o16, o17, o18], _ =>
        have i100 : i < 100 := by omega
        refine ⟨_, rfl, g, l, _, rfl, st.bag, by decide, by decide, fun ch H6 ch0 ch1 B6 K6 => ?_⟩
        have st6 := st.move B6 K6
        refine ⟨⟨lq, _, st6.L, trivial, fun od => ⟨_, rfl, lq, od, rfl, .inl ⟨kvs, upd_same, fun D hD => ?_⟩⟩⟩⟩
        have nDl : D ≠ lq := fun e => by rw [e, upd_same] at hD; cases hD
        refine lc_it walk_keys (fun j H' => Wd (∃ zs : List Str, zs.length ≤ j ∧ (∀ z ∈ zs, ∃ n : Int, valV kvs (.inr z) = some (.int n) ∧ 0 < n) ∧ H' = upd (upd H6 lq (.frz od (.dK kvs))) D (.lst (zs.map V.str)))) ⟨[], Nat.le_refl _, fun z hz => (by cases hz), rfl⟩ (fun j H' _ h => ?_) ?_ ?_
        · obtain ⟨zs, _, _, rfl⟩ := h.ok
          rw [upd_ne nDl.symm, upd_same]
        · rintro j x H7 H8 hj ⟨zs, hzl, hz, rfl⟩ ⟨rfl, kk, v, hkv, rfl⟩
          obtain ⟨m, hm, ek, _⟩ := pp.kv (kk, v) (List.mem_of_getElem? hkv)
          obtain ⟨v', hv'⟩ := mem_valV (List.mem_of_getElem? hkv)
          obtain ⟨_, _, _, n', ev', n0', n1'⟩ := pp.kv _ (valV_mem hv')
          have ek : kk = Sum.inr (SX.S m) := ek
          have ev' : v' = .int n' := ev'
          subst ek ev'
          have gg : DGet (upd (upd H6 lq (.frz od (.dK kvs))) D (.lst (zs.map V.str))) lq (.str (SX.S m)) (some (.int n')) := .inl ⟨kvs, Sum.inr (SX.S m), .inr ⟨od, by rw [upd_ne nDl.symm, upd_same]⟩, rfl, hv'.symm⟩
          refine ⟨rfl, _, rfl, _, rfl, lq, .int n', rfl, gg, _, _, rfl, rfl, _, rfl, if_dec (fun e => ?_) (fun e => ?_)⟩
          · refine ⟨_, rfl, _, upd_same, ?_, zs ++ [SX.S m], by rw [List.length_append]; exact Nat.succ_le_succ hzl, fun z hz' => ?_, by rw [upd_upd, List.map_append]; rfl⟩
            · rw [List.length_map]
              exact Nat.lt_of_lt_of_le (by have := pp.kl; omega : zs.length < 1000) (by decide)
            · rcases List.mem_append.mp hz' with hz' | hz'
              · exact hz z hz'
              · rw [List.mem_singleton] at hz'
                subst hz'
                exact ⟨n', hv', e⟩
          · exact ⟨zs, Nat.le_succ_of_le hzl, hz, rfl⟩
        rintro H7 ⟨zs, hzl, hz, rfl⟩
        refine ⟨by rw [upd_ne nDl.symm, upd_same], ?_⟩
        rw [upd_back st6.L nDl]
        have hD6 : H6 D = none := by
          rw [upd_ne nDl] at hD
          exact hD
        have sD := Same.new (o := .lst (zs.map V.str)) hD6
        have st7 := st6.same sD
        have KD : Kp g H (upd H6 D (.lst (zs.map V.str))) := (KH.trans K6).trans (Kp.same sD)
        have hDD : upd H6 D (.lst (zs.map V.str)) D = some (.lst (zs.map V.str)) := upd_same
        have nDg := B6.ne hD6
        generalize upd H6 D (.lst (zs.map V.str)) = H7 at st7 KD hDD ⊢
        clear sD hD st6 hD6
        have rng' : ∀ u ∈ es, 0 ≤ u.d ∧ 0 ≤ u.n ∧ u.d ≤ 9 * ((i + 1 : Nat) : Int) + 3 ∧ u.n ≤ 3 * ((i + 1 : Nat) : Int) + 3 := fun u hu => by
          have := pp.rng u hu
          refine ⟨this.1, this.2.1, by omega, by omega⟩
        have s1i := pp.s1
        have s0i := pp.s0
        have mid : ∀ (bs' : List (List Nat)) (kvs' : List (L2.Key × V)) (stock' costs' : Int), bs'.length ≤ 6 → (∀ b ∈ bs', b ∈ ns) → kvs'.length ≤ i + 1 → (∀ p ∈ kvs', ∃ m ∈ ns, p.1 = Sum.inr (SX.S m) ∧ ∃ j : Int, p.2 = .int j ∧ 0 ≤ j ∧ j ≤ 1000000) → 0 ≤ stock' → stock' ≤ stock + 1000000 → 0 ≤ costs' → costs' ≤ 3 → ELp ns bs' es kvs' (i + 1) stock' costs' := fun bs' kvs' stock' costs' a1 a2 a3 a4 a5 a6 a7 a8 =>
          ⟨pp.nl, pp.nok, a1, a2, pp.eok, rng', pp.inc, Nat.le_succ_of_le pp.el, a3, a4, a5, by omega, a7, a8, fun z => by omega⟩
        refine ⟨⟨fun σ' H' => Wd (∃ (bs' : List (List Nat)) (kvs' : List (L2.Key × V)) (stock' costs' : Int) (ev : V) (o : List (Option V)), o.length = 4 ∧
          σ' = [some (.ref g), some (.int most), some (.int (1 + c1)), some (.int sz), some (.ref nq), some (.ref sq), some (.ref eq), some (.ref bq), some (.ref lq), some (.int stock'), some (.int costs'), some (.int (0 + (i : Int))), some (.int ch), some (.ref D), some ev] ++ o ∧ EL H' g l nq sq eq bq lq ns bs' ts es kvs' ∧ ELp ns bs' es kvs' (i + 1) stock' costs' ∧
          ((ev = .non ∧ es ≠ []) ∨ ∃ e kd nm x, ev = .ref e ∧ H' e = some (.tup [.str kd, .str nm, x]) ∧ EnOk ⟨0, 0, e, kd, nm, x⟩) ∧ Kp g H H'), ?_, ?_⟩⟩
        · refine tIf_of (p := bs.length < 6 ∧ (stock = 0 ∨ ch < 2)) (H := H7) (fun Q hT hF => ?_) (fun H8 s8 hp => ?_) (fun H8 s8 hp => ?_)
          · refine ⟨_, rfl, bq, _, rfl, .inl (SqL.of st7.B), _, _, rfl, rfl, _, rfl, if_dec (fun e => ?_) (fun e => hF H7 (fun _ _ h => h) fun z => e ?_)⟩
            · have e' : bs.length < 6 := by
                rw [List.length_map] at e
                omega
              refine ⟨_, rfl, rfl, _, rfl, if_int (fun e1 => hT H7 (fun _ _ h => h) ⟨e', .inl e1⟩) (fun e1 => ?_)⟩
              exact ⟨_, rfl, _, _, rfl, rfl, _, rfl, q_dec (fun e2 => hT H7 (fun _ _ h => h) ⟨e', .inr e2⟩) (fun e2 => hF H7 (fun _ _ h => h) fun z => z.2.elim e1 e2)⟩
            · rw [List.length_map]
              have := z.1
              omega
          · have st8 := st7.same s8
            refine ⟨_, rfl, _, rfl, g, l, _, rfl, st8.bag, by omega, lt_pow (a := 20) (by omega) (by decide), fun c3 H9 c30 c31 B9 K9 => ⟨_, _, rfl, rfl, ?_⟩⟩
            have st9 := st8.move B9 K9
            have hbl := pp.nl
            have hb6 := hp.1
            have hlt : bs.length < ns.length := by omega
            have hat : atI (ns.map vS) (((bs.map vS).length : Nat) : Int) = some (vS ns[bs.length]) := by
              rw [List.length_map]
              refine atI_nat ?_
              rw [List.getElem?_map, List.getElem?_eq_getElem hlt]
              rfl
            have hmem : ns[bs.length] ∈ ns := List.getElem_mem hlt
            obtain ⟨hn1, hn2⟩ := pp.nok _ hmem
            refine ⟨_, rfl, _, rfl, bq, _, rfl, .inl (SqL.of st9.B), nq, _, _, _, rfl, rfl, SqL.of st9.N, hat, _, rfl, (by show 3 ≤ sizeLine; decide), fun e he => ?_⟩
            have sE := Same.new (o := .tup [V.str "buy", vS ns[bs.length], .int (1 + c3)]) he
            have stA := st9.same sE
            refine ⟨_, rfl, .inl ⟨rfl, _, SqL.of stA.B⟩, _, rfl, _, rfl, bq, _, rfl, .inl (SqL.of stA.B), nq, _, _, _, rfl, rfl, SqL.of stA.N, hat, bq, _, _, rfl, rfl, stA.B, ?_, ?_⟩
            · rw [List.length_map]
              exact Nat.lt_of_lt_of_le (by omega : bs.length < 1000) (by decide)
            refine ⟨_, rfl, _, rfl, _, _, rfl, rfl, bs ++ [ns[bs.length]], kvs, stock + (1 + c3), costs, .ref e, [_, _, _, _], rfl, rfl, ?_, mid _ kvs _ costs (by rw [List.length_append]; show bs.length + 1 ≤ 6; omega) (fun b hb => ?_) (Nat.le_succ_of_le pp.kl) pp.kv (by omega) (by omega) pp.c0 pp.c3, .inr ⟨e, "buy", SX.S ns[bs.length], .int (1 + c3), rfl, ?_, ent_units buy_yes hn1 (by omega) (by omega), .int _, fun z ez => by rw [← V.str.inj ez, SX.S_len]; exact hn2, fun z ez => by cases ez⟩, ?_⟩
            · have := stA.bput (bs ++ [ns[bs.length]])
              rw [List.map_append] at this
              exact this
            · rcases List.mem_append.mp hb with hb | hb
              · exact pp.bm b hb
              · rw [List.mem_singleton] at hb
                rw [hb]
                exact hmem
            · rw [upd_ne (ne_of_none st9.B he).symm, upd_same]
              rfl
            · exact (((KD.trans (Kp.same s8)).trans K9).trans (Kp.same sE)).put fbq
          · have hes : es ≠ [] := hne.resolve_left fun z => hp (by
              obtain ⟨z1, z2⟩ := pp.z z
              rw [z1, z2]
              exact ⟨by decide, .inl rfl⟩)
            have st8 := st7.same s8
            have hD8 := s8 _ _ hDD
            refine tIf_of (p := 0 < stock ∧ ch < 5 ∧ kvs.length < 9) (H := H8) (fun Q hT hF => ?_) (fun H9 s9 hp2 => ?_) (fun H9 s9 hp2 => ?_)
            · refine ⟨_, rfl, _, _, rfl, rfl, _, rfl, if_dec (fun e => ?_) (fun e => hF H8 (fun _ _ h => h) fun z => e z.1)⟩
              refine ⟨_, rfl, _, _, rfl, rfl, _, rfl, if_dec (fun e2 => ?_) (fun e2 => hF H8 (fun _ _ h => h) fun z => e2 z.2.1)⟩
              refine ⟨_, rfl, lq, _, rfl, st8.L, _, _, rfl, rfl, _, rfl, q_dec (fun e3 => hT H8 (fun _ _ h => h) ⟨e, e2, by omega⟩) (fun e3 => hF H8 (fun _ _ h => h) fun z => e3 (by have := z.2.2; omega))⟩
            · have st9 := st8.same s9
              have hk9 := hp2.2.2
              have hst : stock < 2 ^ 40 := by omega
              refine ⟨_, rfl, _, rfl, g, l, _, rfl, st9.bag, hp2.1, lt_pow (a := 40) (by omega) (by decide), fun c3 HA c30 c31 BA KA => ⟨_, _, rfl, rfl, ?_⟩⟩
              have stA := st9.move BA KA
              refine ⟨⟨fun σ' H' => Wd (∃ u : Int, 1 ≤ u ∧ u ≤ stock ∧ H' = HA ∧ σ' = [some (.ref g), some (.int most), some (.int (1 + c1)), some (.int sz), some (.ref nq), some (.ref sq), some (.ref eq), some (.ref bq), some (.ref lq), some (.int stock), some (.int costs), some (.int (0 + (i : Int))), some (.int ch), some (.ref D), some .non, some (.int u), o16, o17, o18]), ?_, ?_⟩⟩
              · refine ⟨_, rfl, rfl, _, rfl, if_int (fun e => ?_) (fun e => iteF ⟨1 + c3, by omega, by omega, rfl, rfl⟩)⟩
                exact ⟨_, rfl, _, _, rfl, rfl, _, rfl, if_dec (fun e2 => ⟨_, rfl, stock, by omega, Int.le_refl _, rfl, rfl⟩) (fun e2 => ⟨1 + c3, by omega, by omega, rfl, rfl⟩)⟩
              · rintro σ' H' ⟨u, u1, u2, rfl, rfl⟩
                refine ⟨_, rfl, _, _, rfl, ?_⟩
                obtain ⟨v, hv, v1, v2, v3⟩ : ∃ v : Int, (if (1000000 : Int) < u then 1000000 else u) = v ∧ 1 ≤ v ∧ v ≤ 1000000 ∧ v ≤ stock := by
                  split
                  · exact ⟨_, rfl, by omega, by omega, by omega⟩
                  · exact ⟨_, rfl, by omega, by omega, by omega⟩
                rw [hv]
                obtain ⟨x, hxm, hat⟩ := at_mem (xs := (ns.map vS).reverse) (j := kvs.length) (by rw [List.length_reverse, List.length_map, pp.nl]; exact hk9)
                obtain ⟨m, hm, rfl⟩ := List.mem_map.mp (List.mem_reverse.mp hxm)
                obtain ⟨hn1, hn2⟩ := pp.nok m hm
                refine ⟨_, rfl, _, rfl, lq, _, rfl, stA.L, sq, _, _, _, rfl, rfl, SqL.of stA.S, hat, _, rfl, (by show 3 ≤ sizeLine; decide), fun e he => ?_⟩
                have sE := Same.new (o := .tup [V.str "sell", vS m, .int v]) he
                have stB := stA.same sE
                have hkl := pp.kl
                refine ⟨_, rfl, _, rfl, _, rfl, _, rfl, lq, _, rfl, stB.L, sq, _, _, _, rfl, rfl, SqL.of stB.S, hat, lq, _, rfl, DPut.k (k := Sum.inr (SX.S m)) stB.L (Nat.lt_of_lt_of_le (by omega : kvs.length < 1000) (by decide)), ?_⟩
                refine ⟨_, rfl, _, rfl, _, _, rfl, rfl, bs, putK kvs (Sum.inr (SX.S m)) (.int v), stock - v, costs, .ref e, [_, _, _, _], rfl, rfl, stB.lput _, mid bs _ _ costs pp.bl pp.bm (Nat.le_trans len_putK (Nat.succ_le_succ hkl)) (fun p hp' => ?_) (by omega) (by omega) pp.c0 pp.c3, .inr ⟨e, "sell", SX.S m, .int v, rfl, ?_, ent_units sell_yes hn1 v1 v2, .int _, fun z ez => by rw [← V.str.inj ez, SX.S_len]; exact hn2, fun z ez => by cases ez⟩, ?_⟩
                · rcases mem_putK hp' with rfl | hp'
                  · exact ⟨m, hm, rfl, v, rfl, by omega, v2⟩
                  · exact pp.kv p hp'
                · rw [upd_ne (ne_of_none stA.L he).symm, upd_same]
                  rfl
                · exact ((((KD.trans (Kp.same s8)).trans (Kp.same s9)).trans KA).trans (Kp.same sE)).put flq
            · have st9 := st8.same s9
              have hD9 := s9 _ _ hD8
              refine tIf_of (p := zs ≠ [] ∧ ch < 7) (H := H9) (fun Q hT hF => ?_) (fun HA sA hp3 => ?_) (fun HA sA hp3 => ?_)
              · refine ⟨_, rfl, Nat.zero_le _, fun z hz' => ⟨D, z, _, rfl, rfl, SqL.of (Same.new hz' _ _ hD9), SqL.of upd_same, _, rfl, ?_⟩⟩
                have sz' := Same.new (o := .lst []) hz'
                cases zs with
                | nil => exact iteF (hF _ sz' fun z => z.1 rfl)
                | cons z0 zs0 => exact iteT ⟨_, rfl, _, _, rfl, rfl, _, rfl, q_dec (fun e2 => hT _ sz' ⟨by simp, e2⟩) (fun e2 => hF _ sz' fun z => e2 z.2)⟩
              · have stA := st9.same sA
                have hDA := sA _ _ hD9
                have hzl' : zs.length ≤ 1000 := by have := pp.kl; omega
                refine ⟨_, rfl, _, rfl, g, l, D, _, rfl, stA.bag, nDg.1, hDA, by rw [List.length_map]; exact List.length_pos_iff.mpr hp3.1, by rw [List.length_map]; exact hzl', fun v HB hv BB KB => ?_⟩
                obtain ⟨z, hzm, rfl⟩ := List.mem_map.mp hv
                obtain ⟨n, hn, n0⟩ := hz z hzm
                obtain ⟨m, hm, em, n', en', _, n1⟩ := pp.kv _ (valV_mem hn)
                obtain rfl : n = n' := V.int.inj en'
                obtain rfl : z = SX.S m := Sum.inr.inj em
                obtain ⟨hn1, hn2⟩ := pp.nok m hm
                have stB := stA.move BB KB
                have gB : ∀ {HH : Hp}, HH lq = some (.dK kvs) → DGet HH lq (.str (SX.S m)) (some (.int n)) := fun h => by
                  have g0 := DGet.k (k := Sum.inr (SX.S m)) h
                  rw [hn] at g0
                  exact g0
                refine ⟨_, rfl, _, rfl, _, rfl, lq, .int n, rfl, gB stB.L, g, l, _, rfl, stB.bag, n0, lt_pow (a := 40) (by omega) (by decide), fun c3 HC c30 c31 BC KC => ⟨_, _, rfl, rfl, ?_⟩⟩
                have stC := stB.move BC KC
                refine ⟨_, rfl, _, rfl, (by show 3 ≤ sizeLine; decide), fun e he => ?_⟩
                have sE := Same.new (o := .tup [V.str "back", .str (SX.S m), .int (1 + c3)]) he
                have stD := stC.same sE
                have hkl := pp.kl
                refine ⟨_, rfl, _, rfl, lq, .int n, rfl, gB stD.L, _, rfl, _, _, rfl, rfl, _, rfl, _, rfl, lq, _, rfl, DPut.k (k := Sum.inr (SX.S m)) stD.L (Nat.lt_of_lt_of_le (by omega : kvs.length < 1000) (by decide)), ?_⟩
                refine ⟨_, rfl, _, rfl, _, _, rfl, rfl, bs, putK kvs (Sum.inr (SX.S m)) (.int (n - (1 + c3))), stock + (1 + c3), costs, .ref e, [_, _, _, _], rfl, rfl, stD.lput _, mid bs _ _ costs pp.bl pp.bm (Nat.le_trans len_putK (Nat.succ_le_succ hkl)) (fun p hp' => ?_) (by omega) (by omega) pp.c0 pp.c3, .inr ⟨e, "back", SX.S m, .int (1 + c3), rfl, ?_, ent_units back_yes hn1 (by omega) (by omega), .int _, fun z ez => by rw [← V.str.inj ez, SX.S_len]; exact hn2, fun z ez => by cases ez⟩, ?_⟩
                · rcases mem_putK hp' with rfl | hp'
                  · exact ⟨m, hm, rfl, _, rfl, by omega, by omega⟩
                  · exact pp.kv p hp'
                · rw [upd_ne (ne_of_none stC.L he).symm, upd_same]
                · exact ((((((KD.trans (Kp.same s8)).trans (Kp.same s9)).trans (Kp.same sA)).trans KB).trans KC).trans (Kp.same sE)).put flq
              · have stA := st9.same sA
                refine tIf_of (p := bs ≠ [] ∧ costs < 3) (H := HA) (fun Q hT hF => ?_) (fun HB sB hp4 => ?_) (fun HB sB hp4 => ?_)
                · refine ⟨_, rfl, Nat.zero_le _, fun z hz' => ⟨bq, z, _, rfl, rfl, SqL.of (Same.new hz' _ _ stA.B), SqL.of upd_same, _, rfl, ?_⟩⟩
                  have sz' := Same.new (o := .lst []) hz'
                  cases bs with
                  | nil => exact iteF (hF _ sz' fun z => z.1 rfl)
                  | cons z0 zs0 => exact iteT ⟨_, rfl, _, _, rfl, rfl, _, rfl, q_dec (fun e2 => hT _ sz' ⟨by simp, e2⟩) (fun e2 => hF _ sz' fun z => e2 z.2)⟩
                · have stB := stA.same sB
                  have hc0 := pp.c0
                  obtain ⟨j, hj⟩ : ∃ j : Nat, 6 + costs = (j : Int) := ⟨(6 + costs).toNat, by omega⟩
                  obtain ⟨x, hxm, hat⟩ := at_mem (xs := ns.map vS) (j := j) (by rw [List.length_map, pp.nl]; have := hp4.2; omega)
                  obtain ⟨m, hm, rfl⟩ := List.mem_map.mp hxm
                  obtain ⟨hn1, hn2⟩ := pp.nok m hm
                  rw [← hj] at hat
                  refine ⟨_, rfl, _, rfl, _, _, rfl, rfl, nq, _, _, _, rfl, rfl, SqL.of stB.N, hat, _, rfl, _, rfl, g, l, bq, _, rfl, stB.bag, stB.gb.1, stB.B, by rw [List.length_map]; exact List.length_pos_iff.mpr hp4.1, by rw [List.length_map]; have := pp.bl; omega, fun v HC hv BC KC => ?_⟩
                  obtain ⟨lot, hlm, rfl⟩ := List.mem_map.mp hv
                  obtain ⟨hl1, hl2⟩ := pp.nok lot (pp.bm lot hlm)
                  have stC := stB.move BC KC
                  refine ⟨(by show 3 ≤ sizeLine; decide), fun e he => ?_⟩
                  have sE := Same.new (o := .tup [V.str "late", vS m, vS lot]) he
                  refine ⟨_, rfl, _, _, rfl, rfl, bs, kvs, stock, costs + 1, .ref e, [_, _, _, _], rfl, rfl, stC.same sE, mid bs kvs stock _ pp.bl pp.bm (Nat.le_succ_of_le pp.kl) pp.kv s0i (by omega) (by omega) (by have := hp4.2; omega), .inr ⟨e, "late", SX.S m, vS lot, rfl, upd_same, ent_late hn1 hl1, .str _, fun z ez => by rw [← V.str.inj ez, SX.S_len]; exact hn2, fun z ez => by rw [← V.str.inj ez, SX.S_len]; exact hl2⟩, ?_⟩
                  exact ((((((KD.trans (Kp.same s8)).trans (Kp.same s9)).trans (Kp.same sA)).trans (Kp.same sB)).trans KC).trans (Kp.same sE))
                · exact ⟨bs, kvs, stock, costs, .non, [_, _, _, _], rfl, rfl, stA.same sB, mid bs kvs stock costs pp.bl pp.bm (Nat.le_succ_of_le pp.kl) pp.kv s0i (by omega) pp.c0 pp.c3, .inl ⟨rfl, hes⟩, (((KD.trans (Kp.same s8)).trans (Kp.same s9)).trans (Kp.same sA)).trans (Kp.same sB)⟩
        · rintro σ' H8 ⟨bs', kvs', stock', costs', ev, o, hol, rfl, st8, pp8, hev, K8⟩
          match o, hol with
          | [p15, p16, p17, p18], _ =>
            rcases hev with ⟨rfl, hes⟩ | ⟨e, kd, nm, x, rfl, he, hok⟩
            · refine ⟨_, rfl, rfl, _, rfl, ifNT rfl ?_⟩
              exact ⟨bs', ts, es, kvs', stock', costs', [_, _, _, _, _, _, _, _], rfl, rfl, st8, pp8, .inr hes, K8⟩
            · refine ⟨_, rfl, rfl, _, rfl, ifNF (fun z => by cases z) ?_⟩
              refine ⟨_, rfl, _, rfl, g, l, eq, ts, es, rfl, st8.bag, st8.ge.1, st8.E, st8.T, fun u hu => ⟨(pp.rng u hu).1, (pp.rng u hu).2.1⟩, fun p d n H9 hp d0 n0 hnil hlast B9 K9 => ?_⟩
              have st9 := st8.move B9 K9
              obtain ⟨xs, hg⟩ := st8.bag.lst
              have he9 := K9 _ _ he (ne_of he hg (by intro z; cases z))
              refine ⟨p, _, rfl, SqT.of hp, rfl, _, _, rfl, _, _, rfl, rfl, ?_⟩
              refine ⟨_, rfl, .inl ⟨rfl, _, SqL.of st9.E⟩, _, rfl, _, rfl, _, rfl, (by show 3 ≤ sizeLine; decide), fun t ht => ?_⟩
              have sT := Same.new (o := .tup [V.int d, .int n, .ref e]) ht
              have stA := st9.same sT
              refine ⟨eq, _, _, rfl, rfl, stA.E, ?_, bs', ts ++ [t], es ++ [⟨d, n, e, kd, nm, x⟩], kvs', stock', costs', [_, _, _, _, _, _, _, _], rfl, rfl, ?_, ?_, .inr (by simp), ?_⟩
              · rw [List.length_map, st9.T.1]
                exact Nat.lt_of_lt_of_le (by have := pp.el; omega : es.length < 1000) (by decide)
              · have := stA.eput (t := t) (u := ⟨d, n, e, kd, nm, x⟩) upd_same (sT _ _ he9)
                rw [List.map_append] at this
                exact this
              · have hbound : d ≤ 9 * ((i + 1 : Nat) : Int) + 3 ∧ n ≤ 3 * ((i + 1 : Nat) : Int) + 3 := by
                  cases hl : es.getLast? with
                  | none =>
                    have := hnil (List.getLast?_eq_none_iff.mp hl)
                    omega
                  | some u =>
                    have h1 := hlast u hl
                    have h2 := pp.rng u (List.mem_of_getLast? hl)
                    omega
                refine ⟨pp8.nl, pp8.nok, pp8.bl, pp8.bm, fun u hu => ?_, fun u hu => ?_, ?_, by rw [List.length_append]; exact Nat.succ_le_succ pp.el, pp8.kl, pp8.kv, pp8.s0, pp8.s1, pp8.c0, pp8.c3, pp8.z⟩
                · rcases List.mem_append.mp hu with hu | hu
                  · exact pp.eok u hu
                  · rw [List.mem_singleton] at hu
                    subst hu
                    exact hok
                · rcases List.mem_append.mp hu with hu | hu
                  · exact rng' u hu
                  · rw [List.mem_singleton] at hu
                    subst hu
                    exact ⟨d0, n0, hbound.1, hbound.2⟩
                · rw [List.pairwise_append]
                  refine ⟨pp.inc, List.pairwise_singleton _ _, fun a ha b hb => ?_⟩
                  rw [List.mem_singleton] at hb
                  subst hb
                  exact lt_last pp.inc ha fun u hu => (hlast u hu).1
              · exact ((K8.trans K9).trans (Kp.same sT)).put feq
    · rintro σ' H5 ⟨bs, ts, es, kvs, stock, costs, o, hol, rfl, st, pp, hne, KH⟩
      refine ⟨_, rfl, k eq ts es H5 feq st.E st.T st.ent pp.eok (fun u hu => ?_) pp.inc (hne.resolve_left (by omega)) ?_ st.bag KH⟩
      · have := pp.rng u hu
        have h100 : ((1 + c1).toNat : Int) ≤ 100 := by omega
        refine ⟨this.1, this.2.1, by omega, by omega⟩
      · have := pp.el
        omega
end

/-! ### sorted(xs), xs pairs whose first part is a pair of ints, no two alike -/
theorem perm_map_back {α β : Type} {f : α → β} {us : List α} {out : List β} (h : out.Perm (us.map f)) : ∃ zs : List α, out = zs.map f ∧ zs.Perm us := by
  induction out generalizing us with
  | nil =>
    have : us = [] := by
      have := h.length_eq
      rw [List.length_map] at this
      exact List.eq_nil_of_length_eq_zero this.symm
    subst this
    exact ⟨[], rfl, .nil⟩
  | cons b out ih =>
    obtain ⟨u, hu, rfl⟩ := List.mem_map.mp (h.mem_iff.mp List.mem_cons_self)
    obtain ⟨l1, l2, rfl⟩ := List.append_of_mem hu
    rw [List.map_append, List.map_cons] at h
    have h2 : out.Perm ((l1 ++ l2).map f) := by
      rw [List.map_append]
      exact (List.perm_cons (f u)).mp (h.trans List.perm_middle)
    obtain ⟨zs, rfl, hp⟩ := ih h2
    exact ⟨u :: zs, rfl, ((List.perm_cons u).mpr hp).trans List.perm_middle.symm⟩
theorem inj_of_nodup {α β : Type} {f : α → β} {l : List α} (h : (l.map f).Nodup) {x y : α} (hx : x ∈ l) (hy : y ∈ l) (e : f x = f y) : x = y := by
  induction l with
  | nil => cases hx
  | cons a l ih =>
    rw [List.map_cons, List.nodup_cons] at h
    rcases List.mem_cons.mp hx with e1 | hx2
    · rcases List.mem_cons.mp hy with e2 | hy2
      · rw [e1, e2]
      · rw [e1] at e
        exact absurd (e ▸ List.mem_map.mpr ⟨y, hy2, rfl⟩) h.1
    · rcases List.mem_cons.mp hy with e2 | hy2
      · rw [e2] at e
        exact absurd (e ▸ List.mem_map.mpr ⟨x, hx2, rfl⟩) h.1
      · exact ih h.2 hx2 hy2

section
open PySem PySem.W PyProof.Rows SrtO
variable {prog : Program} {w : World} {A : Around} {s : Shared}
/-- v is a tuple of a pair of ints and something else -/
def IsKeyed (h : Heap) (v : Value) (x y : Int) : Prop := ∃ a o ka ba n, v = .ref a ∧ h.get? a = some o ∧ o.cls = .type "tuple" ∧ o.data = .seq #[.ref ka, .ref ba] n ∧ Srt.IsPair h (.ref ka) x y
theorem IsKeyed.keeps {h h' : Heap} {v : Value} {x y : Int} (p : IsKeyed h v x y) (k : ∀ b o, h.get? b = some o → o.cls = .type "tuple" → h'.get? b = some o) : IsKeyed h' v x y := by
  obtain ⟨a, o, ka, ba, n, e, ho, hc, hd, q⟩ := p
  exact ⟨a, o, ka, ba, n, e, k _ _ ho hc, hc, hd, q.keeps k⟩
theorem pair_reads {h : Heap} {ka : Addr} {x y : Int} (p : Srt.IsPair h (.ref ka) x y) : ∃ as, Reads h (.ref ka) (.tuple [.int x, .int y]) as := by
  obtain ⟨a, o, t, u, n, e, ho, hc, hd⟩ := p
  cases e
  exact ⟨_, .tuple ho hc hd (.cons (.int x t) (.cons (.int y u) .nil))⟩
theorem eqv_pair {x y x' y' : Int} : PyData.eqv (.tuple [.int x, .int y]) (.tuple [.int x', .int y']) = decide ((x, y) = (x', y')) := by
  show (x == x' && (y == y' && true)) = _
  rw [Bool.and_true, Bool.eq_iff_iff, Bool.and_eq_true, beq_iff_eq, beq_iff_eq, decide_eq_true_iff]
  exact ⟨fun z => Prod.ext z.1 z.2, fun z => ⟨congrArg Prod.fst z, congrArg Prod.snd z⟩⟩
theorem keyed_cmp {vs : List Value} {k : Value → Int × Int} (hp : ∀ v ∈ vs, IsKeyed s.heap v (k v).1 (k v).2) (hn : ∀ v ∈ vs, ∀ u ∈ vs, k v = k u → v = u) (hu : A.units + 64 < cLine) : Cmp prog w A s (tuples' false) (fun p => p.1 ∈ vs) (lt2 fun v u => lexB (k v) (k u)) := by
  intro p q hm hm'
  have h1 := hp _ hm
  have h2 := hp _ hm'
  show wpAny (model prog w) A (keyLt' (tuples' false) p.1 q.1) (fun r s' => s' = s ∧ r = lexB (k p.1) (k q.1)) (fun _ _ => False) s
  obtain ⟨a, o, ka, ba, n, e, ho, hc, hd, hk⟩ := h1
  obtain ⟨a', o', ka', ba', n', e', ho', hc', hd', hk'⟩ := h2
  by_cases z : p.1 = q.1
  · have irr : lexB (k p.1) (k q.1) = false := by
      rw [z]
      exact lexB_no.mpr (by omega)
    rw [irr]
    rw [z] at e
    have ea : a = a' := Value.ref.inj (e.symm.trans e')
    subst ea
    rw [ho] at ho'
    cases ho'
    rw [hd] at hd'
    cases hd'
    rw [z, e]
    refine kat_lt ho hd ho hd ?_
    show KatLex prog w A false (decide (2 < 2)) _ [(.ref ka, .ref ka), (.ref ba, .ref ba)] 0 s
    refine kat_cons (SeqAt.EqAt.same (.ref ka) prog w _ _ (kat_yes (kat_cons (SeqAt.EqAt.same (.ref ba) prog w _ _ (kat_yes (kat_nil ⟨rfl, rfl⟩))))))
  · have hne : ¬ k p.1 = k q.1 := fun t => z (hn _ hm _ hm' t)
    obtain ⟨as, r1⟩ := pair_reads hk
    obtain ⟨bs, r2⟩ := pair_reads hk'
    have q1 := SeqAt.eqAt_plain _ _ A s _ _ as bs r1 r2 rfl rfl (Nat.lt_of_le_of_lt (Nat.add_le_add_left (Nat.le_trans (Nat.min_le_left _ _) (Nat.le_of_ble_eq_true rfl : (PyData.tuple [.int (k p.1).1, .int (k p.1).2]).depth ≤ 1)) _) (by omega))
    rw [eqv_pair, decide_eq_false (show ¬ ((k p.1).1, (k p.1).2) = ((k q.1).1, (k q.1).2) from hne)] at q1
    rw [e, e'] at *
    refine kat_lt ho hd ho' hd' ?_
    show KatLex prog w A false (decide (2 < 2)) _ [(.ref ka, .ref ka'), (.ref ba, .ref ba')] 0 s
    refine kat_cons (q1 prog w _ _ (kat_no (kat_one _ _ ?_)))
    obtain ⟨a1, o1, t1, u1, n1, e1, ho1, hc1, hd1⟩ := hk
    obtain ⟨a2, o2, t2, u2, n2, e2, ho2, hc2, hd2⟩ := hk'
    cases e1
    cases e2
    refine HT.lt_tupInts ⟨o1, ho1, hc1, n1, hd1⟩ ⟨o2, ho2, hc2, n2, hd2⟩ (.cons _ _ (.cons _ _ .nil)) (.cons _ _ (.cons _ _ .nil)) (by omega) ?_
    refine ⟨rfl, ?_⟩
    show (if _ = _ then (if _ = _ then false else decide _) else decide _) = lexB _ _
    unfold lexB
    split
    · split
      · next ey => exact (decide_eq_false (by rw [ey]; exact Int.lt_irrefl _)).symm
      · rfl
    · rfl
theorem keyed_firsts {h : Heap} : ∀ {vs : List Value}, (∀ v ∈ vs, ∃ x y, IsKeyed h v x y) → ∃ fs : List Value, KatTups h vs fs ∧ fs.length = vs.length ∧ ∀ f ∈ fs, ∃ (q : Addr) (o : Obj), f = Value.ref q ∧ h.get? q = some o ∧ o.cls = .type "tuple"
  | [], _ => ⟨[], KatTups.nil, rfl, fun f hf => by simp at hf⟩
  | v :: vs, x => by
    obtain ⟨fs, k, hl, hi⟩ := keyed_firsts (vs := vs) fun u hu => x u (List.mem_cons_of_mem _ hu)
    obtain ⟨_, _, a, o, ka, ba, n, rfl, ho, hc, hd, a1, o1, t1, u1, n1, e1, ho1, hc1, hd1⟩ := x v (List.mem_cons_self ..)
    cases e1
    refine ⟨.ref ka :: fs, KatTups.cons ho hc hd rfl k, by rw [List.length_cons, List.length_cons, hl], fun f hf => ?_⟩
    rcases List.mem_cons.mp hf with rfl | hf
    · exact ⟨ka, o1, rfl, ho1, hc1⟩
    · exact hi f hf
theorem keyed_sortable {a : Addr} {vs : List Value} {k : Value → Int × Int} (h0 : 0 < vs.length) (hp : ∀ v ∈ vs, IsKeyed s.heap v (k v).1 (k v).2) (hn : ∀ v ∈ vs, ∀ u ∈ vs, k v = k u → v = u) (hu : A.units + 64 < cLine) (ha : ∀ o, s.heap.get? a = some o → o.cls ≠ .type "tuple") : SortableO prog w A s a vs fun v u => lexB (k v) (k u) := by
  intro h' keep
  have hp' : ∀ v ∈ vs, IsKeyed h' v (k v).1 (k v).2 := fun v hm => (hp v hm).keeps fun b o e c => keep b o (fun z => by subst z; exact ha o e c) e
  obtain ⟨fs, h1, h2, h3⟩ := keyed_firsts fun v hm => ⟨_, _, hp' v hm⟩
  refine ⟨tuples' false, fun Q E hq => ?_, keyed_cmp hp' hn hu⟩
  refine kat_kind (T := .type "tuple") h1 (by omega) (fun f hm => ?_) (by rfl) ?_
  · obtain ⟨q, o, rfl, ho, hc⟩ := h3 f hm
    have z : PySem.W.Looks (model prog w) h' (typeOf (.ref q)) o.cls := (PySem.W.Looks.ld ho).andThen .now
    rw [hc] at z
    exact z
  · have e : (Value.type "tuple" != Value.type "tuple") = false := by first | rfl | decide | simp
    rw [e]
    exact hq
end
section
open PySem.Spec PyProof.Rows
variable {X : Cx}
/-- sorted(xs): us tells the parts of each, by addresses: itself, the pair, the rest -/
def rSortK (K : PySem.W.Frag) : List V → Hp → VK → Prop := fun vs H Q => Wd (∃ (a : Addr) (us : List (Addr × (Int × Int))), vs = [V.ref a] ∧ SqL K H a (us.map fun u => V.ref u.1) ∧
  (∀ u ∈ us, ∃ ka ba, H u.1 = some (.tup [.ref ka, .ref ba]) ∧ H ka = some (.tup [.int u.2.1, .int u.2.2])) ∧ (us.map (·.2)).Nodup ∧ (us.map (·.1)).Nodup ∧
  ∀ (zs : List (Addr × (Int × Int))) (p : Addr), H p = none → zs.Perm us → (zs.map (·.2)).Pairwise (fun a b => SrtO.lexB b a = false) → Q (.ref p) (upd H p (.lst (zs.map fun u => V.ref u.1))))
def keyIn (us : List (Addr × (Int × Int))) : Value → Int × Int
  | .ref a => ((us.find? fun u => u.1 == a).map (·.2)).getD (0, 0)
  | _ => (0, 0)
theorem keyIn_at {us : List (Addr × (Int × Int))} {u : Addr × (Int × Int)} (hn : (us.map (·.1)).Nodup) (h : u ∈ us) : keyIn us (.ref u.1) = u.2 := by
  show ((us.find? fun v => v.1 == u.1).map (·.2)).getD (0, 0) = u.2
  induction us with
  | nil => cases h
  | cons v vs ih =>
    rw [List.map_cons, List.nodup_cons] at hn
    rw [List.find?_cons]
    rcases List.mem_cons.mp h with rfl | h
    · rw [beq_self_eq_true]
      rfl
    · have hv : (v.1 == u.1) = false := by
        rw [beq_eq_false_iff_ne]
        exact fun e => hn.1 (e ▸ List.mem_map.mpr ⟨u, h, rfl⟩)
      rw [hv]
      exact ih hn.2 h
theorem cr_sortedK (hu : X.A.units + 66 < cLine) : CallR X (.builtin "sorted") (rSortK X.K) := by
  intro pins s σ H vs ws Q I r h
  obtain ⟨a, us, rfl, hs, hx, hn2, hn1, q⟩ := h.ok
  obtain ⟨its, rv, hl, hz⟩ := I.list hs
  rw [Vals.ref1 r]
  have ei : its = us.map fun u => Value.ref u.1 := by
    clear hs hl hx hn1 hn2 q h hz
    induction us generalizing its with
    | nil => cases rv; rfl
    | cons u us ih =>
      cases rv with
      | cons r1 r2 =>
        rw [List.map_cons, ← ih _ r2]
        cases r1
        rfl
  have hmem : ∀ v ∈ its, ∃ u ∈ us, v = Value.ref u.1 := fun v hv => by
    rw [ei] at hv
    obtain ⟨u, hu, rfl⟩ := List.mem_map.mp hv
    exact ⟨u, hu, rfl⟩
  have keyed : ∀ v ∈ its, IsKeyed s.heap v (keyIn us v).1 (keyIn us v).2 := fun v hv => by
    obtain ⟨u, hum, rfl⟩ := hmem v hv
    rw [keyIn_at hn1 hum]
    obtain ⟨ka, ba, e1, e2⟩ := hx u hum
    obtain ⟨_, i2, rr, o, ho, hc, n, hd⟩ := I.hok _ _ e1
    obtain ⟨w1, w2, rfl, q1, q2⟩ := vals2 rr
    cases q1
    cases q2
    obtain ⟨_, i3, rr3, o3, ho3, hc3, n3, hd3⟩ := I.hok _ _ e2
    obtain ⟨w3, w4, rfl, q3, q4⟩ := vals2 rr3
    obtain ⟨t3, rfl⟩ := q3
    obtain ⟨t4, rfl⟩ := q4
    exact ⟨u.1, o, ka, ba, n, rfl, ho, hc, hd, ka, o3, t3, t4, n3, rfl, ho3, hc3, hd3⟩
  have inj : ∀ v ∈ its, ∀ u ∈ its, keyIn us v = keyIn us u → v = u := fun v hv u hv' e => by
    obtain ⟨x, hxm, rfl⟩ := hmem v hv
    obtain ⟨y, hym, rfl⟩ := hmem u hv'
    rw [keyIn_at hn1 hxm, keyIn_at hn1 hym] at e
    have := inj_of_nodup hn2 hxm hym e
    rw [this]
  refine SrtO.sorted_ord (SrtO.swo_lex (keyIn us)) hl.isList (by rw [← rv.length]; exact hz) (fun h2 h₁ b hb kk => ?_) fun out so sb => ?_
  · refine keyed_sortable (s := { s with heap := h₁ }) (by omega) (fun v hm => (keyed v hm).keeps fun b o e _ => (kk b o e).2) inj (by show X.A.in1.in1.units + 64 < cLine; have e1 : X.A.in1.in1.units ≤ X.A.units + 2 := Nat.le_refl _; omega) fun o e => ?_
    have e' : some o = some (seqObj "list" its.toArray 0) := e.symm.trans hb
    cases e'
    intro c
    exact absurd (Value.type.inj c) (by decide)
  · obtain ⟨zs, hzs, hperm⟩ : ∃ zs : List (Addr × (Int × Int)), out = zs.map (fun u => Value.ref u.1) ∧ zs.Perm us := by
      have hp := sb.perm
      rw [ei] at hp
      exact perm_map_back hp
    have hlen : (zs.map fun u => V.ref u.1).length ≤ sizeLine := by
      rw [List.length_map, hperm.length_eq]
      rw [List.length_map] at hz
      exact hz
    obtain ⟨n, hn⟩ := PyProof.Rows.sortedAll_at s.heap its out.toArray
    have hd : s.heap.objs.size ≤ s.heap.objs.size + 1 := Nat.le_succ _
    refine ⟨.ref (s.heap.objs.size + 1), _, I.laid (t' := s.toks) (o := .lst (zs.map fun u => V.ref u.1)) (fun b o e => PyProof.Rows.sortedAll_old e) hd ⟨hlen, out, n, ?_, hn⟩, rfl, q zs _ (I.hok.fresh hd) hperm ?_⟩
    · rw [hzs]
      clear hzs hperm hlen
      induction zs with
      | nil => exact .nil
      | cons z zs ih => exact .cons rfl ih
    · have so' : out.Pairwise fun v u => SrtO.lexB (keyIn us u) (keyIn us v) = false := so
      rw [hzs, List.pairwise_map] at so'
      rw [List.pairwise_map]
      refine List.Pairwise.imp_of_mem (fun {x y} hx' hy' e => ?_) so'
      rw [keyIn_at hn1 (hperm.mem_iff.mp hx'), keyIn_at hn1 (hperm.mem_iff.mp hy')] at e
      exact e
end

/-! ### lists as data -/
theorem depthAll_le {k : Nat} : ∀ {xs : List PyData}, (∀ x ∈ xs, x.depth ≤ k) → PyData.depthAll xs ≤ k
  | [], _ => by unfold PyData.depthAll; exact Nat.zero_le _
  | x :: xs, h => by
    unfold PyData.depthAll
    exact Nat.max_le.mpr ⟨h x List.mem_cons_self, depthAll_le fun y hy => h y (List.mem_cons_of_mem _ hy)⟩
theorem depth_list {k : Nat} {xs : List PyData} (h : ∀ x ∈ xs, x.depth ≤ k) : (PyData.list xs).depth ≤ k + 1 := by
  unfold PyData.depth
  exact Nat.succ_le_succ (depthAll_le h)
theorem plainAll_of : ∀ {xs : List PyData}, (∀ x ∈ xs, x.plain = true) → PyData.plainAll xs = true
  | [], _ => rfl
  | x :: xs, h => by
    unfold PyData.plainAll
    rw [h x List.mem_cons_self, plainAll_of fun y hy => h y (List.mem_cons_of_mem _ hy)]
    rfl
theorem dpAll_of {K : PySem.W.Frag} {H : Hp} {α : Type} {f : α → V} {g : α → PyData} : ∀ {l : List α}, (∀ x ∈ l, Dp K H (f x) (g x)) → DpAll K H (l.map f) (l.map g)
  | [], _ => .nil
  | x :: l, h => .cons (h x List.mem_cons_self) (dpAll_of fun y hy => h y (List.mem_cons_of_mem _ hy))
/-- a list whose items are data -/
structure DL (K : PySem.W.Frag) (H : Hp) (v : V) (d : PyData) (k : Nat) : Prop where
  dp : Dp K H v d
  pl : d.plain = true
  de : d.depth ≤ k
theorem dl_strs {K : PySem.W.Frag} {H : Hp} {p : Addr} {ns : List Str} (h : H p = some (.lst (ns.map V.str))) : DL K H (.ref p) (.list (ns.map PyData.str)) 1 :=
  ⟨.lst (SqL.of h) (dpAll_of fun x _ => .str x), by unfold PyData.plain; exact plainAll_of fun x hx => by obtain ⟨y, _, rfl⟩ := List.mem_map.mp hx; rfl, depth_list fun x hx => by obtain ⟨y, _, rfl⟩ := List.mem_map.mp hx; exact Nat.le_refl _⟩
def pairD (p : Int × Int) : PyData := .tuple [.int p.1, .int p.2]
theorem dpAll_pairs {K : PySem.W.Frag} {H : Hp} : ∀ {bs : List Addr} {ps : List (Int × Int)}, All2 (fun b q => H b = some (.tup [.int q.1, .int q.2])) bs ps → DpAll K H (bs.map V.ref) (ps.map pairD)
  | [], [], _ => .nil
  | [], _ :: _, h => by cases h.1
  | _ :: _, [], h => by cases h.1
  | b :: bs, p :: ps, h => .cons (.tup (SqT.of (h.2 0 b p rfl rfl)) (.cons (.int _) (.cons (.int _) .nil))) (dpAll_pairs ⟨by have := h.1; simpa using this, fun i x y hx hy => h.2 (i + 1) x y hx hy⟩)
theorem dl_pairs {K : PySem.W.Frag} {H : Hp} {p : Addr} {bs : List Addr} {ps : List (Int × Int)} (h : H p = some (.lst (bs.map V.ref))) (h2 : All2 (fun b q => H b = some (.tup [.int q.1, .int q.2])) bs ps) : DL K H (.ref p) (.list (ps.map pairD)) 2 :=
  ⟨.lst (SqL.of h) (dpAll_pairs h2), by unfold PyData.plain; exact plainAll_of fun x hx => by obtain ⟨y, _, rfl⟩ := List.mem_map.mp hx; rfl, depth_list fun x hx => by obtain ⟨y, _, rfl⟩ := List.mem_map.mp hx; exact Nat.le_of_ble_eq_true rfl⟩
theorem dl_list3 {K : PySem.W.Frag} {H : Hp} {p : Addr} {a b c : V} {da db dc : PyData} {k : Nat} (h : H p = some (.lst [a, b, c])) (ha : DL K H a da k) (hb : DL K H b db k) (hc : DL K H c dc k) : DL K H (.ref p) (.list [da, db, dc]) (k + 1) :=
  ⟨.lst (SqL.of h) (.cons ha.dp (.cons hb.dp (.cons hc.dp .nil))), by unfold PyData.plain PyData.plainAll PyData.plainAll PyData.plainAll PyData.plainAll; rw [ha.pl, hb.pl, hc.pl]; rfl, depth_list fun x hx => by
    simp only [List.mem_cons, List.not_mem_nil, or_false] at hx
    rcases hx with rfl | rfl | rfl
    · exact ha.de
    · exact hb.de
    · exact hc.de⟩
theorem ne_dl {K : PySem.W.Frag} {H : Hp} {x y : V} {d : PyData} {k : Nat} {Q : VK} (hx : DL K H x d k) (hy : DL K H y d k) (hk : k ≤ 64) (h : Q (.bl false) H) : rNeP K x y H Q := neP_same hx.dp hy.dp hx.pl (Nat.le_trans hx.de hk) h
theorem eq_dl {K : PySem.W.Frag} {H : Hp} {x y : V} {d : PyData} {k : Nat} {Q : VK} (hx : DL K H x d k) (hy : DL K H y d k) (hk : k ≤ 64) (h : Q (.bl true) H) : rEqP K x y H Q := eqP_same hx.dp hy.dp hx.pl (Nat.le_trans hx.de hk) h

def pdV : V → PyData
  | .int i => .int i
  | .str z => .str z
  | _ => .none
theorem dl_pl {K : PySem.W.Frag} {H : Hp} {v : V} (h : Pl v) : DL K H v (pdV v) 0 := by
  cases h with
  | int i => exact ⟨.int i, rfl, Nat.le_refl _⟩
  | str z => exact ⟨.str z, rfl, Nat.le_refl _⟩
  | non => exact ⟨.non, rfl, Nat.le_refl _⟩
theorem dl_ent {K : PySem.W.Frag} {H : Hp} {p : Addr} {kd nm : Str} {x : V} (h : H p = some (.tup [.str kd, .str nm, x])) (hx : Pl x) : DL K H (.ref p) (.tuple [.str kd, .str nm, pdV x]) 1 := by
  have d := dl_pl (K := K) (H := H) hx
  refine ⟨.tup (SqT.of h) (.cons (.str _) (.cons (.str _) (.cons d.dp .nil))), ?_, ?_⟩
  · unfold PyData.plain PyData.plainAll PyData.plainAll PyData.plainAll PyData.plainAll
    rw [d.pl]
    rfl
  · unfold PyData.depth
    refine Nat.succ_le_succ (depthAll_le fun y hy => ?_)
    simp only [List.mem_cons, List.not_mem_nil, or_false] at hy
    rcases hy with rfl | rfl | rfl
    · exact Nat.le_refl _
    · exact Nat.le_refl _
    · exact d.de
theorem All2.keep {H H' : Hp} {bs : List Addr} {ps : List (Int × Int)} (h : All2 (fun b q => H b = some (.tup [.int q.1, .int q.2])) bs ps) (s : Same H H') : All2 (fun b q => H' b = some (.tup [.int q.1, .int q.2])) bs ps := h.mono fun _ _ z => s _ _ z

/-! ### books of drawn entries -/
def keyN (es : List En) : Prop := (keysE es).Nodup
theorem fold_len : ∀ (es acc : List En), (es.foldl putE acc).length ≤ acc.length + es.length
  | [], acc => Nat.le_refl _
  | t :: es, acc => by
    have h := fold_len es (putE acc t)
    have h2 := len_putE (es := acc) (t := t)
    rw [List.foldl_cons, List.length_cons]
    omega
theorem atE_none {es : List En} {d n : Int} (h : ∀ u ∈ es, (u.d, u.n) ≠ (d, n)) : atE es d n = none := by
  unfold atE
  rw [List.find?_eq_none]
  intro u hu e
  exact h u hu (by rw [(isE_iff.mp e).1, (isE_iff.mp e).2])
theorem put_new {es : List En} {t : En} (h : ∀ u ∈ es, (u.d, u.n) ≠ (t.d, t.n)) : putE es t = es ++ [t] := by
  unfold putE
  rw [atE_none h]
  rfl
theorem fold_new : ∀ (es acc : List En), (keysE (acc ++ es)).Nodup → es.foldl putE acc = acc ++ es
  | [], acc, _ => by rw [List.foldl_nil, List.append_nil]
  | t :: es, acc, h => by
    have hn : ∀ u ∈ acc, (u.d, u.n) ≠ (t.d, t.n) := fun u hu e => by
      unfold keysE at h
      rw [List.map_append, List.nodup_append] at h
      exact h.2.2 _ (List.mem_map.mpr ⟨u, hu, rfl⟩) _ (List.mem_map.mpr ⟨t, List.mem_cons_self, rfl⟩) e
    rw [List.foldl_cons, put_new hn, fold_new es (acc ++ [t]) (by rw [List.append_assoc]; exact h), List.append_assoc]
    rfl
theorem inc_nodup {es : List En} (h : es.Pairwise ltE) : keyN es := by
  unfold keyN keysE List.Nodup
  rw [List.pairwise_map]
  refine h.imp fun {a b} z e => ?_
  unfold ltE at z
  have e1 := congrArg Prod.fst e
  have e2 := congrArg Prod.snd e
  simp only at e1 e2
  omega
def spBook (C : Addr) : Sp := fun vs H Q _ => ∃ (q : Addr) (ts : List Addr) (es : List En), vs = [.ref q] ∧ H q = some (.lst (ts.map V.ref)) ∧ All2 (Tri H) ts es ∧ EntsAt H es ∧ (∀ u ∈ es, EnOk u) ∧ (∀ u ∈ es, 0 ≤ u.d ∧ 0 ≤ u.n ∧ u.d ≤ 1000000 ∧ u.n ≤ 1000000) ∧ es.length < 900 ∧
  ∀ (b bd : Addr) (H' : Hp), Same H H' → H b = none → H bd = none → BookAt C H' b bd (es.foldl putE []) → Q (.ref b) H'
theorem same_mk2 {H : Hp} {x dx C : Addr} (hx : H x = none) (hd : H dx = none) : Same H (upd (upd H dx (.own x)) x (.ins C dx [])) := fun b o e => by
  rw [upd_ne (ne_of_none e hx), upd_ne (ne_of_none e hd)]
  exact e
section
variable {P : Program} {w : World} {K : PySem.W.Frag} {mg : Str → Option Value} {base : Heap} {A : Ad}
theorem own_get (T : Txt K mg A) : OwnM K A.Book A.m_Book_getitem "__getitem__" := ⟨T.m_Book___getitem__.at_, T.m_Book___getitem__.fn⟩
theorem own_set (T : Txt K mg A) : OwnM K A.Book A.m_Book_setitem "__setitem__" := ⟨T.m_Book___setitem__.at_, T.m_Book___setitem__.fn⟩
theorem ok_l_book (T : Txt K mg A) : FnOk P w K mg base CX0 9 A.l_book A.fd_l_book P_l_book (spBook A.Book) := by
  refine T.F_l_book.ok sc_l_book (fun vs H Q E h => ?_) (fun cdv Ar outer s H vs Q E hr h => ?_)
  · obtain ⟨q, ts, es, rfl, _⟩ := h
    rfl
  · obtain ⟨q, ts, es, rfl, hq, hT, hE, hok, hrg, hz, k⟩ := h
    refine ⟨_, (pss_cons (ps_set (i := 1) sc_l_book.nd rfl (Or.inl rfl) (pe_make0 T.mk_Book (ok_m_Book_init T) (hr.mono (by decide)) (by rfl) T.g_Book T.b_m_Book_init .nil pass0))
      (pss_cons (ps_g (ps_for PassesOwn.never rfl (pi_list (pv 0)) (pg_tup (n := 3) rfl (pgs_cons (pg_name (i := 2) sc_l_book.nd rfl (Or.inl rfl)) (pgs_cons (pg_name (i := 3) sc_l_book.nd rfl (Or.inl rfl)) (pgs_cons (pg_name (i := 4) sc_l_book.nd rfl (Or.inl rfl)) pgs_nil)))) (pss_one (ps_ownSet (E := fun _ => E0) (own_set T) T.nsq_Book (ok_m_Book_setitem T) (hr.mono (by decide)) T.b_m_Book_setitem (passAll passL) (pv 1) (pe_tup (pa_cons (pv 2) (pa_cons (pv 3) pa_nil))) (pv 4) rfl))))
      (pss_one (ps_ret (pv 1))))), ?_⟩
    refine fun b dx hb hdx ndx => ⟨b, dx, rfl, upd_same, fun bd hbd => ⟨rfl, ?_⟩⟩
    have u1 := same_mk2 (C := A.Book) hb hdx
    have nbb : bd ≠ b := fun e => by rw [e, upd_same] at hbd; cases hbd
    have fbd : H bd = none := Same.none u1 hbd
    have S7 : Same H (upd (upd (upd (upd H dx (.own b)) b (.ins A.Book dx [])) bd (.dT [])) b (.ins A.Book dx [("entries", .ref bd)])) := Same.at_new hb (u1.trans (Same.new hbd))
    have b7 : BookAt A.Book (upd (upd (upd (upd H dx (.own b)) b (.ins A.Book dx [])) bd (.dT [])) b (.ins A.Book dx [("entries", .ref bd)])) b bd [] := ⟨⟨dx, upd_same⟩, by rw [upd_ne nbb, upd_same]; rfl⟩
    generalize upd (upd (upd (upd H dx (.own b)) b (.ins A.Book dx [])) bd (.dT [])) b (.ins A.Book dx [("entries", .ref bd)]) = H7 at S7 b7 ⊢
    refine ⟨⟨_, rfl, q, rfl, ⟨_, SqL.of (S7 _ _ hq)⟩, for_list (xs := ts.map V.ref) (fun i σ' H' => Wd (∃ o2 o3 o4 : Option V, σ' = [some (.ref q), some (.ref b), o2, o3, o4] ∧ Same H H' ∧ BookAt A.Book H' b bd ((es.take i).foldl putE []))) ⟨none, none, none, rfl, S7, b7⟩ ?_ ?_ ?_⟩⟩
    · rintro i σ' H' _ ⟨o2, o3, o4, rfl, s8, _⟩
      exact SqL.of (s8 _ _ hq)
    · rintro i x σ' H' hx ⟨o2, o3, o4, rfl, s8, B8⟩
      rw [List.getElem?_map] at hx
      obtain ⟨t, ht, rfl⟩ := Option.map_eq_some_iff.mp hx
      obtain ⟨u, hu, htu⟩ := hT.get ht
      have hum := List.mem_of_getElem? hu
      have ht8 : H' t = some (.tup [.int u.d, .int u.n, .ref u.e]) := s8 _ _ htu
      obtain ⟨ok1, ok2, ok3, ok4⟩ := hok u hum
      have hr4 := hrg u hum
      refine ⟨t, _, rfl, SqT.of ht8, rfl, _, _, rfl, _, _, rfl, _, _, rfl, rfl, ?_⟩
      obtain ⟨⟨dx2, hb8⟩, hd8⟩ := B8
      refine ⟨_, rfl, _, rfl, _, rfl, _, rfl, (by show 2 ≤ sizeLine; decide), fun r hr' => ?_⟩
      have sr := Same.new (o := .tup [V.int u.d, .int u.n]) hr'
      have hel : ((es.take i).foldl putE []).length < 1000 := by
        have := fold_len (es.take i) []
        rw [List.length_take] at this
        simp only [List.length_nil] at this
        omega
      have e8 : H' u.e = some (.tup [.str u.kd, .str u.nm, u.x]) := s8 _ _ (hE u hum)
      refine ⟨b, dx2, _, rfl, sr _ _ hb8, b, bd, r, _, .int u.d, .int u.n, .ref u.e, true, rfl, ⟨⟨dx2, sr _ _ hb8⟩, sr _ _ hd8⟩, hel, upd_same, .inl (.int _), .inl (.int _), .inl ⟨.str u.kd, .str u.nm, u.x, ⟨u.e, rfl, sr _ _ e8, .str _, .str _, ok2, ok3, ok4⟩, ok1.symm⟩, fun d' n' e1 e2 _ Hg sg => ?_, fun e => ?_⟩
      · obtain rfl := V.int.inj e1
        obtain rfl := V.int.inj e2
        refine ⟨_, _, _, rfl, ?_, ⟨dx2, ?_⟩, ?_⟩
        · exact fun c o ec => by
            rw [upd_ne (ne_of_none ec fbd)]
            exact sg _ _ (sr _ _ (s8 _ _ ec))
        · rw [upd_ne (ne_of (sg _ _ (sr _ _ hb8)) (sg _ _ (sr _ _ hd8)) (by intro z; cases z))]
          exact sg _ _ (sr _ _ hb8)
        · rw [upd_same, put_kvE (t := u), take_more hu, List.foldl_append]
          rfl
      · have en : (numV 0 (.int u.d) && (numV 0 (.int u.n) && true)) = true := by
          show ((decide (0 ≤ u.d) && decide (u.d ≤ 1000000)) && ((decide (0 ≤ u.n) && decide (u.n ≤ 1000000)) && true)) = true
          rw [decide_eq_true hr4.1, decide_eq_true hr4.2.2.1, decide_eq_true hr4.2.1, decide_eq_true hr4.2.2.2]
          rfl
        rw [en] at e
        cases e
    · rintro σ' H' ⟨o2, o3, o4, rfl, s8, B8⟩
      rw [List.length_map, hT.1, List.take_of_length_le (Nat.le_refl _)] at B8
      exact ⟨_, rfl, k b bd H' s8 hb fbd B8⟩
end

/-! ### what a book holds, in order -/
def leEn (a b : En) : Bool := leK (a.d, a.n) (b.d, b.n)
def srtE (es : List En) : List En := es.mergeSort leEn
theorem leEn_trans (a b c : En) (h1 : leEn a b = true) (h2 : leEn b c = true) : leEn a c = true := by
  unfold leEn at *
  rw [leK_iff] at *
  simp only at *
  omega
theorem leEn_total (a b : En) : (leEn a b || leEn b a) = true := by
  unfold leEn
  rw [Bool.or_eq_true, leK_iff, leK_iff]
  simp only
  omega
theorem srtE_perm (es : List En) : (srtE es).Perm es := List.mergeSort_perm _ _
theorem srtE_sorted (es : List En) : (srtE es).Pairwise fun a b => leEn a b = true := List.pairwise_mergeSort leEn_trans leEn_total es
theorem en_inj {es : List En} (hn : keyN es) {a b : En} (ha : a ∈ es) (hb : b ∈ es) (h : (a.d, a.n) = (b.d, b.n)) : a = b := inj_of_nodup hn ha hb h
theorem srtE_uniq {es l : List En} (hn : keyN es) (h : l.Perm es) (hs : l.Pairwise fun a b => leEn a b = true) : l = srtE es := by
  refine List.Perm.eq_of_pairwise (le := fun a b => leEn a b = true) (fun a b ha hb h1 h2 => ?_) hs (srtE_sorted es) (h.trans (srtE_perm es).symm)
  refine en_inj hn (h.mem_iff.mp ha) ((srtE_perm es).mem_iff.mp hb) ?_
  unfold leEn at h1 h2
  rw [leK_iff] at h1 h2
  simp only at h1 h2
  exact Prod.ext (by simp only; omega) (by simp only; omega)
theorem srtK_srtE {es : List En} : srtK es = (srtE es).map fun t => (t.d, t.n) := by
  refine (srtK_uniq (es := es) ((srtE_perm es).map _) ?_).symm
  rw [List.pairwise_map]
  refine (srtE_sorted es).imp fun {a b} h => ?_
  unfold leEn leK at h
  rw [Bool.not_eq_true'] at h
  exact h
theorem atE_self {es : List En} (hn : keyN es) {t : En} (ht : t ∈ es) : atE es t.d t.n = some t := by
  obtain ⟨u, hu⟩ := atE_mem ht
  obtain ⟨hm, e1, e2⟩ := atE_some hu
  rw [hu, en_inj hn hm ht (by rw [e1, e2])]
/-- the list at p: pairs of a place and its entry -/
def KeptAt (H : Hp) (p : Addr) (us : List (Addr × Addr × En)) : Prop := H p = some (.lst (us.map fun u => V.ref u.1)) ∧ ∀ u ∈ us, H u.1 = some (.tup [.ref u.2.1, .ref u.2.2.e]) ∧ H u.2.1 = some (.tup [.int u.2.2.d, .int u.2.2.n])
/-- an entry as data -/
def entD (u : En) : PyData := .tuple [.str u.kd, .str u.nm, pdV u.x]

def itemD (u : En) : PyData := .tuple [pairD (u.d, u.n), entD u]
theorem dl_kept {K : PySem.W.Frag} {H : Hp} {p : Addr} {us : List (Addr × Addr × En)} (h : KeptAt H p us) (hE : EntsAt H (us.map fun u => u.2.2)) (hx : ∀ u ∈ us, Pl u.2.2.x) : DL K H (.ref p) (.list ((us.map fun u => u.2.2).map itemD)) 3 := by
  have one : ∀ u ∈ us, DL K H (.ref u.1) (itemD u.2.2) 2 := fun u hu => by
    have e := dl_ent (K := K) (hE u.2.2 (List.mem_map.mpr ⟨u, hu, rfl⟩)) (hx u hu)
    refine ⟨.tup (SqT.of (h.2 u hu).1) (.cons (.tup (SqT.of (h.2 u hu).2) (.cons (.int _) (.cons (.int _) .nil))) (.cons e.dp .nil)), ?_, ?_⟩
    · unfold itemD PyData.plain PyData.plainAll PyData.plainAll PyData.plainAll
      unfold entD
      rw [e.pl]
      rfl
    · unfold itemD PyData.depth
      refine Nat.succ_le_succ (depthAll_le fun y hy => ?_)
      simp only [List.mem_cons, List.not_mem_nil, or_false] at hy
      rcases hy with rfl | rfl
      · exact Nat.le_of_ble_eq_true rfl
      · exact e.de
  rw [List.map_map]
  refine ⟨.lst (SqL.of h.1) (dpAll_of fun u hu => (one u hu).dp), ?_, depth_list fun y hy => ?_⟩
  · unfold PyData.plain
    refine plainAll_of fun y hy => ?_
    obtain ⟨u, hu, rfl⟩ := List.mem_map.mp hy
    exact (one u hu).pl
  · obtain ⟨u, hu, rfl⟩ := List.mem_map.mp hy
    exact (one u hu).de
def spKept (C : Addr) : Sp := fun vs H Q _ => ∃ b bd es, vs = [.ref b] ∧ BookAt C H b bd es ∧ keyN es ∧ es.length < 1000 ∧ ∀ p us H', Same H H' → H p = none → KeptAt H' p us → us.map (fun u => u.2.2) = srtE es → Q (.ref p) H'
theorem pick_list {α : Type} {R : Nat → α → Prop} {n : Nat} (h : ∀ i, i < n → ∃ x, R i x) : ∃ xs : List α, xs.length = n ∧ ∀ i x, xs[i]? = some x → R i x := by
  induction n with
  | zero => exact ⟨[], rfl, fun i x z => by cases z⟩
  | succ n ih =>
    obtain ⟨xs, hl, hx⟩ := ih fun i hi => h i (Nat.lt_succ_of_lt hi)
    obtain ⟨x, hxn⟩ := h n (Nat.lt_succ_self n)
    refine ⟨xs ++ [x], by rw [List.length_append, hl]; rfl, fun i y hy => ?_⟩
    rw [List.getElem?_append] at hy
    split at hy
    · exact hx i y hy
    · have hi : i - xs.length = 0 := by
        cases e : i - xs.length with
        | zero => rfl
        | succ m => rw [e] at hy; cases hy
      rw [hi] at hy
      cases hy
      have : i = n := by omega
      rw [this]
      exact hxn
section
variable {P : Program} {w : World} {K : PySem.W.Frag} {mg : Str → Option Value} {base : Heap} {A : Ad}
theorem ok_l_kept (T : Txt K mg A) : FnOk P w K mg base CX0 9 A.l_kept A.fd_l_kept P_l_kept (spKept A.Book) := by
  refine T.F_l_kept.ok sc_l_kept (fun vs H Q E h => ?_) (fun cdv Ar outer s H vs Q E hr h => ?_)
  · obtain ⟨b, bd, es, rfl, _⟩ := h
    rfl
  · obtain ⟨b, bd, es, rfl, B, hn, hz, k⟩ := h
    refine ⟨_, (pss_one (ps_ret (pe_g (pe_lcV (own := [("_law_spot", 1)]) rfl sc_l_kept.nd (pi_list (pe_meth0 (pv 0) T.cl_Book T.m_Book_places (ok_m_Book_places T) (hr.mono (by decide)) T.b_m_Book_places .nil pass0)) (blkOk_by (own := [("_law_spot", 1)]) (N := N_l_kept) (sc := defScope s_l_kept) (by decide +kernel)) (fun _ _ _ _ _ => (pg_name (i := 1) sc_l_kept.nd rfl (Or.inl rfl))) (fun _ _ _ _ _ => pts_nil) (fun _ _ _ _ _ => (pe_tup (pa_cons (pv 1) (pa_cons (pe_ownIx (E := fun _ => E0) (own_get T) T.fgi_Book (ok_m_Book_getitem T) (hr.mono (by decide)) T.b_m_Book_getitem (passAll passL) (pv 0) (pe_tup (pa_cons (pe_ix ix_tup (pv 1) pe_int (fun _ _ => rfl)) (pa_cons (pe_ix ix_tup (pv 1) pe_int (fun _ _ => rfl)) pa_nil)))) pa_nil)))) (fun _ _ _ _ _ => rfl) (fun _ _ _ _ _ => rfl) (fun _ _ _ _ _ => rfl))))), ?_⟩
    obtain ⟨⟨dx, hb⟩, hd⟩ := id B
    refine ⟨⟨_, rfl, b, dx, _, rfl, hb, rfl, b, bd, es, rfl, B, fun bs q hq h2 => ?_⟩⟩
    have s1 := Same.new (o := .lst (bs.map V.ref)) hq
    have hlen : bs.length = es.length := by rw [h2.1, len_srtK]
    refine ⟨q, rfl, ⟨_, SqL.of upd_same⟩, fun D hD => ?_⟩
    refine lc_sameP (fun i y H' => ∃ (a ka : Addr) (u : En), y = V.ref a ∧ (srtE es)[i]? = some u ∧ H' a = some (.tup [.ref ka, .ref u.e]) ∧ H' ka = some (.tup [.int u.d, .int u.n])) upd_same (by rw [List.length_map, hlen]; omega) hD (fun i y G G' acc hDl kp ⟨a, ka, u, e1, e2, e3, e4⟩ => ⟨a, ka, u, e1, e2, kp _ _ e3 (ne_of e3 hDl (by intro z; cases z)), kp _ _ e4 (ne_of e4 hDl (by intro z; cases z))⟩) ?_ ?_
    · intro i x H' N M hx s' hN
      rw [List.getElem?_map] at hx
      obtain ⟨t, ht, rfl⟩ := Option.map_eq_some_iff.mp hx
      obtain ⟨y, hy, hty⟩ := h2.get ht
      have ht' : H' t = some (.tup [.int y.1, .int y.2]) := (s1.trans s') _ _ hty
      rw [srtK_srtE, List.getElem?_map] at hy
      obtain ⟨u, hu, rfl⟩ := Option.map_eq_some_iff.mp hy
      have hum : u ∈ es := (srtE_perm es).mem_iff.mp (List.mem_of_getElem? hu)
      have sA := s1.trans s'
      refine ⟨rfl, _, rfl, _, rfl, _, rfl, t, _, _, _, rfl, rfl, SqT.of ht', rfl, _, rfl, t, _, _, _, rfl, rfl, SqT.of ht', rfl, (by show 2 ≤ sizeLine; decide), fun r hr' => ?_⟩
      have sr := Same.new (o := .tup [V.int u.d, .int u.n]) hr'
      refine ⟨b, dx, _, rfl, sr _ _ (sA _ _ hb), b, bd, r, es, u.d, u.n, rfl, (B.same sA).same sr, upd_same, (fun v ev => ?_), fun ev => ?_⟩
      · rw [atE_self hn hum] at ev
        cases ev
        refine ⟨(by show 2 ≤ sizeLine; decide), fun z hz' => ?_⟩
        have sz := Same.new (o := .tup [V.ref t, .ref u.e]) hz'
        exact hN _ _ (sr.trans sz) ⟨z, t, u, rfl, hu, upd_same, sz _ _ (sr _ _ ht')⟩
      · rw [atE_self hn hum] at ev
        cases ev
    · intro ys H' s' hyl hR hD'
      rw [List.length_map, hlen] at hyl
      obtain ⟨us, hul, hus⟩ := pick_list (n := es.length) (R := fun i (x : Addr × Addr × En) => ys[i]? = some (.ref x.1) ∧ (srtE es)[i]? = some x.2.2 ∧ H' x.1 = some (.tup [.ref x.2.1, .ref x.2.2.e]) ∧ H' x.2.1 = some (.tup [.int x.2.2.d, .int x.2.2.n])) fun i hi => by
        obtain ⟨a, ka, u, e1, e2, e3, e4⟩ := hR i ys[i] (List.getElem?_eq_getElem (by omega))
        exact ⟨(a, ka, u), by rw [← e1]; exact List.getElem?_eq_getElem (by omega), e2, e3, e4⟩
      have ey : ys = us.map fun u => V.ref u.1 := by
        apply List.ext_getElem?
        intro i
        rw [List.getElem?_map]
        by_cases hi : i < us.length
        · rw [List.getElem?_eq_getElem hi, (hus i _ (List.getElem?_eq_getElem hi)).1]
          rfl
        · rw [List.getElem?_eq_none (by omega), List.getElem?_eq_none (by omega)]
          rfl
      have eu : us.map (fun u => u.2.2) = srtE es := by
        have hsl : (srtE es).length = es.length := (srtE_perm es).length_eq
        apply List.ext_getElem?
        intro i
        rw [List.getElem?_map]
        by_cases hi : i < us.length
        · rw [List.getElem?_eq_getElem hi, (hus i _ (List.getElem?_eq_getElem hi)).2.1]
          rfl
        · rw [List.getElem?_eq_none (by omega), List.getElem?_eq_none (by omega)]
          rfl
      rw [ey] at hD'
      refine k D us H' (s1.trans s') (Same.none s1 hD) ⟨hD', fun u hu => ?_⟩ eu
      obtain ⟨i, hi⟩ := List.mem_iff_getElem?.mp hu
      exact (hus i u hi).2.2
end

/-! ### == and != of data that may differ -/
theorem dl_pair {K : PySem.W.Frag} {H : Hp} {t : Addr} {p : Int × Int} (h : H t = some (.tup [.int p.1, .int p.2])) : DL K H (.ref t) (pairD p) 1 := by
  refine ⟨.tup (SqT.of h) (.cons (.int _) (.cons (.int _) .nil)), ?_, ?_⟩
  · unfold pairD PyData.plain PyData.plainAll PyData.plainAll PyData.plainAll
    rfl
  · unfold pairD PyData.depth
    refine Nat.succ_le_succ (depthAll_le fun y hy => ?_)
    simp only [List.mem_cons, List.not_mem_nil, or_false] at hy
    rcases hy with rfl | rfl <;> exact Nat.le_refl _
theorem ne_dls {K : PySem.W.Frag} {H : Hp} {x y : V} {d e : PyData} {k : Nat} {Q : VK} (hx : DL K H x d k) (hy : DL K H y e k) (hk : k ≤ 64) (h : Q (.bl (!PyData.eqv d e)) H) : rNeP K x y H Q := ⟨⟨d, e, hx.dp, hy.dp, hx.pl, hy.pl, Nat.le_trans hx.de hk, h⟩⟩
theorem eq_dls {K : PySem.W.Frag} {H : Hp} {x y : V} {d e : PyData} {k : Nat} {Q : VK} (hx : DL K H x d k) (hy : DL K H y e k) (hk : k ≤ 64) (h : Q (.bl (PyData.eqv d e)) H) : rEqP K x y H Q := ⟨⟨d, e, hx.dp, hy.dp, hx.pl, hy.pl, Nat.le_trans hx.de hk, h⟩⟩
theorem eqv_pairD {p q : Int × Int} : PyData.eqv (pairD p) (pairD q) = decide (p = q) := by
  obtain ⟨a, b⟩ := p
  obtain ⟨c, d⟩ := q
  have e : PyData.eqv (pairD (a, b)) (pairD (c, d)) = ((a == c) && ((b == d) && true)) := by
    unfold pairD
    simp only [PyData.eqv, PyData.eqvAll]
  rw [e, Bool.and_true, Bool.eq_iff_iff, Bool.and_eq_true, beq_iff_eq, beq_iff_eq, decide_eq_true_eq, Prod.mk.injEq]

/-! ### Book.tried handed a lambda that may raise -/
/-! ### Trial, Book.trial -/
section
variable {P : Program} {w : World} {K : PySem.W.Frag} {mg : Str → Option Value} {base : Heap} {A : Ad}
def spTrialInit (C : Addr) : Sp := fun vs H Q _ => ∃ t dx b, vs = [.ref t, .ref b] ∧ H t = some (.ins C dx []) ∧ ∀ d H', (∀ c o, H c = some o → c ≠ t → H' c = some o) → H' t = some (.ins C dx [("book", .ref b), ("kept", .ref d)]) → Q .non H'
theorem ok_m_Trial_init (T : Txt K mg A) : FnOk P w K mg base CX0 1 A.m_Trial_init A.fd_m_Trial_init P_m_Trial_init (spTrialInit A.Trial) := by
  refine T.F_m_Trial_init.ok sc_m_Trial_init (fun vs H Q E h => ?_) (fun cdv Ar outer s H vs Q E hr h => ?_)
  · obtain ⟨t, dx, b, rfl, _⟩ := h
    rfl
  · obtain ⟨t, dx, b, rfl, ht, k⟩ := h
    refine ⟨_, (pss_cons (ps_fld (pv 0) (pv 1) rfl)
      (pss_one (ps_fld (pv 0) pe_dnewK rfl))), ?_⟩
    refine ⟨_, rfl, _, rfl, t, A.Trial, dx, _, rfl, ht, T.cl_Trial, T.n_Trial_book, (by show 0 < 1000; decide), ?_⟩
    intro d hd
    have ndt : t ≠ d := ne_of_none upd_same hd
    refine ⟨_, rfl, t, A.Trial, dx, _, rfl, (by rw [upd_ne ndt]; exact upd_same), T.cl_Trial, T.n_Trial_kept, (by show 1 < 1000; decide), k d _ (fun c o e n => ?_) upd_same⟩
    have e1 : (upd H t (HO.ins A.Trial dx (putF (Str.ofString "book") (V.ref b) []))) c = some o := by rw [upd_ne n]; exact e
    rw [upd_ne n, upd_ne (ne_of_none e1 hd)]
    exact e1
def spTrial (CT : Addr) : Sp := fun vs H Q _ => ∃ b, vs = [.ref b] ∧ ∀ t d dx H', Same H H' → H t = none → H' t = some (.ins CT dx [("book", .ref b), ("kept", .ref d)]) → Q (.ref t) H'
theorem ok_m_Book_trial (T : Txt K mg A) : FnOk P w K mg base CX0 3 A.m_Book_trial A.fd_m_Book_trial P_m_Book_trial (spTrial A.Trial) := by
  refine T.F_m_Book_trial.ok sc_m_Book_trial (fun vs H Q E h => ?_) (fun cdv Ar outer s H vs Q E hr h => ?_)
  · obtain ⟨b, rfl, _⟩ := h
    rfl
  · obtain ⟨b, rfl, k⟩ := h
    refine ⟨_, (pss_one (ps_ret (pe_make T.mk_Trial (ok_m_Trial_init T) (hr.mono (by decide)) (by rfl) T.g_Trial T.b_m_Trial_init .nil pass0 (pa_cons (pv 0) pa_nil)))), ?_⟩
    refine ⟨_, rfl, fun x dx hx hd ndx => ⟨x, dx, b, rfl, upd_same, fun d H' kp ht => ⟨rfl, k x d dx H' (fun c o e => kp c o ?_ (ne_of_none e hx)) hx ht⟩⟩⟩
    rw [upd_ne (ne_of_none e hx), upd_ne (ne_of_none e hd)]
    exact e
def spEnter (C CT : Addr) : Sp := fun vs H Q _ => ∃ t dx b d dd es, vs = [.ref t] ∧ H t = some (.ins CT dx [("book", .ref b), ("kept", .ref d)]) ∧ BookAt C H b dd es ∧ HAp (kvE es) ∧ ∀ kd, H kd = none → Q (.ref t) (upd (upd H kd (.dT (kvE es))) t (.ins CT dx [("book", .ref b), ("kept", .ref kd)]))
theorem ok_m_Trial_enter (T : Txt K mg A) : FnOk P w K mg base CX0 1 A.m_Trial_enter A.fd_m_Trial_enter P_m_Trial_enter (spEnter A.Book A.Trial) := by
  refine T.F_m_Trial_enter.ok sc_m_Trial_enter (fun vs H Q E h => ?_) (fun cdv Ar outer s H vs Q E hr h => ?_)
  · obtain ⟨t, dx, b, d, dd, es, rfl, _⟩ := h
    rfl
  · obtain ⟨t, dx, b, d, dd, es, rfl, ht, ⟨⟨dxb, hb⟩, hd⟩, hap, k⟩ := h
    refine ⟨_, (pss_cons (ps_fld (pv 0) (pe_callTy (call_dictT hr.units) (by rfl) T.z_dict (by decide +kernel) (pa_cons (pe_fld (pe_fld (pv 0) rfl) rfl) pa_nil)) rfl)
      (pss_one (ps_ret (pv 0)))), ?_⟩
    refine ⟨_, rfl, t, A.Trial, dx, _, _, rfl, ht, T.cl_Trial, T.n_Trial_book, rfl, b, A.Book, dxb, _, _, rfl, hb, T.cl_Book, T.n_Book_entries, rfl, dd, kvE es, rfl, .inl hd, hap, fun kd hkd => ?_⟩
    exact ⟨_, rfl, t, A.Trial, dx, [("book", .ref b), ("kept", .ref d)], rfl, by rw [upd_ne (ne_of_none ht hkd)]; exact ht, T.cl_Trial, T.n_Trial_kept, (by show 2 < 1000; decide), _, rfl, k kd hkd⟩
def spExit (C CT : Addr) : Sp := fun vs H Q _ => ∃ t dx b kd dxb ee v1 v2 v3, vs = [.ref t, v1, v2, v3] ∧ H t = some (.ins CT dx [("book", .ref b), ("kept", .ref kd)]) ∧ H b = some (.ins C dxb [("entries", .ref ee)]) ∧ Q .non (upd H b (.ins C dxb [("entries", .ref kd)]))
theorem ok_m_Trial_exit (T : Txt K mg A) : FnOk P w K mg base CX0 1 A.m_Trial_exit A.fd_m_Trial_exit P_m_Trial_exit (spExit A.Book A.Trial) := by
  refine T.F_m_Trial_exit.ok sc_m_Trial_exit (fun vs H Q E h => ?_) (fun cdv Ar outer s H vs Q E hr h => ?_)
  · obtain ⟨t, dx, b, kd, dxb, ee, v1, v2, v3, rfl, _⟩ := h
    rfl
  · obtain ⟨t, dx, b, kd, dxb, ee, v1, v2, v3, rfl, ht, hb, k⟩ := h
    refine ⟨_, (pss_one (ps_fld (pe_fld (pv 0) rfl) (pe_fld (pv 0) rfl) rfl)), ?_⟩
    exact ⟨_, rfl, t, A.Trial, dx, _, _, rfl, ht, T.cl_Trial, T.n_Trial_kept, rfl, _, rfl, t, A.Trial, dx, _, _, rfl, ht, T.cl_Trial, T.n_Trial_book, rfl, b, A.Book, dxb, _, rfl, hb, T.cl_Book, T.n_Book_entries, (by show 1 < 1000; decide), k⟩
end

section
variable {P : Program} {w : World} {K : PySem.W.Frag} {mg : Str → Option Value} {base : Heap} {A : Ad}
theorem exit_m (T : Txt K mg A) : L5.FnM P w K mg base 5 A.m_Trial_exit A.fd_m_Trial_exit P_m_Trial_exit (spExit A.Book A.Trial) := by
  obtain ⟨oc, od, kV, doc, pm, an, cdv, ct, osl, e, lk, hcd⟩ := T.F_m_Trial_exit.ex
  rw [e] at lk ⊢
  refine L5.fn_ofM lk hcd sc_m_Trial_exit (fun vs H Q E h => ?_) (fun Ar outer s H vs Q p hr h => ?_)
  · obtain ⟨t, dx, b, kd, dxb, ee, v1, v2, v3, rfl, _⟩ := h
    rfl
  · obtain ⟨t, dx, b, kd, dxb, ee, v1, v2, v3, rfl, ht, hb, k⟩ := h
    refine ⟨_, (pss_one (ps_fld (pe_fld (pv 0) rfl) (pe_fld (pv 0) rfl) rfl)), ?_⟩
    exact ⟨_, rfl, t, A.Trial, dx, _, _, rfl, ht, T.cl_Trial, T.n_Trial_kept, rfl, _, rfl, t, A.Trial, dx, _, _, rfl, ht, T.cl_Trial, T.n_Trial_book, rfl, b, A.Book, dxb, _, rfl, hb, T.cl_Book, T.n_Book_entries, (by show 1 < 1000; decide), k⟩
end
/-- what Book.tried makes of what the lambda does, perhaps raising -/
def TTriedX (C CT : Addr) : (XK → V → Hp → VK → Prop) → Addr → Hp → VK → XK → Prop := fun tl b H Q E => ∃ dd es, BookAt C H b dd es ∧ HAp (kvE es) ∧
  ∀ (H1 : Hp) (t kd dxt : Addr), Same H H1 → H t = none → H kd = none → H1 t = some (.ins CT dxt [("book", .ref b), ("kept", .ref kd)]) → H1 kd = some (.dT (kvE es)) →
    ∀ (E1 : XK) (R : VK), (∀ (cls : Value) (d : Option Addr) (H2 : Hp) (dxb ee : Addr) (v1 : V), RelV v1 cls → H2 t = some (.ins CT dxt [("book", .ref b), ("kept", .ref kd)]) → H2 b = some (.ins C dxb [("entries", .ref ee)]) → E cls d (upd H2 b (.ins C dxb [("entries", .ref kd)])) → E1 cls d H2) →
      (∀ (v : V) (H2 : Hp) (dxb ee : Addr), H2 t = some (.ins CT dxt [("book", .ref b), ("kept", .ref kd)]) → H2 b = some (.ins C dxb [("entries", .ref ee)]) → Q v (upd H2 b (.ins C dxb [("entries", .ref kd)])) → R v H2) → tl E1 (.ref b) H1 R
section
variable {A : Ad} {X : Cx}
theorem triedx_gives (T : Txt X.K X.mg A) {q : Str} {k : Nat} (hk : 12 ≤ k) : L5.GivesMX X k N_m_Book_tried "Book.tried" (defScope s_m_Book_tried) A.m_Book_tried (defBody s_m_Book_tried) "deed" q (TTriedX A.Book A.Trial) := by
  intro cdg f c' b s H Q E tl hr act hc h
  obtain ⟨dd, es, hB, hap, kk⟩ := h
  refine ⟨_, pss_cons (L5.ps_withX (Wout := fun cls d _ H => E cls d H) rfl rfl rfl (pe_meth0 (pv 0) T.cl_Book T.m_Book_trial (ok_m_Book_trial T) (hr.mono (by omega)) T.b_m_Book_trial .nil pass0) T.m_Trial___enter__.at_ T.m_Trial___enter__.fn T.m_Trial___exit__.at_ T.m_Trial___exit__.fn
    ((ok_m_Trial_enter T).mono (k := 5) (by decide)) T.b_m_Trial_enter ((ok_m_Trial_exit T).mono (k := 5) (by decide)) (exit_m T) T.b_m_Trial_exit (hr.mono (by omega)) (takes_of rfl rfl rfl rfl)
    (fun W pn xe tk _ => pss_one (ps_set (i := 2) sc_m_Book_tried.nd rfl (Or.inl rfl) (act W pn xe _ _ _ _ tk (pv 0) rfl)))) (pss_one (ps_ret (pv 2))), ?_⟩
  have hB' := hB
  obtain ⟨⟨dxb, hb⟩, hd⟩ := hB
  refine ⟨_, rfl, b, dxb, _, rfl, hb, rfl, b, rfl, fun t d dxt H1 s1 ht ht1 => ⟨t, dxt, _, rfl, ht1, t, dxt, b, d, dd, es, rfl, ht1, hB'.same s1, hap, fun kd hkd => ?_⟩⟩
  have ntk := ne_of_none ht1 hkd
  have s2 : Same H (upd (upd H1 kd (.dT (kvE es))) t (.ins A.Trial dxt [("book", .ref b), ("kept", .ref kd)])) := fun c o e => by
    have e1 := s1 _ _ e
    rw [upd_ne (ne_of_none e ht), upd_ne (ne_of_none e1 hkd)]
    exact e1
  refine ⟨rfl, _, rfl, s2 _ _ hc, kk _ t kd dxt s2 ht (Same.none s1 hkd) upd_same (by rw [upd_ne ntk.symm]; exact upd_same) _ _ (fun cls dq H2 dxb2 ee v1 rv h1 h2 he => ?_) fun v H2 dxb2 ee h1 h2 hq => ?_⟩
  · exact ⟨v1, rv, fun a v3 => ⟨t, dxt, b, kd, dxb2, ee, _, _, _, rfl, h1, h2, rfl, he⟩⟩
  · exact ⟨t, dxt, b, kd, dxb2, ee, _, _, _, rfl, h1, h2, _, rfl, hq⟩
end

/-! ### putting an entry in: what stands behind it, up to order -/
theorem no_other {es : List En} {v : En} {d n : Int} (h : keyN (v :: es)) (hv : isE d n v = true) : ∀ u ∈ es, isE d n u = false := fun u hu => by
  unfold keyN keysE at h
  rw [List.map_cons, List.nodup_cons] at h
  cases e : isE d n u with
  | false => rfl
  | true =>
    have a := isE_iff.mp hv
    have b := isE_iff.mp e
    exact absurd (List.mem_map.mpr ⟨u, hu, by rw [a.1, a.2, b.1, b.2]⟩) h.1
theorem rep_perm {t : En} : ∀ {es : List En}, keyN es → (∃ u ∈ es, isE t.d t.n u = true) → (es.map fun u => if isE t.d t.n u = true then t else u).Perm (dropE es t.d t.n ++ [t])
  | [], _, h => by obtain ⟨u, hu, _⟩ := h; cases hu
  | v :: es, hn, h => by
    by_cases hv : isE t.d t.n v = true
    · have no := no_other hn hv
      have e1 : (es.map fun u => if isE t.d t.n u = true then t else u) = es := by
        conv => rhs; rw [← List.map_id es]
        refine List.map_congr_left fun u hu => ?_
        rw [no u hu]
        rfl
      have e2 : dropE (v :: es) t.d t.n = es := by
        unfold dropE
        rw [List.filter_cons_of_neg (by simp [hv])]
        exact List.filter_eq_self.mpr fun u hu => by rw [no u hu]; rfl
      rw [List.map_cons, if_pos hv, e1, e2]
      exact (List.perm_append_singleton t es).symm
    · have e2 : dropE (v :: es) t.d t.n = v :: dropE es t.d t.n := by
        unfold dropE
        rw [List.filter_cons_of_pos (by simpa using hv)]
      have hn' : keyN es := by
        unfold keyN keysE at hn ⊢
        rw [List.map_cons, List.nodup_cons] at hn
        exact hn.2
      obtain ⟨u, hu, hk⟩ := h
      rw [List.map_cons, if_neg hv, e2, List.cons_append]
      refine (List.perm_cons v).mpr (rep_perm hn' ⟨u, ?_, hk⟩)
      rcases List.mem_cons.mp hu with rfl | hu
      · exact absurd hk hv
      · exact hu
theorem put_perm {es : List En} {t : En} (hn : keyN es) : (putE es t).Perm (dropE es t.d t.n ++ [t]) := by
  unfold putE
  split
  · next h =>
    refine rep_perm hn ?_
    obtain ⟨u, hu⟩ := Option.isSome_iff_exists.mp h
    obtain ⟨hm, e1, e2⟩ := atE_some hu
    exact ⟨u, hm, isE_iff.mpr ⟨e1, e2⟩⟩
  · next h =>
    have : dropE es t.d t.n = es := List.filter_eq_self.mpr fun u hu => by
      have hx : atE es t.d t.n = none := by simpa using h
      have := List.find?_eq_none.mp hx u hu
      simpa using this
    rw [this]
theorem drop_key {es : List En} {d n : Int} : ∀ u ∈ dropE es d n, (u.d, u.n) ≠ (d, n) := fun u hu e => by
  have := (List.mem_filter.mp hu).2
  rw [isE_iff.mpr ⟨congrArg Prod.fst e, congrArg Prod.snd e⟩] at this
  cases this
theorem keyN_drop {es : List En} {t : En} (hn : keyN es) : keyN (dropE es t.d t.n ++ [t]) := by
  unfold keyN keysE at *
  rw [List.map_append, List.nodup_append]
  refine ⟨?_, by simp, fun a ha b hb => ?_⟩
  · exact hn.sublist ((List.filter_sublist (l := es)).map _)
  · obtain ⟨u, hu, rfl⟩ := List.mem_map.mp ha
    simp only [List.map_cons, List.map_nil, List.mem_singleton] at hb
    rw [hb]
    exact drop_key u hu
theorem keyN_perm {es l : List En} (h : l.Perm es) (hn : keyN es) : keyN l := (h.map _).nodup_iff.mpr hn
theorem keyN_put {es : List En} {t : En} (hn : keyN es) : keyN (putE es t) := keyN_perm (put_perm hn) (keyN_drop hn)

/-! ### _law_refused, _law_lists, _law_changed -/
/-! ### try .. except X: without a name -/
section
open PySem.Spec PyProof.Rows
theorem ps_tryVO {X : Cx} {x : Str} {c : Value} {body suite : List Stmt} {b0 : Stmt} {np pos pos' : Pos} {Wout : WX} {tb : WX → List (Addr × Obj) → (Value → Shared → Prop) → TS} {ts : Addr → Obj → Value → Option Addr → List (Addr × Obj) → TS}
    (hs : X.stack = X.env :: X.outer) (hf : X.env.frame = some X.env.locals) (hc : Names X x c) (tk : Takes X Wout)
    (hb : ∀ (W : WX) (pn : List (Addr × Obj)) (xe : Value → Shared → Prop), Takes (X.tr pn xe) W → PassesOwn (model X.prog X.w) X.A X.env xe → PSs (X.tr pn xe) body (tb W pn xe))
    (hsu : ∀ (a : Addr) (oe : Obj) (cls : Value) (d : Option Addr) (pn : List (Addr × Obj)), Zc cls d oe → (∃ vs, oe.data = .fields vs) → PSs (X.suite a ((a, oe) :: pn)) (b0 :: suite) (ts a oe cls d pn))
    (e1 : ∀ W pn xe, tb W pn xe = tb W [] (fun _ _ => False)) (e2 : ∀ a oe cls d pn, ts a oe cls d pn = ts a oe0 cls d []) :
    PS X (.Try body [.ExceptHandler (some (.Name x np)) none (b0 :: suite) pos'] [] [] pos) (fun D σ H => tb (wOnly X.K c (fun a cls d => ts a oe0 cls d []) Wout D) [] (fun _ _ => False) D σ H) :=
  ps_try_only (tb := fun W => tb W [] (fun _ _ => False)) (ts := fun a cls d => ts a oe0 cls d []) hs hf hc tk (fun W pn xe k po => by rw [← e1 W pn xe]; exact hb W pn xe k po)
    (fun a oe cls d pn z f => by rw [← e2 a oe cls d pn]; exact hsu a oe cls d pn z f)
end

structure G34 (es : List En) (n : Nat) : Prop where
  kn : keyN es
  ok : ∀ u ∈ es, EnOk u
  rg : ∀ u ∈ es, 0 ≤ u.d ∧ 0 ≤ u.n ∧ u.d ≤ 1000 ∧ u.n ≤ 1000
  le : es.length ≤ n
theorem G34.hap {es : List En} {n : Nat} (h : G34 es n) : HAp (kvE es) := hap_kvE h.kn ⟨fun u hu => by
  have := h.rg u hu
  exact ⟨this.1, Int.lt_of_le_of_lt this.2.2.1 (by decide)⟩, fun u hu => by
  have := h.rg u hu
  exact ⟨this.2.1, by omega⟩, fun u hu v hv => by
  have a := h.rg u hu
  have b := h.rg v hv
  omega⟩
def KX2 (g dd : Addr) (H H' : Hp) : Prop := ∀ c o, H c = some o → c ≠ g → c ≠ dd → H' c = some o
theorem KX2.refl {g dd : Addr} {H : Hp} : KX2 g dd H H := fun _ _ e _ _ => e
theorem KX2.trans {g dd : Addr} {H H1 H2 : Hp} (a : KX2 g dd H H1) (b : KX2 g dd H1 H2) : KX2 g dd H H2 := fun c o e n m => b c o (a c o e n m) n m
theorem KX2.kp {g dd : Addr} {H H' : Hp} (k : Kp g H H') : KX2 g dd H H' := fun c o e n _ => k c o e n
theorem KX2.same {g dd : Addr} {H H' : Hp} (k : Same H H') : KX2 g dd H H' := fun c o e _ _ => k c o e
theorem KX2.put {g dd : Addr} {H H' : Hp} {o : HO} (k : Same H H') : KX2 g dd H (upd H' dd o) := fun c o e _ n => by rw [upd_ne n]; exact k _ _ e
def spRefused34 (A : Ad) : Sp := fun vs H Q _ => ∃ (b dd : Addr) (es : List En), vs = [.ref b] ∧ BookAt A.Book H b dd es ∧ es.length < 900 ∧ ∀ H', Same H H' → Q (.bl true) H'
section
variable {P : Program} {w : World} {K : PySem.W.Frag} {mg : Str → Option Value} {base : Heap} {A : Ad}
theorem ok_l_refused (T : Txt K mg A) : FnOk P w K mg base CX0 9 A.l_refused A.fd_l_refused P_l_refused (spRefused34 A) := by
  refine T.F_l_refused.ok sc_l_refused (fun vs H Q E h => ?_) (fun cdv Ar outer s H vs Q E hr h => ?_)
  · obtain ⟨b, dd, es, rfl, _⟩ := h
    rfl
  · obtain ⟨b, dd, es, rfl, hB, el, k⟩ := h
    refine ⟨_, (pss_cons (ps_tryVO rfl rfl ⟨by rfl, by decide, .inl T.g_BadEntry⟩ takes0 (fun W pn xe tk _ => (pss_one (ps_ownSet (own_set T) T.nsq_Book (ok_m_Book_setitem T) (hr.mono (by decide)) T.b_m_Book_setitem (fun σ => passAt tk σ) (pv 0) (pe_tup (pa_cons pe_int (pa_cons pe_int pa_nil))) (pe_tup (pa_cons pe_str (pa_cons pe_str (pa_cons pe_int pa_nil)))) rfl))) (fun a oe cls d pn hz hf => (pss_one (ps_ret pe_bl))) (fun _ _ _ => rfl) (fun _ _ _ _ _ => rfl))
      (pss_one (ps_ret pe_bl))), ?_⟩
    obtain ⟨⟨dxb, hb⟩, hd⟩ := id hB
    refine ⟨(by show 3 ≤ sizeLine; decide), fun e he => ⟨_, rfl, (by show 2 ≤ sizeLine; decide), fun t ht => ?_⟩⟩
    have s1 := Same.new (o := .tup [V.str "buy", .str "trial", .int 0]) he
    have he1 := upd_same (H := H) (a := e) (o := .tup [V.str "buy", .str "trial", .int 0])
    generalize upd H e (.tup [V.str "buy", .str "trial", .int 0]) = H1 at *
    have s2 := Same.new (o := .tup [V.int 3, .int 3]) ht
    have ht2 := upd_same (H := H1) (a := t) (o := .tup [V.int 3, .int 3])
    have s12 := s1.trans s2
    have he2 := s2 _ _ he1
    generalize upd H1 t (.tup [V.int 3, .int 3]) = H2 at *
    refine ⟨b, dxb, _, rfl, s12 _ _ hb, b, dd, t, es, .int 3, .int 3, .ref e, false, rfl, hB.same s12, by omega, ht2, .inl (.int _), .inl (.int _), .inl ⟨.str "buy", .str "trial", .int 0, ⟨e, rfl, he2, .str _, .str _, .int _, (fun z q => by rw [← V.str.inj q]; decide +kernel), fun z q => by cases q⟩, by decide +kernel⟩, (fun d' n' e1 e2 z => by cases z), fun _ x H3 s3 hx => ?_⟩
    exact ⟨true, PySem.W.exm_ref T.eb_BadEntry T.eh_BadEntry T.et_BadEntry T.es_BadEntry, fun _ a ha => k _ (s12.trans s3), fun z => nomatch z⟩
end
/-! ### making data of parts -/
theorem DL.up {K : PySem.W.Frag} {H : Hp} {v : V} {d : PyData} {k m : Nat} (h : DL K H v d k) (le : k ≤ m) : DL K H v d m := ⟨h.dp, h.pl, Nat.le_trans h.de le⟩
theorem dlm_int {K : PySem.W.Frag} {H : Hp} {i : Int} {k : Nat} : DL K H (.int i) (.int i) k := ⟨.int i, rfl, Nat.zero_le _⟩
theorem dlm_str {K : PySem.W.Frag} {H : Hp} {z : Str} {k : Nat} : DL K H (.str z) (.str z) k := ⟨.str z, rfl, Nat.zero_le _⟩
theorem dlm_non {K : PySem.W.Frag} {H : Hp} {k : Nat} : DL K H .non .none k := ⟨.non, rfl, Nat.zero_le _⟩
theorem dlm_bl {K : PySem.W.Frag} {H : Hp} {b : Bool} {k : Nat} : DL K H (.bl b) (.bool b) k := ⟨.bl b, rfl, Nat.zero_le _⟩
theorem dlm_two {K : PySem.W.Frag} {H : Hp} {p : Addr} {a b : V} {da db : PyData} {k : Nat} (h : H p = some (.tup [a, b])) (ha : DL K H a da k) (hb : DL K H b db k) : DL K H (.ref p) (.tuple [da, db]) (k + 1) := by
  refine ⟨.tup (SqT.of h) (.cons ha.dp (.cons hb.dp .nil)), by unfold PyData.plain PyData.plainAll PyData.plainAll PyData.plainAll; rw [ha.pl, hb.pl]; rfl, ?_⟩
  unfold PyData.depth
  refine Nat.succ_le_succ (depthAll_le fun x hx => ?_)
  simp only [List.mem_cons, List.not_mem_nil, or_false] at hx
  rcases hx with rfl | rfl
  · exact ha.de
  · exact hb.de
theorem dlm_three {K : PySem.W.Frag} {H : Hp} {p : Addr} {a b c : V} {da db dc : PyData} {k : Nat} (h : H p = some (.tup [a, b, c])) (ha : DL K H a da k) (hb : DL K H b db k) (hc : DL K H c dc k) : DL K H (.ref p) (.tuple [da, db, dc]) (k + 1) := by
  refine ⟨.tup (SqT.of h) (.cons ha.dp (.cons hb.dp (.cons hc.dp .nil))), by unfold PyData.plain PyData.plainAll PyData.plainAll PyData.plainAll PyData.plainAll; rw [ha.pl, hb.pl, hc.pl]; rfl, ?_⟩
  unfold PyData.depth
  refine Nat.succ_le_succ (depthAll_le fun x hx => ?_)
  simp only [List.mem_cons, List.not_mem_nil, or_false] at hx
  rcases hx with rfl | rfl | rfl
  · exact ha.de
  · exact hb.de
  · exact hc.de
theorem dlm_all {K : PySem.W.Frag} {H : Hp} {k : Nat} : ∀ {vs : List V} {ds : List PyData}, All2 (fun v d => DL K H v d k) vs ds → DpAll K H vs ds
  | [], [], _ => .nil
  | [], _ :: _, h => by cases h.1
  | _ :: _, [], h => by cases h.1
  | v :: vs, d :: ds, h => .cons (h.2 0 v d rfl rfl).dp (dlm_all ⟨by have := h.1; simpa using this, fun i x y hx hy => h.2 (i + 1) x y hx hy⟩)
theorem all2_get2 {α β : Type} {R : α → β → Prop} {xs : List α} {ys : List β} (h : All2 R xs ys) {y : β} (hy : y ∈ ys) : ∃ x, R x y := by
  obtain ⟨i, hi⟩ := List.mem_iff_getElem?.mp hy
  have hil := (List.getElem?_eq_some_iff.mp hi).1
  rw [← h.1] at hil
  exact ⟨_, h.2 i _ _ (List.getElem?_eq_getElem hil) hi⟩
theorem dlm_lst {K : PySem.W.Frag} {H : Hp} {p : Addr} {vs : List V} {ds : List PyData} {k : Nat} (h : H p = some (.lst vs)) (h2 : All2 (fun v d => DL K H v d k) vs ds) : DL K H (.ref p) (.list ds) (k + 1) :=
  ⟨.lst (SqL.of h) (dlm_all h2), by unfold PyData.plain; exact plainAll_of fun x hx => let ⟨_, z⟩ := all2_get2 h2 hx; z.pl, depth_list fun x hx => let ⟨_, z⟩ := all2_get2 h2 hx; z.de⟩

def namesD (es : List En) (kd : Str) : PyData := .list ((namedE es kd (srtK es) []).map PyData.str)
def lstsD (es : List En) : PyData := .tuple [.list [namesD es "buy", namesD es "sell", namesD es "late"], .int (es.length : Nat), .list ((srtE es).map itemD)]
theorem dl_names {K : PySem.W.Frag} {H : Hp} {p : Addr} {ns : List Str} (h : H p = some (.lst (ns.map V.str))) : DL K H (.ref p) (.list (ns.map PyData.str)) 1 :=
  dlm_lst (k := 0) h ⟨by rw [List.length_map, List.length_map], fun i v d hv hd => by
    rw [List.getElem?_map] at hv hd
    obtain ⟨x, hx, rfl⟩ := Option.map_eq_some_iff.mp hv
    obtain ⟨y, hy, rfl⟩ := Option.map_eq_some_iff.mp hd
    rw [hx] at hy
    cases hy
    exact dlm_str⟩
/-- what was made since H, and all tuples, still stand -/
def Stays (H H' H2 : Hp) : Prop := ∀ c o, H' c = some o → (H c = none ∨ ∃ xs, o = .tup xs) → (∀ ps, o ≠ .tbl ps) → H2 c = some o
theorem Stays.same {H H' H2 : Hp} (s : Same H' H2) : Stays H H' H2 := fun _ _ e _ _ => s _ _ e
def spLists34 (A : Ad) (K : PySem.W.Frag) : Sp := fun vs H Q _ => ∃ (b dd : Addr) (es : List En), vs = [.ref b] ∧ BookAt A.Book H b dd es ∧ EntsAt H es ∧ keyN es ∧ es.length < 900 ∧ (∀ u ∈ es, Pl u.x) ∧ ∀ v H', Same H H' → (∀ H2, Stays H H' H2 → DL K H2 v (lstsD es) 5) → Q v H'
section
variable {P : Program} {w : World} {K : PySem.W.Frag} {mg : Str → Option Value} {base : Heap} {A : Ad}
theorem ok_l_lists (T : Txt K mg A) : FnOk P w K mg base CX0 10 A.l_lists A.fd_l_lists P_l_lists (spLists34 A K) := by
  refine T.F_l_lists.ok sc_l_lists (fun vs H Q E h => ?_) (fun cdv Ar outer s H vs Q E hr h => ?_)
  · obtain ⟨b, dd, es, rfl, _⟩ := h
    rfl
  · obtain ⟨b, dd, es, rfl, hB, hE, kn, el, pl, k⟩ := h
    refine ⟨_, (pss_cons (ps_set (i := 1) sc_l_lists.nd rfl (Or.inl rfl) (pe_lst (pa_cons (pe_meth0 (pv 0) T.cl_Book T.m_Book_lots (ok_m_Book_lots T) (hr.mono (by decide)) T.b_m_Book_lots .nil pass0) (pa_cons (pe_meth0 (pv 0) T.cl_Book T.m_Book_sales (ok_m_Book_sales T) (hr.mono (by decide)) T.b_m_Book_sales .nil pass0) (pa_cons (pe_meth0 (pv 0) T.cl_Book T.m_Book_late_costs (ok_m_Book_late_costs T) (hr.mono (by decide)) T.b_m_Book_late_costs .nil pass0) pa_nil)))))
      (pss_one (ps_ret (pe_tup (pa_cons (pv 1) (pa_cons (pe_callB ((call_ownLen ⟨T.m_Book___len__.at_, T.m_Book___len__.fn⟩ (ok_m_Book_len T) (hr.mono (by decide)) T.b_m_Book_len pass0)) (by rfl) T.z_len (by decide +kernel) (pa_cons (pv 0) pa_nil)) (pa_cons (pe_call (ok_l_kept T) (hr.mono (by decide)) (by rfl) T.g__law_kept T.F_l_kept.kp T.b_l_kept .nil pass0 (pa_cons (pv 0) pa_nil)) pa_nil))))))), ?_⟩
    obtain ⟨⟨dxb, hb⟩, hd⟩ := id hB
    refine ⟨_, rfl, b, dxb, _, rfl, hb, rfl, b, dd, es, rfl, hB, hE, by omega, fun p1 H1 s1 np1 h1 => ?_⟩
    have B1 := hB.same s1
    have E1 : EntsAt H1 es := fun v hv => s1 _ _ (hE v hv)
    refine ⟨_, rfl, b, dxb, _, rfl, s1 _ _ hb, rfl, b, dd, es, rfl, B1, E1, by omega, fun p2 H2 s2 np2 h2 => ?_⟩
    have B2 := B1.same s2
    have E2 : EntsAt H2 es := fun v hv => s2 _ _ (E1 v hv)
    have hb2 := s2 _ _ (s1 _ _ hb)
    refine ⟨_, rfl, b, dxb, _, rfl, hb2, rfl, b, dd, es, rfl, B2, E2, by omega, fun p3 H3 s3 np3 h3 => ⟨(by show 3 ≤ sizeLine; decide), fun q hq => ?_⟩⟩
    have s4 := Same.new (o := .lst [V.ref p1, .ref p2, .ref p3]) hq
    have hq4 := upd_same (H := H3) (a := q) (o := .lst [V.ref p1, .ref p2, .ref p3])
    have hqH : H q = none := Same.none (s1.trans (s2.trans s3)) hq
    have h34 := s4 _ _ h3
    have h24 := s4 _ _ (s3 _ _ h2)
    have h14 := s4 _ _ (s3 _ _ (s2 _ _ h1))
    have s04 := s1.trans (s2.trans (s3.trans s4))
    generalize upd H3 q (.lst [V.ref p1, .ref p2, .ref p3]) = H4 at *
    dsimp only [gName, List.set]
    refine ⟨_, rfl, _, rfl, b, dxb, _, rfl, s04 _ _ hb, b, dd, es, rfl, hB.same s04, ⟨_, rfl, by omega, by omega, ?_⟩⟩
    refine ⟨_, rfl, b, dd, es, rfl, hB.same s04, kn, by omega, fun pk us H5 s5 npk K5 e5 => ⟨(by show 3 ≤ sizeLine; decide), fun t ht => ?_⟩⟩
    have s6 := Same.new (o := .tup [V.ref q, .int (es.length : Nat), .ref pk]) ht
    have s56 := s5.trans s6
    have s06 := s04.trans s56
    have pm : (srtE es).Perm es := srtE_perm es
    refine k _ _ s06 fun H2' st => ?_
    have kl : ∀ {c : Addr} {xs : List V}, (upd H5 t (.tup [V.ref q, .int (es.length : Nat), .ref pk])) c = some (.lst xs) → H c = none → H2' c = some (.lst xs) := fun e n => st _ _ e (.inl n) (by intro ps z; cases z)
    have kt : ∀ {c : Addr} {xs : List V}, (upd H5 t (.tup [V.ref q, .int (es.length : Nat), .ref pk])) c = some (.tup xs) → H2' c = some (.tup xs) := fun e => st _ _ e (.inr ⟨_, rfl⟩) (by intro ps z; cases z)
    have one : All2 (fun v d => DL K H2' v d 1) [V.ref p1, .ref p2, .ref p3] [namesD es "buy", namesD es "sell", namesD es "late"] :=
      .cons (dl_names (kl (s56 _ _ h14) np1)) (.cons (dl_names (kl (s56 _ _ h24) (Same.none s1 np2))) (.one (dl_names (kl (s56 _ _ h34) (Same.none (s1.trans s2) np3)))))
    have kd : KeptAt H2' pk us := ⟨kl (s6 _ _ K5.1) (Same.none s04 npk), fun u hu => ⟨kt (s6 _ _ (K5.2 u hu).1), kt (s6 _ _ (K5.2 u hu).2)⟩⟩
    have dk := dl_kept (K := K) kd (fun v hv => kt (s06 _ _ (hE v (by rw [e5] at hv; exact pm.mem_iff.mp hv)))) fun u hu => pl u.2.2 (by
      have : u.2.2 ∈ us.map fun u => u.2.2 := List.mem_map.mpr ⟨u, hu, rfl⟩
      rw [e5] at this
      exact pm.mem_iff.mp this)
    rw [e5] at dk
    exact (dlm_three (kt upd_same) ((dlm_lst (k := 1) (kl (s56 _ _ hq4) hqH) one).up (by decide : 2 ≤ 3)) dlm_int dk).up (by decide)
end

/-! ### _law_changed -/
theorem putE_len34 {es : List En} {t : En} : (putE es t).length ≤ es.length + 1 := by
  unfold putE
  split
  · rw [List.length_map]
    omega
  · rw [List.length_append]
    exact Nat.le_refl _
def spChanged34 (A : Ad) : Sp := fun vs H Q _ => ∃ (g l b dd : Addr) (es : List En) (n : Nat), vs = [.ref g, .ref b] ∧ Bag H g l ∧ BookAt A.Book H b dd es ∧ EntsAt H es ∧ G34 es n ∧ n ≤ 200 ∧
  ∀ (es' : List En) (H' : Hp), KX2 g dd H H' → Bag H' g l → BookAt A.Book H' b dd es' → EntsAt H' es' → G34 es' (n + 3) → Q .non H'
theorem G34.drop {es : List En} {n : Nat} (h : G34 es n) (d m : Int) : G34 (dropE es d m) n :=
  ⟨List.Nodup.sublist (List.Sublist.map _ List.filter_sublist) h.kn, fun u hu => h.ok u (List.mem_filter.mp hu).1, fun u hu => h.rg u (List.mem_filter.mp hu).1, Nat.le_trans (List.length_filter_le _ _) h.le⟩
theorem G34.put {es : List En} {n : Nat} {t : En} (h : G34 es n) (ok : EnOk t) (rg : 0 ≤ t.d ∧ 0 ≤ t.n ∧ t.d ≤ 1000 ∧ t.n ≤ 1000) : G34 (putE es t) (n + 1) := by
  refine ⟨keyN_put h.kn, fun u hu => ?_, fun u hu => ?_, ?_⟩
  · rcases mem_putE hu with rfl | hu
    · exact ok
    · exact h.ok u hu
  · rcases mem_putE hu with rfl | hu
    · exact rg
    · exact h.rg u hu
  · have := putE_len34 (es := es) (t := t)
    have := h.le
    omega
theorem srtK_len34 {es : List En} : (srtK es).length = es.length := by
  unfold srtK keysE
  rw [List.length_mergeSort, List.length_map]
theorem BookAt.kpb {C : Addr} {H H' : Hp} {g l b dd : Addr} {es : List En} (h : BookAt C H b dd es) (B : Bag H g l) (k : Kp g H H') : BookAt C H' b dd es := by
  obtain ⟨xs, hg⟩ := B.lst
  obtain ⟨⟨dx, h1⟩, h2⟩ := h
  exact ⟨⟨dx, k _ _ h1 (ne_of h1 hg (by intro z; cases z))⟩, k _ _ h2 (ne_of h2 hg (by intro z; cases z))⟩
theorem tup_kpb {H H' : Hp} {g l c : Addr} {xs : List V} (B : Bag H g l) (k : Kp g H H') (h : H c = some (.tup xs)) : H' c = some (.tup xs) := by
  obtain ⟨ys, hg⟩ := B.lst
  exact k _ _ h (ne_of h hg (by intro z; cases z))
/-- the book's dict is changed in place -/
theorem BookAt.dput {C : Addr} {H : Hp} {g l b dd : Addr} {es es' : List En} (h : BookAt C H b dd es) (B : Bag H g l) : BookAt C (upd H dd (.dT (kvE es'))) b dd es' ∧ Bag (upd H dd (.dT (kvE es'))) g l ∧ ∀ c xs, H c = some (.tup xs) → (upd H dd (.dT (kvE es'))) c = some (.tup xs) := by
  obtain ⟨⟨dx, h1⟩, h2⟩ := h
  obtain ⟨_, _, _, _, _, hg, hl, _⟩ := id B.ex
  refine ⟨⟨⟨dx, by rw [upd_ne (ne_of h1 h2 (by intro z; cases z))]; exact h1⟩, upd_same⟩, B.put ⟨ne_of h2 hg (by intro z; cases z), ne_of h2 hl (by intro z; cases z)⟩, fun c xs e => by rw [upd_ne (ne_of e h2 (by intro z; cases z))]; exact e⟩
section
variable {P : Program} {w : World} {K : PySem.W.Frag} {mg : Str → Option Value} {base : Heap} {A : Ad}
theorem ok_l_changed (T : Txt K mg A) : FnOk P w K mg base CX0 6 A.l_changed A.fd_l_changed P_l_changed (spChanged34 A) := by
  refine T.F_l_changed.ok sc_l_changed (fun vs H Q E h => ?_) (fun cdv Ar outer s H vs Q E hr h => ?_)
  · obtain ⟨g, l, b, dd, es, n, rfl, _⟩ := h
    rfl
  · obtain ⟨g, l, b, dd, es, n, rfl, B, hB, hE, G, nl, k⟩ := h
    refine ⟨_, (pss_one (ps_g (ps_for PassesOwn.never rfl (pi_range1 rfl T.z_range (pa_cons (pe_op op_add pe_int (pe_call (ok_l_draw T) (hr.mono (by decide)) (by rfl) T.g__law_draw T.F_l_draw.kp T.b_l_draw .nil pass0 (pa_cons (pv 0) (pa_cons pe_int pa_nil)))) pa_nil)) (pg_name (i := 2) sc_l_changed.nd rfl (Or.inl rfl)) (pss_cons (ps_set (i := 3) sc_l_changed.nd rfl (Or.inl rfl) (pe_meth0 (pv 1) T.cl_Book T.m_Book_places (ok_m_Book_places T) (hr.mono (by decide)) T.b_m_Book_places .nil pass0))
      (pss_one (ps_if (PW.pt (pw_and (pt_cmpR (op_neNil hr.units) (pv 3) (pe_lst pa_nil) (nomark _)) (pw_and1 (pt_cmpR op_eq (pe_call (ok_l_draw T) (hr.mono (by decide)) (by rfl) T.g__law_draw T.F_l_draw.kp T.b_l_draw .nil pass0 (pa_cons (pv 0) (pa_cons pe_int pa_nil))) pe_int (nomark _))))) (pss_cons (ps_set (i := 4) sc_l_changed.nd rfl (Or.inl rfl) (pe_call (ok_l_pick T) (hr.mono (by decide)) (by rfl) T.g__law_pick T.F_l_pick.kp T.b_l_pick .nil pass0 (pa_cons (pv 0) (pa_cons (pv 3) pa_nil))))
      (pss_one (ps_expr (pe_meth (pv 1) T.cl_Book T.m_Book_remove (ok_m_Book_remove T) (hr.mono (by decide)) T.b_m_Book_remove .nil passL (pa_cons (pe_ix ix_tup (pv 4) pe_int (fun _ _ => rfl)) (pa_cons (pe_ix ix_tup (pv 4) pe_int (fun _ _ => rfl)) pa_nil)))))) (pss_one (ps_ownSet (E := fun _ => E0) (own_set T) T.nsq_Book (ok_m_Book_setitem T) (hr.mono (by decide)) T.b_m_Book_setitem (passAll passL) (pv 1) (pe_tup (pa_cons (pe_call (ok_l_draw T) (hr.mono (by decide)) (by rfl) T.g__law_draw T.F_l_draw.kp T.b_l_draw .nil pass0 (pa_cons (pv 0) (pa_cons pe_int pa_nil))) (pa_cons (pe_call (ok_l_draw T) (hr.mono (by decide)) (by rfl) T.g__law_draw T.F_l_draw.kp T.b_l_draw .nil pass0 (pa_cons (pv 0) (pa_cons pe_int pa_nil))) pa_nil))) (pe_tup (pa_cons pe_str (pa_cons pe_str (pa_cons (pe_op op_add pe_int (pe_call (ok_l_draw T) (hr.mono (by decide)) (by rfl) T.g__law_draw T.F_l_draw.kp T.b_l_draw .nil pass0 (pa_cons (pv 0) (pa_cons pe_int pa_nil)))) pa_nil)))) rfl)))))))), ?_⟩
    refine ⟨⟨_, rfl, g, l, 3, rfl, B, by decide, by decide, fun cn H1 c0 c1 B1 K1 => ⟨_, _, rfl, rfl, _, rfl, by omega, by omega, for_range (lo := 0) (n := (1 + cn).toNat) (fun i σ' H' => Wd (∃ (o2 o3 o4 : Option V) (es' : List En), σ' = [some (.ref g), some (.ref b), o2, o3, o4] ∧ KX2 g dd H H' ∧ Bag H' g l ∧ BookAt A.Book H' b dd es' ∧ EntsAt H' es' ∧ G34 es' (n + i))) ⟨none, none, none, es, rfl, KX2.kp K1, B1, ?_, ?_, G⟩ ?_ ?_⟩⟩⟩
    · exact hB.kpb B K1
    · exact fun v hv => tup_kpb B K1 (hE v hv)
    · rintro i σ' H2 hi ⟨o2, o3, o4, es', rfl, k2, B2, hB2, hE2, G2⟩
      obtain ⟨⟨dxb, hb⟩, hd⟩ := id hB2
      have el := G2.le
      dsimp only [gName, List.set, tSeq]
      refine ⟨_, rfl, b, dxb, _, rfl, hb, rfl, b, dd, es', rfl, hB2, fun bs q hq hbs => ?_⟩
      have s3 := Same.new (o := .lst (bs.map V.ref)) hq
      have hq3 := upd_same (H := H2) (a := q) (o := .lst (bs.map V.ref))
      have hbs3 : All2 (fun (z : Addr) (p : Int × Int) => (upd H2 q (.lst (bs.map V.ref))) z = some (.tup [.int p.1, .int p.2])) bs (srtK es') := hbs.mono fun _ _ z => s3 _ _ z
      have B3 := B2.keep s3
      have hB3 := hB2.same s3
      have hE3 : EntsAt (upd H2 q (.lst (bs.map V.ref))) es' := fun v hv => s3 _ _ (hE2 v hv)
      have k3 := k2.trans (KX2.same s3)
      have nqg := (B2.ne hq).1
      have bl : bs.length = es'.length := by rw [hbs.1, srtK_len34]
      generalize upd H2 q (.lst (bs.map V.ref)) = H3 at *
      dsimp only [gName, List.set, tSeq]
      refine ⟨_, rfl, Nat.zero_le _, fun e1 he1 => ⟨q, e1, _, rfl, rfl, SqL.of ((Same.new he1) _ _ hq3), SqL.of upd_same, ?_⟩⟩
      have s4 := Same.new (o := .lst []) he1
      have hq4 := s4 _ _ hq3
      have hbs4 : All2 (fun (z : Addr) (p : Int × Int) => (upd H3 e1 (.lst [])) z = some (.tup [.int p.1, .int p.2])) bs (srtK es') := hbs3.mono fun _ _ z => s4 _ _ z
      have B4 := B3.keep s4
      have hB4 := hB3.same s4
      have hE4 : EntsAt (upd H3 e1 (.lst [])) es' := fun v hv => s4 _ _ (hE3 v hv)
      have k4 := k3.trans (KX2.same s4)
      generalize upd H3 e1 (.lst []) = H4 at *
      by_cases eb : bs = []
      · subst eb
        refine ⟨_, rfl, iteF ?_⟩
        have BX := B4
        have hBX := hB4
        have hEX := hE4
        have kX := k4
        have fX := BX
        refine ⟨_, rfl, g, l, 9, rfl, BX, by decide, by decide, fun c9 H6 c90 c91 B6 K6 => ⟨_, _, rfl, rfl, (by show 3 ≤ sizeLine; decide), fun e he => ?_⟩⟩
        have hB6 := hBX.kpb BX K6
        have hE6 : EntsAt H6 es' := fun v hv => tup_kpb BX K6 (hEX v hv)
        have k6 := kX.trans (KX2.kp K6)
        have s7 := Same.new (o := .tup [V.str "buy", .str "trial", .int (1 + c9)]) he
        have he7 := upd_same (H := H6) (a := e) (o := .tup [V.str "buy", .str "trial", .int (1 + c9)])
        have B7 := B6.keep s7
        have hB7 := hB6.same s7
        have hE7 : EntsAt (upd H6 e (.tup [V.str "buy", .str "trial", .int (1 + c9)])) es' := fun v hv => s7 _ _ (hE6 v hv)
        have k7 := k6.trans (KX2.same s7)
        dsimp only
        generalize upd H6 e (.tup [V.str "buy", .str "trial", .int (1 + c9)]) = H7 at *
        refine ⟨_, rfl, _, rfl, g, l, 4, rfl, B7, by decide, by decide, fun d1 H8 d10 d11 B8 K8 => ⟨_, rfl, g, l, 4, rfl, B8, by decide, by decide, fun n1 H9 n10 n11 B9 K9 => ⟨(by show 2 ≤ sizeLine; decide), fun t ht => ?_⟩⟩⟩
        have K89 := K8.trans K9
        have s10 := Same.new (o := .tup [V.int d1, .int n1]) ht
        have ht10 := upd_same (H := H9) (a := t) (o := .tup [V.int d1, .int n1])
        have B10 := B9.keep s10
        have hB10 := (hB7.kpb B7 K89).same s10
        have hE10 : EntsAt (upd H9 t (.tup [V.int d1, .int n1])) es' := fun v hv => s10 _ _ (tup_kpb B7 K89 (hE7 v hv))
        have he10 := s10 _ _ (tup_kpb B7 K89 he7)
        have k10 := k7.trans ((KX2.kp K89).trans (KX2.same s10))
        generalize upd H9 t (.tup [V.int d1, .int n1]) = H10 at *
        obtain ⟨⟨dxc, hbc⟩, _⟩ := id hB10
        obtain ⟨u, hu⟩ : ∃ u : En, u = ⟨d1, n1, e, "buy", "trial", .int (1 + c9)⟩ := ⟨_, rfl⟩
        have uok : EnOk u := by
          rw [hu]
          exact ⟨ent_units buy_yes (by show nameV (.str ("trial" : Str)) = true; decide +kernel) (by omega) (by omega), .int _, (fun z q => by rw [← V.str.inj q]; show ("trial" : Str).length ≤ 1000; decide +kernel), fun z q => by cases q⟩
        refine ⟨b, dxc, _, rfl, hbc, b, dd, t, es', .int d1, .int n1, .ref e, true, rfl, hB10, by omega, ht10, .inl (.int _), .inl (.int _), .inl ⟨.str "buy", .str "trial", .int (1 + c9), ⟨e, rfl, he10, .str _, .str _, .int _, (fun z q => by rw [← V.str.inj q]; decide +kernel), fun z q => by cases q⟩, by have := uok.1; rw [hu] at this; exact this.symm⟩, (fun d' n' e1 e2 _ Hg sg => ?_), fun z => ?_⟩
        case refine_2 =>
          have : (numV 0 (.int d1) && (numV 0 (.int n1) && true)) = true := by
            show ((decide (0 ≤ d1) && decide (d1 ≤ 1000000)) && ((decide (0 ≤ n1) && decide (n1 ≤ 1000000)) && true)) = true
            rw [decide_eq_true d10, decide_eq_true (show d1 ≤ 1000000 by omega), decide_eq_true n10, decide_eq_true (show n1 ≤ 1000000 by omega)]
            rfl
          rw [this] at z
          cases z
        obtain rfl := V.int.inj e1
        obtain rfl := V.int.inj e2
        have eP : putK (kvE es') (keyE d1 n1) (.ref e) = kvE (putE es' u) := by
          have := put_kvE (es := es') (t := u)
          rw [hu] at this ⊢
          exact this
        rw [eP]
        have he11 : H10 u.e = some (.tup [.str u.kd, .str u.nm, u.x]) := by rw [hu]; exact he10
        obtain ⟨q1, q2, q3⟩ := (hB10.same sg).dput (es' := putE es' u) (B10.keep sg)
        refine ⟨_, _, _, putE es' u, rfl, (k10.trans (KX2.same sg)).trans (KX2.put (Same.refl _)), q2, q1, fun v hv => ?_, G2.put uok (by rw [hu]; exact ⟨d10, n10, by show d1 ≤ 1000; omega, by show n1 ≤ 1000; omega⟩)⟩
        rcases mem_putE hv with ev | hv
        · rw [ev]
          exact q3 _ _ (sg _ _ he11)
        · exact q3 _ _ (sg _ _ (hE10 v hv))
      refine ⟨_, rfl, ?_⟩
      rw [show (!(bs.map V.ref).isEmpty) = true from by cases bs with | nil => exact (eb rfl).elim | cons _ _ => rfl]
      refine iteT ⟨_, rfl, g, l, 2, rfl, B4, by decide, by decide, fun c2 H5 c20 c21 B5 K5 => ⟨rfl, _, rfl, if_int (fun e0 => ?_) (fun e0 => ?_)⟩⟩
      · have b1 : 1 ≤ bs.length := List.length_pos_iff.mpr eb
        have hB5 := hB4.kpb B4 K5
        have hE5 : EntsAt H5 es' := fun v hv => tup_kpb B4 K5 (hE4 v hv)
        have k5 := k4.trans (KX2.kp K5)
        have hq5 := K5 _ _ hq4 nqg
        refine ⟨_, rfl, _, rfl, g, l, q, bs.map V.ref, rfl, B5, nqg, hq5, by rw [List.length_map]; omega, by rw [List.length_map]; omega, fun v H6 hv B6 K6 => ?_⟩
        obtain ⟨t, htm, rfl⟩ := List.mem_map.mp hv
        obtain ⟨j, hj⟩ := List.mem_iff_getElem?.mp htm
        obtain ⟨z, hz, htz⟩ := hbs4.get hj
        obtain ⟨u, hu, rfl⟩ := mem_srtK.mp (List.mem_of_getElem? hz)
        have K46 := K5.trans K6
        have ht6 := tup_kpb B4 K46 htz
        have hB6 := hB4.kpb B4 K46
        have hE6 : EntsAt H6 es' := fun v hv => tup_kpb B4 K46 (hE4 v hv)
        have k6 := k4.trans (KX2.kp K46)
        obtain ⟨⟨dx6, hb6⟩, _⟩ := id hB6
        obtain ⟨w, hw⟩ := atE_mem hu
        dsimp only [gName, List.set]
        refine ⟨_, rfl, b, dx6, _, rfl, hb6, rfl, _, rfl, t, _, _, _, rfl, rfl, SqT.of ht6, rfl, _, rfl, t, _, _, _, rfl, rfl, SqT.of ht6, rfl, b, dd, es', u.d, u.n, rfl, hB6, (fun _ Hg sg => ?_), fun z => (by rw [hw] at z; cases z)⟩
        obtain ⟨q1, q2, q3⟩ := (hB6.same sg).dput (es' := dropE es' u.d u.n) (B6.keep sg)
        have G3 := G2.drop u.d u.n
        exact ⟨_, _, _, dropE es' u.d u.n, rfl, (k6.trans (KX2.same sg)).trans (KX2.put (Same.refl _)), q2, q1, fun v hv => q3 _ _ (sg _ _ (hE6 v (List.mem_filter.mp hv).1)), ⟨G3.kn, G3.ok, G3.rg, by have := G3.le; omega⟩⟩
      · have BX := B5
        have hBX := hB4.kpb B4 K5
        have hEX : EntsAt H5 es' := fun v hv => tup_kpb B4 K5 (hE4 v hv)
        have kX := k4.trans (KX2.kp K5)
        have fX := BX
        refine ⟨_, rfl, g, l, 9, rfl, BX, by decide, by decide, fun c9 H6 c90 c91 B6 K6 => ⟨_, _, rfl, rfl, (by show 3 ≤ sizeLine; decide), fun e he => ?_⟩⟩
        have hB6 := hBX.kpb BX K6
        have hE6 : EntsAt H6 es' := fun v hv => tup_kpb BX K6 (hEX v hv)
        have k6 := kX.trans (KX2.kp K6)
        have s7 := Same.new (o := .tup [V.str "buy", .str "trial", .int (1 + c9)]) he
        have he7 := upd_same (H := H6) (a := e) (o := .tup [V.str "buy", .str "trial", .int (1 + c9)])
        have B7 := B6.keep s7
        have hB7 := hB6.same s7
        have hE7 : EntsAt (upd H6 e (.tup [V.str "buy", .str "trial", .int (1 + c9)])) es' := fun v hv => s7 _ _ (hE6 v hv)
        have k7 := k6.trans (KX2.same s7)
        dsimp only
        generalize upd H6 e (.tup [V.str "buy", .str "trial", .int (1 + c9)]) = H7 at *
        refine ⟨_, rfl, _, rfl, g, l, 4, rfl, B7, by decide, by decide, fun d1 H8 d10 d11 B8 K8 => ⟨_, rfl, g, l, 4, rfl, B8, by decide, by decide, fun n1 H9 n10 n11 B9 K9 => ⟨(by show 2 ≤ sizeLine; decide), fun t ht => ?_⟩⟩⟩
        have K89 := K8.trans K9
        have s10 := Same.new (o := .tup [V.int d1, .int n1]) ht
        have ht10 := upd_same (H := H9) (a := t) (o := .tup [V.int d1, .int n1])
        have B10 := B9.keep s10
        have hB10 := (hB7.kpb B7 K89).same s10
        have hE10 : EntsAt (upd H9 t (.tup [V.int d1, .int n1])) es' := fun v hv => s10 _ _ (tup_kpb B7 K89 (hE7 v hv))
        have he10 := s10 _ _ (tup_kpb B7 K89 he7)
        have k10 := k7.trans ((KX2.kp K89).trans (KX2.same s10))
        generalize upd H9 t (.tup [V.int d1, .int n1]) = H10 at *
        obtain ⟨⟨dxc, hbc⟩, _⟩ := id hB10
        obtain ⟨u, hu⟩ : ∃ u : En, u = ⟨d1, n1, e, "buy", "trial", .int (1 + c9)⟩ := ⟨_, rfl⟩
        have uok : EnOk u := by
          rw [hu]
          exact ⟨ent_units buy_yes (by show nameV (.str ("trial" : Str)) = true; decide +kernel) (by omega) (by omega), .int _, (fun z q => by rw [← V.str.inj q]; show ("trial" : Str).length ≤ 1000; decide +kernel), fun z q => by cases q⟩
        refine ⟨b, dxc, _, rfl, hbc, b, dd, t, es', .int d1, .int n1, .ref e, true, rfl, hB10, by omega, ht10, .inl (.int _), .inl (.int _), .inl ⟨.str "buy", .str "trial", .int (1 + c9), ⟨e, rfl, he10, .str _, .str _, .int _, (fun z q => by rw [← V.str.inj q]; decide +kernel), fun z q => by cases q⟩, by have := uok.1; rw [hu] at this; exact this.symm⟩, (fun d' n' e1 e2 _ Hg sg => ?_), fun z => ?_⟩
        case refine_2 =>
          have : (numV 0 (.int d1) && (numV 0 (.int n1) && true)) = true := by
            show ((decide (0 ≤ d1) && decide (d1 ≤ 1000000)) && ((decide (0 ≤ n1) && decide (n1 ≤ 1000000)) && true)) = true
            rw [decide_eq_true d10, decide_eq_true (show d1 ≤ 1000000 by omega), decide_eq_true n10, decide_eq_true (show n1 ≤ 1000000 by omega)]
            rfl
          rw [this] at z
          cases z
        obtain rfl := V.int.inj e1
        obtain rfl := V.int.inj e2
        have eP : putK (kvE es') (keyE d1 n1) (.ref e) = kvE (putE es' u) := by
          have := put_kvE (es := es') (t := u)
          rw [hu] at this ⊢
          exact this
        rw [eP]
        have he11 : H10 u.e = some (.tup [.str u.kd, .str u.nm, u.x]) := by rw [hu]; exact he10
        obtain ⟨q1, q2, q3⟩ := (hB10.same sg).dput (es' := putE es' u) (B10.keep sg)
        refine ⟨_, _, _, putE es' u, rfl, (k10.trans (KX2.same sg)).trans (KX2.put (Same.refl _)), q2, q1, fun v hv => ?_, G2.put uok (by rw [hu]; exact ⟨d10, n10, by show d1 ≤ 1000; omega, by show n1 ≤ 1000; omega⟩)⟩
        rcases mem_putE hv with ev | hv
        · rw [ev]
          exact q3 _ _ (sg _ _ he11)
        · exact q3 _ _ (sg _ _ (hE10 v hv))
    · rintro σ' H2 ⟨o2, o3, o4, es', rfl, k2, B2, hB2, hE2, G2⟩
      exact k es' H2 k2 B2 hB2 hE2 ⟨G2.kn, G2.ok, G2.rg, by have := G2.le; omega⟩
end

/-! ### i // 0 -/
section
open PySem.Spec PyProof.Rows
theorem op_div0 {X : Cx} {W : WX} (hc : X.calm = true) (tk : Takes X W) : OpR X (binaryOp .FloorDiv) (fun x y H _ => ∃ i, x = .int i ∧ y = .int 0 ∧ ∀ d σ, W (.type "ZeroDivisionError") d σ H) := by
  intro pins s σ H x y v u Q I rx ry h
  obtain ⟨i, ex, ey, w⟩ := h
  subst ex
  subst ey
  obtain ⟨t, rfl⟩ := (show ∃ t, v = Value.int i t from rx)
  obtain ⟨t2, rfl⟩ := (show ∃ t, u = Value.int 0 t from ry)
  exact PySem.AutoIntOps.floordiv_0 (by decide) ⟨I.ok.hd hc, fun h' tk' e hx => takes_new (t' := tk') tk I hx fun d => w d σ⟩
end

/-! ### _law_deed, _law_trial_right: what they promise, by the depth -/
/-- all but what stands in L stays -/
def KX (L : List Addr) (H H' : Hp) : Prop := ∀ c o, H c = some o → c ∉ L → H' c = some o
theorem KX.refl {L : List Addr} {H : Hp} : KX L H H := fun _ _ e _ => e
theorem KX.trans {L : List Addr} {H H1 H2 : Hp} (a : KX L H H1) (b : KX L H1 H2) : KX L H H2 := fun c o e n => b c o (a c o e n) n
theorem KX.same {L : List Addr} {H H' : Hp} (s : Same H H') : KX L H H' := fun c o e _ => s c o e
theorem KX.kp {L : List Addr} {g : Addr} {H H' : Hp} (hg : g ∈ L) (k : Kp g H H') : KX L H H' := fun c o e n => k c o e fun z => n (z ▸ hg)
theorem KX.put {L : List Addr} {d : Addr} {H : Hp} {o : HO} (hd : d ∈ L) : KX L H (upd H d o) := fun c o' e n => by
  rw [upd_ne fun z => n (by rw [z]; exact hd)]
  exact e

/-- what a deed leaves alone: all but these things and the tables -/
def KNL (L : List Addr) (H H' : Hp) : Prop := ∀ c o, H c = some o → (∀ ps, o ≠ .tbl ps) → c ∉ L → H' c = some o
theorem KNL.trans {L : List Addr} {H H1 H2 : Hp} (a : KNL L H H1) (b : KNL L H1 H2) : KNL L H H2 := fun c o e n m => b c o (a c o e n m) n m
theorem KNL.ext {L : List Addr} {H H' : Hp} (e : LamX.ExtN H H') : KNL L H H' := fun c o h n _ => e c o h n
theorem KNL.same {L : List Addr} {H H' : Hp} (s : Same H H') : KNL L H H' := fun c o h _ _ => s c o h
theorem KNL.kp {L : List Addr} {H H' : Hp} {g : Addr} (k : Kp g H H') (m : g ∈ L) : KNL L H H' := fun c o h _ n => k c o h fun z => n (z ▸ m)
theorem KNL.kx {L : List Addr} {H H' : Hp} {x : Addr} (k : KX [x] H H') (m : x ∈ L) : KNL L H H' := fun c o h _ n => k c o h fun z => n (by rw [List.mem_singleton.mp z]; exact m)

theorem tabs_kpg {T : List (Addr × Str)} {H H' : Hp} {g l : Addr} (B : Bag H g l) (k : Kp g H H') (t : LamX.Tabs T H) : LamX.Tabs T H' := fun p hp => by
  obtain ⟨ps, h1, h2, h3⟩ := t p hp
  obtain ⟨xs, hg⟩ := B.lst
  refine ⟨ps, k _ _ h1 (ne_of h1 hg (by intro z; cases z)), h2, fun pos cv hc => ?_⟩
  obtain ⟨c, e1, e2⟩ := h3 pos cv hc
  exact ⟨c, e1, k _ _ e2 (ne_of e2 hg (by intro z; unfold LamX.CodeO at z; cases z))⟩
theorem tabs_kx9 {T : List (Addr × Str)} {L : List Addr} {H H' : Hp} (hL : ∀ c ∈ L, ∃ o, H c = some o ∧ (∀ ps, o ≠ .tbl ps) ∧ ∀ c' q, o ≠ LamX.CodeO c' q) (k : KX L H H') (t : LamX.Tabs T H) : LamX.Tabs T H' := fun p hp => by
  obtain ⟨ps, h1, h2, h3⟩ := t p hp
  refine ⟨ps, k _ _ h1 fun m => ?_, h2, fun pos cv hc => ?_⟩
  · obtain ⟨o, e, n, _⟩ := hL _ m
    rw [h1] at e
    exact n _ (Option.some.inj e).symm
  · obtain ⟨c, e1, e2⟩ := h3 pos cv hc
    refine ⟨c, e1, k _ _ e2 fun m => ?_⟩
    obtain ⟨o, e, _, n⟩ := hL _ m
    rw [e2] at e
    exact n _ _ (Option.some.inj e).symm

theorem tabs_updK {T : List (Addr × Str)} {H : Hp} {d : Addr} {u o : HO} (hd : H d = some u) (n1 : ∀ ps, u ≠ .tbl ps) (n2 : ∀ c q, u ≠ LamX.CodeO c q) (t : LamX.Tabs T H) : LamX.Tabs T (upd H d o) := fun p hp => by
  obtain ⟨ps, h1, h2, h3⟩ := t p hp
  refine ⟨ps, by rw [upd_ne (ne_of h1 hd fun z => n1 _ z.symm)]; exact h1, h2, fun pos cv hc => ?_⟩
  obtain ⟨c, e1, e2⟩ := h3 pos cv hc
  exact ⟨c, e1, by rw [upd_ne (ne_of e2 hd fun z => n2 _ _ z.symm)]; exact e2⟩

def tabsT (Z : TbA) : List (Addr × Str) := [(Z.p_l_trial_right, "_law_trial_right.<locals>.<lambda>")]
def cM (m : Nat) : Nat := 12 * (2 * m + 1)
/-- the law's log: a list of its own, then what was found right; j bounds both -/
structure LogAt (H : Hp) (g l lg l0 : Addr) (j : Nat) : Prop where
  hl : ∃ i, i ≤ j ∧ H lg = some (.lst (V.ref l0 :: List.replicate i (V.bl true)))
  h0 : ∃ xs : List V, H l0 = some (.lst xs) ∧ xs ≠ [] ∧ xs.length ≤ j + 1
  n1 : lg ≠ g
  n2 : lg ≠ l
  n3 : l0 ≠ g
  n4 : l0 ≠ l
  n5 : lg ≠ l0
/-- something stands there that is no table -/
def NT (H : Hp) (c : Addr) : Prop := ∃ o, H c = some o ∧ ∀ ps, o ≠ .tbl ps
/-- what a deed of the law keeps: all but the bag, the book, its dict and the log -/
structure Kep (g b dd lg l0 : Addr) (H H' : Hp) (dd' : Addr) : Prop where
  kn : KNL [g, b, dd, lg, l0] H H'
  nn : ∀ c, NT H c → NT H' c
  dn : dd' = dd ∨ ¬ NT H dd'
theorem Kep.trans {g b dd lg l0 d1 d2 : Addr} {H H1 H2 : Hp} (a : Kep g b dd lg l0 H H1 d1) (c : Kep g b d1 lg l0 H1 H2 d2) : Kep g b dd lg l0 H H2 d2 := by
  refine ⟨fun x o e n m => ?_, fun x z => c.nn x (a.nn x z), ?_⟩
  · have e1 := a.kn x o e n m
    refine c.kn x o e1 n fun m1 => ?_
    simp only [List.mem_cons, List.not_mem_nil, or_false, not_or] at m m1
    obtain ⟨m2, m3, m4, m5, m6⟩ := m
    rcases m1 with z | z | z | z | z
    · exact m2 z
    · exact m3 z
    · rcases a.dn with y | y
      · exact m4 (z.trans y)
      · exact y ⟨o, by rw [← z]; exact e, n⟩
    · exact m5 z
    · exact m6 z
  · rcases c.dn with z | z
    · rw [z]
      exact a.dn
    · exact .inr fun y => z (a.nn _ y)
theorem Kep.same {g b dd lg l0 : Addr} {H H' : Hp} (s : Same H H') : Kep g b dd lg l0 H H' dd := ⟨KNL.same s, fun _ ⟨o, e, n⟩ => ⟨o, s _ _ e, n⟩, .inl rfl⟩
theorem Kep.ext {g b dd lg l0 : Addr} {H H' : Hp} (x : LamX.ExtN H H') : Kep g b dd lg l0 H H' dd := ⟨KNL.ext x, fun _ ⟨o, e, n⟩ => ⟨o, x _ _ e n, n⟩, .inl rfl⟩
/-- one of these things is changed -/
theorem Kep.one {g b dd lg l0 d : Addr} {H H' : Hp} {o : HO} (m : d ∈ [g, b, dd, lg, l0]) (k : Kp d H H') (e : H' d = some o) (n : ∀ ps, o ≠ .tbl ps) : Kep g b dd lg l0 H H' dd :=
  ⟨KNL.kp k m, fun c ⟨o1, e1, n1⟩ => by
    by_cases z : c = d
    · rw [z]
      exact ⟨o, e, n⟩
    · exact ⟨o1, k _ _ e1 z, n1⟩, .inl rfl⟩
/-- the errors by which a deed of the law ends -/
def Err34 (A : Ad) (m : Nat) (l0 : Addr) (cls : Value) (d : Option Addr) (H : Hp) : Prop :=
  (cls = .ref A.NoEntry ∧ ∃ x, d = some x ∧ H x = some (.xd (noE (.int 5) (.int 999999)))) ∨
  (cls = .type "KeyError" ∧ ∃ xs, H l0 = some (.lst (xs ++ [V.int m]))) ∨ cls = .type "ZeroDivisionError"
def spDeed34 (A : Ad) (Z : TbA) (m : Nat) : Sp := fun vs H Q E => ∃ (g l b dd lg l0 : Addr) (es : List En) (n j : Nat) (av : V), vs = [.ref g, .ref b, .ref b, .int m, .ref lg, av] ∧ Bag H g l ∧ BookAt A.Book H b dd es ∧ EntsAt H es ∧ G34 es n ∧ n + 6 * (m + 1) ≤ 150 ∧ LogAt H g l lg l0 j ∧ j + cM m ≤ 300 ∧ LamX.Tabs (tabsT Z) H ∧
  (∀ (dd' : Addr) (es' : List En) (j' : Nat) (H' : Hp), Kep g b dd lg l0 H H' dd' → Bag H' g l → BookAt A.Book H' b dd' es' → LogAt H' g l lg l0 j' → j' ≤ j + cM m → LamX.Tabs (tabsT Z) H' → Q av H') ∧
  (∀ (cls : Value) (d : Option Addr) (dd' : Addr) (es' : List En) (j' : Nat) (H' : Hp), Kep g b dd lg l0 H H' dd' → Bag H' g l → BookAt A.Book H' b dd' es' → LogAt H' g l lg l0 j' → j' ≤ j + cM m → LamX.Tabs (tabsT Z) H' → Err34 A m l0 cls d H' → E cls d H')
def spTrialR (A : Ad) (Z : TbA) (m : Nat) : Sp := fun vs H Q _ => ∃ (g l b dd lg l0 : Addr) (es : List En) (n j : Nat), vs = [.ref g, .ref b, .int m, .ref lg] ∧ Bag H g l ∧ BookAt A.Book H b dd es ∧ EntsAt H es ∧ G34 es n ∧ n + 6 * (m + 1) ≤ 150 ∧ LogAt H g l lg l0 j ∧ j + cM m + 1 ≤ 300 ∧ LamX.Tabs (tabsT Z) H ∧
  ∀ (dd' : Addr) (j' : Nat) (H' : Hp), Kep g b dd lg l0 H H' dd' → Bag H' g l → BookAt A.Book H' b dd' es → LogAt H' g l lg l0 j' → j' ≤ j + cM m + 1 → LamX.Tabs (tabsT Z) H' → Q (.bl true) H'
/-- what stands while a deed of the law runs -/
structure S34 (A : Ad) (Z : TbA) (H0 H : Hp) (g l b dd0 dd lg l0 : Addr) (es : List En) (n j : Nat) : Prop where
  B : Bag H g l
  hB : BookAt A.Book H b dd es
  hE : EntsAt H es
  G : G34 es n
  L : LogAt H g l lg l0 j
  tb : LamX.Tabs (tabsT Z) H
  k : Kep g b dd0 lg l0 H0 H dd
theorem LogAt.up {H H' : Hp} {g l lg l0 : Addr} {j j' : Nat} (h : LogAt H g l lg l0 j) (le : j ≤ j') (f : ∀ c xs, H c = some (.lst xs) → c ≠ g → H' c = some (.lst xs)) : LogAt H' g l lg l0 j' := by
  obtain ⟨⟨i, hi, hl⟩, ⟨xs, h0, hx, xl⟩, n1, n2, n3, n4, n5⟩ := h
  exact ⟨⟨i, Nat.le_trans hi le, f _ _ hl n1⟩, ⟨xs, f _ _ h0 n3, hx, by omega⟩, n1, n2, n3, n4, n5⟩
section
variable {A : Ad} {Z : TbA} {H0 H H' : Hp} {g l b dd0 dd lg l0 : Addr} {es es' : List En} {n n' j : Nat}
theorem S34.same (h : S34 A Z H0 H g l b dd0 dd lg l0 es n j) (s : Same H H') : S34 A Z H0 H' g l b dd0 dd lg l0 es n j :=
  ⟨h.B.keep s, h.hB.same s, fun v hv => s _ _ (h.hE v hv), h.G, h.L.up (Nat.le_refl _) fun _ _ e _ => s _ _ e, h.tb.ext s, h.k.trans (Kep.same s)⟩
theorem S34.kp (h : S34 A Z H0 H g l b dd0 dd lg l0 es n j) (k : Kp g H H') (B' : Bag H' g l) : S34 A Z H0 H' g l b dd0 dd lg l0 es n j := by
  obtain ⟨xs, hg⟩ := B'.lst
  exact ⟨B', h.hB.kpb h.B k, fun v hv => tup_kpb h.B k (h.hE v hv), h.G, h.L.up (Nat.le_refl _) fun _ _ e n => k _ _ e n, tabs_kpg h.B k h.tb, h.k.trans (Kep.one (by simp) k hg (by intro ps z; cases z))⟩
/-- the book is changed in place -/
theorem S34.chg (h : S34 A Z H0 H g l b dd0 dd lg l0 es n j) (k : KX2 g dd H H') (B' : Bag H' g l) (hB' : BookAt A.Book H' b dd es') (hE' : EntsAt H' es') (G' : G34 es' n') : S34 A Z H0 H' g l b dd0 dd lg l0 es' n' j := by
  obtain ⟨xs, hg⟩ := h.B.lst
  obtain ⟨ys, hg'⟩ := B'.lst
  have hd := h.hB.2
  refine ⟨B', hB', hE', G', h.L.up (Nat.le_refl _) fun _ _ e m => k _ _ e m (ne_of e hd (by intro z; cases z)), fun p hp => ?_, h.k.trans ⟨fun c o e _ m => ?_, fun c ⟨o, e, m⟩ => ?_, .inl rfl⟩⟩
  · obtain ⟨ps, h1, h2, h3⟩ := h.tb p hp
    refine ⟨ps, k _ _ h1 (ne_of h1 hg (by intro z; cases z)) (ne_of h1 hd (by intro z; cases z)), h2, fun pos cv hc => ?_⟩
    obtain ⟨c, e1, e2⟩ := h3 pos cv hc
    exact ⟨c, e1, k _ _ e2 (ne_of e2 hg (by intro z; unfold LamX.CodeO at z; cases z)) (ne_of e2 hd (by intro z; unfold LamX.CodeO at z; cases z))⟩
  · simp only [List.mem_cons, List.not_mem_nil, or_false, not_or] at m
    exact k _ _ e m.1 m.2.2.1
  · by_cases y : c = g
    · rw [y]
      exact ⟨_, hg', by intro ps z; cases z⟩
    by_cases y2 : c = dd
    · rw [y2]
      exact ⟨_, hB'.2, by intro ps z; cases z⟩
    exact ⟨o, k _ _ e y y2, m⟩
theorem S34.off (h : S34 A Z H0 H g l b dd0 dd lg l0 es n j) {c : Addr} {o : HO} (e : H c = some o) (n1 : ∀ xs, o ≠ .lst xs) (n2 : ∀ C dx fs, o ≠ .ins C dx fs) (n3 : ∀ kvs, o ≠ .dT kvs) : c ∉ [g, b, dd, lg, l0] := by
  obtain ⟨xs, hg⟩ := h.B.lst
  obtain ⟨⟨_, _, hl⟩, ⟨_, h0, _⟩, _⟩ := h.L
  obtain ⟨⟨dx, hb⟩, hd⟩ := h.hB
  simp only [List.mem_cons, List.not_mem_nil, or_false, not_or]
  exact ⟨ne_of e hg (n1 _), ne_of e hb (n2 _ _ _), ne_of e hd (n3 _), ne_of e hl (n1 _), ne_of e h0 (n1 _)⟩
/-- a trial within -/
theorem S34.tri {dd' : Addr} {j' : Nat} (h : S34 A Z H0 H g l b dd0 dd lg l0 es n j) (k : Kep g b dd lg l0 H H' dd') (B' : Bag H' g l) (hB' : BookAt A.Book H' b dd' es) (L' : LogAt H' g l lg l0 j') (t' : LamX.Tabs (tabsT Z) H') : S34 A Z H0 H' g l b dd0 dd' lg l0 es n j' :=
  ⟨B', hB', fun v hv => k.kn _ _ (h.hE v hv) (by intro ps z; cases z) (h.off (h.hE v hv) (by intro xs z; cases z) (by intro C dx fs z; cases z) (by intro kvs z; cases z)), h.G, L', t', h.k.trans k⟩
theorem kept_tri {pk : Addr} {us : List (Addr × Addr × En)} {dd' : Addr} (h : S34 A Z H0 H g l b dd0 dd lg l0 es n j) (k : Kep g b dd lg l0 H H' dd') (pkn : pk ≠ g ∧ pk ≠ lg ∧ pk ≠ l0) (K : KeptAt H pk us) : KeptAt H' pk us := by
  obtain ⟨⟨dx, hb⟩, hd⟩ := h.hB
  have tp : ∀ {c : Addr} {xs : List V}, H c = some (.tup xs) → H' c = some (.tup xs) := fun e => k.kn _ _ e (by intro ps z; cases z) (h.off e (by intro xs z; cases z) (by intro C dx fs z; cases z) (by intro kvs z; cases z))
  refine ⟨k.kn _ _ K.1 (by intro ps z; cases z) ?_, fun u hu => ⟨tp (K.2 u hu).1, tp (K.2 u hu).2⟩⟩
  simp only [List.mem_cons, List.not_mem_nil, or_false, not_or]
  exact ⟨pkn.1, ne_of K.1 hb (by intro z; cases z), ne_of K.1 hd (by intro z; cases z), pkn.2.1, pkn.2.2⟩
/-- true is appended to the log -/
theorem S34.app (h : S34 A Z H0 H g l b dd0 dd lg l0 es n j) {xs : List V} (e : H lg = some (.lst xs)) : S34 A Z H0 (upd H lg (.lst (xs ++ [V.bl true]))) g l b dd0 dd lg l0 es n (j + 1) := by
  obtain ⟨⟨i, hi, hl⟩, ⟨ys, h0, hx, xl⟩, n1, n2, n3, n4, n5⟩ := h.L
  rw [hl] at e
  cases e
  have kp : Kp lg H (upd H lg (.lst (V.ref l0 :: List.replicate i (V.bl true) ++ [V.bl true]))) := fun c o e m => by rw [upd_ne m]; exact e
  obtain ⟨⟨dx, hb⟩, hd⟩ := h.hB
  have tp : ∀ {c : Addr} {zs : List V}, H c = some (.tup zs) → (upd H lg (.lst (V.ref l0 :: List.replicate i (V.bl true) ++ [V.bl true]))) c = some (.tup zs) := fun e => kp _ _ e (ne_of e hl (by intro z; cases z))
  refine ⟨h.B.put ⟨n1, n2⟩, ⟨⟨dx, kp _ _ hb (ne_of hb hl (by intro z; cases z))⟩, kp _ _ hd (ne_of hd hl (by intro z; cases z))⟩, fun v hv => tp (h.hE v hv), h.G, ⟨⟨i + 1, by omega, by rw [upd_same, List.replicate_succ']; rfl⟩, ⟨ys, kp _ _ h0 n5.symm, hx, by omega⟩, n1, n2, n3, n4, n5⟩, tabs_updK hl (by intro ps z; cases z) (by intro c q z; unfold LamX.CodeO at z; cases z) h.tb, h.k.trans (Kep.one (by simp) kp upd_same (by intro ps z; cases z))⟩
/-- something is appended to the list within the log -/
theorem S34.app0 (h : S34 A Z H0 H g l b dd0 dd lg l0 es n j) {xs : List V} (v : V) (e : H l0 = some (.lst xs)) : S34 A Z H0 (upd H l0 (.lst (xs ++ [v]))) g l b dd0 dd lg l0 es n (j + 1) := by
  obtain ⟨⟨i, hi, hl⟩, ⟨ys, h0, hx, xl⟩, n1, n2, n3, n4, n5⟩ := h.L
  rw [h0] at e
  cases e
  have kp : Kp l0 H (upd H l0 (.lst (xs ++ [v]))) := fun c o e m => by rw [upd_ne m]; exact e
  obtain ⟨⟨dx, hb⟩, hd⟩ := h.hB
  have tp : ∀ {c : Addr} {zs : List V}, H c = some (.tup zs) → (upd H l0 (.lst (xs ++ [v]))) c = some (.tup zs) := fun e => kp _ _ e (ne_of e h0 (by intro z; cases z))
  refine ⟨h.B.put ⟨n3, n4⟩, ⟨⟨dx, kp _ _ hb (ne_of hb h0 (by intro z; cases z))⟩, kp _ _ hd (ne_of hd h0 (by intro z; cases z))⟩, fun v hv => tp (h.hE v hv), h.G, ⟨⟨i, by omega, kp _ _ hl n5⟩, ⟨xs ++ [v], upd_same, by simp, by rw [List.length_append, List.length_singleton]; omega⟩, n1, n2, n3, n4, n5⟩, tabs_updK h0 (by intro ps z; cases z) (by intro c q z; unfold LamX.CodeO at z; cases z) h.tb, h.k.trans (Kep.one (by simp) kp upd_same (by intro ps z; cases z))⟩
end
section
variable {P : Program} {w : World} {K : PySem.W.Frag} {mg : Str → Option Value} {base : Heap} {A : Ad}
theorem fnok_nope {CX : CXT} {k : Nat} {f : Addr} {fd : FuncData} {ps : List Str} : FnOk P w K mg base CX k f fd ps (fun _ _ _ _ => False) := ⟨fun _ _ _ _ h => h.elim, fun _ _ _ _ _ _ _ _ _ _ _ _ _ h => h.elim⟩
/-- the deed at depth m, told what the trials within it answer -/
theorem deed_dep (T : Txt K mg A) {Z : TbA} {m k0 : Nat} (hm : m ≤ 2) (hk : 20 ≤ k0) {s0 s1 : Sp} (ih0 : FnOk P w K mg base CX0 k0 A.l_trial_right A.fd_l_trial_right P_l_trial_right s0) (ih1 : FnOk P w K mg base CX0 k0 A.l_trial_right A.fd_l_trial_right P_l_trial_right s1)
    (e0 : 0 < m → s0 = spTrialR A Z 0) (e1 : 0 < m → s1 = spTrialR A Z (m - 1)) : FnOk P w K mg base (L2.CX P w) (k0 + 1) A.l_deed A.fd_l_deed P_l_deed (spDeed34 A Z m) := by
  refine T.F_l_deed.okX sc_l_deed (fun vs H Q E h => ?_) (fun cdv Ar outer s H vs Q E hr h => ?_)
  · obtain ⟨g, l, b, dd, lg, l0, es, n, j, av, rfl, _⟩ := h
    rfl
  · refine ⟨_, (pss_cons (ps_expr (pe_call (ok_l_changed T) (hr.mono (by omega)) (by rfl) T.g__law_changed T.F_l_changed.kp T.b_l_changed .nil pass0 (pa_cons (pv 0) (pa_cons (pe_ix ix_list (pe_lst (pa_cons (pv 1) (pa_cons (pv 2) pa_nil))) (pe_call (ok_l_draw T) (hr.mono (by omega)) (by rfl) T.g__law_draw T.F_l_draw.kp T.b_l_draw .nil pass0 (pa_cons (pv 0) (pa_cons pe_int pa_nil))) (fun _ _ => rfl)) pa_nil))))
      (pss_cons (ps_set (i := 6) sc_l_deed.nd rfl (Or.inl rfl) (pe_call (ok_l_kept T) (hr.mono (by omega)) (by rfl) T.g__law_kept T.F_l_kept.kp T.b_l_kept .nil pass0 (pa_cons (pv 1) pa_nil)))
      (pss_cons (ps_expr (pe_bm PySem.F.plainAttrs_list PySem.F.slot_list_append PySem.F.type_list_append mt_append (pv 4) (pa_cons (pe_cmpR (op_eqP hr.units) (pe_call (ok_l_lists T) (hr.mono (by omega)) (by rfl) T.g__law_lists T.F_l_lists.kp T.b_l_lists .nil pass0 (pa_cons (pv 2) pa_nil)) (pe_call (ok_l_lists T) (hr.mono (by omega)) (by rfl) T.g__law_lists T.F_l_lists.kp T.b_l_lists .nil pass0 (pa_cons (pv 1) pa_nil)) (nomark _)) pa_nil)))
      (pss_cons (ps_expr (pe_bm PySem.F.plainAttrs_list PySem.F.slot_list_append PySem.F.type_list_append mt_append (pv 4) (pa_cons (pe_and (pe_call (ok_l_refused T) (hr.mono (by omega)) (by rfl) T.g__law_refused T.F_l_refused.kp T.b_l_refused .nil pass0 (pa_cons (pv 1) pa_nil)) (pe_one (pe_cmpR (op_eqP hr.units) (pe_call (ok_l_kept T) (hr.mono (by omega)) (by rfl) T.g__law_kept T.F_l_kept.kp T.b_l_kept .nil pass0 (pa_cons (pv 1) pa_nil)) (pv 6) (nomark _)))) pa_nil)))
      (pss_g (Evl.pss_cut (ps_if (pt_cmpR op_gt (pv 3) pe_int (nomark _)) (pss_cons (ps_expr (pe_bm PySem.F.plainAttrs_list PySem.F.slot_list_append PySem.F.type_list_append mt_append (pv 4) (pa_cons (pe_and (pe_call ih1 (hr.mono (by omega)) (by rfl) T.g__law_trial_right T.F_l_trial_right.kp T.b_l_trial_right .nil pass0 (pa_cons (pv 0) (pa_cons (pv 1) (pa_cons (pe_op op_sub (pv 3) pe_int) (pa_cons (pv 4) pa_nil))))) (pe_one (pe_cmpR (op_eqP hr.units) (pe_call (ok_l_kept T) (hr.mono (by omega)) (by rfl) T.g__law_kept T.F_l_kept.kp T.b_l_kept .nil pass0 (pa_cons (pv 1) pa_nil)) (pv 6) (nomark _)))) pa_nil)))
      (pss_cons (ps_expr (pe_bm PySem.F.plainAttrs_list PySem.F.slot_list_append PySem.F.type_list_append mt_append (pv 4) (pa_cons (pe_and (pe_call ih0 (hr.mono (by omega)) (by rfl) T.g__law_trial_right T.F_l_trial_right.kp T.b_l_trial_right .nil pass0 (pa_cons (pv 0) (pa_cons (pv 2) (pa_cons pe_int (pa_cons (pv 4) pa_nil))))) (pe_one (pe_cmpR (op_eqP hr.units) (pe_call (ok_l_kept T) (hr.mono (by omega)) (by rfl) T.g__law_kept T.F_l_kept.kp T.b_l_kept .nil pass0 (pa_cons (pv 1) pa_nil)) (pv 6) (nomark _)))) pa_nil)))
      (pss_one (ps_expr (pe_call (ok_l_changed T) (hr.mono (by omega)) (by rfl) T.g__law_changed T.F_l_changed.kp T.b_l_changed .nil pass0 (pa_cons (pv 0) (pa_cons (pv 2) pa_nil))))))) pss_nil)
      (pss_cons (ps_set (i := 7) sc_l_deed.nd rfl (Or.inl rfl) (pe_call (ok_l_draw T) (hr.mono (by omega)) (by rfl) T.g__law_draw T.F_l_draw.kp T.b_l_draw .nil pass0 (pa_cons (pv 0) (pa_cons pe_int pa_nil))))
      (pss_cons (ps_if (pt_cmpR op_eq (pv 7) pe_int (nomark _)) (pss_one (ps_expr (pe_meth (pv 1) T.cl_Book T.m_Book_remove (ok_m_Book_remove T) (hr.mono (by omega)) T.b_m_Book_remove .nil (E := E) (passes_call (takes_of rfl rfl rfl rfl) (fun _ _ _ _ h => h)) (pa_cons pe_int (pa_cons pe_int pa_nil))))) pss_nil)
      (pss_cons (ps_if (pt_cmpR op_eq (pv 7) pe_int (nomark _)) (pss_cons (ps_expr (pe_bm PySem.F.plainAttrs_list PySem.F.slot_list_append PySem.F.type_list_append mt_append (pe_ix ix_list (pv 4) pe_int (fun _ _ => rfl)) (pa_cons (pv 3) pa_nil)))
      (pss_one (ps_raise rfl (takes_of rfl rfl rfl rfl) (pmk_exc PyProof.Rows.excClass_KeyError ty_KeyError (by rfl) T.z_KeyError boot_KeyError (pa_cons pe_str pa_nil))))) pss_nil)
      (pss_cons (ps_if (pt_cmpR op_eq (pv 7) pe_int (nomark _)) (pss_one (ps_ret (pe_lst (pa_cons (pe_op (op_div0 (W := fun cls d _ H => E cls d H) rfl (takes_of rfl rfl rfl rfl)) pe_int (pe_op op_sub (pv 3) (pv 3))) pa_nil)))) pss_nil)
      (pss_cons (ps_expr (pe_bm PySem.F.plainAttrs_list PySem.F.slot_list_append PySem.F.type_list_append mt_append (pv 4) (pa_cons (pe_or (pe_cmpR (op_neNil hr.units) (pe_call (ok_l_kept T) (hr.mono (by omega)) (by rfl) T.g__law_kept T.F_l_kept.kp T.b_l_kept .nil pass0 (pa_cons (pv 1) pa_nil)) (pe_lst pa_nil) (nomark _)) (pe_one (pe_cmpR op_eq (pe_callB ((call_ownLen ⟨T.m_Book___len__.at_, T.m_Book___len__.fn⟩ (ok_m_Book_len T) (hr.mono (by omega)) T.b_m_Book_len pass0)) (by rfl) T.z_len (by decide +kernel) (pa_cons (pv 1) pa_nil)) pe_int (nomark _)))) pa_nil)))
      (pss_one (ps_ret (pv 5)))))))))))))), ?_⟩
    obtain ⟨g, l, b, dd, lg, l0, es, n, j, av, rfl, B, hB, hE, G, nn, LG, jn, tb, kQ, kE⟩ := h
    have nl : n ≤ 144 := by omega
    have S0 : S34 A Z H H g l b dd dd lg l0 es n j := ⟨B, hB, hE, G, LG, tb, Kep.same (Same.refl _)⟩
    have cm : 12 ≤ cM m := by unfold cM; omega
    refine ⟨_, rfl, _, rfl, _, rfl, (by show 2 ≤ sizeLine; decide), fun q hq => ⟨_, rfl, g, l, 2, rfl, B.new hq, by decide, by decide, fun c H1 c0 c1 B1 K1 => ?_⟩⟩
    have S1 := (S0.same (Same.new (o := .lst [V.ref b, .ref b]) hq)).kp K1 B1
    have hq1 : H1 q = some (.lst [V.ref b, .ref b]) := K1 _ _ upd_same (B.ne hq).1
    have at1 : atI [V.ref b, .ref b] c = some (.ref b) := by
      have : c = 0 ∨ c = 1 := by omega
      rcases this with rfl | rfl
      · exact atI_nat (j := 0) rfl
      · exact atI_nat (j := 1) rfl
    refine ⟨q, _, c, _, rfl, rfl, SqL.of hq1, at1, ?_⟩
    dsimp only [tNil]
    refine ⟨g, l, b, dd, es, n, rfl, S1.B, S1.hB, S1.hE, G, by omega, fun es2 H2 k2 B2 hB2 hE2 G2 => ?_⟩
    have S2 := S1.chg k2 B2 hB2 hE2 G2
    clear S1 S0 hq1 at1 K1 B1 hq k2 B2 hB2 hE2
    dsimp only [gName, List.set, tSeq, L2.start, List.map, List.append, List.map_cons, List.map_nil, List.length_cons, List.length_nil, Nat.reduceAdd, Nat.reduceSub, List.replicate_succ, List.replicate_zero, List.replicate, List.cons_append, List.nil_append]
    have el2 := G2.le
    have pl2 : ∀ u ∈ es2, Pl u.x := fun u hu => (G2.ok u hu).2.1
    refine ⟨_, rfl, b, dd, es2, rfl, S2.hB, G2.kn, by omega, fun pk us H3 s3 npk K3 e3 => ?_⟩
    have S3 := S2.same s3
    have pkn : pk ≠ g ∧ pk ≠ lg ∧ pk ≠ l0 := by
      obtain ⟨⟨_, _, hl⟩, ⟨_, h0, _⟩, _⟩ := S2.L
      exact ⟨(S2.B.ne npk).1, (ne_of_none hl npk).symm, (ne_of_none h0 npk).symm⟩
    dsimp only [gName, List.set, tSeq]
    obtain ⟨⟨i3, hi3, hl3⟩, _⟩ := id S3.L
    refine ⟨_, rfl, .inl ⟨rfl, _, SqL.of hl3⟩, _, rfl, b, dd, es2, rfl, S3.hB, S3.hE, G2.kn, by omega, pl2, fun v4 H4 s4 d4 => ⟨_, rfl, b, dd, es2, rfl, S3.hB.same s4, (fun v hv => s4 _ _ (S3.hE v hv)), G2.kn, by omega, pl2, fun v5 H5 s5 d5 => ?_⟩⟩
    have S5 := S3.same (s4.trans s5)
    have K5 : KeptAt H5 pk us := ⟨(s4.trans s5) _ _ K3.1, fun u hu => ⟨(s4.trans s5) _ _ (K3.2 u hu).1, (s4.trans s5) _ _ (K3.2 u hu).2⟩⟩
    refine eq_dl (d4 _ (Stays.same s5)) (d5 _ (Stays.same (Same.refl _))) (by decide) ?_
    have hl5 := (s4.trans s5) _ _ hl3
    refine ⟨lg, _, _, rfl, rfl, hl5, ?_, ?_⟩
    · rw [List.length_cons, List.length_replicate]
      exact Nat.lt_of_le_of_lt (by omega : _ ≤ 400) (by decide)
    have S6 := S5.app hl5
    have K6 : KeptAt (upd H5 lg (.lst (V.ref l0 :: List.replicate i3 (V.bl true) ++ [V.bl true]))) pk us := ⟨by rw [upd_ne pkn.2.1]; exact K5.1, fun u hu => ⟨by rw [upd_ne (ne_of (K5.2 u hu).1 hl5 (by intro z; cases z))]; exact (K5.2 u hu).1, by rw [upd_ne (ne_of (K5.2 u hu).2 hl5 (by intro z; cases z))]; exact (K5.2 u hu).2⟩⟩
    have dK : ∀ {HX : Hp} {px : Addr} {ux : List (Addr × Addr × En)}, EntsAt HX es2 → KeptAt HX px ux → ux.map (fun u => u.2.2) = srtE es2 → DL K HX (.ref px) (.list ((srtE es2).map itemD)) 3 := fun {HX px ux} hEx kx ex => by
      have := dl_kept (K := K) kx (fun v hv => hEx v (by rw [ex] at hv; exact (srtE_perm es2).mem_iff.mp hv)) fun u hu => pl2 u.2.2 (by
        have : u.2.2 ∈ ux.map fun u => u.2.2 := List.mem_map.mpr ⟨u, hu, rfl⟩
        rw [ex] at this
        exact (srtE_perm es2).mem_iff.mp this)
      rw [ex] at this
      exact this
    dsimp only [tNil]
    generalize upd H5 lg (.lst (V.ref l0 :: List.replicate i3 (V.bl true) ++ [V.bl true])) = H6 at *
    clear S5 S3 S2 hl5 hl3 K5 K3 d4 d5 s3 s4 s5 npk hi3
    dsimp only [gName, List.set, tSeq]
    obtain ⟨⟨i6, hi6, hl6⟩, _⟩ := id S6.L
    refine ⟨_, rfl, .inl ⟨rfl, _, SqL.of hl6⟩, _, rfl, b, dd, es2, rfl, S6.hB, by omega, fun H7 s7 => ⟨_, rfl, iteT ⟨_, rfl, b, dd, es2, rfl, S6.hB.same s7, G2.kn, by omega, fun p8 us8 H8 s8 np8 K8 e8 => ⟨_, rfl, ?_⟩⟩⟩⟩
    have S8 := (S6.same s7).same s8
    have s78 := s7.trans s8
    have K68 : KeptAt H8 pk us := ⟨s78 _ _ K6.1, fun u hu => ⟨s78 _ _ (K6.2 u hu).1, s78 _ _ (K6.2 u hu).2⟩⟩
    refine eq_dl (dK S8.hE K8 e8) (dK S8.hE K68 e3) (by decide) ?_
    have hl8 := s78 _ _ hl6
    refine ⟨lg, _, _, rfl, rfl, hl8, ?_, ?_⟩
    · rw [List.length_cons, List.length_replicate]
      exact Nat.lt_of_le_of_lt (by omega : _ ≤ 400) (by decide)
    have S9 := S8.app hl8
    have K9 : KeptAt (upd H8 lg (.lst (V.ref l0 :: List.replicate i6 (V.bl true) ++ [V.bl true]))) pk us := ⟨by rw [upd_ne pkn.2.1]; exact K68.1, fun u hu => ⟨by rw [upd_ne (ne_of (K68.2 u hu).1 hl8 (by intro z; cases z))]; exact (K68.2 u hu).1, by rw [upd_ne (ne_of (K68.2 u hu).2 hl8 (by intro z; cases z))]; exact (K68.2 u hu).2⟩⟩
    dsimp only [tNil]
    generalize upd H8 lg (.lst (V.ref l0 :: List.replicate i6 (V.bl true) ++ [V.bl true])) = H9 at *
    clear S8 S6 hl8 hl6 K68 K8 K6 s7 s8 s78 np8 hi6 e8
    refine ⟨⟨fun σ' H' => Wd (∃ (dd' : Addr) (es' : List En) (n' j' : Nat), σ' = [some (.ref g), some (.ref b), some (.ref b), some (.int m), some (.ref lg), some av, some (.ref pk), none] ∧ S34 A Z H H' g l b dd dd' lg l0 es' n' j' ∧ n' ≤ 160 ∧ j' + 3 ≤ j + cM m), ?_, ?_⟩⟩
    · refine ⟨_, rfl, _, _, rfl, rfl, _, rfl, if_dec (fun m0 => ?_) (fun m0 => ?_)⟩
      · have hm0 : 0 < m := by omega
        have em : ((m : Nat) : Int) - 1 = ((m - 1 : Nat) : Int) := by omega
        have cs : cM m = cM (m - 1) + 24 := by unfold cM; omega
        have c0' : cM 0 = 12 := rfl
        obtain ⟨⟨i9, hi9, hl9⟩, _⟩ := id S9.L
        dsimp only [tSeq]
        refine ⟨_, rfl, .inl ⟨rfl, _, SqL.of hl9⟩, _, rfl, _, rfl, _, rfl, _, _, rfl, rfl, _, rfl, ?_⟩
        dsimp only [tNil]
        rw [e1 hm0, em]
        refine ⟨g, l, b, dd, lg, l0, es2, n + 3, j + 1 + 1, rfl, S9.B, S9.hB, S9.hE, G2, by omega, S9.L, by omega, S9.tb, fun ddA jA HA kA BA hBA LA leA tA => ?_⟩
        have SA := S9.tri kA BA hBA LA tA
        have KA := kept_tri S9 kA pkn K9
        refine ⟨true, rfl, iteT ⟨_, rfl, b, _, es2, rfl, SA.hB, G2.kn, by omega, fun pB usB HB sB npB KnB enB => ⟨_, rfl, ?_⟩⟩⟩
        have SB := SA.same sB
        have KB : KeptAt HB pk us := ⟨sB _ _ KA.1, fun u hu => ⟨sB _ _ (KA.2 u hu).1, sB _ _ (KA.2 u hu).2⟩⟩
        refine eq_dl (dK SB.hE KnB enB) (dK SB.hE KB e3) (by decide) ?_
        obtain ⟨⟨iB, hiB, hlB⟩, _⟩ := id SB.L
        refine ⟨lg, _, _, rfl, rfl, hlB, ?_, ?_⟩
        · rw [List.length_cons, List.length_replicate]
          exact Nat.lt_of_le_of_lt (by omega : _ ≤ 400) (by decide)
        have TB := SB.app hlB
        have LB : KeptAt (upd HB lg (.lst (V.ref l0 :: List.replicate iB (V.bl true) ++ [V.bl true]))) pk us := ⟨by rw [upd_ne pkn.2.1]; exact KB.1, fun u hu => ⟨by rw [upd_ne (ne_of (KB.2 u hu).1 hlB (by intro z; cases z))]; exact (KB.2 u hu).1, by rw [upd_ne (ne_of (KB.2 u hu).2 hlB (by intro z; cases z))]; exact (KB.2 u hu).2⟩⟩
        generalize upd HB lg (.lst (V.ref l0 :: List.replicate iB (V.bl true) ++ [V.bl true])) = GB at *
        dsimp only [tNil, tSeq]
        obtain ⟨⟨iC, hiC, hlC⟩, _⟩ := id TB.L
        refine ⟨_, rfl, .inl ⟨rfl, _, SqL.of hlC⟩, _, rfl, _, rfl, _, rfl, ?_⟩
        dsimp only [tNil]
        rw [e0 hm0]
        refine ⟨g, l, b, ddA, lg, l0, es2, n + 3, jA + 1, rfl, TB.B, TB.hB, TB.hE, G2, by omega, TB.L, by omega, TB.tb, fun ddD jD HD kD BD hBD LD leD tD => ?_⟩
        have SD := TB.tri kD BD hBD LD tD
        have KD := kept_tri TB kD pkn LB
        refine ⟨true, rfl, iteT ⟨_, rfl, b, _, es2, rfl, SD.hB, G2.kn, by omega, fun pE usE HE sE npE KnE enE => ⟨_, rfl, ?_⟩⟩⟩
        have SE := SD.same sE
        have KE : KeptAt HE pk us := ⟨sE _ _ KD.1, fun u hu => ⟨sE _ _ (KD.2 u hu).1, sE _ _ (KD.2 u hu).2⟩⟩
        refine eq_dl (dK SE.hE KnE enE) (dK SE.hE KE e3) (by decide) ?_
        obtain ⟨⟨iE, hiE, hlE⟩, _⟩ := id SE.L
        refine ⟨lg, _, _, rfl, rfl, hlE, ?_, ?_⟩
        · rw [List.length_cons, List.length_replicate]
          exact Nat.lt_of_le_of_lt (by omega : _ ≤ 400) (by decide)
        have TE := SE.app hlE
        have LE : KeptAt (upd HE lg (.lst (V.ref l0 :: List.replicate iE (V.bl true) ++ [V.bl true]))) pk us := ⟨by rw [upd_ne pkn.2.1]; exact KE.1, fun u hu => ⟨by rw [upd_ne (ne_of (KE.2 u hu).1 hlE (by intro z; cases z))]; exact (KE.2 u hu).1, by rw [upd_ne (ne_of (KE.2 u hu).2 hlE (by intro z; cases z))]; exact (KE.2 u hu).2⟩⟩
        generalize upd HE lg (.lst (V.ref l0 :: List.replicate iE (V.bl true) ++ [V.bl true])) = GE at *
        dsimp only [tNil, tSeq]
        refine ⟨_, rfl, _, rfl, g, l, b, ddD, es2, n + 3, rfl, TE.B, TE.hB, TE.hE, G2, by omega, fun es' H' k2 B' hB' hE' G' => ?_⟩
        exact ⟨ddD, es', n + 3 + 3, jD + 1, rfl, TE.chg k2 B' hB' hE' G', by omega, by omega⟩
      · exact ⟨dd, es2, n + 3, j + 1 + 1, rfl, S9, by omega, by omega⟩
    · rintro σ' HA ⟨dd', es', n', j', rfl, SA, nA, jA⟩
      obtain ⟨⟨iF, hiF, hlF⟩, _⟩ := id SA.L
      refine ⟨_, rfl, g, l, 7, rfl, SA.B, by decide, by decide, fun cn HB c0 c1 BB KB => ?_⟩
      have SB := SA.kp KB BB
      obtain ⟨xs0, hg0⟩ := SA.B.lst
      have hlB := KB _ _ hlF SA.L.n1
      dsimp only [gName, List.set, tSeq]
      refine ⟨_, rfl, rfl, _, rfl, if_dec (fun z0 => ?_) (fun z0 => ?_)⟩
      · obtain ⟨⟨dxb, hbB⟩, _⟩ := id SB.hB
        have hnone : atE es' 999999 5 = none := atE_none fun u hu e => by
          have rg := (SB.G.rg u hu).2.2.1
          have := congrArg Prod.fst e
          dsimp only at this
          omega
        refine ⟨_, rfl, b, dxb, _, rfl, hbB, rfl, b, dd', es', _, _, rfl, SB.hB, fun hs => ?_, fun _ x HC sC hx => ?_⟩
        · rw [hnone] at hs
          cases hs
        · have SC := SB.same sC
          exact kE _ _ dd' es' j' HC SC.k SC.B SC.hB SC.L (by omega) SC.tb (.inl ⟨rfl, x, rfl, hx⟩)
      · dsimp only [tNext, tSeq]
        refine ⟨_, rfl, rfl, _, rfl, if_dec (fun z1 => ?_) (fun z1 => ?_)⟩
        · obtain ⟨_, ⟨ys, h0B, ysn, ysl⟩, _⟩ := id SB.L
          dsimp only [tSeq]
          refine ⟨_, rfl, lg, _, 0, _, rfl, rfl, SqL.of hlB, atI_nat (j := 0) rfl, .inl ⟨rfl, _, SqL.of h0B⟩, _, rfl, l0, ys, _, rfl, rfl, h0B, Nat.lt_of_le_of_lt (by omega : _ ≤ 400) (by decide), ?_⟩
          have SC := SB.app0 (V.int m) h0B
          exact ⟨by decide, fun d => kE _ d dd' es' (j' + 1) _ SC.k SC.B SC.hB SC.L (by omega) SC.tb (.inr (.inl ⟨rfl, ys, upd_same⟩))⟩
        · dsimp only [tNext, tSeq]
          refine ⟨_, rfl, rfl, _, rfl, if_dec (fun z2 => ?_) (fun z2 => ?_)⟩
          · exact ⟨_, rfl, _, rfl, _, _, rfl, rfl, 1, rfl, congrArg V.int (Int.sub_self _), fun d σ => kE _ d dd' es' j' HB SB.k SB.B SB.hB SB.L (by omega) SB.tb (.inr (.inr rfl))⟩
          · dsimp only [tNext, tSeq]
            have lB : (V.ref l0 :: List.replicate iF (V.bl true)).length < sizeLine := by
              rw [List.length_cons, List.length_replicate]
              exact Nat.lt_of_le_of_lt (by omega : _ ≤ 400) (by decide)
            refine ⟨_, rfl, .inl ⟨rfl, _, SqL.of hlB⟩, _, rfl, b, dd', es', rfl, SB.hB, SB.G.kn, by have := SB.G.le; omega, fun pB usB HC sC npB KnB enB => ⟨Nat.zero_le _, fun e1 he1 => ⟨pB, e1, _, rfl, rfl, SqL.of ((Same.new he1) _ _ KnB.1), SqL.of upd_same, ?_⟩⟩⟩
            have sD := sC.trans (Same.new (o := .lst []) he1)
            have SD := SB.same sD
            have hlD := sD _ _ hlB
            have SE := SD.app hlD
            cases usB with
            | cons u0 us0 =>
              refine ⟨true, rfl, ?_⟩
              rw [if_pos rfl]
              exact ⟨lg, _, _, rfl, rfl, hlD, lB, _, rfl, kQ dd' es' (j' + 1) _ SE.k SE.B SE.hB SE.L (by omega) SE.tb⟩
            | nil =>
              have ez : es' = [] := by
                have := congrArg List.length enB
                rw [List.length_map, (srtE_perm es').length_eq] at this
                exact List.eq_nil_of_length_eq_zero this.symm
              subst ez
              obtain ⟨⟨dxD, hbD⟩, _⟩ := id SD.hB
              refine ⟨false, rfl, ?_⟩
              rw [if_neg (by decide)]
              exact ⟨_, rfl, b, dxD, _, rfl, hbD, b, dd', [], rfl, SD.hB, _, rfl, by decide, by decide, rfl, lg, _, _, rfl, rfl, hlD, lB, _, rfl, kQ dd' [] (j' + 1) _ SE.k SE.B SE.hB SE.L (by omega) SE.tb⟩
end

/-! ### _law_trial_right -/
/-! ### a law that holds a lambda -/
section
variable {P : Program} {w : World} {K : PySem.W.Frag} {mg : Str → Option Value} {base : Heap} {A : Ad}
/-- a def whose code object is told -/
theorem fun_okC {x qual : Str} {st : Stmt} {f : Addr} {fd : FuncData} {N ps : List Str} {k : Nat} {sp : Sp} (F : Fun K x qual st f fd) (S : FnScope N ps (defScope st)) (len : ∀ vs H Q E, sp vs H Q E → vs.length = ps.length)
    (hbody : ∀ (cdv : Value) (A : Around) (outer : List Env) (s : Shared) (H : Hp) (vs : List V) (Q : VK) (E : XK), fd.code = cdv → Room k (A.deeper (PyProof.Rows.envOfC qual (defScope st) s.heap.objs.size f cdv)) → sp vs H Q E →
      ∃ t, PSs (cxOf CX0 P w K mg base N qual (defScope st) f cdv A outer s H E).nox (defBody st) t ∧ t { nx := fun _ H' => Q .non H', rt := Q } (L2.start N vs) H) : FnOk P w K mg base CX0 (k + 1) f fd ps sp := by
  obtain ⟨oc, od, kV, doc, pm, an, cdv, ct, osl, rfl, lk, hcd⟩ := F.ex
  refine fn_of lk hcd S len fun A outer s H vs Q E hr hsp => ?_
  obtain ⟨t, h, q⟩ := hbody cdv A outer s H vs Q E rfl hr hsp
  exact ⟨t, h.nox, q⟩
end
def spLawT (K : PySem.W.Frag) (pA : Addr) : Sp := fun vs H Q _ => ∃ (a : Addr) (ns : List Int), vs = [.ref a] ∧ SqL K H a (ns.map V.int) ∧ ns.length ≤ 63 ∧ H pA = some (.tbl #[]) ∧ ∀ H', Q (.bl true) H'

/-! ### try with several clauses `except X as n` (one name for all) -/
section
open PySem.Spec PyProof.Rows
/-- the ways out of a suite, behind which slot i holds nothing -/
def offI (i : Nat) (D : Ends) : Ends := { nx := fun τ h => D.nx (τ.set i none) h, rt := D.rt, bk := fun τ h => D.bk (τ.set i none) h, ct := fun τ h => D.ct (τ.set i none) h }
/-- what the clauses wish of an exception of the body -/
def wClauses (K : PySem.W.Frag) (i : Nat) (Wo : WX) (D : Ends) : List (Value × (Addr → Value → Option Addr → TS)) → WX
  | [] => Wo
  | cl :: more => fun c d τ h => ∃ b, PySem.W.exmOne K c cl.1 = some b ∧ (b = true → ∀ a, h a = none → cl.2 a c d (offI i D) (τ.set i (some (.ref a))) h) ∧ (b = false → wClauses K i Wo D more c d τ h)
inductive Clauses (X : Cx) (n : Str) : List ExceptHandler → List (Value × (Addr → Value → Option Addr → TS)) → Prop
  | done : Clauses X n [] []
  | more {x : Str} {cv : Value} {ts : Addr → Value → Option Addr → TS} {b0 : Stmt} {su : List Stmt} {p1 p2 : Pos} {hs : List ExceptHandler} {l : List (Value × (Addr → Value → Option Addr → TS))} (nm : Names X x cv)
      (rd : ∀ (a : Addr) (oe : Obj) (c : Value) (d : Option Addr) (pn : List (Addr × Obj)), Zc c d oe → (∃ vs, oe.data = .fields vs) → PSs (X.suite a ((a, oe) :: pn)) (b0 :: su) (ts a c d)) (rest : Clauses X n hs l) :
      Clauses X n (.ExceptHandler (some (.Name x p1)) (some n) (b0 :: su) p2 :: hs) ((cv, ts) :: l)
section
variable {X : Cx} {n : Str} {i : Nat} {body : List Stmt} {h1 : ExceptHandler} {hs : List ExceptHandler} {l : List (Value × (Addr → Value → Option Addr → TS))} {pos : Pos} {tb : WX → TS} {Wo : WX}
theorem ps_tryAs (est : X.stack = X.env :: X.outer) (efr : X.env.frame = some X.env.locals) (nd : X.N.Nodup) (at_i : X.N[i]? = some n) (kd : X.env.kindOf n = some .local) (tk : Takes X Wo)
    (hb : ∀ (W : WX) (pn : List (Addr × Obj)) (xe : Value → Shared → Prop), Takes (X.tr pn xe) W → PassesOwn (model X.prog X.w) X.A X.env xe → PSs (X.tr pn xe) body (tb W))
    (cs : Clauses X n (h1 :: hs) l) : PS X (.Try body (h1 :: hs) [] [] pos) (fun D τ H => tb (wClauses X.K i Wo D l) D τ H) := by
  refine ⟨fun pins s τ H D I rdg => ?_⟩
  have okI := I.ok; have frs1 : X.A.frames = some (X.env :: X.outer) := by rw [okI.frames, est]
  have lc : Loc X.env.scope n := .inl kd
  refine wpAny_Try_except ?_; refine wpAny_mono ((hb (wClauses X.K i Wo D l) (X.pn ++ pins) (fun e s₁ => wpAny (model X.prog X.w) X.A (noteFrame e X.env) (fun _ s₂ => wpAny (model X.prog X.w) X.A (setFlight e none) (fun _ s₃ => wpAny (model X.prog X.w) X.A (handleBy e X.env (h1 :: hs)) (SP X pins D) X.xe s₃) X.xe s₂) X.xe s₁) (fun u s' caught => ?_) PassesOwn.looking).run [] s τ H D (I.toTry _) rdg) (fun f s1 fin => ?_) (fun e s1 out => out)
  · obtain ⟨a, B, sI, pins', τ', H', c, d, rfl, J', nb, up, sky, na, os, ag, wsh⟩ := caught
    have J : Inv X pins τ' H' sI := J'.ofTry okI
    have sky1 : Sky B (X.env :: X.outer) a (Zc c d) X.env.locals s'.heap := by rw [← est]; exact sky
    show wpAny (model X.prog X.w) X.A (noteFrame (.ref a) X.env) _ _ _; refine Sky.land Zc.steady frs1 efr sky1 fun g fl ug => ?_
    have Jg : Inv X pins τ' H' { s' with heap := g } := J.landed nb fl.1 (up.trans ug) os ag
    obtain ⟨o3, v3, at3, z3, d3⟩ := fl.there
    have off : ∀ {k : Heap} {o : Obj} {vs : Array Value}, k.FunFrames B (X.env :: X.outer) → k.get? a = some o → o.data = .fields vs → a ∉ frs (X.env :: X.outer) := fun {k o vs} ff e dd hm => by
      obtain ⟨_, o', e', hnf⟩ := ff.mem hm
      rw [e] at e'; cases e'; exact hnf _ dd
    have nfr := off fl.2.2.1 at3 d3
    have nL : a ≠ X.env.locals := fun z => nfr (List.mem_filterMap.mpr ⟨X.env, List.mem_cons_self, by rw [efr, z]⟩)
    have nF : a ∉ X.fs := fun hm => by
      obtain ⟨e, he, q⟩ := List.mem_filterMap.mp hm
      exact nfr (List.mem_filterMap.mpr ⟨e, List.mem_cons_of_mem _ he, q⟩)
    have Sg := Jg.suite at3 d3 na nL nF
    have go : ∀ {hs' : List ExceptHandler} {l' : List (Value × (Addr → Value → Option Addr → TS))}, Clauses X n hs' l' → wClauses X.K i Wo D l' c d τ' H' → wpAny (model X.prog X.w) X.A (handleBy (.ref a) X.env hs') (SP X pins D) X.xe { s' with heap := g } := by
      intro hs' l' hk
      induction hk with
      | done =>
        intro wsh
        refine wpAny_handleBy_nil ?_
        obtain ⟨k1, k2, k3, oe, vs, F, oF, ts', he, hz, hd, hf1, hr⟩ := id fl
        unfold PySem.passOn; refine wpAny_bind (wpAny_field he hd hf1 ?_); rw [if_neg (show ¬ ((Value.ref F == Value.none) = true) from by simp)]
        have last : wpAny (model X.prog X.w) X.A (setFlight (.ref a) X.env.frame) (fun _ s4 => wpAny (model X.prog X.w) X.A (throw (.ref a) : Sem Flow) (SP X pins D) X.xe s4) X.xe { s' with heap := g } := by
          rw [efr]; refine HandSPX.setFlight_upZ fl fun h4 hh4 up4 => wpAny_throw (tk _ _ ?_)
          exact ⟨a, B, sI, pins, τ', H', c, d, rfl, J, nb, (up.trans ug).trans up4, .inr (.inr (by rw [est]; exact hh4)), na, os, ag, wsh⟩
        first | exact wpAny_bind (wpAny_pure (wpAny_bind last)) | exact wpAny_bind last
      | @more x cv ts b0 su p1 p2 hs2 l2 nm rd rest ih =>
        intro wsh
        obtain ⟨b, eb, yes, no⟩ := wsh
        refine wpAny_handleBy_cons (codeAny_handlers_test ?_) (by intro q; cases q)
        have LT : PySem.W.Looks (model X.prog X.w) g (typeOf (.ref a)) c := fun A Q E s k q => wpAny_typeOf_ref (k _ _ at3) (by rw [z3.1]; exact q)
        have LM := PySem.W.exm_one (M := model X.prog X.w) (Jg.kIn) LT eb
        have ask : ∀ {Q : Value → Shared → Prop} {E : Value → Shared → Prop}, Q cv { s' with heap := g } → wpAny (model X.prog X.w) (X.A.mark (some (.ref a))) (eval (.Name x p1) X.env) Q E { s' with heap := g } := fun {Q E} q => by
          obtain ⟨hg, hdbg, hm | ⟨hm, hv, hnn⟩⟩ := nm
          · exact ld_glob (X := X.suite a ((a, o3) :: (X.pn ++ pins))) Sg hg hm q hdbg
          · exact ld_blt (X := X.suite a ((a, o3) :: (X.pn ++ pins))) Sg hg hm hv q hnn hdbg
        refine ask (LM.here ?_)
        cases b with
        | true =>
          refine codeAny_handlers_suite_as ?_; refine HandSPX.lands_againZ fl fun h4 fl4 up4 => ?_
          have J4 : Inv X pins τ' H' { s' with heap := h4 } := J.landed nb fl4.1 ((up.trans ug).trans up4) os ag
          obtain ⟨o4, v4, at4, z4, d4⟩ := fl4.there
          have S4 := J4.suite at4 d4 na nL nF
          refine store_ok (X := X.suite a ((a, o4) :: (X.pn ++ pins))) (v := .ref a) S4 nd at_i lc rfl (fun s5 S5 => ?_) (.inr kd)
          refine wpAny_mono ((rd a o4 c d (X.pn ++ pins) z4 ⟨_, d4⟩).run [] s5 _ H' _ S5 (yes rfl a na)) (fun f s6 q => ?_) (fun _ _ z => False.elim z)
          have fin6 : ∀ {σ6 : L2.St} {H6 : Hp} {Q : Shared → Prop}, Inv (X.suite a ((a, o4) :: (X.pn ++ pins))) [] σ6 H6 s6 → (∀ s7, Inv X pins (σ6.set i none) H6 s7 → Q s7) → wpAny (model X.prog X.w) X.A (do bindName X.env n .none; unbindBehindTheSuite X.env n p2) (fun _ s7 => Q s7) X.xe s6 := fun {σ6 H6 Q} S6 hq => gone_ok (S6.unsuite okI) nd at_i kd hq
          cases f with
          | next =>
            obtain ⟨σ6, H6, S6, q6⟩ := q
            exact fin6 S6 fun s7 J7 => ⟨_, _, J7, q6⟩
          | brk =>
            obtain ⟨σ6, H6, S6, q6⟩ := q
            exact fin6 S6 fun s7 J7 => ⟨_, _, J7, q6⟩
          | cont =>
            obtain ⟨σ6, H6, S6, q6⟩ := q
            exact fin6 S6 fun s7 J7 => ⟨_, _, J7, q6⟩
          | ret u =>
            obtain ⟨v6, σ6, H6, S6, r6, q6⟩ := q
            exact fin6 S6 fun s7 J7 => ⟨_, _, _, J7, r6, q6⟩
        | false =>
          show wpAny _ X.A (handleBy (.ref a) X.env hs2) _ _ _
          exact ih (no rfl)
    exact go cs wsh
  · cases f with
    | next =>
      obtain ⟨τ', H', J', q⟩ := fin
      exact wpAny_execs_nil ⟨τ', H', J'.ofTry okI, q⟩
    | brk =>
      obtain ⟨τ', H', J', q⟩ := fin
      exact ⟨τ', H', J'.ofTry okI, q⟩
    | cont =>
      obtain ⟨τ', H', J', q⟩ := fin
      exact ⟨τ', H', J'.ofTry okI, q⟩
    | ret u =>
      obtain ⟨v, τ', H', J', r, q⟩ := fin
      exact ⟨v, τ', H', J'.ofTry okI, r, q⟩
end
section
variable {X : Cx} {x1 x2 n : Str} {c1 c2 : Value} {i : Nat} {body su1 su2 : List Stmt} {b1 b2 : Stmt} {p1 p2 p3 p4 pos : Pos} {Wo : WX} {tb : WX → List (Addr × Obj) → (Value → Shared → Prop) → TS} {t1 t2 : Addr → Obj → Value → Option Addr → List (Addr × Obj) → TS}
/-- try: .. except x1 as n: .. except x2 as n: .., the readings free of what they can't hang on -/
theorem ps_try2V (est : X.stack = X.env :: X.outer) (efr : X.env.frame = some X.env.locals) (nd : X.N.Nodup) (at_i : X.N[i]? = some n) (kd : X.env.kindOf n = some .local) (hc1 : Names X x1 c1) (hc2 : Names X x2 c2) (tk : Takes X Wo)
    (hb : ∀ (W : WX) (pn : List (Addr × Obj)) (xe : Value → Shared → Prop), Takes (X.tr pn xe) W → PassesOwn (model X.prog X.w) X.A X.env xe → PSs (X.tr pn xe) body (tb W pn xe))
    (r1 : ∀ (a : Addr) (oe : Obj) (c : Value) (d : Option Addr) (pn : List (Addr × Obj)), Zc c d oe → (∃ vs, oe.data = .fields vs) → PSs (X.suite a ((a, oe) :: pn)) (b1 :: su1) (t1 a oe c d pn))
    (r2 : ∀ (a : Addr) (oe : Obj) (c : Value) (d : Option Addr) (pn : List (Addr × Obj)), Zc c d oe → (∃ vs, oe.data = .fields vs) → PSs (X.suite a ((a, oe) :: pn)) (b2 :: su2) (t2 a oe c d pn))
    (e1 : ∀ W pn xe, tb W pn xe = tb W [] (fun _ _ => False)) (e2 : ∀ a oe c d pn, t1 a oe c d pn = t1 a oe0 c d []) (e3 : ∀ a oe c d pn, t2 a oe c d pn = t2 a oe0 c d []) :
    PS X (.Try body [.ExceptHandler (some (.Name x1 p1)) (some n) (b1 :: su1) p2, .ExceptHandler (some (.Name x2 p3)) (some n) (b2 :: su2) p4] [] [] pos) (fun D σ H => tb (wClauses X.K i Wo D [(c1, fun a c d => t1 a oe0 c d []), (c2, fun a c d => t2 a oe0 c d [])]) [] (fun _ _ => False) D σ H) :=
  ps_tryAs (tb := fun W => tb W [] (fun _ _ => False)) est efr nd at_i kd tk (fun W pn xe k po => by rw [← e1 W pn xe]; exact hb W pn xe k po)
    (.more hc1 (fun a oe c d pn z f => by rw [← e2 a oe c d pn]; exact r1 a oe c d pn z f) (.more hc2 (fun a oe c d pn z f => by rw [← e3 a oe c d pn]; exact r2 a oe c d pn z f) .done))
end
end

/-! ### try with clauses with and without a name; what stands behind the told ones is never reached -/
section
open PySem.Spec PyProof.Rows
def wClausesU (K : PySem.W.Frag) (i : Nat) (D : Ends) : List (Value × Bool × (Addr → Value → Option Addr → TS)) → WX
  | [] => fun _ _ _ _ => False
  | cl :: more => fun c d τ h => ∃ b, PySem.W.exmOne K c cl.1 = some b ∧ (b = true → ∀ a, h a = none → cond cl.2.1 (cl.2.2 a c d (offI i D) (τ.set i (some (.ref a))) h) (cl.2.2 a c d D τ h)) ∧ (b = false → wClausesU K i D more c d τ h)
inductive ClausesU (X : Cx) (n : Str) : List ExceptHandler → List (Value × Bool × (Addr → Value → Option Addr → TS)) → Prop
  | done {hs : List ExceptHandler} : ClausesU X n hs []
  | more {x : Str} {cv : Value} {ts : Addr → Value → Option Addr → TS} {b0 : Stmt} {su : List Stmt} {p1 p2 : Pos} {hs : List ExceptHandler} {l : List (Value × Bool × (Addr → Value → Option Addr → TS))} (nm : Names X x cv)
      (rd : ∀ (a : Addr) (oe : Obj) (c : Value) (d : Option Addr) (pn : List (Addr × Obj)), Zc c d oe → (∃ vs, oe.data = .fields vs) → PSs (X.suite a ((a, oe) :: pn)) (b0 :: su) (ts a c d)) (rest : ClausesU X n hs l) :
      ClausesU X n (.ExceptHandler (some (.Name x p1)) (some n) (b0 :: su) p2 :: hs) ((cv, true, ts) :: l)
  | moreU {x : Str} {cv : Value} {ts : Addr → Value → Option Addr → TS} {b0 : Stmt} {su : List Stmt} {p1 p2 : Pos} {hs : List ExceptHandler} {l : List (Value × Bool × (Addr → Value → Option Addr → TS))} (nm : Names X x cv)
      (rd : ∀ (a : Addr) (oe : Obj) (c : Value) (d : Option Addr) (pn : List (Addr × Obj)), Zc c d oe → (∃ vs, oe.data = .fields vs) → PSs (X.suite a ((a, oe) :: pn)) (b0 :: su) (ts a c d)) (rest : ClausesU X n hs l) :
      ClausesU X n (.ExceptHandler (some (.Name x p1)) none (b0 :: su) p2 :: hs) ((cv, false, ts) :: l)
theorem ClausesU.moreV {X : Cx} {n x : Str} {cv : Value} {t : Addr → Obj → Value → Option Addr → List (Addr × Obj) → TS} {b0 : Stmt} {su : List Stmt} {p1 p2 : Pos} {hs : List ExceptHandler} {l : List (Value × Bool × (Addr → Value → Option Addr → TS))} (nm : Names X x cv)
    (rd : ∀ (a : Addr) (oe : Obj) (c : Value) (d : Option Addr) (pn : List (Addr × Obj)), Zc c d oe → (∃ vs, oe.data = .fields vs) → PSs (X.suite a ((a, oe) :: pn)) (b0 :: su) (t a oe c d pn)) (e : ∀ a oe c d pn, t a oe c d pn = t a oe0 c d []) (rest : ClausesU X n hs l) :
    ClausesU X n (.ExceptHandler (some (.Name x p1)) (some n) (b0 :: su) p2 :: hs) ((cv, true, fun a c d => t a oe0 c d []) :: l) :=
  .more nm (fun a oe c d pn z f => by rw [← e a oe c d pn]; exact rd a oe c d pn z f) rest
theorem ClausesU.moreUV {X : Cx} {n x : Str} {cv : Value} {t : Addr → Obj → Value → Option Addr → List (Addr × Obj) → TS} {b0 : Stmt} {su : List Stmt} {p1 p2 : Pos} {hs : List ExceptHandler} {l : List (Value × Bool × (Addr → Value → Option Addr → TS))} (nm : Names X x cv)
    (rd : ∀ (a : Addr) (oe : Obj) (c : Value) (d : Option Addr) (pn : List (Addr × Obj)), Zc c d oe → (∃ vs, oe.data = .fields vs) → PSs (X.suite a ((a, oe) :: pn)) (b0 :: su) (t a oe c d pn)) (e : ∀ a oe c d pn, t a oe c d pn = t a oe0 c d []) (rest : ClausesU X n hs l) :
    ClausesU X n (.ExceptHandler (some (.Name x p1)) none (b0 :: su) p2 :: hs) ((cv, false, fun a c d => t a oe0 c d []) :: l) :=
  .moreU nm (fun a oe c d pn z f => by rw [← e a oe c d pn]; exact rd a oe c d pn z f) rest
section
variable {X : Cx} {n : Str} {i : Nat} {body : List Stmt} {h1 : ExceptHandler} {hs : List ExceptHandler} {l : List (Value × Bool × (Addr → Value → Option Addr → TS))} {pos : Pos} {tb : WX → TS}
theorem ps_tryU (est : X.stack = X.env :: X.outer) (efr : X.env.frame = some X.env.locals) (nd : X.N.Nodup) (at_i : X.N[i]? = some n) (kd : X.env.kindOf n = some .local)
    (hb : ∀ (W : WX) (pn : List (Addr × Obj)) (xe : Value → Shared → Prop), Takes (X.tr pn xe) W → PassesOwn (model X.prog X.w) X.A X.env xe → PSs (X.tr pn xe) body (tb W))
    (cs : ClausesU X n (h1 :: hs) l) : PS X (.Try body (h1 :: hs) [] [] pos) (fun D τ H => tb (wClausesU X.K i D l) D τ H) := by
  refine ⟨fun pins s τ H D I rdg => ?_⟩
  have okI := I.ok; have frs1 : X.A.frames = some (X.env :: X.outer) := by rw [okI.frames, est]
  have lc : Loc X.env.scope n := .inl kd
  refine wpAny_Try_except ?_; refine wpAny_mono ((hb (wClausesU X.K i D l) (X.pn ++ pins) (fun e s₁ => wpAny (model X.prog X.w) X.A (noteFrame e X.env) (fun _ s₂ => wpAny (model X.prog X.w) X.A (setFlight e none) (fun _ s₃ => wpAny (model X.prog X.w) X.A (handleBy e X.env (h1 :: hs)) (SP X pins D) X.xe s₃) X.xe s₂) X.xe s₁) (fun u s' caught => ?_) PassesOwn.looking).run [] s τ H D (I.toTry _) rdg) (fun f s1 fin => ?_) (fun e s1 out => out)
  · obtain ⟨a, B, sI, pins', τ', H', c, d, rfl, J', nb, up, sky, na, os, ag, wsh⟩ := caught
    have J : Inv X pins τ' H' sI := J'.ofTry okI
    have sky1 : Sky B (X.env :: X.outer) a (Zc c d) X.env.locals s'.heap := by rw [← est]; exact sky
    show wpAny (model X.prog X.w) X.A (noteFrame (.ref a) X.env) _ _ _; refine Sky.land Zc.steady frs1 efr sky1 fun g fl ug => ?_
    have Jg : Inv X pins τ' H' { s' with heap := g } := J.landed nb fl.1 (up.trans ug) os ag
    obtain ⟨o3, v3, at3, z3, d3⟩ := fl.there
    have off : ∀ {k : Heap} {o : Obj} {vs : Array Value}, k.FunFrames B (X.env :: X.outer) → k.get? a = some o → o.data = .fields vs → a ∉ frs (X.env :: X.outer) := fun {k o vs} ff e dd hm => by
      obtain ⟨_, o', e', hnf⟩ := ff.mem hm
      rw [e] at e'; cases e'; exact hnf _ dd
    have nfr := off fl.2.2.1 at3 d3
    have nL : a ≠ X.env.locals := fun z => nfr (List.mem_filterMap.mpr ⟨X.env, List.mem_cons_self, by rw [efr, z]⟩)
    have nF : a ∉ X.fs := fun hm => by
      obtain ⟨e, he, q⟩ := List.mem_filterMap.mp hm
      exact nfr (List.mem_filterMap.mpr ⟨e, List.mem_cons_of_mem _ he, q⟩)
    have Sg := Jg.suite at3 d3 na nL nF
    have go : ∀ {hs' : List ExceptHandler} {l' : List (Value × Bool × (Addr → Value → Option Addr → TS))}, ClausesU X n hs' l' → wClausesU X.K i D l' c d τ' H' → wpAny (model X.prog X.w) X.A (handleBy (.ref a) X.env hs') (SP X pins D) X.xe { s' with heap := g } := by
      intro hs' l' hk
      induction hk with
      | done =>
        intro wsh
        exact wsh.elim
      | @more x cv ts b0 su p1 p2 hs2 l2 nm rd rest ih =>
        intro wsh
        obtain ⟨b, eb, yes, no⟩ := wsh
        refine wpAny_handleBy_cons (codeAny_handlers_test ?_) (by intro q; cases q)
        have LT : PySem.W.Looks (model X.prog X.w) g (typeOf (.ref a)) c := fun A Q E s k q => wpAny_typeOf_ref (k _ _ at3) (by rw [z3.1]; exact q)
        have LM := PySem.W.exm_one (M := model X.prog X.w) (Jg.kIn) LT eb
        have ask : ∀ {Q : Value → Shared → Prop} {E : Value → Shared → Prop}, Q cv { s' with heap := g } → wpAny (model X.prog X.w) (X.A.mark (some (.ref a))) (eval (.Name x p1) X.env) Q E { s' with heap := g } := fun {Q E} q => by
          obtain ⟨hg, hdbg, hm | ⟨hm, hv, hnn⟩⟩ := nm
          · exact ld_glob (X := X.suite a ((a, o3) :: (X.pn ++ pins))) Sg hg hm q hdbg
          · exact ld_blt (X := X.suite a ((a, o3) :: (X.pn ++ pins))) Sg hg hm hv q hnn hdbg
        refine ask (LM.here ?_)
        cases b with
        | true =>
          refine codeAny_handlers_suite_as ?_; refine HandSPX.lands_againZ fl fun h4 fl4 up4 => ?_
          have J4 : Inv X pins τ' H' { s' with heap := h4 } := J.landed nb fl4.1 ((up.trans ug).trans up4) os ag
          obtain ⟨o4, v4, at4, z4, d4⟩ := fl4.there
          have S4 := J4.suite at4 d4 na nL nF
          refine store_ok (X := X.suite a ((a, o4) :: (X.pn ++ pins))) (v := .ref a) S4 nd at_i lc rfl (fun s5 S5 => ?_) (.inr kd)
          refine wpAny_mono ((rd a o4 c d (X.pn ++ pins) z4 ⟨_, d4⟩).run [] s5 _ H' _ S5 (yes rfl a na)) (fun f s6 q => ?_) (fun _ _ z => False.elim z)
          have fin6 : ∀ {σ6 : L2.St} {H6 : Hp} {Q : Shared → Prop}, Inv (X.suite a ((a, o4) :: (X.pn ++ pins))) [] σ6 H6 s6 → (∀ s7, Inv X pins (σ6.set i none) H6 s7 → Q s7) → wpAny (model X.prog X.w) X.A (do bindName X.env n .none; unbindBehindTheSuite X.env n p2) (fun _ s7 => Q s7) X.xe s6 := fun {σ6 H6 Q} S6 hq => gone_ok (S6.unsuite okI) nd at_i kd hq
          cases f with
          | next =>
            obtain ⟨σ6, H6, S6, q6⟩ := q
            exact fin6 S6 fun s7 J7 => ⟨_, _, J7, q6⟩
          | brk =>
            obtain ⟨σ6, H6, S6, q6⟩ := q
            exact fin6 S6 fun s7 J7 => ⟨_, _, J7, q6⟩
          | cont =>
            obtain ⟨σ6, H6, S6, q6⟩ := q
            exact fin6 S6 fun s7 J7 => ⟨_, _, J7, q6⟩
          | ret u =>
            obtain ⟨v6, σ6, H6, S6, r6, q6⟩ := q
            exact fin6 S6 fun s7 J7 => ⟨_, _, _, J7, r6, q6⟩
        | false =>
          show wpAny _ X.A (handleBy (.ref a) X.env hs2) _ _ _
          exact ih (no rfl)
      | @moreU x cv ts b0 su p1 p2 hs2 l2 nm rd rest ih =>
        intro wsh
        obtain ⟨b, eb, yes, no⟩ := wsh
        refine wpAny_handleBy_cons (codeAny_handlers_test ?_) (by intro q; cases q)
        have LT : PySem.W.Looks (model X.prog X.w) g (typeOf (.ref a)) c := fun A Q E s k q => wpAny_typeOf_ref (k _ _ at3) (by rw [z3.1]; exact q)
        have LM := PySem.W.exm_one (M := model X.prog X.w) (Jg.kIn) LT eb
        have ask : ∀ {Q : Value → Shared → Prop} {E : Value → Shared → Prop}, Q cv { s' with heap := g } → wpAny (model X.prog X.w) (X.A.mark (some (.ref a))) (eval (.Name x p1) X.env) Q E { s' with heap := g } := fun {Q E} q => by
          obtain ⟨hg, hdbg, hm | ⟨hm, hv, hnn⟩⟩ := nm
          · exact ld_glob (X := X.suite a ((a, o3) :: (X.pn ++ pins))) Sg hg hm q hdbg
          · exact ld_blt (X := X.suite a ((a, o3) :: (X.pn ++ pins))) Sg hg hm hv q hnn hdbg
        refine ask (LM.here ?_)
        cases b with
        | true =>
          refine codeAny_handlers_suite ?_
          refine HandSPX.lands_againZ fl fun h4 fl4 up4 => ?_
          have J4 : Inv X pins τ' H' { s' with heap := h4 } := J.landed nb fl4.1 ((up.trans ug).trans up4) os ag
          obtain ⟨o4, v4, at4, z4, d4⟩ := fl4.there
          have S4 := J4.suite at4 d4 na nL nF
          refine wpAny_mono ((rd a o4 c d (X.pn ++ pins) z4 ⟨_, d4⟩).run [] _ _ H' _ S4 (yes rfl a na)) (fun f s6 q => ?_) (fun _ _ z => False.elim z)
          cases f with
          | next =>
            obtain ⟨σ6, H6, S6, q6⟩ := q
            exact ⟨_, _, S6.unsuite okI, q6⟩
          | brk =>
            obtain ⟨σ6, H6, S6, q6⟩ := q
            exact ⟨_, _, S6.unsuite okI, q6⟩
          | cont =>
            obtain ⟨σ6, H6, S6, q6⟩ := q
            exact ⟨_, _, S6.unsuite okI, q6⟩
          | ret u =>
            obtain ⟨v6, σ6, H6, S6, r6, q6⟩ := q
            exact ⟨_, _, _, S6.unsuite okI, r6, q6⟩
        | false =>
          show wpAny _ X.A (handleBy (.ref a) X.env hs2) _ _ _
          exact ih (no rfl)
    exact go cs wsh
  · cases f with
    | next =>
      obtain ⟨τ', H', J', q⟩ := fin
      exact wpAny_execs_nil ⟨τ', H', J'.ofTry okI, q⟩
    | brk =>
      obtain ⟨τ', H', J', q⟩ := fin
      exact ⟨τ', H', J'.ofTry okI, q⟩
    | cont =>
      obtain ⟨τ', H', J', q⟩ := fin
      exact ⟨τ', H', J'.ofTry okI, q⟩
    | ret u =>
      obtain ⟨v, τ', H', J', r, q⟩ := fin
      exact ⟨v, τ', H', J'.ofTry okI, r, q⟩
end
section
variable {X : Cx} {n : Str} {i : Nat} {body : List Stmt} {h1 : ExceptHandler} {hs : List ExceptHandler} {l : List (Value × Bool × (Addr → Value → Option Addr → TS))} {pos : Pos} {tb : WX → List (Addr × Obj) → (Value → Shared → Prop) → TS}
theorem ps_tryUV (est : X.stack = X.env :: X.outer) (efr : X.env.frame = some X.env.locals) (nd : X.N.Nodup) (at_i : X.N[i]? = some n) (kd : X.env.kindOf n = some .local)
    (hb : ∀ (W : WX) (pn : List (Addr × Obj)) (xe : Value → Shared → Prop), Takes (X.tr pn xe) W → PassesOwn (model X.prog X.w) X.A X.env xe → PSs (X.tr pn xe) body (tb W pn xe)) (e1 : ∀ W pn xe, tb W pn xe = tb W [] (fun _ _ => False))
    (cs : ClausesU X n (h1 :: hs) l) : PS X (.Try body (h1 :: hs) [] [] pos) (fun D σ H => tb (wClausesU X.K i D l) [] (fun _ _ => False) D σ H) :=
  ps_tryU (tb := fun W => tb W [] (fun _ _ => False)) est efr nd at_i kd (fun W pn xe k po => by rw [← e1 W pn xe]; exact hb W pn xe k po) cs
end
end

section
variable {P : Program} {w : World} {K : PySem.W.Frag} {mg : Str → Option Value} {base : Heap} {A : Ad}
theorem xf_NoEntry34 (T : Txt K mg A) : XfC K A.NoEntry := ⟨T.xg_NoEntry, T.xk_NoEntry, T.eb_NoEntry, T.eh_NoEntry⟩
/-- the answers among which the trial picks -/
def Ans34 (q : Addr) (av : V) : Prop := av = .non ∨ av = .int 0 ∨ av = .bl false ∨ av = .str (Str.ofString "answer") ∨ av = .ref q
theorem ans34 {q : Addr} {c : Int} (c0 : 0 ≤ c) (c1 : c < 5) : ∃ av, atI [V.non, .int 0, .bl false, .str (Str.ofString "answer"), .ref q] c = some av ∧ Ans34 q av := by
  have : c = 0 ∨ c = 1 ∨ c = 2 ∨ c = 3 ∨ c = 4 := by omega
  rcases this with rfl | rfl | rfl | rfl | rfl
  · exact ⟨_, atI_nat (j := 0) rfl, .inl rfl⟩
  · exact ⟨_, atI_nat (j := 1) rfl, .inr (.inl rfl)⟩
  · exact ⟨_, atI_nat (j := 2) rfl, .inr (.inr (.inl rfl))⟩
  · exact ⟨_, atI_nat (j := 3) rfl, .inr (.inr (.inr (.inl rfl)))⟩
  · exact ⟨_, atI_nat (j := 4) rfl, .inr (.inr (.inr (.inr rfl)))⟩
theorem dl_ans {q : Addr} {av : V} {m : Nat} {H : Hp} (h : Ans34 q av) (hq : H q = some (.lst [V.int m])) : ∃ d, DL K H av d 1 := by
  rcases h with rfl | rfl | rfl | rfl | rfl
  · exact ⟨_, .non, rfl, Nat.zero_le _⟩
  · exact ⟨_, .int 0, rfl, Nat.zero_le _⟩
  · exact ⟨_, .bl false, rfl, Nat.zero_le _⟩
  · exact ⟨_, .str _, rfl, Nat.zero_le _⟩
  · exact ⟨.list [.int m], .lst (SqL.of hq) (.cons (.int _) .nil), rfl, Nat.le_refl _⟩
theorem cut_last {ys : List V} {v : V} : cutV (ys ++ [v]) (some (-1)) none = [v] := by
  unfold cutV
  have e : HT.sIx (ys ++ [v]).length 0 (some (-1)) = ys.length := by
    rw [List.length_append, List.length_singleton]
    unfold HT.sIx
    simp only
    rw [if_pos (by decide)]
    omega
  rw [e, HT.sIx_none, List.drop_left, List.length_append, List.length_singleton, Nat.add_sub_cancel_left]
  rfl
theorem isi_ans {q : Addr} {av : V} {m : Nat} {H : Hp} (h : Ans34 q av ∨ av = .str (Str.ofString "untold")) (hq : H q = some (.lst [V.int m])) : ∃ (t : Value) (b : Bool), TyX K H av t ∧ PySem.W.kitOne K t (.type "bool") = some b := by
  rcases h with (rfl | rfl | rfl | rfl | rfl) | rfl
  · exact ⟨_, false, .base .non, kit_ty (b := "bool") (r := false) (by decide +kernel)⟩
  · exact ⟨_, false, .base (.int _), kit_ty (b := "bool") (r := false) (by decide +kernel)⟩
  · exact ⟨_, true, .base (.bl _), kit_ty (b := "bool") (r := true) (by decide +kernel)⟩
  · exact ⟨_, false, .base (.str _), kit_ty (b := "bool") (r := false) (by decide +kernel)⟩
  · exact ⟨_, false, .base (.lst hq), kit_ty (b := "bool") (r := false) (by decide +kernel)⟩
  · exact ⟨_, false, .base (.str _), kit_ty (b := "bool") (r := false) (by decide +kernel)⟩
theorem S34.ext {Z : TbA} {H0 H H' : Hp} {g l b dd0 dd lg l0 : Addr} {es : List En} {n j : Nat} (h : S34 A Z H0 H g l b dd0 dd lg l0 es n j) (x : LamX.ExtN H H') (t : LamX.Tabs (tabsT Z) H') : S34 A Z H0 H' g l b dd0 dd lg l0 es n j := by
  obtain ⟨i, r, s, c, ns, e1, e2, e3⟩ := h.B.ex
  obtain ⟨⟨dx, hb⟩, hd⟩ := id h.hB
  exact h.tri (Kep.ext x) ⟨⟨i, r, s, c, ns, x _ _ e1 (by intro ps z; cases z), x _ _ e2 (by intro ps z; cases z), e3⟩⟩ ⟨⟨dx, x _ _ hb (by intro ps z; cases z)⟩, x _ _ hd (by intro ps z; cases z)⟩ (h.L.up (Nat.le_refl _) fun _ _ e _ => x _ _ e (by intro ps z; cases z)) t
theorem S34.fresh {Z : TbA} {H0 H : Hp} {g l b dd0 dd lg l0 c : Addr} {es : List En} {n j : Nat} (h : S34 A Z H0 H g l b dd0 dd lg l0 es n j) (e : H c = none) : c ∉ [g, b, dd, lg, l0] := by
  obtain ⟨xs, hg⟩ := h.B.lst
  obtain ⟨⟨_, _, hl⟩, ⟨_, h0, _⟩, _⟩ := h.L
  obtain ⟨⟨dx, hb⟩, hd⟩ := h.hB
  simp only [List.mem_cons, List.not_mem_nil, or_false, not_or]
  exact ⟨(ne_of_none hg e).symm, (ne_of_none hb e).symm, (ne_of_none hd e).symm, (ne_of_none hl e).symm, (ne_of_none h0 e).symm⟩
/-- behind the trial the book has the dict that was copied on entry -/
theorem S34.back {Z : TbA} {H0 H H5 H' : Hp} {g l b dd0 dd lg l0 kd dd' dxb : Addr} {es : List En} {n j j' : Nat} (h : S34 A Z H0 H g l b dd0 dd lg l0 es n j) (s5 : Same H H5) (hkd : H kd = none) (hkd5 : H5 kd = some (.dT (kvE es)))
    (k : Kep g b dd lg l0 H5 H' dd') (B' : Bag H' g l) (hb' : H' b = some (.ins A.Book dxb [("entries", .ref dd')])) (L' : LogAt H' g l lg l0 j') (t' : LamX.Tabs (tabsT Z) H') :
    S34 A Z H0 (upd H' b (.ins A.Book dxb [("entries", .ref kd)])) g l b dd0 kd lg l0 es n j' := by
  have nk := h.fresh hkd
  have hk' := k.kn _ _ hkd5 (by intro ps z; cases z) nk
  have hk2 := nk
  simp only [List.mem_cons, List.not_mem_nil, or_false, not_or] at hk2
  obtain ⟨⟨dx, hb⟩, hd⟩ := id h.hB
  obtain ⟨xs, hg⟩ := B'.lst
  refine ⟨B'.put ⟨ne_of hb' hg (by intro z; cases z), ?_⟩, ⟨⟨dxb, upd_same⟩, by rw [upd_ne hk2.2.1]; exact hk'⟩, fun v hv => ?_, h.G, L'.up (Nat.le_refl _) fun c xs e _ => by rw [upd_ne (ne_of e hb' (by intro z; cases z))]; exact e, tabs_updK hb' (by intro ps z; cases z) (by intro c q z; unfold LamX.CodeO at z; cases z) t', h.k.trans ⟨fun c o e m q => ?_, fun c q => ?_, .inr fun ⟨o, e, _⟩ => by rw [hkd] at e; cases e⟩⟩
  · obtain ⟨_, _, _, _, ns, _, e2, _⟩ := B'.ex
    exact ne_of hb' e2 (by intro z; cases z)
  · have e := h.hE v hv
    rw [upd_ne (ne_of e hb (by intro z; cases z))]
    exact k.kn _ _ (s5 _ _ e) (by intro ps z; cases z) (h.off e (by intro xs z; cases z) (by intro C dx fs z; cases z) (by intro kvs z; cases z))
  · have q1 := q
    simp only [List.mem_cons, List.not_mem_nil, or_false, not_or] at q1
    rw [upd_ne q1.2.1]
    exact k.kn _ _ (s5 _ _ e) m q
  · by_cases z : c = b
    · rw [z]
      exact ⟨_, upd_same, by intro ps y; cases y⟩
    · obtain ⟨o, e, m⟩ := q
      obtain ⟨o2, e2, m2⟩ := k.nn c ⟨o, s5 _ _ e, m⟩
      exact ⟨o2, by rw [upd_ne z]; exact e2, m2⟩
/-- the trial at depth m, told what its deed does -/
theorem trial_dep (T : Txt K mg A) {Z : TbA} (TZ : Tbs base mg A Z) {m k0 : Nat} (hm : m ≤ 2) (hk : 20 ≤ k0) (ihd : FnOk P w K mg base (L2.CX P w) k0 A.l_deed A.fd_l_deed P_l_deed (spDeed34 A Z m)) : FnOk P w K mg base CX0 (k0 + 4) A.l_trial_right A.fd_l_trial_right P_l_trial_right (spTrialR A Z m) := by
  refine fun_okC T.F_l_trial_right sc_l_trial_right (fun vs H Q E h => ?_) (fun cdv Ar outer s H vs Q E hcd hr h => ?_)
  · obtain ⟨g, l, b, dd, lg, l0, es, n, j, rfl, _⟩ := h
    rfl
  · obtain rfl : cdv = .ref Z.c_l_trial_right := hcd.symm.trans TZ.hc_l_trial_right
    have TB := TZ.tb_l_trial_right
    refine ⟨_, (pss_cons (ps_set (i := 4) sc_l_trial_right.nd rfl (Or.inl rfl) (pe_call (ok_l_lists T) (hr.mono (by omega)) (by rfl) T.g__law_lists T.F_l_lists.kp T.b_l_lists .nil pass0 (pa_cons (pv 1) pa_nil)))
      (pss_cons (ps_set (i := 5) sc_l_trial_right.nd rfl (Or.inr rfl) (pe_ix ix_list (pe_lst (pa_cons pe_non (pa_cons pe_int (pa_cons pe_bl (pa_cons pe_str (pa_cons (pe_lst (pa_cons (pv 2) pa_nil)) pa_nil)))))) (pe_call (ok_l_draw T) (hr.mono (by omega)) (by rfl) T.g__law_draw T.F_l_draw.kp T.b_l_draw .nil pass0 (pa_cons (pv 0) (pa_cons pe_int pa_nil))) (fun _ _ => rfl)))
      (pss_cons (ps_set (i := 6) sc_l_trial_right.nd rfl (Or.inl rfl) pe_str)
      (pss_cons (ps_set (i := 7) sc_l_trial_right.nd rfl (Or.inl rfl) pe_bl)
      (pss_cons (ps_expr (pe_bm PySem.F.plainAttrs_list PySem.F.slot_list_append PySem.F.type_list_append mt_append (pe_ix ix_list (pv 3) pe_int (fun _ _ => rfl)) (pa_cons pe_str pa_nil)))
      (pss_g (Evl.pss_cut (ps_tryUV (i := 8) rfl rfl sc_l_trial_right.nd rfl rfl (fun W pn xe tk _ => (pss_one (ps_set (i := 6) sc_l_trial_right.nd rfl (Or.inl rfl) (L5.pe_methlamX (a := "_law_held") (pv 1) T.cl_Book T.m_Book_tried T.F_m_Book_tried T.b_m_Book_tried sc_m_Book_tried rfl (Or.inl rfl) (triedx_gives T (k := k0 + 1) (by omega)) (passAt tk) TB rfl (List.mem_singleton.mpr rfl) (fun p hp _ => by rw [List.mem_singleton.mp hp]) (hr.mono (by omega)) (L1.lamP_by (by show L1.lamPB (defScope s_l_trial_right) _ "_law_held" = true; decide +kernel)) (by show ¬ (("_law_held" : Str) ∈ N_l_trial_right); decide +kernel) rfl (fun _ _ _ _ _ _ => rfl) (fun A outer s H E f c' hr => (pe_call ihd (hr.mono (by omega)) (by rfl) T.g__law_deed T.F_l_deed.kp T.b_l_deed .nil (E := E) (passes_call (takes_of rfl rfl rfl rfl) (fun _ _ _ _ h => h)) (pa_cons (pv 0) (pa_cons (pv 10) (pa_cons (pv 1) (pa_cons (pv 2) (pa_cons (pv 3) (pa_cons (pv 5) pa_nil)))))))))))) (fun _ _ _ => rfl) (.moreV ⟨by rfl, by decide, .inl T.g_NoEntry⟩ (fun a oe cls d pn hz hf => (pss_one (ps_set (i := 7) sc_l_trial_right.nd rfl (Or.inl rfl) (pe_cmpR (op_eqP hr.units) (pe_tup (pa_cons (pe_xf (xf_NoEntry34 T) T.n_NoEntry_day hz hf (pv 8)) (pa_cons (pe_xf (xf_NoEntry34 T) T.n_NoEntry_number hz hf (pv 8)) pa_nil))) (pe_tup (pa_cons pe_int (pa_cons pe_int pa_nil))) (nomark _))))) (fun _ _ _ _ _ => rfl) (.moreUV ⟨by rfl, by decide, .inr ⟨T.z_KeyError, boot_KeyError, by decide⟩⟩ (fun a oe cls d pn hz hf => (pss_one (ps_set (i := 7) sc_l_trial_right.nd rfl (Or.inl rfl) (pe_cmpR (op_eqP hr.units) (pe_slice sl_list (pe_ix ix_list (pv 3) pe_int (fun _ _ => rfl)) (po_some (pe_un un_neg pe_int)) po_none) (pe_lst (pa_cons (pv 2) pa_nil)) (nomark _))))) (fun _ _ _ _ _ => rfl) (.moreUV ⟨by rfl, by decide, .inr ⟨T.z_ZeroDivisionError, boot_ZeroDivisionError, by decide⟩⟩ (fun a oe cls d pn hz hf => (pss_one (ps_set (i := 7) sc_l_trial_right.nd rfl (Or.inl rfl) pe_bl))) (fun _ _ _ _ _ => rfl) .done))))
      (pss_cons (ps_set (i := 9) sc_l_trial_right.nd rfl (Or.inl rfl) (pe_ix ix_list (pe_lst (pa_cons (pv 5) (pa_cons pe_str pa_nil))) (pe_callTy call_int1 (by rfl) T.z_int (by decide +kernel) (pa_cons (pv 7) pa_nil)) (fun _ _ => rfl)))
      (pss_cons (ps_if (PW.pt (pw_or (pt_cmpR (op_neP hr.units) (pv 6) (pv 9) (nomark _)) (pw_or1 (pt_cmpR op_ne (pe_callB call_isi (by rfl) T.z_isinstance (by decide +kernel) (pa_cons (pv 6) (pa_cons (pe_bltn (v := .ty "bool") (by rfl) T.z_bool (by decide +kernel) rfl) pa_nil))) (pe_callB call_isi (by rfl) T.z_isinstance (by decide +kernel) (pa_cons (pv 9) (pa_cons (pe_bltn (v := .ty "bool") (by rfl) T.z_bool (by decide +kernel) rfl) pa_nil))) (nomark _))))) (pss_one (ps_ret pe_bl)) pss_nil)
      (pss_one (ps_ret (pe_cmpR (op_eqP hr.units) (pe_call (ok_l_lists T) (hr.mono (by omega)) (by rfl) T.g__law_lists T.F_l_lists.kp T.b_l_lists .nil pass0 (pa_cons (pv 1) pa_nil)) (pv 4) (nomark _))))))))))))), ?_⟩
    obtain ⟨g, l, b, dd, lg, l0, es, n, j, rfl, B, hB, hE, G, nn, LG, jn, tb, kQ⟩ := h
    have S0 : S34 A Z H H g l b dd dd lg l0 es n j := ⟨B, hB, hE, G, LG, tb, Kep.same (Same.refl _)⟩
    have el := G.le
    have pl : ∀ u ∈ es, Pl u.x := fun u hu => (G.ok u hu).2.1
    refine ⟨_, rfl, b, dd, es, rfl, hB, hE, G.kn, by omega, pl, fun bv H1 s1 d1 => ?_⟩
    have S1 := S0.same s1
    dsimp only [gName, List.set, tSeq, L2.start, List.map, List.append, List.map_cons, List.map_nil, List.length_cons, List.length_nil, Nat.reduceAdd, Nat.reduceSub, List.replicate_succ, List.replicate_zero, List.replicate, List.cons_append, List.nil_append]
    refine ⟨_, rfl, (by show 1 ≤ sizeLine; decide), fun q hq => ⟨(by show 5 ≤ sizeLine; decide), fun q2 hq2 => ⟨_, rfl, g, l, 5, rfl, (S1.B.new hq).new hq2, by decide, by decide, fun c H2 c0 c1 B2 K2 => ?_⟩⟩⟩
    have sq := Same.new (o := .lst [V.int m]) hq
    have sq2 := Same.new (o := .lst [V.non, .int 0, .bl false, .str (Str.ofString "answer"), .ref q]) hq2
    have S2 := ((S1.same sq).same sq2).kp K2 B2
    have hq2' := K2 _ _ upd_same ((S1.B.new hq).ne hq2).1
    have hq' := K2 _ _ (sq2 _ _ upd_same) (S1.B.ne hq).1
    obtain ⟨av, hav, ansv⟩ := ans34 (q := q) c0 (by omega : c < 5)
    refine ⟨q2, _, c, av, rfl, rfl, SqL.of hq2', hav, ?_⟩
    dsimp only [gName, List.set, tSeq]
    obtain ⟨⟨i2, hi2, hl2⟩, ⟨ys, h02, ysn, ysl⟩, _⟩ := id S2.L
    refine ⟨_, rfl, lg, _, 0, _, rfl, rfl, SqL.of hl2, atI_nat (j := 0) rfl, .inl ⟨rfl, _, SqL.of h02⟩, l0, ys, _, rfl, rfl, h02, Nat.lt_of_le_of_lt (by omega : _ ≤ 400) (by decide), ?_⟩
    have S3 := S2.app0 (V.str (Str.ofString "begin")) h02
    obtain ⟨⟨dxb, hb3⟩, hd3⟩ := id S3.hB
    refine ⟨⟨fun σ' H' => Wd (∃ (tv : V) (fl : Bool) (dd' : Addr) (j' : Nat), σ' = [some (.ref g), some (.ref b), some (.int m), some (.ref lg), some bv, some av, some tv, some (.bl fl), none, none] ∧ tv = (if fl then V.str (Str.ofString "untold") else av) ∧ S34 A Z H H' g l b dd dd' lg l0 es n j' ∧ j' ≤ j + cM m + 1 ∧ H' q = some (.lst [V.int m]) ∧ (∀ H'', Same H' H'' → DL K H'' bv (lstsD es) 5)), ?_, ?_⟩⟩
    rotate_left
    · rintro σ' HE ⟨tv, fl, ddE, jE, rfl, etv, SE, jle, hqE, dE⟩
      dsimp only [tSeq]
      refine ⟨_, rfl, (by show 2 ≤ sizeLine; decide), fun q3 hq3 => ⟨_, rfl, .inr ⟨fl, rfl, q3, _, _, tv, rfl, rfl, SqL.of upd_same, ?_, ?_⟩⟩⟩
      · cases fl with
        | false => exact (atI_nat (j := 0) rfl).trans (congrArg some etv.symm)
        | true => exact (atI_nat (j := 1) rfl).trans (congrArg some etv.symm)
      have s3 := Same.new (o := .lst [av, .str (Str.ofString "untold")]) hq3
      have SF := SE.same s3
      dsimp only [gName, List.set, tSeq]
      have hqF := s3 _ _ hqE
      have an2 : Ans34 q tv ∨ tv = .str (Str.ofString "untold") := by
        cases fl with
        | false => exact .inl (by rw [etv]; exact ansv)
        | true => exact .inr etv
      obtain ⟨d2, hd2⟩ : ∃ d, DL K (upd HE q3 (.lst [av, .str (Str.ofString "untold")])) tv d 1 := by
        rcases an2 with z | rfl
        · exact dl_ans z hqF
        · exact ⟨_, dlm_str⟩
      obtain ⟨ty, bb, hty, hkb⟩ := isi_ans (K := K) an2 hqF
      refine ⟨_, rfl, _, rfl, ne_dl hd2 hd2 (by decide) ⟨_, rfl, iteF ⟨_, rfl, tv, .ty "bool", ty, .type "bool", bb, rfl, .ty _, hty, hkb, _, rfl, tv, .ty "bool", ty, .type "bool", bb, rfl, .ty _, hty, hkb, ?_⟩⟩⟩
      refine ⟨rfl, ?_⟩
      rw [decide_eq_true (rfl : V.bl bb = V.bl bb)]
      refine ⟨_, rfl, iteF ?_⟩
      obtain ⟨⟨_, _⟩, _⟩ := id SF.hB
      refine ⟨_, rfl, b, ddE, es, rfl, SF.hB, SF.hE, G.kn, by omega, pl, fun v9 H9 s9 d9 => ⟨_, rfl, ?_⟩⟩
      refine eq_dl (d9 _ (Stays.same (Same.refl _))) (?_ : DL K _ bv (lstsD es) 5) (by decide) ?_
      · exact dE _ (s3.trans s9)
      · exact kQ ddE jE _ (SF.same s9).k (SF.same s9).B (SF.same s9).hB (SF.same s9).L jle (SF.same s9).tb
    refine ⟨_, rfl, b, dxb, _, rfl, hb3, rfl, S3.tb, fun H4 x4 t4 => ?_⟩
    have S4 := S3.ext x4 t4
    have hap : HAp (kvE es) := hap_kvE G.kn ⟨fun u hu => by have := G.rg u hu; omega, fun u hu => by have := G.rg u hu; omega, fun u hu v hv => by have := G.rg u hu; have := G.rg v hv; omega⟩
    refine ⟨dd, es, S4.hB, hap, fun H5 t kd dxt s5 ht hkd ht5 hkd5 E1 R hE1 hR => ?_⟩
    have S5 := S4.same s5
    have kp2 : ∀ (H' : Hp) (dd' dxb' : Addr), Kep g b dd lg l0 H5 H' dd' → ∀ c o, H2 c = some o → (∀ ps, o ≠ .tbl ps) → c ∉ [g, b, dd, lg, l0] → (upd H' b (.ins A.Book dxb' [("entries", .ref kd)])) c = some o := fun H' dd' dxb' k c o e nt nm => by
      have nm1 := nm
      simp only [List.mem_cons, List.not_mem_nil, or_false, not_or] at nm1
      rw [upd_ne nm1.2.1]
      exact k.kn _ _ (s5 _ _ (x4 _ _ (by rw [upd_ne nm1.2.2.2.2]; exact e) nt)) nt nm
    have kd2 : ∀ (H' : Hp) (dd' dxb' : Addr), Kep g b dd lg l0 H5 H' dd' → ∀ H'', Same (upd H' b (.ins A.Book dxb' [("entries", .ref kd)])) H'' → DL K H'' bv (lstsD es) 5 := fun H' dd' dxb' k H'' s' => d1 _ fun c o e z nt => by
      have nm : c ∉ [g, b, dd, lg, l0] := by
        rcases z with z | ⟨xs, rfl⟩
        · exact S0.fresh z
        · exact S1.off e (by intro xs z; cases z) (by intro C dx fs z; cases z) (by intro kvs z; cases z)
      have nm1 := nm
      simp only [List.mem_cons, List.not_mem_nil, or_false, not_or] at nm1
      exact s' _ _ (kp2 H' dd' dxb' k _ _ (K2 _ _ (sq2 _ _ (sq _ _ e)) nm1.1) nt nm)
    refine ⟨_, rfl, _, rfl, _, rfl, _, rfl, _, rfl, _, rfl, g, l, b, dd, lg, l0, es, n, j + 1, av, rfl, S5.B, S5.hB, S5.hE, G, nn, S5.L, by omega, S5.tb, fun dd' es' j' H' k B' hB' L' le' t' => ?_, fun cls d dd' es' j' H' k B' hB' L' le' t' er => ?_⟩
    · obtain ⟨⟨dxb', hb'⟩, hd'⟩ := id hB'
      refine hR av H' dxb' dd' (k.kn _ _ ht5 (by intro ps z; cases z) (S4.fresh ht)) hb' ?_
      have S6 := S4.back s5 hkd hkd5 k B' hb' L' t'
      exact ⟨av, false, kd, j', rfl, rfl, S6, by omega, kp2 _ _ _ k _ _ hq' (by intro ps z; cases z) (S1.fresh hq), kd2 _ _ _ k⟩
    · have rv : ∃ v1 : V, RelV v1 cls := by
        rcases er with ⟨rfl, _⟩ | ⟨rfl, _⟩ | rfl
        · exact ⟨.ref A.NoEntry, rfl⟩
        · exact ⟨.ty "KeyError", rfl⟩
        · exact ⟨.ty "ZeroDivisionError", rfl⟩
      obtain ⟨v1, hv1⟩ := rv
      obtain ⟨⟨dxb', hb'⟩, hd'⟩ := id hB'
      refine hE1 cls d H' dxb' dd' v1 hv1 (k.kn _ _ ht5 (by intro ps z; cases z) (S4.fresh ht)) hb' ?_
      have S6 := S4.back s5 hkd hkd5 k B' hb' L' t'
      have hqX := kp2 _ _ dxb' k _ _ hq' (by intro ps z; cases z) (S1.fresh hq)
      have kdX := kd2 _ _ dxb' k
      rcases er with ⟨rfl, x, rfl, hx⟩ | ⟨rfl, xs, hxs⟩ | rfl
      · have hxX : (upd H' b (.ins A.Book dxb' [("entries", .ref kd)])) x = some (.xd (noE (.int 5) (.int 999999))) := by
          rw [upd_ne (ne_of hx hb' (by intro z; cases z))]
          exact hx
        generalize upd H' b (.ins A.Book dxb' [("entries", .ref kd)]) = HX at *
        refine ⟨true, PySem.W.exm_ref T.eb_NoEntry T.eh_NoEntry T.et_NoEntry T.es_NoEntry, fun _ a ha => ?_, fun z => nomatch z⟩
        refine ⟨_, rfl, rfl, rfl, x, _, _, rfl, hxX, rfl, _, rfl, rfl, rfl, x, _, _, rfl, hxX, rfl, (by show 2 ≤ sizeLine; decide), fun q3 hq3 => ⟨(by show 2 ≤ sizeLine; decide), fun q4 hq4 => ?_⟩⟩
        have sA := Same.new (o := .tup [V.int 999999, .int 5]) hq3
        have h3 := upd_same (H := HX) (a := q3) (o := .tup [V.int 999999, .int 5])
        generalize upd HX q3 (.tup [V.int 999999, .int 5]) = HY at *
        have sB := Same.new (o := .tup [V.int 999999, .int 5]) hq4
        refine eqP_same (d := .tuple [.int 999999, .int 5]) (.tup (SqT.of (sB _ _ h3)) (.cons (.int _) (.cons (.int _) .nil))) (.tup (SqT.of upd_same) (.cons (.int _) (.cons (.int _) .nil))) rfl (Nat.le_of_ble_eq_true rfl) ?_
        have sAB := sA.trans sB
        exact ⟨.str (Str.ofString "untold"), true, kd, j', rfl, rfl, S6.same sAB, by omega, sAB _ _ hqX, fun H'' s' => kdX _ (sAB.trans s')⟩
      · refine ⟨false, PySem.W.exm_ref T.eb_NoEntry T.eh_NoEntry T.et_NoEntry rfl, (fun z => nomatch z), fun _ => ⟨true, exm_KE, fun _ a ha => ?_, fun z => nomatch z⟩⟩
        have hxsX : (upd H' b (.ins A.Book dxb' [("entries", .ref kd)])) l0 = some (.lst (xs ++ [V.int m])) := by
          rw [upd_ne (ne_of hxs hb' (by intro z; cases z))]
          exact hxs
        generalize upd H' b (.ins A.Book dxb' [("entries", .ref kd)]) = HX at *
        obtain ⟨⟨i6, hi6, hl6⟩, _⟩ := id S6.L
        refine ⟨_, rfl, lg, _, 0, _, rfl, rfl, SqL.of hl6, atI_nat (j := 0) rfl, ?_⟩
        refine ⟨1, rfl, -1, rfl, l0, _, rfl, SqL.of hxsX, fun q3 hq3 => ⟨_, rfl, (by show 1 ≤ sizeLine; decide), fun q4 hq4 => ?_⟩⟩
        rw [cut_last]
        have sA := Same.new (o := .lst [V.int m]) hq3
        have h3 := upd_same (H := HX) (a := q3) (o := .lst [V.int m])
        rw [cut_last] at hq4
        generalize upd HX q3 (.lst [V.int m]) = HY at *
        have sB := Same.new (o := .lst [V.int m]) hq4
        refine eqP_same (d := .list [.int m]) (.lst (SqL.of (sB _ _ h3)) (.cons (.int _) .nil)) (.lst (SqL.of upd_same) (.cons (.int _) .nil)) rfl (Nat.le_of_ble_eq_true rfl) ?_
        have sAB := sA.trans sB
        exact ⟨.str (Str.ofString "untold"), true, kd, j', rfl, rfl, S6.same sAB, by omega, sAB _ _ hqX, fun H'' s' => kdX _ (sAB.trans s')⟩
      · refine ⟨false, PySem.W.exm_ref T.eb_NoEntry T.eh_NoEntry T.et_NoEntry rfl, (fun z => nomatch z), fun _ => ⟨false, (by kernel_rfl), (fun z => nomatch z), fun _ => ⟨true, (by kernel_rfl), fun _ a ha => ?_, fun z => nomatch z⟩⟩⟩
        exact ⟨.str (Str.ofString "untold"), true, kd, j', rfl, rfl, S6, by omega, hqX, kdX⟩
end

/-! ### the trial at all depths -/
theorem fnok_three {P : Program} {w : World} {K : PySem.W.Frag} {mg : Str → Option Value} {base : Heap} {CX : CXT} {k : Nat} {f : Addr} {fd : FuncData} {ps : List Str} {s0 s1 s2 : Sp} (h0 : FnOk P w K mg base CX k f fd ps s0) (h1 : FnOk P w K mg base CX k f fd ps s1) (h2 : FnOk P w K mg base CX k f fd ps s2) :
    FnOk P w K mg base CX k f fd ps (fun vs H Q E => s0 vs H Q E ∨ s1 vs H Q E ∨ s2 vs H Q E) :=
  ⟨fun vs H Q E h => by
    rcases h with h | h | h
    · exact h0.len _ _ _ _ h
    · exact h1.len _ _ _ _ h
    · exact h2.len _ _ _ _ h, fun A outer s H args us vs Q E hr e b r h => by
    rcases h with h | h | h
    · exact h0.run A outer s H args us vs Q E hr e b r h
    · exact h1.run A outer s H args us vs Q E hr e b r h
    · exact h2.run A outer s H args us vs Q E hr e b r h⟩
theorem kept_of34 {H : Hp} : ∀ {ys : List V} {es : List En}, ys.length = es.length → (∀ (i : Nat) (y : V), ys[i]? = some y → ∃ (t s : Addr) (u' : En), es[i]? = some u' ∧ y = .ref t ∧ H t = some (.tup [.ref s, .ref u'.e]) ∧ H s = some (.tup [.int u'.d, .int u'.n])) →
    ∃ us : List (Addr × Addr × En), ys = us.map (fun u => V.ref u.1) ∧ (∀ u ∈ us, H u.1 = some (.tup [.ref u.2.1, .ref u.2.2.e]) ∧ H u.2.1 = some (.tup [.int u.2.2.d, .int u.2.2.n])) ∧ us.map (fun u => u.2.2) = es
  | [], [], _, _ => ⟨[], rfl, (fun u hu => nomatch hu), rfl⟩
  | [], _ :: _, h, _ => nomatch h
  | _ :: _, [], h, _ => nomatch h
  | y :: ys, e :: es, h, hR => by
    obtain ⟨t, s, u', hu, rfl, h1, h2⟩ := hR 0 y rfl
    cases hu
    obtain ⟨us, rfl, hs, rfl⟩ := kept_of34 (ys := ys) (es := es) (by simpa using h) fun i y hi => hR (i + 1) y hi
    refine ⟨(t, s, e) :: us, rfl, fun u hu => ?_, rfl⟩
    rcases List.mem_cons.mp hu with rfl | hu
    · exact ⟨h1, h2⟩
    · exact hs u hu
def spTrialA (A : Ad) (Z : TbA) : Sp := fun vs H Q E => ∃ m : Nat, m ≤ 2 ∧ spTrialR A Z m vs H Q E
section
variable {P : Program} {w : World} {K : PySem.W.Frag} {mg : Str → Option Value} {base : Heap} {A : Ad}
theorem trial_all (T : Txt K mg A) {Z : TbA} (TZ : Tbs base mg A Z) : FnOk P w K mg base CX0 35 A.l_trial_right A.fd_l_trial_right P_l_trial_right (spTrialA A Z) := by
  have d0 := deed_dep (P := P) (w := w) (base := base) T (Z := Z) (m := 0) (k0 := 20) (by decide) (by decide) fnok_nope fnok_nope (fun z => nomatch z) (fun z => nomatch z)
  have t0 := trial_dep T TZ (m := 0) (k0 := 21) (by decide) (by decide) d0
  have d1 := deed_dep (P := P) (w := w) (base := base) T (Z := Z) (m := 1) (k0 := 25) (by decide) (by decide) t0 t0 (fun _ => rfl) (fun _ => rfl)
  have t1 := trial_dep T TZ (m := 1) (k0 := 26) (by decide) (by decide) d1
  have d2 := deed_dep (P := P) (w := w) (base := base) T (Z := Z) (m := 2) (k0 := 30) (by decide) (by decide) (t0.mono (by decide)) t1 (fun _ => rfl) (fun _ => rfl)
  have t2 := trial_dep T TZ (m := 2) (k0 := 31) (by decide) (by decide) d2
  refine (fnok_three (t0.mono (by decide)) (t1.mono (by decide)) t2).imp fun vs H Q E h => ?_
  obtain ⟨m, hm, h⟩ := h
  match m, hm, h with
  | 0, _, h => exact .inl h
  | 1, _, h => exact .inr (.inl h)
  | 2, _, h => exact .inr (.inr h)
end
theorem perm_lift {α β : Type} {f : α → β} {l1 l2 : List β} (h : l1.Perm l2) : ∀ zs : List α, zs.map f = l2 → ∃ ws : List α, ws.Perm zs ∧ ws.map f = l1 := by
  induction h with
  | nil => exact fun zs e => ⟨[], by rw [List.map_eq_nil_iff.mp e], rfl⟩
  | cons x _ ih =>
    intro zs e
    cases zs with
    | nil => cases e
    | cons z zs =>
      rw [List.map_cons, List.cons.injEq] at e
      obtain ⟨ws, p, e2⟩ := ih zs e.2
      exact ⟨z :: ws, p.cons z, by rw [List.map_cons, e.1, e2]⟩
  | swap x y l =>
    intro zs e
    match zs, e with
    | [], e => cases e
    | [a], e => cases e
    | a :: b :: zs, e =>
      rw [List.map_cons, List.map_cons, List.cons.injEq, List.cons.injEq] at e
      exact ⟨b :: a :: zs, List.Perm.swap a b zs, by rw [List.map_cons, List.map_cons, e.1, e.2.1, e.2.2]⟩
  | trans _ _ ih1 ih2 =>
    intro zs e
    obtain ⟨ws, p, e2⟩ := ih2 zs e
    obtain ⟨us, p2, e3⟩ := ih1 ws e2
    exact ⟨us, p2.trans p, e3⟩

theorem perm_all2 {α : Type} {R : Addr → α → Prop} {ys : List V} {ts : List Addr} {qs : List α} (h : All2 R ts qs) (hp : ys.Perm (ts.map V.ref)) :
    ∃ (us : List Addr) (ps : List α), ys = us.map V.ref ∧ ps.Perm qs ∧ All2 R us ps := by
  obtain ⟨ws, p, e⟩ := perm_lift (f := fun z : Addr × α => V.ref z.1) hp (ts.zip qs) (by
    have e : (ts.zip qs).map (fun z => V.ref z.1) = ((ts.zip qs).map Prod.fst).map V.ref := by rw [List.map_map]; rfl
    rw [e, List.map_fst_zip (Nat.le_of_eq h.1)])
  refine ⟨ws.map Prod.fst, ws.map Prod.snd, by rw [List.map_map]; exact e.symm, ?_, by rw [List.length_map, List.length_map], fun i t q ht hq => ?_⟩
  · have := p.map Prod.snd
    rw [List.map_snd_zip (Nat.le_of_eq h.1.symm)] at this
    exact this
  · rw [List.getElem?_map] at ht hq
    obtain ⟨z, hz, rfl⟩ := Option.map_eq_some_iff.mp ht
    obtain ⟨z2, hz2, rfl⟩ := Option.map_eq_some_iff.mp hq
    rw [hz] at hz2
    cases hz2
    obtain ⟨j, hj⟩ := List.mem_iff_getElem?.mp (p.mem_iff.mp (List.mem_of_getElem? hz))
    obtain ⟨a, b⟩ := List.getElem?_zip_eq_some.mp hj
    exact h.2 j _ _ a b

/-! ### all(xs) of a list whose first item is a list that is not empty, then true -/
def rAllL (K : PySem.W.Frag) : List V → Hp → VK → Prop := fun vs H Q => ∃ (a l0 : Addr) (ys : List V) (n : Nat), vs = [V.ref a] ∧ H a = some (.lst (V.ref l0 :: List.replicate n (V.bl true))) ∧ H l0 = some (.lst ys) ∧ ys ≠ [] ∧ Q (.bl true) H
theorem cr_allL {X : Cx} (hc : X.calm = true) : CallR X (.builtin "all") (rAllL X.K) := by
  intro pins s σ H vs us Q I r h
  obtain ⟨a, l0, ys, n, rfl, hs, h0, hne, q⟩ := h
  obtain ⟨its, rv, hl, hz⟩ := I.list (SqL.of hs)
  obtain ⟨it0, rv0, hl0, hz0⟩ := I.list (SqL.of h0)
  rw [Vals.ref1 r]
  refine call_all_walkH (PySem.W.iter_listW (A := X.A.in1) (I.ok.hd hc) hl.isList fun s₂ e W st hfp hw hk => ?_)
  refine ⟨_, _, _, _, _, _, _, s.heap, fun _ => true, rfl, W, st, hw, hk, fun i v s' Q2 E2 hk2 hi hq => ?_, fun s' m => ?_⟩
  · have hv : its[i]? = some v := by simpa using hi
    cases rv with
    | cons r0 rr =>
      cases i with
      | zero =>
        cases hv
        cases r0
        have hlk : s'.heap.IsList l0 it0.toArray := by
          obtain ⟨o, e1, e2, e3⟩ := hl0.isList
          exact ⟨o, hk2 _ _ e1, e2, e3⟩
        have hlen := rv0.length
        have hsl : sizeLine < 2 ^ 62 := by decide
        refine PySem.wpAny_truthy_list hlk (by simp only [List.size_toArray]; omega) ?_
        have : (!it0.toArray.isEmpty) = true := by
          cases ys with
          | nil => exact (hne rfl).elim
          | cons y ys =>
            cases rv0 with
            | cons _ _ => rfl
        rw [this]
        exact hq _ (Nat.le_succ_of_le (Nat.le_succ _))
      | succ i =>
        have hb : v = Value.bool true := by
          have : ∀ {n : Nat} {us : List Value}, Vals (List.replicate n (V.bl true)) us → ∀ {i : Nat} {v : Value}, us[i]? = some v → v = Value.bool true := by
            intro n
            induction n with
            | zero =>
              intro us r i v h
              cases r
              cases h
            | succ n ih =>
              intro us r i v h
              cases r with
              | cons a b =>
                cases i with
                | zero =>
                  cases h
                  cases a
                  rfl
                | succ i => exact ih b h
          exact this rr hv
        rw [hb]
        exact wpAny_truthy_bool (hq _ (Nat.le_refl _))
  · obtain ⟨h', tk, rfl, hk'⟩ := PySem.W.moved_old e rfl m
    refine ⟨.bl true, H, I.kept fun b o eo => hk' b o eo, ?_, q⟩
    show Value.bool _ = Value.bool _
    congr 1
    rw [List.all_eq_true]
    exact fun _ _ => rfl

def spLawZ (K : PySem.W.Frag) (Z : TbA) : Sp := fun vs H Q _ => ∃ (a : Addr) (ns : List Int), vs = [.ref a] ∧ SqL K H a (ns.map V.int) ∧ ns.length ≤ 63 ∧ H Z.p_l_trial_right = some (.tbl #[]) ∧ ∀ H', Q (.bl true) H'
section
variable {P : Program} {w : World} {K : PySem.W.Frag} {mg : Str → Option Value} {base : Heap} {A : Ad}
theorem ok_f_law (T : Txt K mg A) {Z : TbA} (TZ : Tbs base mg A Z) : FnOk P w K mg base CX0 40 A.f_law A.fd_f_law P_f_law (spLawZ K Z) := by
  refine T.F_f_law.ok sc_f_law (fun vs H Q E h => ?_) (fun cdv Ar outer s H vs Q E hr h => ?_)
  · obtain ⟨a, ns, rfl, _⟩ := h
    rfl
  · obtain ⟨a, ns, rfl, hS, hlen, hZ, k⟩ := h
    refine ⟨_, (pss_cons (ps_set (i := 1) sc_f_law.nd rfl (Or.inl rfl) (pe_call (ok_l_bag T) (hr.mono (by decide)) (by rfl) T.g__law_bag T.F_l_bag.kp T.b_l_bag .nil pass0 (pa_cons (pv 0) pa_nil)))
      (pss_cons (ps_set (i := 2) sc_f_law.nd rfl (Or.inl rfl) (pe_call (ok_l_entries T) (hr.mono (by decide)) (by rfl) T.g__law_entries T.F_l_entries.kp T.b_l_entries .nil pass0 (pa_cons (pv 1) (pa_cons pe_int pa_nil))))
      (pss_cons (ps_set (i := 3) sc_f_law.nd rfl (Or.inl rfl) (pe_call (ok_l_book T) (hr.mono (by decide)) (by rfl) T.g__law_book T.F_l_book.kp T.b_l_book .nil pass0 (pa_cons (pe_call (ok_l_mixed T) (hr.mono (by decide)) (by rfl) T.g__law_mixed T.F_l_mixed.kp T.b_l_mixed .nil pass0 (pa_cons (pv 1) (pa_cons (pv 2) pa_nil))) pa_nil)))
      (pss_cons (ps_set (i := 4) sc_f_law.nd rfl (Or.inl rfl) (pe_lst (pa_cons (pe_lst (pa_cons pe_str pa_nil)) pa_nil)))
      (pss_cons (ps_g (ps_for PassesOwn.never rfl (pi_range1 rfl T.z_range (pa_cons pe_int pa_nil)) (pg_name (i := 5) sc_f_law.nd rfl (Or.inl rfl)) (pss_one (ps_if (pt_not (pt_val (pe_call (trial_all T TZ) (hr.mono (by decide)) (by rfl) T.g__law_trial_right T.F_l_trial_right.kp T.b_l_trial_right .nil pass0 (pa_cons (pv 1) (pa_cons (pv 3) (pa_cons (pe_call (ok_l_draw T) (hr.mono (by decide)) (by rfl) T.g__law_draw T.F_l_draw.kp T.b_l_draw .nil pass0 (pa_cons (pv 1) (pa_cons pe_int pa_nil))) (pa_cons (pv 4) pa_nil))))))) (pss_one (ps_ret pe_bl)) pss_nil))))
      (pss_cons (ps_ownSet (E := fun _ => E0) (own_set T) T.nsq_Book (ok_m_Book_setitem T) (hr.mono (by decide)) T.b_m_Book_setitem (passAll passL) (pv 3) (pe_tup (pa_cons pe_int (pa_cons pe_int pa_nil))) (pe_tup (pa_cons pe_str (pa_cons pe_str (pa_cons pe_int pa_nil)))) rfl)
      (pss_cons (ps_set (i := 6) sc_f_law.nd rfl (Or.inl rfl) (pe_op op_cat (pe_g (pe_lcV (own := [("_law_item", 7)]) rfl sc_f_law.nd (pi_list (pv 2)) (blkOk_by (own := [("_law_item", 7)]) (N := N_f_law) (sc := defScope s_f_law) (by decide +kernel)) (fun _ _ _ _ _ => (pg_name (i := 7) sc_f_law.nd rfl (Or.inl rfl))) (fun _ _ _ _ _ => pts_nil) (fun _ _ _ _ _ => (pe_tup (pa_cons (pe_tup (pa_cons (pe_ix ix_tup (pv 7) pe_int (fun _ _ => rfl)) (pa_cons (pe_ix ix_tup (pv 7) pe_int (fun _ _ => rfl)) pa_nil))) (pa_cons (pe_ix ix_tup (pv 7) pe_int (fun _ _ => rfl)) pa_nil)))) (fun _ _ _ _ _ => rfl) (fun _ _ _ _ _ => rfl) (fun _ _ _ _ _ => rfl))) (pe_lst (pa_cons (pe_tup (pa_cons (pe_tup (pa_cons pe_int (pa_cons pe_int pa_nil))) (pa_cons (pe_tup (pa_cons pe_str (pa_cons pe_str (pa_cons pe_int pa_nil)))) pa_nil))) pa_nil))))
      (pss_one (ps_ret (pe_and (pe_callB (cr_allL rfl) (by rfl) T.z_all (by decide +kernel) (pa_cons (pv 4) pa_nil)) (pe_one (pe_cmpR (op_eqP hr.units) (pe_call (ok_l_kept T) (hr.mono (by decide)) (by rfl) T.g__law_kept T.F_l_kept.kp T.b_l_kept .nil pass0 (pa_cons (pv 3) pa_nil)) (pv 6) (nomark _))))))))))))), ?_⟩
    walk_at "go"
    intro g l H1 s1 hg hl B1
    have hZ1 := s1 _ _ hZ
    have nZ : ∀ {H3 : Hp}, Bag H3 g l → H3 Z.p_l_trial_right = some (.tbl #[]) → Z.p_l_trial_right ≠ g := fun B h => by
      obtain ⟨xs, hg⟩ := B.lst
      exact ne_of h hg (by intro z; cases z)
    refine ⟨_, rfl, g, l, 6, rfl, B1, by decide, by decide, fun eq ts es H2 hen heq A2 E2 ok2 rg2 pw2 ne2 le2 B2 K2 => ?_⟩
    have hZ2 := K2 _ _ hZ1 (nZ B1 hZ1)
    have neg := (B1.ne hen).1
    have tl : ts.length ≤ 6 := by rw [A2.1]; omega
    dsimp only [gName, L2.start, List.map, List.append, List.map_cons, List.map_nil, List.length_cons, List.length_nil, Nat.reduceAdd, Nat.reduceSub, List.replicate_succ, List.replicate_zero, List.replicate, List.cons_append, List.nil_append, List.set, tSeq]
    refine ⟨_, rfl, _, rfl, g, l, eq, _, rfl, B2, heq, by rw [List.length_map]; omega, fun mq ys H3 perm hmq hmq' B3 K3 => ?_⟩
    obtain ⟨xsg, hg2⟩ := B2.lst
    have A3 : All2 (Tri H3) ts es := A2.mono fun _ _ z => K3 _ _ z (ne_of z hg2 (by intro y; cases y))
    obtain ⟨us2, es2, rfl, pe, A3'⟩ := perm_all2 A3 perm
    have E3 : EntsAt H3 es := fun v hv => K3 _ _ (E2 v hv) (ne_of (E2 v hv) hg2 (by intro y; cases y))
    have heq3 := K3 _ _ heq neg
    have hZ3 := K3 _ _ hZ2 (nZ B2 hZ2)
    have kn : keyN es := inc_nodup pw2
    have kn2 : keyN es2 := ((pe.map fun t : En => (t.d, t.n)).nodup_iff).mpr kn
    have pl2 : es2.length ≤ 6 := by rw [pe.length_eq]; omega
    refine ⟨mq, us2, es2, rfl, hmq', A3', (fun v hv => E3 v (pe.mem_iff.mp hv)), (fun v hv => ok2 v (pe.mem_iff.mp hv)), (fun v hv => by obtain ⟨a1, a2, a3, a4⟩ := rg2 v (pe.mem_iff.mp hv); exact ⟨a1, a2, by omega, by omega⟩), by omega, fun b bd H4 s4 hb hbd hB4 => ?_⟩
    rw [fold_new es2 [] (by rw [List.nil_append]; exact kn2), List.nil_append] at hB4
    have B4 := B3.keep s4
    have A4 : All2 (Tri H4) ts es := A3.mono fun _ _ z => s4 _ _ z
    have E4 : EntsAt H4 es2 := fun v hv => s4 _ _ (E3 v (pe.mem_iff.mp hv))
    have heq4 := s4 _ _ heq3
    have hZ4 := s4 _ _ hZ3
    clear A3 A3' E3 heq3 hZ3 s4 K3 K2 A2 E2 hZ2 hZ1 B2 B3 heq hg2 hmq' hmq perm
    dsimp only [gName, List.set, tSeq]
    refine ⟨(by show 1 ≤ sizeLine; decide), fun l0 hl0 => ⟨(by show 1 ≤ sizeLine; decide), fun lg hlg => ?_⟩⟩
    have sl0 := Same.new (o := .lst [V.str (Str.ofString "begin")]) hl0
    have h05 := upd_same (H := H4) (a := l0) (o := .lst [V.str (Str.ofString "begin")])
    have nl0g := (B4.ne hl0).1
    have nl0l := (B4.ne hl0).2
    have B5 := B4.keep sl0
    have s46 := sl0.trans (Same.new (o := .lst [V.ref l0]) hlg)
    have nlgg := (B5.ne hlg).1
    have nlgl := (B5.ne hlg).2
    have nlgl0 : lg ≠ l0 := (ne_of_none h05 hlg).symm
    have neq0 : eq ≠ l0 := ne_of_none heq4 hl0
    have neqg : eq ≠ lg := ne_of_none (sl0 _ _ heq4) hlg
    have hl6 := upd_same (H := upd H4 l0 (.lst [V.str (Str.ofString "begin")])) (a := lg) (o := .lst [V.ref l0])
    have h06 := (Same.new (o := .lst [V.ref l0]) hlg) _ _ h05
    have B6 := B4.keep s46
    have hB6 := hB4.same s46
    have A6 : All2 (Tri _) ts es := A4.mono fun _ _ z => s46 _ _ z
    have E6 : EntsAt _ es2 := fun v hv => s46 _ _ (E4 v hv)
    have heq6 := s46 _ _ heq4
    have hZ6 := s46 _ _ hZ4
    clear sl0 h05 B5 heq4 hZ4 E4 A4 hB4 B4 s46
    generalize upd (upd H4 l0 (.lst [V.str (Str.ofString "begin")])) lg (.lst [V.ref l0]) = HL at *
    have G : G34 es2 6 := ⟨kn2, fun v hv => ok2 v (pe.mem_iff.mp hv), fun v hv => by obtain ⟨a1, a2, a3, a4⟩ := rg2 v (pe.mem_iff.mp hv); exact ⟨a1, a2, by omega, by omega⟩, pl2⟩
    have S0 : S34 A Z HL HL g l b bd bd lg l0 es2 6 0 := ⟨B6, hB6, E6, G, ⟨⟨0, Nat.le_refl _, hl6⟩, ⟨_, h06, (fun z => nomatch z), Nat.le_refl _⟩, nlgg, nlgl, nl0g, nl0l, nlgl0⟩, (fun p hp => by rw [List.mem_singleton.mp hp]; exact ⟨#[], hZ6, trivial, fun pos cv e => by cases e⟩), Kep.same (Same.refl _)⟩
    dsimp only [gName, List.set, tSeq]
    refine ⟨⟨_, rfl, by decide, by decide, for_range (lo := 0) (n := (2 : Int).toNat) (fun i σ' H' => Wd (∃ (o5 : Option V) (dd' : Addr) (j : Nat), σ' = [some (.ref a), some (.ref g), some (.ref eq), some (.ref b), some (.ref lg), o5, none, none] ∧ j ≤ 61 * i ∧ S34 A Z HL H' g l b bd dd' lg l0 es2 6 j)) ⟨none, bd, 0, rfl, Nat.le_refl _, S0⟩ ?_ ?_⟩⟩
    · rintro i σ' H5 hi ⟨o5, dd', j, rfl, hj, S⟩
      have hi2 : i < 2 := hi
      dsimp only [gName, List.set, tSeq]
      refine ⟨_, rfl, _, rfl, _, rfl, g, l, 3, rfl, S.B, by decide, by decide, fun c H6 c0 c1 B6 K6 => ⟨_, rfl, ?_⟩⟩
      have S6 := S.kp K6 B6
      obtain ⟨m, rfl⟩ := Int.eq_ofNat_of_zero_le c0
      have cm : cM m ≤ 60 := by unfold cM; omega
      dsimp only [tNil]
      refine ⟨m, by omega, g, l, b, dd', lg, l0, es2, 6, j, rfl, S6.B, S6.hB, S6.hE, G, by omega, S6.L, by omega, S6.tb, fun dd2 j2 H7 k7 B7 hB7 L7 le7 t7 => ?_⟩
      refine ⟨true, rfl, iteF ?_⟩
      exact ⟨_, dd2, j2, rfl, by omega, S6.tri k7 B7 hB7 L7 t7⟩
    · rintro σ' H5 ⟨o5, dd', j, rfl, hj, S⟩
      obtain ⟨⟨dxL, hbL⟩, hdL⟩ := id hB6
      have A5 : All2 (Tri H5) ts es := A6.mono fun _ _ z => S.k.kn _ _ z (by intro ps y; cases y) (S0.off z (by intro xs y; cases y) (by intro C dx fs y; cases y) (by intro kvs y; cases y))
      have heq5 : H5 eq = some (.lst (ts.map V.ref)) := S.k.kn _ _ heq6 (by intro ps y; cases y) (by
        simp only [List.mem_cons, List.not_mem_nil, or_false, not_or]
        exact ⟨neg, ne_of heq6 hbL (by intro y; cases y), ne_of heq6 hdL (by intro y; cases y), neqg, neq0⟩)
      obtain ⟨⟨dxb, hbx⟩, hdx⟩ := id S.hB
      clear A6 E6 heq6 hZ6 B6 hbL hdL hB6 hl6 h06 S0
      dsimp only [tSeq]
      refine ⟨(by show 3 ≤ sizeLine; decide), fun e he => ⟨_, rfl, (by show 2 ≤ sizeLine; decide), fun t ht => ?_⟩⟩
      have s6 := Same.new (o := .tup [V.str "sell", .str "later", .int 1]) he
      have s7 := s6.trans (Same.new (o := .tup [V.int 1000000, .int 0]) ht)
      have he7 := (Same.new (o := .tup [V.int 1000000, .int 0]) ht) _ _ (upd_same (H := H5) (a := e) (o := .tup [V.str "sell", .str "later", .int 1]))
      have ht7 := upd_same (H := upd H5 e (.tup [V.str "sell", .str "later", .int 1])) (a := t) (o := .tup [V.int 1000000, .int 0])
      generalize upd (upd H5 e (.tup [V.str "sell", .str "later", .int 1])) t (.tup [V.int 1000000, .int 0]) = H7 at *
      have hB7 := S.hB.same s7
      refine ⟨b, dxb, _, rfl, s7 _ _ hbx, b, dd', t, es2, .int 1000000, .int 0, .ref e, true, rfl, hB7, by omega, ht7, .inl (.int _), .inl (.int _), .inl ⟨.str "sell", .str "later", .int 1, ⟨e, rfl, he7, .str _, .str _, .int _, (fun z q => by rw [← V.str.inj q]; decide +kernel), fun z q => by cases q⟩, by decide +kernel⟩, (fun d' n' e1 e2 _ Hg sg => ?_), fun z => ?_⟩
      case refine_2 =>
        have : (numV 0 (.int 1000000) && (numV 0 (.int 0) && true)) = true := by decide +kernel
        rw [this] at z
        cases z
      obtain rfl := V.int.inj e1
      obtain rfl := V.int.inj e2
      obtain ⟨u, hu⟩ : ∃ u : En, u = ⟨1000000, 0, e, "sell", "later", .int 1⟩ := ⟨_, rfl⟩
      have uok : EnOk u := by
        rw [hu]
        exact ⟨by show entOk (.str ("sell" : Str)) (.str ("later" : Str)) (.int 1) = true; decide +kernel, .int _, (fun z q => by rw [← V.str.inj q]; show ("later" : Str).length ≤ 1000; decide +kernel), fun z q => by cases q⟩
      have eP : putK (kvE es2) (keyE 1000000 0) (.ref e) = kvE (es2 ++ [u]) := by
        have := put_kvE (es := es2) (t := u)
        rw [put_new (fun v hv q => by
          have := (rg2 v (pe.mem_iff.mp hv)).2.2.1
          have q1 := congrArg Prod.fst q
          rw [hu] at q1
          dsimp only at q1
          omega)] at this
        rw [hu] at this ⊢
        exact this
      rw [eP]
      have s8 := s7.trans sg
      have S8 := S.same s8
      obtain ⟨q1, q2, q3⟩ := S8.hB.dput (es' := es2 ++ [u]) S8.B
      have he8 : Hg u.e = some (.tup [.str u.kd, .str u.nm, u.x]) := by rw [hu]; exact sg _ _ he7
      have A8 : All2 (Tri (upd Hg dd' (.dT (kvE (es2 ++ [u]))))) ts es := A5.mono fun _ _ z => q3 _ _ (s8 _ _ z)
      have E8 : EntsAt (upd Hg dd' (.dT (kvE (es2 ++ [u])))) (es2 ++ [u]) := fun v hv => by
        rcases List.mem_append.mp hv with hv | hv
        · exact q3 _ _ (S8.hE v hv)
        · rw [List.mem_singleton.mp hv]
          exact q3 _ _ he8
      have ll : ∀ {c : Addr} {xs : List V}, Hg c = some (.lst xs) → (upd Hg dd' (.dT (kvE (es2 ++ [u])))) c = some (.lst xs) := fun z => by rw [upd_ne (ne_of z S8.hB.2 (by intro y; cases y))]; exact z
      have heq8 := ll (s8 _ _ heq5)
      obtain ⟨⟨i8, hi8, hl8⟩, ⟨ys8, h08, yne, _⟩, _⟩ := S8.L
      have hl9 := ll hl8
      have h09 := ll h08
      clear hl8 h08 A5 heq5 S S8 q2 q3 he8 s8 s7 he7 ht7 hB7 hbx hdx e1 e2 sg ll eP
      generalize upd Hg dd' (.dT (kvE (es2 ++ [u]))) = H8 at *
      have pe1 : (es ++ [u]).Perm (es2 ++ [u]) := pe.symm.append_right _
      have kn8 : keyN (es2 ++ [u]) := by
        have : (es ++ [u]).Pairwise ltE := List.pairwise_append.mpr ⟨pw2, List.pairwise_singleton _ _, fun v hv w hw => by
          have := (rg2 v hv).2.2.1
          rw [List.mem_singleton.mp hw, hu]
          unfold ltE
          dsimp only
          omega⟩
        exact ((pe1.map fun t : En => (t.d, t.n)).nodup_iff).mp (inc_nodup this)
      have eS : srtE (es2 ++ [u]) = es ++ [u] := by
        refine (srtE_uniq kn8 pe1 (List.pairwise_append.mpr ⟨pw2.imp fun {x y} z => ?_, List.pairwise_singleton _ _, fun v hv w hw => ?_⟩)).symm
        · unfold ltE at z
          unfold leEn
          rw [leK_iff]
          dsimp only
          omega
        · have := (rg2 v hv).2.2.1
          rw [List.mem_singleton.mp hw, hu]
          unfold leEn
          rw [leK_iff]
          dsimp only
          omega
      dsimp only [tSeq]
      refine ⟨⟨_, rfl, eq, rfl, ⟨_, SqL.of heq8⟩, fun D hD => lc_sameP (K := K) (fun i y H => ∃ (t s : Addr) (u' : En), es[i]? = some u' ∧ y = .ref t ∧ H t = some (.tup [.ref s, .ref u'.e]) ∧ H s = some (.tup [.int u'.d, .int u'.n])) heq8 (by rw [List.length_map]; omega) hD ?_ ?_ ?_⟩⟩
      · rintro i y H1 H2 acc hD1 k1 ⟨t, s, u', hu', rfl, h1, h2⟩
        exact ⟨t, s, u', hu', rfl, k1 _ _ h1 (ne_of h1 hD1 (by intro z; cases z)), k1 _ _ h2 (ne_of h2 hD1 (by intro z; cases z))⟩
      · intro i y H9 N M hi s9 hN
        rw [List.getElem?_map] at hi
        obtain ⟨t, hti, rfl⟩ := Option.map_eq_some_iff.mp hi
        obtain ⟨u', hu', htu⟩ := A8.get hti
        have htp : H9 t = some (.tup [.int u'.d, .int u'.n, .ref u'.e]) := s9 _ _ htu
        refine ⟨rfl, _, rfl, t, _, _, _, rfl, rfl, SqT.of htp, rfl, _, rfl, t, _, _, _, rfl, rfl, SqT.of htp, rfl, (by show 2 ≤ sizeLine; decide), fun sp hsp => ⟨_, rfl, t, _, _, _, rfl, rfl, SqT.of ((Same.new hsp) _ _ htp), rfl, (by show 2 ≤ sizeLine; decide), fun v hv => ?_⟩⟩
        exact hN _ _ ((Same.new hsp).trans (Same.new hv)) ⟨v, sp, u', hu', rfl, upd_same, (Same.new hv) _ _ upd_same⟩
      · intro ys H9 s9 yl hR hD9
        obtain ⟨us, rfl, hus, rfl⟩ := kept_of34 (yl.trans ((List.length_map _).trans A8.1)) hR
        have z3 : 3 ≤ sizeLine := by decide
        refine ⟨(by show 2 ≤ sizeLine; decide), fun sp hsp => ⟨(by show 3 ≤ sizeLine; decide), fun ep hep => ⟨(by show 2 ≤ sizeLine; decide), fun vp hvp => ⟨(by show 1 ≤ sizeLine; decide), fun lq hlq => ?_⟩⟩⟩⟩
        have t1 := Same.new (o := .tup [V.int 1000000, .int 0]) hsp
        have g1 := upd_same (H := H9) (a := sp) (o := .tup [V.int 1000000, .int 0])
        generalize upd H9 sp (.tup [V.int 1000000, .int 0]) = G1 at *
        have t2 := Same.new (o := .tup [V.str "sell", .str "later", .int 1]) hep
        have g2 := upd_same (H := G1) (a := ep) (o := .tup [V.str "sell", .str "later", .int 1])
        generalize upd G1 ep (.tup [V.str "sell", .str "later", .int 1]) = G2 at *
        have t3 := Same.new (o := .tup [V.ref sp, .ref ep]) hvp
        have g3 := upd_same (H := G2) (a := vp) (o := .tup [V.ref sp, .ref ep])
        generalize upd G2 vp (.tup [V.ref sp, .ref ep]) = G3 at *
        have t4 := Same.new (o := .lst [V.ref vp]) hlq
        have g4 := upd_same (H := G3) (a := lq) (o := .lst [V.ref vp])
        generalize upd G3 lq (.lst [V.ref vp]) = G4 at *
        have t34 := t3.trans t4
        have t14 := t1.trans (t2.trans t34)
        refine ⟨D, lq, _, _, rfl, rfl, t14 _ _ hD9, g4, ?_, fun p hp => ?_⟩
        · rw [List.length_map, List.length_map] at *
          exact Nat.le_trans (by have := A8.1; rw [List.length_map] at this; simp only [List.length_singleton]; omega : _ ≤ 60) (by decide)
        have t5 := Same.new (o := .lst (us.map (fun u => V.ref u.1) ++ [V.ref vp])) hp
        have g5 := upd_same (H := G4) (a := p) (o := .lst (us.map (fun u => V.ref u.1) ++ [V.ref vp]))
        generalize upd G4 p (.lst (us.map (fun u => V.ref u.1) ++ [V.ref vp])) = G5 at *
        have s8G := s9.trans (t14.trans t5)
        dsimp only [gName, List.set, tSeq]
        have A8l := A8.1
        rw [List.length_map] at A8l
        refine ⟨_, rfl, lg, l0, ys8, i8, rfl, s8G _ _ hl9, s8G _ _ h09, yne, ⟨_, rfl, iteT ⟨_, rfl, b, dd', es2 ++ [u], rfl, q1.same s8G, kn8, by rw [List.length_append, List.length_singleton]; omega, fun pk usk H6 s6 npk Kk ek => ⟨_, rfl, ?_⟩⟩⟩⟩
        rw [eS] at ek
        have okA : ∀ v ∈ us.map (fun u => u.2.2) ++ [u], Pl v.x := fun v hv => by
          rcases List.mem_append.mp hv with hv | hv
          · exact (ok2 v hv).2.1
          · rw [List.mem_singleton.mp hv]
            exact uok.2.1
        have EK : EntsAt H6 (us.map (fun u => u.2.2) ++ [u]) := fun v hv => s6 _ _ (s8G _ _ (E8 v (pe1.mem_iff.mp hv)))
        have d1 := dl_kept (K := K) Kk (by rw [ek]; exact EK) (fun w hw => okA _ (by rw [← ek]; exact List.mem_map.mpr ⟨w, hw, rfl⟩))
        rw [ek] at d1
        obtain ⟨u2, hu2⟩ : ∃ u2 : En, u2 = ⟨1000000, 0, ep, "sell", "later", .int 1⟩ := ⟨_, rfl⟩
        have KD : KeptAt H6 p (us ++ [(vp, sp, u2)]) := by
          refine ⟨by rw [List.map_append]; exact s6 _ _ g5, fun w hw => ?_⟩
          rcases List.mem_append.mp hw with hw | hw
          · exact ⟨s6 _ _ (t5 _ _ (t14 _ _ (hus w hw).1)), s6 _ _ (t5 _ _ (t14 _ _ (hus w hw).2))⟩
          · rw [List.mem_singleton.mp hw, hu2]
            exact ⟨s6 _ _ (t5 _ _ (t4 _ _ g3)), s6 _ _ (t5 _ _ (t34 _ _ (t2 _ _ g1)))⟩
        have d2 := dl_kept (K := K) KD (fun v hv => by
          rw [List.map_append] at hv
          rcases List.mem_append.mp hv with hv | hv
          · exact EK v (List.mem_append_left _ hv)
          · rw [List.mem_singleton.mp hv, hu2]
            exact s6 _ _ (t5 _ _ (t34 _ _ g2))) (fun w hw => by
          rcases List.mem_append.mp hw with hw | hw
          · exact okA _ (List.mem_append_left _ (List.mem_map.mpr ⟨w, hw, rfl⟩))
          · rw [List.mem_singleton.mp hw, hu2]
            exact .int _)
        have eI : ((us ++ [(vp, sp, u2)]).map fun u => u.2.2).map itemD = (us.map (fun u => u.2.2) ++ [u]).map itemD := by
          rw [List.map_append, List.map_append, List.map_append, hu2, hu]
          rfl
        rw [eI] at d2
        exact eq_dl d1 d2 (by decide) (k _)
end

theorem facts_k {l : PySem.W.OpenLaw} {w : World} {K : PySem.W.Frag} {h : Heap} {mg : Str → Option Value} {f : Addr} (X : K.In h) (G : h.Ns mainGlobals mg) (hfa : mg ("law" : Str) = some (.ref f)) (c : ∀ p ∈ pcsK, SaysT p h K) : LamX.LawAtS l w K CX0 40 63 "_law_script" mg f h := by
  have c0 : lookK pcK0.1 pcK0.2 K = wantK pcK0.2 := (c pcT0 (List.mem_of_getElem? (i := 0) rfl)).1
  have h0 := qk_0_ok (fact_of c0 0 rfl)
  have h1 := qk_1_ok (fact_of c0 1 rfl)
  have h2 := qk_2_ok (fact_of c0 2 rfl)
  have h3 := qk_3_ok (fact_of c0 3 rfl)
  have h4 := qk_4_ok (fact_of c0 4 rfl)
  have h5 := qk_5_ok (fact_of c0 5 rfl)
  have h6 := qk_6_ok (fact_of c0 6 rfl)
  have h7 := qk_7_ok (fact_of c0 7 rfl)
  have h8 := qk_8_ok (fact_of c0 8 rfl)
  have h9 := qk_9_ok (fact_of c0 9 rfl)
  have h10 := qk_10_ok (fact_of c0 10 rfl)
  have h11 := qk_11_ok (fact_of c0 11 rfl)
  have h12 := qk_12_ok (fact_of c0 12 rfl)
  have h13 := qk_13_ok (fact_of c0 13 rfl)
  have h14 := qk_14_ok (fact_of c0 14 rfl)
  have h15 := qk_15_ok (fact_of c0 15 rfl)
  have h16 := qk_16_ok (fact_of c0 16 rfl)
  have h17 := qk_17_ok (fact_of c0 17 rfl)
  have h18 := qk_18_ok (fact_of c0 18 rfl)
  have h19 := qk_19_ok (fact_of c0 19 rfl)
  obtain ⟨fd_m_BadEntry_init, F_m_BadEntry_init⟩ : ∃ fd, Fun K "__init__" "BadEntry.__init__" s_m_BadEntry_init (He.ma K (He.ga K "BadEntry") "__init__") fd := let ⟨fd, D⟩ := dfn_of c0 0 (d := dk_m_BadEntry_init) rfl; ⟨fd, fun_of D⟩
  have b_m_BadEntry_init := F_m_BadEntry_init.binds (ps := P_m_BadEntry_init) fun _ _ _ _ _ _ us hl => match us, hl with | [_, _, _], _ => rfl
  obtain ⟨fd_m_NoEntry_init, F_m_NoEntry_init⟩ : ∃ fd, Fun K "__init__" "NoEntry.__init__" s_m_NoEntry_init (He.ma K (He.ga K "NoEntry") "__init__") fd := let ⟨fd, D⟩ := dfn_of c0 1 (d := dk_m_NoEntry_init) rfl; ⟨fd, fun_of D⟩
  have b_m_NoEntry_init := F_m_NoEntry_init.binds (ps := P_m_NoEntry_init) fun _ _ _ _ _ _ us hl => match us, hl with | [_, _, _], _ => rfl
  obtain ⟨fd_f_is_name, F_f_is_name⟩ : ∃ fd, Fun K "is_name" "is_name" s_f_is_name (He.ga K "is_name") fd := let ⟨fd, D⟩ := dfn_of c0 2 (d := dk_f_is_name) rfl; ⟨fd, fun_of D⟩
  have b_f_is_name := F_f_is_name.binds (ps := P_f_is_name) fun _ _ _ _ _ _ us hl => match us, hl with | [_], _ => rfl
  obtain ⟨fd_f_is_number, F_f_is_number⟩ : ∃ fd, Fun K "is_number" "is_number" s_f_is_number (He.ga K "is_number") fd := let ⟨fd, D⟩ := dfn_of c0 3 (d := dk_f_is_number) rfl; ⟨fd, fun_of D⟩
  have b_f_is_number := F_f_is_number.binds (ps := P_f_is_number) fun _ _ _ _ _ _ us hl => match us, hl with | [_, _], _ => rfl
  obtain ⟨fd_f_is_entry, F_f_is_entry⟩ : ∃ fd, Fun K "is_entry" "is_entry" s_f_is_entry (He.ga K "is_entry") fd := let ⟨fd, D⟩ := dfn_of c0 4 (d := dk_f_is_entry) rfl; ⟨fd, fun_of D⟩
  have b_f_is_entry := F_f_is_entry.binds (ps := P_f_is_entry) fun _ _ _ _ _ _ us hl => match us, hl with | [_], _ => rfl
  obtain ⟨fd_m_Trial_init, F_m_Trial_init⟩ : ∃ fd, Fun K "__init__" "Trial.__init__" s_m_Trial_init (He.ma K (He.ga K "Trial") "__init__") fd := let ⟨fd, D⟩ := dfn_of c0 5 (d := dk_m_Trial_init) rfl; ⟨fd, fun_of D⟩
  have b_m_Trial_init := F_m_Trial_init.binds (ps := P_m_Trial_init) fun _ _ _ _ _ _ us hl => match us, hl with | [_, _], _ => rfl
  obtain ⟨fd_m_Trial_enter, F_m_Trial_enter⟩ : ∃ fd, Fun K "__enter__" "Trial.__enter__" s_m_Trial_enter (He.ma K (He.ga K "Trial") "__enter__") fd := let ⟨fd, D⟩ := dfn_of c0 6 (d := dk_m_Trial_enter) rfl; ⟨fd, fun_of D⟩
  have b_m_Trial_enter := F_m_Trial_enter.binds (ps := P_m_Trial_enter) fun _ _ _ _ _ _ us hl => match us, hl with | [_], _ => rfl
  obtain ⟨fd_m_Trial_exit, F_m_Trial_exit⟩ : ∃ fd, Fun K "__exit__" "Trial.__exit__" s_m_Trial_exit (He.ma K (He.ga K "Trial") "__exit__") fd := let ⟨fd, D⟩ := dfn_of c0 7 (d := dk_m_Trial_exit) rfl; ⟨fd, fun_of D⟩
  have b_m_Trial_exit := F_m_Trial_exit.binds (ps := P_m_Trial_exit) fun _ _ _ _ _ _ us hl => match us, hl with | [_, _, _, _], _ => rfl
  obtain ⟨fd_m_Book_init, F_m_Book_init⟩ : ∃ fd, Fun K "__init__" "Book.__init__" s_m_Book_init (He.ma K (He.ga K "Book") "__init__") fd := let ⟨fd, D⟩ := dfn_of c0 8 (d := dk_m_Book_init) rfl; ⟨fd, fun_of D⟩
  have b_m_Book_init := F_m_Book_init.binds (ps := P_m_Book_init) fun _ _ _ _ _ _ us hl => match us, hl with | [_], _ => rfl
  obtain ⟨fd_m_Book_contains, F_m_Book_contains⟩ : ∃ fd, Fun K "__contains__" "Book.__contains__" s_m_Book_contains (He.ma K (He.ga K "Book") "__contains__") fd := let ⟨fd, D⟩ := dfn_of c0 9 (d := dk_m_Book_contains) rfl; ⟨fd, fun_of D⟩
  have b_m_Book_contains := F_m_Book_contains.binds (ps := P_m_Book_contains) fun _ _ _ _ _ _ us hl => match us, hl with | [_, _], _ => rfl
  obtain ⟨fd_m_Book_len, F_m_Book_len⟩ : ∃ fd, Fun K "__len__" "Book.__len__" s_m_Book_len (He.ma K (He.ga K "Book") "__len__") fd := let ⟨fd, D⟩ := dfn_of c0 10 (d := dk_m_Book_len) rfl; ⟨fd, fun_of D⟩
  have b_m_Book_len := F_m_Book_len.binds (ps := P_m_Book_len) fun _ _ _ _ _ _ us hl => match us, hl with | [_], _ => rfl
  obtain ⟨fd_m_Book_getitem, F_m_Book_getitem⟩ : ∃ fd, Fun K "__getitem__" "Book.__getitem__" s_m_Book_getitem (He.ma K (He.ga K "Book") "__getitem__") fd := let ⟨fd, D⟩ := dfn_of c0 11 (d := dk_m_Book_getitem) rfl; ⟨fd, fun_of D⟩
  have b_m_Book_getitem := F_m_Book_getitem.binds (ps := P_m_Book_getitem) fun _ _ _ _ _ _ us hl => match us, hl with | [_, _], _ => rfl
  obtain ⟨fd_m_Book_setitem, F_m_Book_setitem⟩ : ∃ fd, Fun K "__setitem__" "Book.__setitem__" s_m_Book_setitem (He.ma K (He.ga K "Book") "__setitem__") fd := let ⟨fd, D⟩ := dfn_of c0 12 (d := dk_m_Book_setitem) rfl; ⟨fd, fun_of D⟩
  have b_m_Book_setitem := F_m_Book_setitem.binds (ps := P_m_Book_setitem) fun _ _ _ _ _ _ us hl => match us, hl with | [_, _, _], _ => rfl
  obtain ⟨fd_m_Book_remove, F_m_Book_remove⟩ : ∃ fd, Fun K "remove" "Book.remove" s_m_Book_remove (He.ma K (He.ga K "Book") "remove") fd := let ⟨fd, D⟩ := dfn_of c0 13 (d := dk_m_Book_remove) rfl; ⟨fd, fun_of D⟩
  have b_m_Book_remove := F_m_Book_remove.binds (ps := P_m_Book_remove) fun _ _ _ _ _ _ us hl => match us, hl with | [_, _, _], _ => rfl
  obtain ⟨fd_m_Book_places, F_m_Book_places⟩ : ∃ fd, Fun K "places" "Book.places" s_m_Book_places (He.ma K (He.ga K "Book") "places") fd := let ⟨fd, D⟩ := dfn_of c0 14 (d := dk_m_Book_places) rfl; ⟨fd, fun_of D⟩
  have b_m_Book_places := F_m_Book_places.binds (ps := P_m_Book_places) fun _ _ _ _ _ _ us hl => match us, hl with | [_], _ => rfl
  obtain ⟨fd_m_Book_named, F_m_Book_named⟩ : ∃ fd, Fun K "named" "Book.named" s_m_Book_named (He.ma K (He.ga K "Book") "named") fd := let ⟨fd, D⟩ := dfn_of c0 15 (d := dk_m_Book_named) rfl; ⟨fd, fun_of D⟩
  have b_m_Book_named := F_m_Book_named.binds (ps := P_m_Book_named) fun _ _ _ _ _ _ us hl => match us, hl with | [_, _], _ => rfl
  obtain ⟨fd_m_Book_lots, F_m_Book_lots⟩ : ∃ fd, Fun K "lots" "Book.lots" s_m_Book_lots (He.ma K (He.ga K "Book") "lots") fd := let ⟨fd, D⟩ := dfn_of c0 16 (d := dk_m_Book_lots) rfl; ⟨fd, fun_of D⟩
  have b_m_Book_lots := F_m_Book_lots.binds (ps := P_m_Book_lots) fun _ _ _ _ _ _ us hl => match us, hl with | [_], _ => rfl
  obtain ⟨fd_m_Book_sales, F_m_Book_sales⟩ : ∃ fd, Fun K "sales" "Book.sales" s_m_Book_sales (He.ma K (He.ga K "Book") "sales") fd := let ⟨fd, D⟩ := dfn_of c0 17 (d := dk_m_Book_sales) rfl; ⟨fd, fun_of D⟩
  have b_m_Book_sales := F_m_Book_sales.binds (ps := P_m_Book_sales) fun _ _ _ _ _ _ us hl => match us, hl with | [_], _ => rfl
  obtain ⟨fd_m_Book_late_costs, F_m_Book_late_costs⟩ : ∃ fd, Fun K "late_costs" "Book.late_costs" s_m_Book_late_costs (He.ma K (He.ga K "Book") "late_costs") fd := let ⟨fd, D⟩ := dfn_of c0 18 (d := dk_m_Book_late_costs) rfl; ⟨fd, fun_of D⟩
  have b_m_Book_late_costs := F_m_Book_late_costs.binds (ps := P_m_Book_late_costs) fun _ _ _ _ _ _ us hl => match us, hl with | [_], _ => rfl
  obtain ⟨fd_m_Book_trial, F_m_Book_trial⟩ : ∃ fd, Fun K "trial" "Book.trial" s_m_Book_trial (He.ma K (He.ga K "Book") "trial") fd := let ⟨fd, D⟩ := dfn_of c0 19 (d := dk_m_Book_trial) rfl; ⟨fd, fun_of D⟩
  have b_m_Book_trial := F_m_Book_trial.binds (ps := P_m_Book_trial) fun _ _ _ _ _ _ us hl => match us, hl with | [_], _ => rfl
  obtain ⟨fd_m_Book_tried, F_m_Book_tried⟩ : ∃ fd, Fun K "tried" "Book.tried" s_m_Book_tried (He.ma K (He.ga K "Book") "tried") fd := let ⟨fd, D⟩ := dfn_of c0 20 (d := dk_m_Book_tried) rfl; ⟨fd, fun_of D⟩
  have b_m_Book_tried := F_m_Book_tried.binds (ps := P_m_Book_tried) fun _ _ _ _ _ _ us hl => match us, hl with | [_, _], _ => rfl
  obtain ⟨fd_l_bag, F_l_bag⟩ : ∃ fd, Fun K "_law_bag" "_law_bag" s_l_bag (He.ga K "_law_bag") fd := let ⟨fd, D⟩ := dfn_of c0 21 (d := dk_l_bag) rfl; ⟨fd, fun_of D⟩
  have b_l_bag := F_l_bag.binds (ps := P_l_bag) fun _ _ _ _ _ _ us hl => match us, hl with | [_], _ => rfl
  obtain ⟨fd_l_draw, F_l_draw⟩ : ∃ fd, Fun K "_law_draw" "_law_draw" s_l_draw (He.ga K "_law_draw") fd := let ⟨fd, D⟩ := dfn_of c0 22 (d := dk_l_draw) rfl; ⟨fd, fun_of D⟩
  have b_l_draw := F_l_draw.binds (ps := P_l_draw) fun _ _ _ _ _ _ us hl => match us, hl with | [_, _], _ => rfl
  obtain ⟨fd_l_names, F_l_names⟩ : ∃ fd, Fun K "_law_names" "_law_names" s_l_names (He.ga K "_law_names") fd := let ⟨fd, D⟩ := dfn_of c0 23 (d := dk_l_names) rfl; ⟨fd, fun_of D⟩
  have b_l_names := F_l_names.binds (ps := P_l_names) fun _ _ _ _ _ _ us hl => match us, hl with | [_, _, _], _ => rfl
  obtain ⟨fd_l_pick, F_l_pick⟩ : ∃ fd, Fun K "_law_pick" "_law_pick" s_l_pick (He.ga K "_law_pick") fd := let ⟨fd, D⟩ := dfn_of c0 24 (d := dk_l_pick) rfl; ⟨fd, fun_of D⟩
  have b_l_pick := F_l_pick.binds (ps := P_l_pick) fun _ _ _ _ _ _ us hl => match us, hl with | [_, _], _ => rfl
  obtain ⟨fd_l_mixed, F_l_mixed⟩ : ∃ fd, Fun K "_law_mixed" "_law_mixed" s_l_mixed (He.ga K "_law_mixed") fd := let ⟨fd, D⟩ := dfn_of c0 25 (d := dk_l_mixed) rfl; ⟨fd, fun_of D⟩
  have b_l_mixed := F_l_mixed.binds (ps := P_l_mixed) fun _ _ _ _ _ _ us hl => match us, hl with | [_, _], _ => rfl
  obtain ⟨fd_l_next, F_l_next⟩ : ∃ fd, Fun K "_law_next" "_law_next" s_l_next (He.ga K "_law_next") fd := let ⟨fd, D⟩ := dfn_of c0 26 (d := dk_l_next) rfl; ⟨fd, fun_of D⟩
  have b_l_next := F_l_next.binds (ps := P_l_next) fun _ _ _ _ _ _ us hl => match us, hl with | [_, _], _ => rfl
  obtain ⟨fd_l_entries, F_l_entries⟩ : ∃ fd, Fun K "_law_entries" "_law_entries" s_l_entries (He.ga K "_law_entries") fd := let ⟨fd, D⟩ := dfn_of c0 27 (d := dk_l_entries) rfl; ⟨fd, fun_of D⟩
  have b_l_entries := F_l_entries.binds (ps := P_l_entries) fun _ _ _ _ _ _ us hl => match us, hl with | [_, _], _ => rfl
  obtain ⟨fd_l_book, F_l_book⟩ : ∃ fd, Fun K "_law_book" "_law_book" s_l_book (He.ga K "_law_book") fd := let ⟨fd, D⟩ := dfn_of c0 28 (d := dk_l_book) rfl; ⟨fd, fun_of D⟩
  have b_l_book := F_l_book.binds (ps := P_l_book) fun _ _ _ _ _ _ us hl => match us, hl with | [_], _ => rfl
  obtain ⟨fd_l_kept, F_l_kept⟩ : ∃ fd, Fun K "_law_kept" "_law_kept" s_l_kept (He.ga K "_law_kept") fd := let ⟨fd, D⟩ := dfn_of c0 29 (d := dk_l_kept) rfl; ⟨fd, fun_of D⟩
  have b_l_kept := F_l_kept.binds (ps := P_l_kept) fun _ _ _ _ _ _ us hl => match us, hl with | [_], _ => rfl
  obtain ⟨fd_l_changed, F_l_changed⟩ : ∃ fd, Fun K "_law_changed" "_law_changed" s_l_changed (He.ga K "_law_changed") fd := let ⟨fd, D⟩ := dfn_of c0 30 (d := dk_l_changed) rfl; ⟨fd, fun_of D⟩
  have b_l_changed := F_l_changed.binds (ps := P_l_changed) fun _ _ _ _ _ _ us hl => match us, hl with | [_, _], _ => rfl
  obtain ⟨fd_l_lists, F_l_lists⟩ : ∃ fd, Fun K "_law_lists" "_law_lists" s_l_lists (He.ga K "_law_lists") fd := let ⟨fd, D⟩ := dfn_of c0 31 (d := dk_l_lists) rfl; ⟨fd, fun_of D⟩
  have b_l_lists := F_l_lists.binds (ps := P_l_lists) fun _ _ _ _ _ _ us hl => match us, hl with | [_], _ => rfl
  obtain ⟨fd_l_refused, F_l_refused⟩ : ∃ fd, Fun K "_law_refused" "_law_refused" s_l_refused (He.ga K "_law_refused") fd := let ⟨fd, D⟩ := dfn_of c0 32 (d := dk_l_refused) rfl; ⟨fd, fun_of D⟩
  have b_l_refused := F_l_refused.binds (ps := P_l_refused) fun _ _ _ _ _ _ us hl => match us, hl with | [_], _ => rfl
  obtain ⟨fd_l_deed, F_l_deed⟩ : ∃ fd, Fun K "_law_deed" "_law_deed" s_l_deed (He.ga K "_law_deed") fd := let ⟨fd, D⟩ := dfn_of c0 33 (d := dk_l_deed) rfl; ⟨fd, fun_of D⟩
  have b_l_deed := F_l_deed.binds (ps := P_l_deed) fun _ _ _ _ _ _ us hl => match us, hl with | [_, _, _, _, _, _], _ => rfl
  obtain ⟨fd_l_trial_right, F_l_trial_right⟩ : ∃ fd, Fun K "_law_trial_right" "_law_trial_right" s_l_trial_right (He.ga K "_law_trial_right") fd := let ⟨fd, D⟩ := dfn_of c0 34 (d := dk_l_trial_right) rfl; ⟨fd, fun_of D⟩
  have b_l_trial_right := F_l_trial_right.binds (ps := P_l_trial_right) fun _ _ _ _ _ _ us hl => match us, hl with | [_, _, _, _], _ => rfl
  obtain ⟨fd_f_law, D_f_law⟩ := dfn_of c0 35 (d := dk_f_law) rfl
  have bL := FunD.bindsA (ps := P_f_law) D_f_law fun _ _ _ _ _ _ us hl => match us, hl with | [_], _ => rfl
  have F_f_law : Fun K "law" "law" s_f_law (He.ga K "law") fd_f_law := fun_of D_f_law
  have b_f_law := F_f_law.binds (ps := P_f_law) fun _ _ _ _ _ _ us hl => match us, hl with | [_], _ => rfl
  have T : Txt K mg ⟨(He.ga K "CostError"), (He.ga K "BadEntry"), (He.ga K "NoEntry"), (He.ga K "Trial"), (He.ga K "Book"), (He.ma K (He.ga K "BadEntry") "__init__"), fd_m_BadEntry_init, (He.ma K (He.ga K "NoEntry") "__init__"), fd_m_NoEntry_init, (He.ga K "is_name"), fd_f_is_name, (He.ga K "is_number"), fd_f_is_number, (He.ga K "is_entry"), fd_f_is_entry, (He.ma K (He.ga K "Trial") "__init__"), fd_m_Trial_init, (He.ma K (He.ga K "Trial") "__enter__"), fd_m_Trial_enter, (He.ma K (He.ga K "Trial") "__exit__"), fd_m_Trial_exit, (He.ma K (He.ga K "Book") "__init__"), fd_m_Book_init, (He.ma K (He.ga K "Book") "__contains__"), fd_m_Book_contains, (He.ma K (He.ga K "Book") "__len__"), fd_m_Book_len, (He.ma K (He.ga K "Book") "__getitem__"), fd_m_Book_getitem, (He.ma K (He.ga K "Book") "__setitem__"), fd_m_Book_setitem, (He.ma K (He.ga K "Book") "remove"), fd_m_Book_remove, (He.ma K (He.ga K "Book") "places"), fd_m_Book_places, (He.ma K (He.ga K "Book") "named"), fd_m_Book_named, (He.ma K (He.ga K "Book") "lots"), fd_m_Book_lots, (He.ma K (He.ga K "Book") "sales"), fd_m_Book_sales, (He.ma K (He.ga K "Book") "late_costs"), fd_m_Book_late_costs, (He.ma K (He.ga K "Book") "trial"), fd_m_Book_trial, (He.ma K (He.ga K "Book") "tried"), fd_m_Book_tried, (He.ga K "_law_bag"), fd_l_bag, (He.ga K "_law_draw"), fd_l_draw, (He.ga K "_law_names"), fd_l_names, (He.ga K "_law_pick"), fd_l_pick, (He.ga K "_law_mixed"), fd_l_mixed, (He.ga K "_law_next"), fd_l_next, (He.ga K "_law_entries"), fd_l_entries, (He.ga K "_law_book"), fd_l_book, (He.ga K "_law_kept"), fd_l_kept, (He.ga K "_law_changed"), fd_l_changed, (He.ga K "_law_lists"), fd_l_lists, (He.ga K "_law_refused"), fd_l_refused, (He.ga K "_law_deed"), fd_l_deed, (He.ga K "_law_trial_right"), fd_l_trial_right, (He.ga K "law"), fd_f_law⟩ := {
    z_KeyError := PySem.W.mg_none_of X G (h0.1),
    z_ZeroDivisionError := PySem.W.mg_none_of X G (h0.2.1),
    z__law_held := PySem.W.mg_none_of X G (h0.2.2.1),
    z_abs := PySem.W.mg_none_of X G (h0.2.2.2.1),
    z_all := PySem.W.mg_none_of X G (h0.2.2.2.2.1),
    z_bool := PySem.W.mg_none_of X G (h0.2.2.2.2.2.1),
    z_dict := PySem.W.mg_none_of X G (h0.2.2.2.2.2.2.1),
    z_int := PySem.W.mg_none_of X G (h0.2.2.2.2.2.2.2),
    z_isinstance := PySem.W.mg_none_of X G (h1.1),
    z_len := PySem.W.mg_none_of X G (h1.2.1),
    z_list := PySem.W.mg_none_of X G (h1.2.2.1),
    z_min := PySem.W.mg_none_of X G (h1.2.2.2.1),
    z_range := PySem.W.mg_none_of X G (h1.2.2.2.2.1),
    z_sorted := PySem.W.mg_none_of X G (h1.2.2.2.2.2.1),
    z_str := PySem.W.mg_none_of X G (h1.2.2.2.2.2.2.1),
    z_tuple := PySem.W.mg_none_of X G (h1.2.2.2.2.2.2.2),
    g_CostError := PySem.W.mg_of X G (h2.1),
    ek_CostError := (h2.2.1),
    eb_CostError := (h2.2.2.1),
    et_CostError := (h2.2.2.2.1),
    eh_CostError := (h2.2.2.2.2.1),
    eic_CostError := (h2.2.2.2.2.2.1),
    es_CostError := (h2.2.2.2.2.2.2.1),
    xg_CostError := (h2.2.2.2.2.2.2.2),
    xk_CostError := (h3.1),
    xa_CostError := (h3.2.1),
    xn_CostError := (h3.2.2.1),
    xt_CostError := (h3.2.2.2.1),
    xm_CostError := (h3.2.2.2.2.1),
    rd_CostError := (h3.2.2.2.2.2.1),
    cg_CostError := (h3.2.2.2.2.2.2.1),
    vi_CostError := (h3.2.2.2.2.2.2.2),
    g_BadEntry := PySem.W.mg_of X G (h4.1),
    ek_BadEntry := (h4.2.1),
    eb_BadEntry := (h4.2.2.1),
    et_BadEntry := (h4.2.2.2.1),
    eh_BadEntry := (h4.2.2.2.2.1),
    eic_BadEntry := (h4.2.2.2.2.2.1),
    es_BadEntry := (h4.2.2.2.2.2.2.1),
    xg_BadEntry := (h4.2.2.2.2.2.2.2),
    xk_BadEntry := (h5.1),
    xa_BadEntry := (h5.2.1),
    xn_BadEntry := (h5.2.2.1),
    xt_BadEntry := (h5.2.2.2.1),
    xm_BadEntry := (h5.2.2.2.2.1),
    n_BadEntry_day := (h5.2.2.2.2.2.1),
    n_BadEntry_number := (h5.2.2.2.2.2.2.1),
    oi_BadEntry := (h5.2.2.2.2.2.2.2),
    ot_BadEntry := (h6.1),
    ox_BadEntry := ⟨(h6.2.1), (h6.2.2.1), (h4.2.2.1), (h4.2.2.2.1), (h4.2.1)⟩,
    g_NoEntry := PySem.W.mg_of X G (h6.2.2.2.1),
    ek_NoEntry := (h6.2.2.2.2.1),
    eb_NoEntry := (h6.2.2.2.2.2.1),
    et_NoEntry := (h6.2.2.2.2.2.2.1),
    eh_NoEntry := (h6.2.2.2.2.2.2.2),
    eic_NoEntry := (h7.1),
    es_NoEntry := (h7.2.1),
    xg_NoEntry := (h7.2.2.1),
    xk_NoEntry := (h7.2.2.2.1),
    xa_NoEntry := (h7.2.2.2.2.1),
    xn_NoEntry := (h7.2.2.2.2.2.1),
    xt_NoEntry := (h7.2.2.2.2.2.2.1),
    xm_NoEntry := (h7.2.2.2.2.2.2.2),
    n_NoEntry_day := (h8.1),
    n_NoEntry_number := (h8.2.1),
    oi_NoEntry := (h8.2.2.1),
    ot_NoEntry := (h8.2.2.2.1),
    ox_NoEntry := ⟨(h8.2.2.2.2.1), (h8.2.2.2.2.2.1), (h6.2.2.2.2.2.1), (h6.2.2.2.2.2.2.1), (h6.2.2.2.2.1)⟩,
    g_Trial := PySem.W.mg_of X G (h8.2.2.2.2.2.2.1),
    cl_Trial := ⟨(h8.2.2.2.2.2.2.2), (h9.1), (h9.2.1), (h9.2.2.1)⟩,
    n_Trial_book := (h9.2.2.2.1),
    n_Trial_kept := (h9.2.2.2.2.1),
    mk_Trial := ⟨(h9.2.2.2.2.2.1), (h9.2.2.2.2.2.2.1), (h9.2.2.2.2.2.2.2), (h10.1)⟩,
    m_Trial___enter__ := ⟨(h10.2.1), (h10.2.2.1), (h10.2.2.2.1)⟩,
    m_Trial___exit__ := ⟨(h10.2.2.2.2.1), (h10.2.2.2.2.2.1), (h10.2.2.2.2.2.2.1)⟩,
    g_Book := PySem.W.mg_of X G (h10.2.2.2.2.2.2.2),
    cl_Book := ⟨(h11.1), (h11.2.1), (h11.2.2.1), (h11.2.2.2.1)⟩,
    n_Book_entries := (h11.2.2.2.2.1),
    mk_Book := ⟨(h11.2.2.2.2.2.1), (h11.2.2.2.2.2.2.1), (h11.2.2.2.2.2.2.2), (h12.1)⟩,
    m_Book___contains__ := ⟨(h12.2.1), (h12.2.2.1), (h12.2.2.2.1)⟩,
    m_Book___len__ := ⟨(h12.2.2.2.2.1), (h12.2.2.2.2.2.1), (h12.2.2.2.2.2.2.1)⟩,
    m_Book___getitem__ := ⟨(h12.2.2.2.2.2.2.2), (h13.1), (h13.2.1)⟩,
    m_Book___setitem__ := ⟨(h13.2.2.1), (h13.2.2.2.1), (h13.2.2.2.2.1)⟩,
    m_Book_remove := ⟨(h13.2.2.2.2.2.1), (h13.2.2.2.2.2.2.1), (h13.2.2.2.2.2.2.2)⟩,
    m_Book_places := ⟨(h14.1), (h14.2.1), (h14.2.2.1)⟩,
    m_Book_named := ⟨(h14.2.2.2.1), (h14.2.2.2.2.1), (h14.2.2.2.2.2.1)⟩,
    m_Book_lots := ⟨(h14.2.2.2.2.2.2.1), (h14.2.2.2.2.2.2.2), (h15.1)⟩,
    m_Book_sales := ⟨(h15.2.1), (h15.2.2.1), (h15.2.2.2.1)⟩,
    m_Book_late_costs := ⟨(h15.2.2.2.2.1), (h15.2.2.2.2.2.1), (h15.2.2.2.2.2.2.1)⟩,
    m_Book_trial := ⟨(h15.2.2.2.2.2.2.2), (h16.1), (h16.2.1)⟩,
    m_Book_tried := ⟨(h16.2.2.1), (h16.2.2.2.1), (h16.2.2.2.2.1)⟩,
    fgi_Book := (h16.2.2.2.2.2.1),
    nsq_Book := (h16.2.2.2.2.2.2.1),
    g_LETTERS := He.str_ok X G (h16.2.2.2.2.2.2.2),
    g_LONGEST := He.int_ok X G (h17.1),
    g_MOST := He.int_ok X G (h17.2.1),
    F_m_BadEntry_init := F_m_BadEntry_init,
    b_m_BadEntry_init := b_m_BadEntry_init,
    F_m_NoEntry_init := F_m_NoEntry_init,
    b_m_NoEntry_init := b_m_NoEntry_init,
    F_f_is_name := F_f_is_name,
    b_f_is_name := b_f_is_name,
    g_is_name := PySem.W.mg_of X G (h17.2.2.1),
    F_f_is_number := F_f_is_number,
    b_f_is_number := b_f_is_number,
    g_is_number := PySem.W.mg_of X G (h17.2.2.2.1),
    F_f_is_entry := F_f_is_entry,
    b_f_is_entry := b_f_is_entry,
    g_is_entry := PySem.W.mg_of X G (h17.2.2.2.2.1),
    F_m_Trial_init := F_m_Trial_init,
    b_m_Trial_init := b_m_Trial_init,
    F_m_Trial_enter := F_m_Trial_enter,
    b_m_Trial_enter := b_m_Trial_enter,
    F_m_Trial_exit := F_m_Trial_exit,
    b_m_Trial_exit := b_m_Trial_exit,
    F_m_Book_init := F_m_Book_init,
    b_m_Book_init := b_m_Book_init,
    F_m_Book_contains := F_m_Book_contains,
    b_m_Book_contains := b_m_Book_contains,
    F_m_Book_len := F_m_Book_len,
    b_m_Book_len := b_m_Book_len,
    F_m_Book_getitem := F_m_Book_getitem,
    b_m_Book_getitem := b_m_Book_getitem,
    F_m_Book_setitem := F_m_Book_setitem,
    b_m_Book_setitem := b_m_Book_setitem,
    F_m_Book_remove := F_m_Book_remove,
    b_m_Book_remove := b_m_Book_remove,
    F_m_Book_places := F_m_Book_places,
    b_m_Book_places := b_m_Book_places,
    F_m_Book_named := F_m_Book_named,
    b_m_Book_named := b_m_Book_named,
    F_m_Book_lots := F_m_Book_lots,
    b_m_Book_lots := b_m_Book_lots,
    F_m_Book_sales := F_m_Book_sales,
    b_m_Book_sales := b_m_Book_sales,
    F_m_Book_late_costs := F_m_Book_late_costs,
    b_m_Book_late_costs := b_m_Book_late_costs,
    F_m_Book_trial := F_m_Book_trial,
    b_m_Book_trial := b_m_Book_trial,
    F_m_Book_tried := F_m_Book_tried,
    b_m_Book_tried := b_m_Book_tried,
    F_l_bag := F_l_bag,
    b_l_bag := b_l_bag,
    g__law_bag := PySem.W.mg_of X G (h17.2.2.2.2.2.1),
    F_l_draw := F_l_draw,
    b_l_draw := b_l_draw,
    g__law_draw := PySem.W.mg_of X G (h17.2.2.2.2.2.2.1),
    F_l_names := F_l_names,
    b_l_names := b_l_names,
    g__law_names := PySem.W.mg_of X G (h17.2.2.2.2.2.2.2),
    F_l_pick := F_l_pick,
    b_l_pick := b_l_pick,
    g__law_pick := PySem.W.mg_of X G (h18.1),
    F_l_mixed := F_l_mixed,
    b_l_mixed := b_l_mixed,
    g__law_mixed := PySem.W.mg_of X G (h18.2.1),
    F_l_next := F_l_next,
    b_l_next := b_l_next,
    g__law_next := PySem.W.mg_of X G (h18.2.2.1),
    F_l_entries := F_l_entries,
    b_l_entries := b_l_entries,
    g__law_entries := PySem.W.mg_of X G (h18.2.2.2.1),
    F_l_book := F_l_book,
    b_l_book := b_l_book,
    g__law_book := PySem.W.mg_of X G (h18.2.2.2.2.1),
    F_l_kept := F_l_kept,
    b_l_kept := b_l_kept,
    g__law_kept := PySem.W.mg_of X G (h18.2.2.2.2.2.1),
    F_l_changed := F_l_changed,
    b_l_changed := b_l_changed,
    g__law_changed := PySem.W.mg_of X G (h18.2.2.2.2.2.2.1),
    F_l_lists := F_l_lists,
    b_l_lists := b_l_lists,
    g__law_lists := PySem.W.mg_of X G (h18.2.2.2.2.2.2.2),
    F_l_refused := F_l_refused,
    b_l_refused := b_l_refused,
    g__law_refused := PySem.W.mg_of X G (h19.1),
    F_l_deed := F_l_deed,
    b_l_deed := b_l_deed,
    g__law_deed := PySem.W.mg_of X G (h19.2.1),
    F_l_trial_right := F_l_trial_right,
    b_l_trial_right := b_l_trial_right,
    g__law_trial_right := PySem.W.mg_of X G (h19.2.2.1),
    F_f_law := F_f_law,
    b_f_law := b_f_law,
    g_law := PySem.W.mg_of X G (h19.2.2.2.1) }
  have e := hfa.symm.trans T.g_law
  cases e
  have t_l_trial_right := tab_call X (h19.2.2.2.2) F_l_trial_right ((c pcT0 (List.mem_of_getElem? (i := 0) rfl)).2 (fun K => (He.ga K "_law_trial_right")) (List.mem_of_getElem? (i := 0) rfl))
  refine ⟨fd_f_law, [(codA K (He.ga K "_law_trial_right"), tabA K (He.ga K "_law_trial_right"))], spLawZ K ⟨codA K (He.ga K "_law_trial_right"), tabA K (He.ga K "_law_trial_right")⟩, fun p hp => ?r1, fun p hp => ?r2, fun p hp => ?r3, fun s v => bL s [v] rfl, fun H a ns hl _ hc hS => ⟨a, ns, rfl, hS, hl, hc _ (List.mem_of_getElem? (i := 0) rfl), fun _ => rfl⟩, fun base _ _ TB => ok_f_law T (Z := ⟨codA K (He.ga K "_law_trial_right"), tabA K (He.ga K "_law_trial_right")⟩) ⟨t_l_trial_right.2.2, TB _ (List.mem_of_getElem? (i := 0) rfl)⟩⟩
  case r1 =>
    simp only [List.mem_cons, List.not_mem_nil, or_false] at hp
    rcases hp with rfl
    · exact t_l_trial_right.1
  case r2 =>
    simp only [List.mem_cons, List.not_mem_nil, or_false] at hp
    rcases hp with rfl
    · exact (h19.2.2.2.2).no
  case r3 =>
    simp only [List.mem_cons, List.not_mem_nil, or_false] at hp
    rcases hp with rfl
    · exact t_l_trial_right.2.1
end Lot
open PySem PySem.W PySem.Calls PyProof.Rows
set_option maxRecDepth 100000 in
set_option maxHeartbeats 0 in
theorem PySem.Challenge.cw_lotcosts_k34_trials_of_books_holds : PySem.Challenge.rw_lotcosts_k34_trials_of_books.Holds := by
  w_on; o_law
  refine HandSHeadRun.head_any (r := OpenLaw.row PySem.Challenge.rw_lotcosts_k34_trials_of_books) (q := view (OpenLaw.row PySem.Challenge.rw_lotcosts_k34_trials_of_books).prog [29]) (H := Lot.hkK) (ob := Lot.seeLT Lot.pcsK) (M := 30000) (loose := Lot.nmsK) (d := HandSHeadRun.topDef (OpenLaw.row PySem.Challenge.rw_lotcosts_k34_trials_of_books).prog 29) (kwd := []) (Lot.seeLT_eq Lot.pcsK)
    (by kernel_rfl) (fun st => by kernel_rfl) Lot.runK_top (by kernel_rfl) (by kernel_rfl) (by kernel_rfl) rfl (by first | assumption | decide +kernel) (by decide +kernel) ⟨rfl, rfl, rfl, rfl, rfl, by decide +kernel⟩ ?hw ?hc
  case hw => w_witness2
  case hc =>
    refine Lot.walk_ofTE (l := PySem.Challenge.rw_lotcosts_k34_trials_of_books) (n := 63) (k := 40) (x := "_law_script") (CX := fun _ => L2.CX0) rfl (by decide) (by kernel_rfl) ⟨rfl, by decide, by decide⟩ ?F (fun _ _ _ _ _ z => z)
    intro w mg fa h Y G hmg0
    obtain ⟨K, KX, c⟩ := Y
    have hmg : mg ("law" : PySem.Str) = some (.ref fa) := by
      rw [← show (HandSHeadRun.topDef (OpenLaw.row PySem.Challenge.rw_lotcosts_k34_trials_of_books).prog 29).name = ("law" : PySem.Str) by kernel_rfl]
      exact hmg0
    exact ⟨K, KX, Lot.facts_k KX G hmg c⟩
#print axioms PySem.Challenge.cw_lotcosts_k34_trials_of_books_holds

