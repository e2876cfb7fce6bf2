import PyProof.Rows.All
import KE.KDictKeyed
import KE.KDictCopyH
import KE.SortData
import Wide.All
import OpenK.AllK
import Wide.FinOn
import HandS.ForMost
import HandS.ForExc
import HandS.Flow
import HandS.Evl
import HandS.Style
import KE.KOpsOwn
import HandS.ClsMeth
import HandS.OwnEq
import HandS.IsInst
import HandS.ExcIs
import HandS.ExcInit
import HandS.ExcField
import HandS.ExcValue
import HandS.MakeKwOnly
import KE.KExcIs
import KE.DataEq
import KE.DataMinMax
import HandS.Wide
import HandS.Codes
import HandS.Text
import HandS.Defaults
import HandS.DictTup
import HandS.TupLen
import HandS.SortRule
import HandS.Conv
import HandS.Walk
import HandS.CallLocal
import HandS.Star
import HandS.HotCalls
import HandS.Deep
import HandS.DictComp
import HandS.Finally
import HandS.NoneIn
import HandS.SetFor
import HandS.SetTxt0
import HandS.SetBool
import HandS.RaiseMore
import HandS.Strs
import PySem.Challenge.RW_lotcosts_k33_books_joined
set_option Elab.async false
set_option linter.all false
set_option pp.maxSteps 400
set_option maxRecDepth 100000
set_option maxHeartbeats 4000000
namespace Lot
open PySem L2
/-! ### steps -/
local macro_rules | `(tactic| walk_at "ne") => `(tactic| first
  | with_reducible assumption
  | (apply Ne.symm; with_reducible assumption)
  | exact ne_of_none (by with_reducible assumption) (by with_reducible assumption)
  | exact (ne_of_none (by with_reducible assumption) (by with_reducible assumption)).symm)
local macro_rules | `(tactic| walk_at "at") => `(tactic| first
  | with_reducible assumption
  | exact upd_same
  | (refine Eq.trans (upd_ne (by walk_at "ne")) ?_; walk_at "at"))
local macro_rules | `(tactic| walk_at "num") => `(tactic| first
  | decide
  | omega
  | (dsimp only; first | decide | omega))
local macro_rules | `(tactic| walk_at "fact") => `(tactic| first
  | with_reducible assumption
  | exact rfl
  | walk_at "at"
  | exact SqL.of (by walk_at "at")
  | exact SqT.of (by walk_at "at")
  | exact .inl (SqL.of (by walk_at "at"))
  | exact .inr (SqT.of (by walk_at "at"))
  | exact .inl ⟨rfl, _, SqL.of (by walk_at "at")⟩
  | exact Or.inl ⟨by walk_at "num", by walk_at "num"⟩
  | exact Or.inr ⟨by walk_at "num", by walk_at "num"⟩
  | exact ⟨by walk_at "num", by walk_at "num"⟩
  | exact ⟨by walk_at "num", by walk_at "num", by walk_at "num"⟩
  | exact wide_div (b := 9000) (by omega) (by assumption) (by decide) (by decide)
  | exact Nat.le_of_ble_eq_true rfl
  | assumption
  | walk_at "num")
local macro_rules | `(tactic| walk_at "go") => `(tactic| repeat (first
  | apply Exists.intro
  | refine And.intro (by walk_at "fact") ?_
  | refine Or.inl ⟨_, rfl, ?_⟩
  | refine Or.inr ⟨_, rfl, ?_⟩
  | refine iteT ?_
  | refine iteF ?_))
def top (i : Nat) : Stmt := PySem.Challenge.pw_lotcosts_k33_books_joined.main.body.getD i (.Pass ⟨0, 0, 0, 0⟩)
abbrev s_m_BadEntry_init : Stmt := inClass (top 3) 0
abbrev N_m_BadEntry_init : List Str := ["self", "day", "number"]
abbrev P_m_BadEntry_init : List Str := ["self", "day", "number"]
theorem sc_m_BadEntry_init : FnScope N_m_BadEntry_init P_m_BadEntry_init (defScope s_m_BadEntry_init) := ⟨rfl, rfl, rfl, by decide +kernel, rfl, by decide +kernel, by decide +kernel⟩
abbrev s_m_NoEntry_init : Stmt := inClass (top 4) 0
abbrev N_m_NoEntry_init : List Str := ["self", "day", "number"]
abbrev P_m_NoEntry_init : List Str := ["self", "day", "number"]
theorem sc_m_NoEntry_init : FnScope N_m_NoEntry_init P_m_NoEntry_init (defScope s_m_NoEntry_init) := ⟨rfl, rfl, rfl, by decide +kernel, rfl, by decide +kernel, by decide +kernel⟩
abbrev s_f_is_name : Stmt := top 9
abbrev N_f_is_name : List Str := ["name", "letter"]
abbrev P_f_is_name : List Str := ["name"]
theorem sc_f_is_name : FnScope N_f_is_name P_f_is_name (defScope s_f_is_name) := ⟨rfl, rfl, rfl, by decide +kernel, rfl, by decide +kernel, by decide +kernel⟩
abbrev s_f_is_number : Stmt := top 10
abbrev N_f_is_number : List Str := ["value", "least"]
abbrev P_f_is_number : List Str := ["value", "least"]
theorem sc_f_is_number : FnScope N_f_is_number P_f_is_number (defScope s_f_is_number) := ⟨rfl, rfl, rfl, by decide +kernel, rfl, by decide +kernel, by decide +kernel⟩
abbrev s_f_is_entry : Stmt := top 11
abbrev N_f_is_entry : List Str := ["entry", "units", "lot"]
abbrev P_f_is_entry : List Str := ["entry"]
theorem sc_f_is_entry : FnScope N_f_is_entry P_f_is_entry (defScope s_f_is_entry) := ⟨rfl, rfl, rfl, by decide +kernel, rfl, by decide +kernel, by decide +kernel⟩
abbrev s_m_Book_init : Stmt := inClass (top 12) 0
abbrev N_m_Book_init : List Str := ["self"]
abbrev P_m_Book_init : List Str := ["self"]
theorem sc_m_Book_init : FnScope N_m_Book_init P_m_Book_init (defScope s_m_Book_init) := ⟨rfl, rfl, rfl, by decide +kernel, rfl, by decide +kernel, by decide +kernel⟩
abbrev s_m_Book_iter : Stmt := inClass (top 12) 1
abbrev N_m_Book_iter : List Str := ["self"]
abbrev P_m_Book_iter : List Str := ["self"]
theorem sc_m_Book_iter : FnScope N_m_Book_iter P_m_Book_iter (defScope s_m_Book_iter) := ⟨rfl, rfl, rfl, by decide +kernel, rfl, by decide +kernel, by decide +kernel⟩
abbrev s_m_Book_contains : Stmt := inClass (top 12) 2
abbrev N_m_Book_contains : List Str := ["self", "place"]
abbrev P_m_Book_contains : List Str := ["self", "place"]
theorem sc_m_Book_contains : FnScope N_m_Book_contains P_m_Book_contains (defScope s_m_Book_contains) := ⟨rfl, rfl, rfl, by decide +kernel, rfl, by decide +kernel, by decide +kernel⟩
abbrev s_m_Book_len : Stmt := inClass (top 12) 3
abbrev N_m_Book_len : List Str := ["self"]
abbrev P_m_Book_len : List Str := ["self"]
theorem sc_m_Book_len : FnScope N_m_Book_len P_m_Book_len (defScope s_m_Book_len) := ⟨rfl, rfl, rfl, by decide +kernel, rfl, by decide +kernel, by decide +kernel⟩
abbrev s_m_Book_getitem : Stmt := inClass (top 12) 4
abbrev N_m_Book_getitem : List Str := ["self", "place", "day", "number"]
abbrev P_m_Book_getitem : List Str := ["self", "place"]
theorem sc_m_Book_getitem : FnScope N_m_Book_getitem P_m_Book_getitem (defScope s_m_Book_getitem) := ⟨rfl, rfl, rfl, by decide +kernel, rfl, by decide +kernel, by decide +kernel⟩
abbrev s_m_Book_setitem : Stmt := inClass (top 12) 5
abbrev N_m_Book_setitem : List Str := ["self", "place", "entry", "day", "number"]
abbrev P_m_Book_setitem : List Str := ["self", "place", "entry"]
theorem sc_m_Book_setitem : FnScope N_m_Book_setitem P_m_Book_setitem (defScope s_m_Book_setitem) := ⟨rfl, rfl, rfl, by decide +kernel, rfl, by decide +kernel, by decide +kernel⟩
abbrev s_m_Book_remove : Stmt := inClass (top 12) 6
abbrev N_m_Book_remove : List Str := ["self", "day", "number"]
abbrev P_m_Book_remove : List Str := ["self", "day", "number"]
theorem sc_m_Book_remove : FnScope N_m_Book_remove P_m_Book_remove (defScope s_m_Book_remove) := ⟨rfl, rfl, rfl, by decide +kernel, rfl, by decide +kernel, by decide +kernel⟩
abbrev s_m_Book_places : Stmt := inClass (top 12) 7
abbrev N_m_Book_places : List Str := ["self"]
abbrev P_m_Book_places : List Str := ["self"]
theorem sc_m_Book_places : FnScope N_m_Book_places P_m_Book_places (defScope s_m_Book_places) := ⟨rfl, rfl, rfl, by decide +kernel, rfl, by decide +kernel, by decide +kernel⟩
abbrev s_m_Book_named : Stmt := inClass (top 12) 8
abbrev N_m_Book_named : List Str := ["self", "kind", "found", "place", "entry"]
abbrev P_m_Book_named : List Str := ["self", "kind"]
theorem sc_m_Book_named : FnScope N_m_Book_named P_m_Book_named (defScope s_m_Book_named) := ⟨rfl, rfl, rfl, by decide +kernel, rfl, by decide +kernel, by decide +kernel⟩
abbrev s_m_Book_lots : Stmt := inClass (top 12) 9
abbrev N_m_Book_lots : List Str := ["self"]
abbrev P_m_Book_lots : List Str := ["self"]
theorem sc_m_Book_lots : FnScope N_m_Book_lots P_m_Book_lots (defScope s_m_Book_lots) := ⟨rfl, rfl, rfl, by decide +kernel, rfl, by decide +kernel, by decide +kernel⟩
abbrev s_m_Book_sales : Stmt := inClass (top 12) 10
abbrev N_m_Book_sales : List Str := ["self"]
abbrev P_m_Book_sales : List Str := ["self"]
theorem sc_m_Book_sales : FnScope N_m_Book_sales P_m_Book_sales (defScope s_m_Book_sales) := ⟨rfl, rfl, rfl, by decide +kernel, rfl, by decide +kernel, by decide +kernel⟩
abbrev s_m_Book_late_costs : Stmt := inClass (top 12) 11
abbrev N_m_Book_late_costs : List Str := ["self"]
abbrev P_m_Book_late_costs : List Str := ["self"]
theorem sc_m_Book_late_costs : FnScope N_m_Book_late_costs P_m_Book_late_costs (defScope s_m_Book_late_costs) := ⟨rfl, rfl, rfl, by decide +kernel, rfl, by decide +kernel, by decide +kernel⟩
abbrev s_m_Book_joined : Stmt := inClass (top 12) 14
abbrev N_m_Book_joined : List Str := ["self", "other", "place", "both"]
abbrev P_m_Book_joined : List Str := ["self", "other"]
theorem sc_m_Book_joined : FnScope N_m_Book_joined P_m_Book_joined (defScope s_m_Book_joined) := ⟨rfl, rfl, rfl, by decide +kernel, rfl, by decide +kernel, by decide +kernel⟩
abbrev s_l_bag : Stmt := top 14
abbrev N_l_bag : List Str := ["_law_script"]
abbrev P_l_bag : List Str := ["_law_script"]
theorem sc_l_bag : FnScope N_l_bag P_l_bag (defScope s_l_bag) := ⟨rfl, rfl, rfl, by decide +kernel, rfl, by decide +kernel, by decide +kernel⟩
abbrev s_l_draw : Stmt := top 15
abbrev N_l_draw : List Str := ["_law_bag_here", "_law_size", "_law_cell", "_law_digit", "_law_mixed_here"]
abbrev P_l_draw : List Str := ["_law_bag_here", "_law_size"]
theorem sc_l_draw : FnScope N_l_draw P_l_draw (defScope s_l_draw) := ⟨rfl, rfl, rfl, by decide +kernel, rfl, by decide +kernel, by decide +kernel⟩
abbrev s_l_names : Stmt := top 16
abbrev N_l_names : List Str := ["_law_bag_here", "_law_count", "_law_words", "_law_letters", "_law_size", "_law_stem", "_law_where", "_law_shift", "_law_longer", "_law_names_here", "_law_k", "_law_name", "_law_spot", "_law_word"]
abbrev P_l_names : List Str := ["_law_bag_here", "_law_count", "_law_words"]
theorem sc_l_names : FnScope N_l_names P_l_names (defScope s_l_names) := ⟨rfl, rfl, rfl, by decide +kernel, rfl, by decide +kernel, by decide +kernel⟩
abbrev s_l_pick : Stmt := top 17
abbrev N_l_pick : List Str := ["_law_bag_here", "_law_items"]
abbrev P_l_pick : List Str := ["_law_bag_here", "_law_items"]
theorem sc_l_pick : FnScope N_l_pick P_l_pick (defScope s_l_pick) := ⟨rfl, rfl, rfl, by decide +kernel, rfl, by decide +kernel, by decide +kernel⟩
abbrev s_l_mixed : Stmt := top 18
abbrev N_l_mixed : List Str := ["_law_bag_here", "_law_items", "_law_left", "_law_found", "_law_k"]
abbrev P_l_mixed : List Str := ["_law_bag_here", "_law_items"]
theorem sc_l_mixed : FnScope N_l_mixed P_l_mixed (defScope s_l_mixed) := ⟨rfl, rfl, rfl, by decide +kernel, rfl, by decide +kernel, by decide +kernel⟩
abbrev s_l_next : Stmt := top 19
abbrev N_l_next : List Str := ["_law_bag_here", "_law_entries_here", "_law_step"]
abbrev P_l_next : List Str := ["_law_bag_here", "_law_entries_here"]
theorem sc_l_next : FnScope N_l_next P_l_next (defScope s_l_next) := ⟨rfl, rfl, rfl, by decide +kernel, rfl, by decide +kernel, by decide +kernel⟩
abbrev s_l_entries : Stmt := top 20
abbrev N_l_entries : List Str := ["_law_bag_here", "_law_most", "_law_steps", "_law_size", "_law_names_here", "_law_sales", "_law_entries_here", "_law_bought", "_law_left", "_law_stock", "_law_costs", "_law_k", "_law_choice", "_law_out", "_law_entry", "_law_units", "_law_sale", "_law_day", "_law_number"]
abbrev P_l_entries : List Str := ["_law_bag_here", "_law_most"]
theorem sc_l_entries : FnScope N_l_entries P_l_entries (defScope s_l_entries) := ⟨rfl, rfl, rfl, by decide +kernel, rfl, by decide +kernel, by decide +kernel⟩
abbrev s_l_book : Stmt := top 21
abbrev N_l_book : List Str := ["_law_entries_here", "_law_book_here", "_law_day", "_law_number", "_law_entry"]
abbrev P_l_book : List Str := ["_law_entries_here"]
theorem sc_l_book : FnScope N_l_book P_l_book (defScope s_l_book) := ⟨rfl, rfl, rfl, by decide +kernel, rfl, by decide +kernel, by decide +kernel⟩
abbrev s_l_kept : Stmt := top 22
abbrev N_l_kept : List Str := ["_law_book_here", "_law_spot"]
abbrev P_l_kept : List Str := ["_law_book_here"]
theorem sc_l_kept : FnScope N_l_kept P_l_kept (defScope s_l_kept) := ⟨rfl, rfl, rfl, by decide +kernel, rfl, by decide +kernel, by decide +kernel⟩
abbrev s_l_named : Stmt := top 23
abbrev N_l_named : List Str := ["_law_kept_here", "_law_kind", "_law_found", "_law_spot", "_law_entry"]
abbrev P_l_named : List Str := ["_law_kept_here", "_law_kind"]
theorem sc_l_named : FnScope N_l_named P_l_named (defScope s_l_named) := ⟨rfl, rfl, rfl, by decide +kernel, rfl, by decide +kernel, by decide +kernel⟩
abbrev s_l_lists_right : Stmt := top 24
abbrev N_l_lists_right : List Str := ["_law_book_here", "_law_kept_here", "_law_spots", "_law_spot", "_law_item"]
abbrev P_l_lists_right : List Str := ["_law_book_here", "_law_kept_here", "_law_spots"]
theorem sc_l_lists_right : FnScope N_l_lists_right P_l_lists_right (defScope s_l_lists_right) := ⟨rfl, rfl, rfl, by decide +kernel, rfl, by decide +kernel, by decide +kernel⟩
abbrev s_l_clash : Stmt := top 25
abbrev N_l_clash : List Str := ["_law_one", "_law_other", "e"]
abbrev P_l_clash : List Str := ["_law_one", "_law_other"]
theorem sc_l_clash : FnScope N_l_clash P_l_clash (defScope s_l_clash) := ⟨rfl, rfl, rfl, by decide +kernel, rfl, by decide +kernel, by decide +kernel⟩
abbrev s_l_unlike : Stmt := top 26
abbrev N_l_unlike : List Str := ["_law_bag_here", "_law_entry", "_law_kind", "_law_name", "_law_thing", "_law_choice"]
abbrev P_l_unlike : List Str := ["_law_bag_here", "_law_entry"]
theorem sc_l_unlike : FnScope N_l_unlike P_l_unlike (defScope s_l_unlike) := ⟨rfl, rfl, rfl, by decide +kernel, rfl, by decide +kernel, by decide +kernel⟩
abbrev s_l_joined_right : Stmt := top 27
abbrev N_l_joined_right : List Str := ["_law_one", "_law_other", "_law_kept_here", "_law_spots", "_law_due", "_law_both", "_law_again", "_law_item"]
abbrev P_l_joined_right : List Str := ["_law_one", "_law_other", "_law_kept_here", "_law_spots"]
theorem sc_l_joined_right : FnScope N_l_joined_right P_l_joined_right (defScope s_l_joined_right) := ⟨rfl, rfl, rfl, by decide +kernel, rfl, by decide +kernel, by decide +kernel⟩
abbrev s_f_law : Stmt := top 28
abbrev N_f_law : List Str := ["_law_script", "_law_bag_here", "_law_entries_here", "_law_sides", "_law_item", "_law_choice", "_law_one", "_law_other", "_law_clashes", "_law_day", "_law_number", "_law_entry", "_law_kept_here", "_law_due"]
abbrev P_f_law : List Str := ["_law_script"]
theorem sc_f_law : FnScope N_f_law P_f_law (defScope s_f_law) := ⟨rfl, rfl, rfl, by decide +kernel, rfl, by decide +kernel, by decide +kernel⟩
/-- no __iop__ in the class's chain -/
def noI (K : PySem.W.Frag) (C : Addr) (nm : String) : Bool := (PySem.W.clsIn K C).any fun cd => cd.mro.all fun c => PySem.W.findIn K c (dunderI nm) == some none
/-- C.m is a staticmethod: its record at p, its def at g -/
structure SMet (K : PySem.W.Frag) (C : Addr) (m : Str) (p g : Addr) : Prop where
  rd : PySem.W.readsIn K C (.type "type") = true
  ga : PySem.W.specialIn K (.ref C) "__getattribute__" = some (some (.builtin "type.__getattribute__"))
  at_ : PySem.W.findCls K (.ref C) (.type "type") m = some (.get (.builtin "staticmethod.__get__") (.ref p) .none (.ref C))
  rc : ∃ rest, PySem.W.recIn K p "staticmethod" = some (.ref g :: rest)
  kp : PySem.W.keepIn K (.ref g) = true
/-- C.m is a classmethod: its record at p, its def at g -/
def CMx (K : PySem.W.Frag) (C : Addr) (m : Str) (p g : Addr) : Prop := ClX.CRead K C (.type "type") ∧ ClX.CMet K C (.type "type") m p g
/-- each of the classes cs is itself alone among them, and under CE and ValueError -/
def kitAll (K : PySem.W.Frag) (cs : List Addr) (CE : Addr) : Bool := cs.all fun C => cs.count C == 1 && (cs.all fun D => PySem.W.kitOne K (.ref C) (.ref D) == some (C == D)) && PySem.W.kitOne K (.ref C) (.ref CE) == some true && PySem.W.kitOne K (.ref C) (.type "ValueError") == some true
structure Ad where
  CostError : Addr
  BadEntry : Addr
  NoEntry : Addr
  Book : Addr
  m_BadEntry_init : Addr
  fd_m_BadEntry_init : FuncData
  m_NoEntry_init : Addr
  fd_m_NoEntry_init : FuncData
  f_is_name : Addr
  fd_f_is_name : FuncData
  f_is_number : Addr
  fd_f_is_number : FuncData
  f_is_entry : Addr
  fd_f_is_entry : FuncData
  m_Book_init : Addr
  fd_m_Book_init : FuncData
  m_Book_iter : Addr
  fd_m_Book_iter : FuncData
  m_Book_contains : Addr
  fd_m_Book_contains : FuncData
  m_Book_len : Addr
  fd_m_Book_len : FuncData
  m_Book_getitem : Addr
  fd_m_Book_getitem : FuncData
  m_Book_setitem : Addr
  fd_m_Book_setitem : FuncData
  m_Book_remove : Addr
  fd_m_Book_remove : FuncData
  m_Book_places : Addr
  fd_m_Book_places : FuncData
  m_Book_named : Addr
  fd_m_Book_named : FuncData
  m_Book_lots : Addr
  fd_m_Book_lots : FuncData
  m_Book_sales : Addr
  fd_m_Book_sales : FuncData
  m_Book_late_costs : Addr
  fd_m_Book_late_costs : FuncData
  m_Book_joined : Addr
  fd_m_Book_joined : FuncData
  l_bag : Addr
  fd_l_bag : FuncData
  l_draw : Addr
  fd_l_draw : FuncData
  l_names : Addr
  fd_l_names : FuncData
  l_pick : Addr
  fd_l_pick : FuncData
  l_mixed : Addr
  fd_l_mixed : FuncData
  l_next : Addr
  fd_l_next : FuncData
  l_entries : Addr
  fd_l_entries : FuncData
  l_book : Addr
  fd_l_book : FuncData
  l_kept : Addr
  fd_l_kept : FuncData
  l_named : Addr
  fd_l_named : FuncData
  l_lists_right : Addr
  fd_l_lists_right : FuncData
  l_clash : Addr
  fd_l_clash : FuncData
  l_unlike : Addr
  fd_l_unlike : FuncData
  l_joined_right : Addr
  fd_l_joined_right : FuncData
  f_law : Addr
  fd_f_law : FuncData
structure Txt (K : PySem.W.Frag) (mg : Str → Option Value) (A : Ad) : Prop where
  z_TypeError : mg "TypeError" = none
  z_abs : mg "abs" = none
  z_all : mg "all" = none
  z_bool : mg "bool" = none
  z_int : mg "int" = none
  z_isinstance : mg "isinstance" = none
  z_len : mg "len" = none
  z_list : mg "list" = none
  z_min : mg "min" = none
  z_range : mg "range" = none
  z_sorted : mg "sorted" = none
  z_str : mg "str" = none
  z_tuple : mg "tuple" = none
  g_CostError : mg "CostError" = some (.ref A.CostError)
  ek_CostError : PySem.W.keepIn K (.ref A.CostError) = true
  eb_CostError : PySem.W.subIn K (.ref A.CostError) (.type "BaseException") = some true
  et_CostError : PySem.W.typeIn K (.ref A.CostError) = some (.type "type")
  eh_CostError : PySem.W.hasDictIn K A.CostError = true
  eic_CostError : PySem.W.isClsIn K A.CostError = true
  es_CostError : PySem.W.subIn K (.ref A.CostError) (.ref A.CostError) = some true
  xg_CostError : PySem.W.findIn K (.ref A.CostError) "__getattribute__" = some (some (.builtin "BaseException.__getattribute__"))
  xk_CostError : PySem.W.findIn K (.ref A.CostError) "__getattr__" = some none
  xa_CostError : PySem.W.findIn K (.ref A.CostError) "__class__" = some (some (.builtin "object.__class__"))
  xn_CostError : PySem.W.specialIn K (.builtin "object.__class__") "__get__" = some (some (.builtin "getset_descriptor.__get__"))
  xt_CostError : PySem.W.takesIn K (.builtin "object.__class__") = some true
  xm_CostError : PySem.W.mroIn K A.CostError (.type "object") = some true
  rd_CostError : PySem.W.readsIn K A.CostError (.type "type") = true
  cg_CostError : PySem.W.specialIn K (.ref A.CostError) "__getattribute__" = some (some (.builtin "type.__getattribute__"))
  vi_CostError : PySem.W.findCls K (.ref A.CostError) (.type "type") "__init__" = some (.val (.builtin "ValueError.__init__"))
  g_BadEntry : mg "BadEntry" = some (.ref A.BadEntry)
  ek_BadEntry : PySem.W.keepIn K (.ref A.BadEntry) = true
  eb_BadEntry : PySem.W.subIn K (.ref A.BadEntry) (.type "BaseException") = some true
  et_BadEntry : PySem.W.typeIn K (.ref A.BadEntry) = some (.type "type")
  eh_BadEntry : PySem.W.hasDictIn K A.BadEntry = true
  eic_BadEntry : PySem.W.isClsIn K A.BadEntry = true
  es_BadEntry : PySem.W.subIn K (.ref A.BadEntry) (.ref A.BadEntry) = some true
  xg_BadEntry : PySem.W.findIn K (.ref A.BadEntry) "__getattribute__" = some (some (.builtin "BaseException.__getattribute__"))
  xk_BadEntry : PySem.W.findIn K (.ref A.BadEntry) "__getattr__" = some none
  xa_BadEntry : PySem.W.findIn K (.ref A.BadEntry) "__class__" = some (some (.builtin "object.__class__"))
  xn_BadEntry : PySem.W.specialIn K (.builtin "object.__class__") "__get__" = some (some (.builtin "getset_descriptor.__get__"))
  xt_BadEntry : PySem.W.takesIn K (.builtin "object.__class__") = some true
  xm_BadEntry : PySem.W.mroIn K A.BadEntry (.type "object") = some true
  xc_BadEntry : PySem.W.kitOne K (.ref A.BadEntry) (.ref A.CostError) = some true
  n_BadEntry_day : PySem.W.findIn K (.ref A.BadEntry) "day" = some none
  n_BadEntry_number : PySem.W.findIn K (.ref A.BadEntry) "number" = some none
  oi_BadEntry : PySem.W.findIn K (.ref A.BadEntry) "__init__" = some (some (.ref A.m_BadEntry_init))
  ot_BadEntry : PySem.W.typeIn K (.ref A.m_BadEntry_init) = some (.type "function")
  ox_BadEntry : OexC K A.BadEntry
  g_NoEntry : mg "NoEntry" = some (.ref A.NoEntry)
  ek_NoEntry : PySem.W.keepIn K (.ref A.NoEntry) = true
  eb_NoEntry : PySem.W.subIn K (.ref A.NoEntry) (.type "BaseException") = some true
  et_NoEntry : PySem.W.typeIn K (.ref A.NoEntry) = some (.type "type")
  eh_NoEntry : PySem.W.hasDictIn K A.NoEntry = true
  eic_NoEntry : PySem.W.isClsIn K A.NoEntry = true
  es_NoEntry : PySem.W.subIn K (.ref A.NoEntry) (.ref A.NoEntry) = some true
  xg_NoEntry : PySem.W.findIn K (.ref A.NoEntry) "__getattribute__" = some (some (.builtin "BaseException.__getattribute__"))
  xk_NoEntry : PySem.W.findIn K (.ref A.NoEntry) "__getattr__" = some none
  xa_NoEntry : PySem.W.findIn K (.ref A.NoEntry) "__class__" = some (some (.builtin "object.__class__"))
  xn_NoEntry : PySem.W.specialIn K (.builtin "object.__class__") "__get__" = some (some (.builtin "getset_descriptor.__get__"))
  xt_NoEntry : PySem.W.takesIn K (.builtin "object.__class__") = some true
  xm_NoEntry : PySem.W.mroIn K A.NoEntry (.type "object") = some true
  n_NoEntry_day : PySem.W.findIn K (.ref A.NoEntry) "day" = some none
  n_NoEntry_number : PySem.W.findIn K (.ref A.NoEntry) "number" = some none
  oi_NoEntry : PySem.W.findIn K (.ref A.NoEntry) "__init__" = some (some (.ref A.m_NoEntry_init))
  ot_NoEntry : PySem.W.typeIn K (.ref A.m_NoEntry_init) = some (.type "function")
  ox_NoEntry : OexC K A.NoEntry
  g_Book : mg "Book" = some (.ref A.Book)
  cl_Book : Cls K A.Book
  n_Book_entries : NoAttr K A.Book "entries"
  mk_Book : Mk K A.Book A.m_Book_init
  m_Book___iter__ : Meth K A.Book "__iter__" A.m_Book_iter
  m_Book___contains__ : Meth K A.Book "__contains__" A.m_Book_contains
  m_Book___len__ : Meth K A.Book "__len__" A.m_Book_len
  m_Book___getitem__ : Meth K A.Book "__getitem__" A.m_Book_getitem
  m_Book___setitem__ : Meth K A.Book "__setitem__" A.m_Book_setitem
  m_Book_remove : Meth K A.Book "remove" A.m_Book_remove
  m_Book_places : Meth K A.Book "places" A.m_Book_places
  m_Book_named : Meth K A.Book "named" A.m_Book_named
  m_Book_lots : Meth K A.Book "lots" A.m_Book_lots
  m_Book_sales : Meth K A.Book "sales" A.m_Book_sales
  m_Book_late_costs : Meth K A.Book "late_costs" A.m_Book_late_costs
  m_Book_joined : Meth K A.Book "joined" A.m_Book_joined
  fgi_Book : PySem.W.fnIn K A.m_Book_getitem = true
  nsq_Book : PySem.W.noSeq K A.Book = true
  g_LETTERS : ∃ t, mg "LETTERS" = some (.str "abcdefghijklmnopqrstuvwxyz" t)
  g_LONGEST : ∃ t, mg "LONGEST" = some (.int 12 t)
  g_MOST : ∃ t, mg "MOST" = some (.int 1000000 t)
  F_m_BadEntry_init : Fun K "__init__" "BadEntry.__init__" s_m_BadEntry_init A.m_BadEntry_init A.fd_m_BadEntry_init
  b_m_BadEntry_init : Binds K A.fd_m_BadEntry_init P_m_BadEntry_init []
  F_m_NoEntry_init : Fun K "__init__" "NoEntry.__init__" s_m_NoEntry_init A.m_NoEntry_init A.fd_m_NoEntry_init
  b_m_NoEntry_init : Binds K A.fd_m_NoEntry_init P_m_NoEntry_init []
  F_f_is_name : Fun K "is_name" "is_name" s_f_is_name A.f_is_name A.fd_f_is_name
  b_f_is_name : Binds K A.fd_f_is_name P_f_is_name []
  g_is_name : mg "is_name" = some (.ref A.f_is_name)
  F_f_is_number : Fun K "is_number" "is_number" s_f_is_number A.f_is_number A.fd_f_is_number
  b_f_is_number : Binds K A.fd_f_is_number P_f_is_number []
  g_is_number : mg "is_number" = some (.ref A.f_is_number)
  F_f_is_entry : Fun K "is_entry" "is_entry" s_f_is_entry A.f_is_entry A.fd_f_is_entry
  b_f_is_entry : Binds K A.fd_f_is_entry P_f_is_entry []
  g_is_entry : mg "is_entry" = some (.ref A.f_is_entry)
  F_m_Book_init : Fun K "__init__" "Book.__init__" s_m_Book_init A.m_Book_init A.fd_m_Book_init
  b_m_Book_init : Binds K A.fd_m_Book_init P_m_Book_init []
  F_m_Book_iter : Fun K "__iter__" "Book.__iter__" s_m_Book_iter A.m_Book_iter A.fd_m_Book_iter
  b_m_Book_iter : Binds K A.fd_m_Book_iter P_m_Book_iter []
  F_m_Book_contains : Fun K "__contains__" "Book.__contains__" s_m_Book_contains A.m_Book_contains A.fd_m_Book_contains
  b_m_Book_contains : Binds K A.fd_m_Book_contains P_m_Book_contains []
  F_m_Book_len : Fun K "__len__" "Book.__len__" s_m_Book_len A.m_Book_len A.fd_m_Book_len
  b_m_Book_len : Binds K A.fd_m_Book_len P_m_Book_len []
  F_m_Book_getitem : Fun K "__getitem__" "Book.__getitem__" s_m_Book_getitem A.m_Book_getitem A.fd_m_Book_getitem
  b_m_Book_getitem : Binds K A.fd_m_Book_getitem P_m_Book_getitem []
  F_m_Book_setitem : Fun K "__setitem__" "Book.__setitem__" s_m_Book_setitem A.m_Book_setitem A.fd_m_Book_setitem
  b_m_Book_setitem : Binds K A.fd_m_Book_setitem P_m_Book_setitem []
  F_m_Book_remove : Fun K "remove" "Book.remove" s_m_Book_remove A.m_Book_remove A.fd_m_Book_remove
  b_m_Book_remove : Binds K A.fd_m_Book_remove P_m_Book_remove []
  F_m_Book_places : Fun K "places" "Book.places" s_m_Book_places A.m_Book_places A.fd_m_Book_places
  b_m_Book_places : Binds K A.fd_m_Book_places P_m_Book_places []
  F_m_Book_named : Fun K "named" "Book.named" s_m_Book_named A.m_Book_named A.fd_m_Book_named
  b_m_Book_named : Binds K A.fd_m_Book_named P_m_Book_named []
  F_m_Book_lots : Fun K "lots" "Book.lots" s_m_Book_lots A.m_Book_lots A.fd_m_Book_lots
  b_m_Book_lots : Binds K A.fd_m_Book_lots P_m_Book_lots []
  F_m_Book_sales : Fun K "sales" "Book.sales" s_m_Book_sales A.m_Book_sales A.fd_m_Book_sales
  b_m_Book_sales : Binds K A.fd_m_Book_sales P_m_Book_sales []
  F_m_Book_late_costs : Fun K "late_costs" "Book.late_costs" s_m_Book_late_costs A.m_Book_late_costs A.fd_m_Book_late_costs
  b_m_Book_late_costs : Binds K A.fd_m_Book_late_costs P_m_Book_late_costs []
  F_m_Book_joined : Fun K "joined" "Book.joined" s_m_Book_joined A.m_Book_joined A.fd_m_Book_joined
  b_m_Book_joined : Binds K A.fd_m_Book_joined P_m_Book_joined []
  F_l_bag : Fun K "_law_bag" "_law_bag" s_l_bag A.l_bag A.fd_l_bag
  b_l_bag : Binds K A.fd_l_bag P_l_bag []
  g__law_bag : mg "_law_bag" = some (.ref A.l_bag)
  F_l_draw : Fun K "_law_draw" "_law_draw" s_l_draw A.l_draw A.fd_l_draw
  b_l_draw : Binds K A.fd_l_draw P_l_draw []
  g__law_draw : mg "_law_draw" = some (.ref A.l_draw)
  F_l_names : Fun K "_law_names" "_law_names" s_l_names A.l_names A.fd_l_names
  b_l_names : Binds K A.fd_l_names P_l_names []
  g__law_names : mg "_law_names" = some (.ref A.l_names)
  F_l_pick : Fun K "_law_pick" "_law_pick" s_l_pick A.l_pick A.fd_l_pick
  b_l_pick : Binds K A.fd_l_pick P_l_pick []
  g__law_pick : mg "_law_pick" = some (.ref A.l_pick)
  F_l_mixed : Fun K "_law_mixed" "_law_mixed" s_l_mixed A.l_mixed A.fd_l_mixed
  b_l_mixed : Binds K A.fd_l_mixed P_l_mixed []
  g__law_mixed : mg "_law_mixed" = some (.ref A.l_mixed)
  F_l_next : Fun K "_law_next" "_law_next" s_l_next A.l_next A.fd_l_next
  b_l_next : Binds K A.fd_l_next P_l_next []
  g__law_next : mg "_law_next" = some (.ref A.l_next)
  F_l_entries : Fun K "_law_entries" "_law_entries" s_l_entries A.l_entries A.fd_l_entries
  b_l_entries : Binds K A.fd_l_entries P_l_entries []
  g__law_entries : mg "_law_entries" = some (.ref A.l_entries)
  F_l_book : Fun K "_law_book" "_law_book" s_l_book A.l_book A.fd_l_book
  b_l_book : Binds K A.fd_l_book P_l_book []
  g__law_book : mg "_law_book" = some (.ref A.l_book)
  F_l_kept : Fun K "_law_kept" "_law_kept" s_l_kept A.l_kept A.fd_l_kept
  b_l_kept : Binds K A.fd_l_kept P_l_kept []
  g__law_kept : mg "_law_kept" = some (.ref A.l_kept)
  F_l_named : Fun K "_law_named" "_law_named" s_l_named A.l_named A.fd_l_named
  b_l_named : Binds K A.fd_l_named P_l_named []
  g__law_named : mg "_law_named" = some (.ref A.l_named)
  F_l_lists_right : Fun K "_law_lists_right" "_law_lists_right" s_l_lists_right A.l_lists_right A.fd_l_lists_right
  b_l_lists_right : Binds K A.fd_l_lists_right P_l_lists_right []
  g__law_lists_right : mg "_law_lists_right" = some (.ref A.l_lists_right)
  F_l_clash : Fun K "_law_clash" "_law_clash" s_l_clash A.l_clash A.fd_l_clash
  b_l_clash : Binds K A.fd_l_clash P_l_clash []
  g__law_clash : mg "_law_clash" = some (.ref A.l_clash)
  F_l_unlike : Fun K "_law_unlike" "_law_unlike" s_l_unlike A.l_unlike A.fd_l_unlike
  b_l_unlike : Binds K A.fd_l_unlike P_l_unlike []
  g__law_unlike : mg "_law_unlike" = some (.ref A.l_unlike)
  F_l_joined_right : Fun K "_law_joined_right" "_law_joined_right" s_l_joined_right A.l_joined_right A.fd_l_joined_right
  b_l_joined_right : Binds K A.fd_l_joined_right P_l_joined_right []
  g__law_joined_right : mg "_law_joined_right" = some (.ref A.l_joined_right)
  F_f_law : Fun K "law" "law" s_f_law A.f_law A.fd_f_law
  b_f_law : Binds K A.fd_f_law P_f_law []
  g_law : mg "law" = some (.ref A.f_law)
/-- a word that the steps don't open -/
structure Wd (p : Prop) : Prop where
  ok : p
section
variable {X : Cx}
def tG (t : TS) : TS := fun D σ H => Wd (t D σ H)
def tGE (t : TE) : TE := fun σ H Q => Wd (t σ H Q)
theorem ps_g {st : Stmt} {t : TS} (h : PS X st t) : PS X st (tG t) := ⟨fun pins s σ H D I hw => h.run pins s σ H D I hw.ok⟩
theorem pss_g {st : List Stmt} {t : TS} (h : PSs X st t) : PSs X st (tG t) := ⟨fun pins s σ H D I hw => h.run pins s σ H D I hw.ok⟩
theorem pe_g {e : Expr} {t : TE} (h : PE X e t) : PE X e (tGE t) := ⟨fun pins s σ H Q I hw => h.run pins s σ H Q I hw.ok⟩
end
theorem if_int {i j : Int} {A B : Prop} (h1 : i = j → A) (h2 : i ≠ j → B) : if decide (V.int i = V.int j) = true then A else B := by
  by_cases e : i = j
  · rw [if_pos (decide_eq_true (congrArg V.int e))]
    exact h1 e
  · rw [if_neg fun z => e (V.int.inj (of_decide_eq_true z))]
    exact h2 e
theorem if_intN {i j : Int} {A B : Prop} (h1 : i ≠ j → A) (h2 : i = j → B) : if (!decide (V.int i = V.int j)) = true then A else B := by
  by_cases e : i = j
  · rw [decide_eq_true (congrArg V.int e)]
    exact iteF (h2 e)
  · rw [decide_eq_false fun z => e (V.int.inj z)]
    exact iteT (h1 e)
theorem if_dec {p A B : Prop} [Decidable p] (h1 : p → A) (h2 : ¬ p → B) : if decide p = true then A else B := by
  by_cases e : p
  · rw [if_pos (decide_eq_true e)]
    exact h1 e
  · rw [if_neg fun z => e (of_decide_eq_true z)]
    exact h2 e
theorem ifT {p A B : Prop} [Decidable p] (hp : p) (h : A) : if decide p = true then A else B := by
  rw [if_pos (decide_eq_true hp)]
  exact h
theorem ifF {p A B : Prop} [Decidable p] (hp : ¬ p) (h : B) : if decide p = true then A else B := by
  rw [if_neg fun z => hp (of_decide_eq_true z)]
  exact h
theorem ifNT {p A B : Prop} [Decidable p] (hp : p) (h : B) : if (!decide p) = true then A else B := by
  rw [decide_eq_true hp]
  exact iteF h
theorem ifNF {p A B : Prop} [Decidable p] (hp : ¬ p) (h : A) : if (!decide p) = true then A else B := by
  rw [decide_eq_false hp]
  exact iteT h
theorem if_bl {b : Bool} {A B : Prop} (h1 : b = true → A) (h2 : b = false → B) : if b = true then A else B := by
  cases b with
  | true => exact h1 rfl
  | false => exact iteF (h2 rfl)
/-- all but what stands at g is kept -/
def Kp (g : Addr) (H H' : Hp) : Prop := ∀ b o, H b = some o → b ≠ g → H' b = some o
theorem Kp.refl (g : Addr) (H : Hp) : Kp g H H := fun _ _ h _ => h
theorem Kp.trans {g : Addr} {H H1 H2 : Hp} (a : Kp g H H1) (b : Kp g H1 H2) : Kp g H H2 := fun c o h n => b c o (a c o h n) n
theorem Kp.up {g : Addr} {H H' : Hp} {o : HO} (k : Kp g H H') : Kp g H (upd H' g o) := fun b u e n => by
  rw [upd_ne n]
  exact k b u e n

/-! ### the bag of draws -/
structure Bag (H : Hp) (g l : Addr) : Prop where
  ex : ∃ (i r s c : Int) (ns : List Int), H g = some (.lst [.ref l, .int i, .int r, .int s, .int c]) ∧ H l = some (.lst (ns.map V.int)) ∧ 0 ≤ i
def spDraw : Sp := fun vs H Q _ => ∃ (g l : Addr) (z : Int), vs = [.ref g, .int z] ∧ Bag H g l ∧ 0 < z ∧ z.natAbs < 2 ^ 9000 ∧
  ∀ (n : Int) (H' : Hp), 0 ≤ n → n < z → Bag H' g l → Kp g H H' → Q (.int n) H'
theorem at_ints {ns : List Int} {i : Int} (h0 : 0 ≤ i) (h1 : i < (ns.length : Int)) : ∃ n, atI (ns.map V.int) i = some (.int n) := by
  obtain ⟨j, rfl⟩ := Int.eq_ofNat_of_zero_le h0
  have hj : j < ns.length := by omega
  exact ⟨ns[j], atI_nat (by rw [List.getElem?_map, List.getElem?_eq_getElem hj]; rfl)⟩
theorem cmul_r {i j : Int} (h : -(2 ^ 64) < j ∧ j < 2 ^ 64) : CMul i j := .inr h
theorem cmul_l {i j : Int} (h : -(2 ^ 64) < i ∧ i < 2 ^ 64) : CMul i j := .inl h
theorem cpow_of {i j : Int} (h1 : 0 ≤ j ∧ j ≤ 1000000) (h2 : -(2 ^ 63) < i ∧ i < 2 ^ 63) : CPow i j := ⟨h1.1, h1.2, by omega⟩
section
variable {P : Program} {w : World} {K : PySem.W.Frag} {mg : Str → Option Value} {base : Heap} {A : Ad}
theorem ok_l_draw (T : Txt K mg A) : FnOk P w K mg base CX0 1 A.l_draw A.fd_l_draw P_l_draw spDraw := by
  refine T.F_l_draw.ok sc_l_draw (fun vs H Q E h => ?_) (fun cdv Ar outer s H vs Q E hr h => ?_)
  · obtain ⟨g, l, z, rfl, _⟩ := h
    rfl
  · obtain ⟨g, l, z, rfl, ⟨i, r, sd, c, ns, hg, hl, hi⟩, hz, hz2, k⟩ := h
    have nlg : l ≠ g := ne_of hl hg (by intro q; cases ns <;> cases q)
    refine ⟨_, (pss_cons (ps_asg (pe_op op_add (pe_ix ix_list (pv 0) pe_int (fun _ _ => rfl)) pe_int) (pg_sub (pv 0) pe_int set_list))
      (pss_g (Evl.pss_cut (ps_if (PW.pt (pw_and (pt_cmpR op_eq (pe_ix ix_list (pv 0) pe_int (fun _ _ => rfl)) pe_int (nomark _)) (pw_and1 (pt_cmpR op_lt (pe_ix ix_list (pv 0) pe_int (fun _ _ => rfl)) (pe_callB call_len_seq (by rfl) T.z_len (by decide +kernel) (pa_cons (pe_ix ix_list (pv 0) pe_int (fun _ _ => rfl)) pa_nil)) (nomark _))))) (pss_cons (ps_set (i := 2) sc_l_draw.nd rfl (Or.inl rfl) (pe_ix ix_list (pe_ix ix_list (pv 0) pe_int (fun _ _ => rfl)) (pe_ix ix_list (pv 0) pe_int (fun _ _ => rfl)) (fun _ _ => rfl)))
      (pss_cons (ps_asg (pe_op op_add (pe_ix ix_list (pv 0) pe_int (fun _ _ => rfl)) pe_int) (pg_sub (pv 0) pe_int set_list))
      (pss_cons (ps_asg (pe_op op_mul (pe_op op_add (pe_op op_mul pe_int (pe_callB call_abs (by rfl) T.z_abs (by decide +kernel) (pa_cons (pv 2) pa_nil))) (pe_callTy call_int1 (by rfl) T.z_int (by decide +kernel) (pa_cons (pe_cmpR op_lt (pv 2) pe_int (nomark _)) pa_nil))) (pe_callTy call_int1 (by rfl) T.z_int (by decide +kernel) (pa_cons (pe_cmpR op_ge (pe_callB call_abs (by rfl) T.z_abs (by decide +kernel) (pa_cons (pv 2) pa_nil)) (pe_op op_pow pe_int pe_int) (nomark _)) pa_nil))) (pg_sub (pv 0) pe_int set_list))
      (pss_one (ps_asg (pe_op op_mod (pe_callTy call_int1 (by rfl) T.z_int (by decide +kernel) (pa_cons (pe_op op_add (pe_op op_add (pe_op op_mul (pe_ix ix_list (pv 0) pe_int (fun _ _ => rfl)) pe_int) (pe_op op_mul (pv 2) pe_int)) pe_int) pa_nil)) pe_int) (pg_sub (pv 0) pe_int set_list)))))) pss_nil)
      (pss_cons (ps_set (i := 3) sc_l_draw.nd rfl (Or.inl rfl) (pe_op op_mod (pe_callTy call_int1 (by rfl) T.z_int (by decide +kernel) (pa_cons (pe_ix ix_list (pv 0) pe_int (fun _ _ => rfl)) pa_nil)) (pv 1)))
      (pss_cons (ps_if (pt_cmpR op_gt (pe_ix ix_list (pv 0) pe_int (fun _ _ => rfl)) pe_int (nomark _)) (pss_cons (ps_asg (pe_op op_fdivW (pe_ix ix_list (pv 0) pe_int (fun _ _ => rfl)) (pv 1)) (pg_sub (pv 0) pe_int set_list))
      (pss_one (ps_ret (pv 3)))) pss_nil)
      (pss_cons (ps_set (i := 4) sc_l_draw.nd rfl (Or.inl rfl) (pe_op op_mod (pe_callTy call_int1 (by rfl) T.z_int (by decide +kernel) (pa_cons (pe_op op_add (pe_ix ix_list (pv 0) pe_int (fun _ _ => rfl)) (pe_op op_mul (pe_ix ix_list (pv 0) pe_int (fun _ _ => rfl)) pe_int)) pa_nil)) pe_int))
      (pss_cons (ps_set (i := 4) sc_l_draw.nd rfl (Or.inl rfl) (pe_op op_mod (pe_callTy call_int1 (by rfl) T.z_int (by decide +kernel) (pa_cons (pe_op op_add (pe_op op_add (pe_op op_pow (pv 4) pe_int) (pe_op op_mul (pe_ix ix_list (pv 0) pe_int (fun _ _ => rfl)) pe_int)) pe_int) pa_nil)) pe_int))
      (pss_one (ps_ret (pe_op op_mod (pe_op op_fdiv (pe_op op_mod (pe_callTy call_int1 (by rfl) T.z_int (by decide +kernel) (pa_cons (pe_op op_pow (pv 4) pe_int) pa_nil)) pe_int) pe_int) (pv 1))))))))))), ?_⟩
    refine ⟨_, rfl, g, _, _, _, rfl, rfl, SqL.of hg, rfl, _, _, rfl, rfl, _, rfl, g, _, _, _, rfl, rfl, hg, rfl, ?_⟩
    refine ⟨⟨fun σ' H' => Wd (∃ (i r s c : Int) (v : Option V), σ' = [some (.ref g), some (.int z), v, none, none] ∧ 0 ≤ i ∧ H' g = some (.lst [.ref l, .int i, .int r, .int s, .int c]) ∧ H' l = some (.lst (ns.map V.int)) ∧ Kp g H H'), ?_, ?_⟩⟩
    · walk_at "go"
      refine if_int (fun e0 => ?_) (fun e0 => ?_)
      · walk_at "go"
        refine if_dec (fun e1 => ?_) (fun e1 => ?_)
        · obtain ⟨n, hn⟩ := at_ints (ns := ns) hi (by simpa using e1)
          walk_at "go"
          exact ⟨i + 1, _, _, c + 1, _, rfl, by omega, upd_same, by walk_at "at", (((Kp.refl g H).up.up.up.up))⟩
        · exact ⟨i, r, sd, c + 1, none, rfl, hi, upd_same, by walk_at "at", (Kp.refl g H).up⟩
      · refine iteF ?_
        exact ⟨i, r, sd, c + 1, none, rfl, hi, upd_same, by walk_at "at", (Kp.refl g H).up⟩
    · rintro σ' H' ⟨i, r, s, c, v, rfl, hi, hg, hl, kp⟩
      walk_at "go"
      refine if_dec (fun e1 => ?_) (fun e1 => ?_)
      · walk_at "go"
        exact k _ _ (Int.emod_nonneg _ (by omega)) (Int.emod_lt_of_pos _ hz) ⟨i, _, s, c, ns, upd_same, by walk_at "at", hi⟩ kp.up
      · walk_at "go"
        exact k _ _ (Int.emod_nonneg _ (by omega)) (Int.emod_lt_of_pos _ hz) ⟨i, r, s, c, ns, hg, hl, hi⟩ kp
end

/-! ### calls in the body of a try: what they raise is wished for at the slots as they stand -/
section
open PySem.Spec PyProof.Rows
variable {X : Cx} {CX : CXT} {k : Nat} {f C : Addr} {fd : FuncData} {ps : List Str} {sp : Sp} {dvs : List V} {ds : List Value} {E : L2.St → XK} {x m : Str} {p pos apos : Pos} {e o : Expr} {es : List Expr} {ta : TE} {t : TA}
theorem run_mkS {pins : List (Addr × Obj)} {σ : L2.St} {H : Hp} {s : Shared} {Q : VK} {us : List Value} {vs : List V} (M : Mk X.K C f) (F : FnOk X.prog X.w X.K X.mg X.base CX k f fd ps sp)
    (hr : Room (k + 1) X.A) (hb : Binds X.K fd ps ds) (hd : Vals dvs ds) (hx : PassesAt CX X σ (E σ)) (I : Inv X pins σ H s) (r : Vals vs us)
    (h : ∀ x dx, H x = none → H dx = none → dx ≠ x → sp (.ref x :: (vs ++ dvs)) (upd (upd H dx (.own x)) x (.ins C dx [])) (fun v H2 => v = .non ∧ Q (.ref x) H2) (E σ)) :
    wpAny (model X.prog X.w) X.A (call (.ref C) us) (EP X pins σ Q) X.xe s := by
  have a1 := h (s.heap.objs.size + 1) s.heap.objs.size (I.hok.fresh (Nat.le_succ _)) (I.hok.fresh (Nat.le_refl _)) (Nat.ne_of_lt (Nat.lt_succ_self _))
  have J := Inv.made (C := C) I
  have a2 : Vals (V.ref (s.heap.objs.size + 1) :: (vs ++ dvs)) (Value.ref (s.heap.objs.size + 1) :: (us ++ ds)) := .cons rfl (r.append hd)
  have a3 : (Value.ref (s.heap.objs.size + 1) :: us ++ ds).length = ps.length := by
    have z := a2.length
    rw [F.len _ _ _ _ a1] at z
    exact z.symm
  refine wpAny_call (make_map (f := f) I.kIn M.makes M.init (beq_iff_eq.mp M.fn) (codeAny_mono (F.run _ X.stack _ _ ⟨Value.ref (s.heap.objs.size + 1) :: us, []⟩
    (Value.ref (s.heap.objs.size + 1) :: (us ++ ds)) _ _ (E σ) (hr.make C us []) (J.env0.make C us []) (hb _ (Value.ref (s.heap.objs.size + 1) :: us) J.kIn a3) a2 a1) fun r s' z => ?_))
  cases r with
  | error u => exact hx pins _ _ u s' J z
  | ok fl =>
    cases fl with
    | ret u =>
      obtain ⟨v, H', J3, rv, ev, q3⟩ := J.after z
      subst ev
      exact ⟨rv, V.ref (s.heap.objs.size + 1), H', J3, rfl, q3⟩
    | next => exact z.elim
    | brk => exact z.elim
    | cont => exact z.elim
def tMakeS (C : Addr) (sp : Sp) (dvs : List V) (E : L2.St → XK) (t : TA) : TE := fun σ H Q => t σ H fun vs H1 => ∀ x dx, H1 x = none → H1 dx = none → dx ≠ x →
  sp (.ref x :: (vs ++ dvs)) (upd (upd H1 dx (.own x)) x (.ins C dx [])) (fun v H2 => v = .non ∧ Q (.ref x) H2) (E σ)
theorem pe_makeS (M : Mk X.K C f) (F : FnOk X.prog X.w X.K X.mg X.base CX k f fd ps sp) (hr : Room (k + 1) X.A) (hg : Gl X x) (hm : X.mg x = some (.ref C)) (hb : Binds X.K fd ps ds) (hd : Vals dvs ds) (hx : ∀ σ, PassesAt CX X σ (E σ))
    (ha : PA X (e :: es) t) (hdb : (x == ("__debug__" : Str)) = false := by decide) (he : starEach (e :: es) X.env = (false, eval e X.env) :: starEach es X.env := by rfl)
    (hpl : (backTo pos (starEach es X.env)).any (·.1) = false := by rfl) : PE X (.Call (.Name x p) (e :: es) [] pos) (tMakeS C sp dvs E t) := ⟨fun pins s σ H Q I h =>
  wpAny_Call_Name_kw (ld_glob I hg hm (PySem.W.callWith_K (h₀ := X.base) I.ok.mod.kin M.kp (thn (ha.run pos pins s σ H _ I h) fun us s1 ⟨vs, H1, I1, r, q⟩ => ⟨I1.kIn, run_mkS M F hr hb hd (hx σ) I1 r q⟩) he hpl) hdb)⟩
def tMethS (C : Addr) (m : Str) (sp : Sp) (E : L2.St → XK) (ta : TE) (t : TA) : TE := fun σ H Q => ta σ H fun x H1 => ∃ a dx fs, x = .ref a ∧ H1 a = some (.ins C dx fs) ∧ fs.lookup m = none ∧
  t σ H1 fun vs H2 => sp (.ref a :: vs) H2 Q (E σ)
theorem pe_methA {pl : Sem Bool} (he : PE X o ta) (c : Cls X.K C) (hm : Meth X.K C m f) (F : FnOk X.prog X.w X.K X.mg X.base CX k f fd ps sp) (hr : Room k X.A) (hb : Binds X.K fd ps []) (hx : ∀ σ, PassesAt CX X σ (E σ)) (ha : PA X (e :: es) t)
    (hst : starEach (e :: es) X.env = (false, eval e X.env) :: starEach es X.env := by rfl) (hpl : (backTo pos (starEach es X.env)).any (·.1) = false := by rfl)
    (ht : eval (.Call (.Attribute o m apos) (e :: es) [] pos) X.env = (eval o X.env >>= fun ov => standAt apos.atName >>= fun _ => holding [ov] (getMethod ov m pl) >>= fun (f, first) =>
      callWith pos f first (backTo pos (starEach (e :: es) X.env)) (backToKw pos (keywordEach [] X.env))) := by rfl) :
    PE X (.Call (.Attribute o m apos) (e :: es) [] pos) (tMethS C m sp E ta t) := by
  refine ⟨fun pins s σ H Q I h => ?_⟩
  refine PySem.W.methodCall_KW (pl := pl) (thn (he.run pins s σ H _ I h) fun u s1 ⟨x, H1, I1, rx, a, dx, fs, ex, ea, l, q⟩ => ?_) ht
  cases ex
  obtain rfl : u = Value.ref a := rx
  exact getmeth_ok I1 ea c hm l (PySem.W.callWith_K (first := [.ref a]) (h₀ := X.base) I.ok.mod.kin hm.kp (thn (ha.run pos pins s1 σ H1 _ I1 q) fun us s2 ⟨vs, H2, I2, r, q2⟩ =>
    ⟨I2.kIn, run_fnS (E := E) (us := .ref a :: us) (vs := .ref a :: vs) F hr hb (hx σ) I2 (.cons rfl r) q2⟩) hst hpl)

def oe0 : Obj := { cls := .none, data := .fields #[] }
variable {n : Str} {c : Value} {i : Nat} {body suite : List Stmt} {b0 : Stmt} {np pos' : Pos} {Wout : WX}
  {tb : WX → List (Addr × Obj) → (Value → Shared → Prop) → TS} {ts : Addr → Obj → Value → Option Addr → List (Addr × Obj) → TS}
/-- try: .. except x as n: .., the readings of the body and of the suite free of what they can't hang on (both shown by rfl) -/
theorem ps_tryV (hs : X.stack = X.env :: X.outer) (hf : X.env.frame = some X.env.locals) (hN : X.N.Nodup) (hi : X.N[i]? = some n) (hln : X.env.kindOf n = some .local) (hc : Names X x c) (tk : Takes X Wout)
    (hb : ∀ (W : WX) (pn : List (Addr × Obj)) (xe : Value → Shared → Prop), Takes (X.tr pn xe) W → PassesOwn (model X.prog X.w) X.A X.env xe → PSs (X.tr pn xe) body (tb W pn xe))
    (hsu : ∀ (a : Addr) (oe : Obj) (cls : Value) (d : Option Addr) (pn : List (Addr × Obj)), Zc cls d oe → (∃ vs, oe.data = .fields vs) → PSs (X.suite a ((a, oe) :: pn)) (b0 :: suite) (ts a oe cls d pn))
    (e1 : ∀ W pn xe, tb W pn xe = tb W [] (fun _ _ => False)) (e2 : ∀ a oe cls d pn, ts a oe cls d pn = ts a oe0 cls d []) :
    PS X (.Try body [.ExceptHandler (some (.Name x np)) (some n) (b0 :: suite) pos'] [] [] pos) (fun D σ H => tb (wAs X.K c i (fun a cls d => ts a oe0 cls d []) Wout D) [] (fun _ _ => False) D σ H) :=
  ps_try_as (tb := fun W => tb W [] (fun _ _ => False)) (ts := fun a cls d => ts a oe0 cls d []) hs hf hN hi hln hc tk (fun W pn xe k po => by rw [← e1 W pn xe]; exact hb W pn xe k po)
    (fun a oe cls d pn z f => by rw [← e2 a oe cls d pn]; exact hsu a oe cls d pn z f)
/-- isinstance(e, C) of the error that the suite holds, one without a dict of its own -/
def rIsEV (K : PySem.W.Frag) (cls : Value) (d : Option Addr) (a : Addr) : List V → Hp → VK → Prop := fun xs H Q => ∃ (D : Addr) (c : V) (cv : Value) (b : Bool), cls = .ref D ∧ d = none ∧ ExcC K D ∧ xs = [.ref a, c] ∧ (∀ u, RelV c u → u = cv) ∧ PySem.W.kitOne K (.ref D) cv = some b ∧ Q (.bl b) H
theorem call_isEV {a : Addr} {oe : Obj} {cls : Value} {d : Option Addr} {pn : List (Addr × Obj)} (hz : Zc cls d oe) (hf : ∃ vs, oe.data = .fields vs) : CallR (X.suite a ((a, oe) :: pn)) (.builtin "isinstance") (rIsEV X.K cls d a) := by
  intro pins s σ H xs us Q I r h
  obtain ⟨D, c, cv, b, rfl, rfl, C, h⟩ := h
  exact call_isE C hz hf pins s σ H xs us Q I r ⟨c, cv, b, h⟩
end
/-! ### list comprehensions: the readings of their parts free of what they can't hang on -/
section
open PySem.Spec PyProof.Rows
variable {X : Cx} {elt tg iter : Expr} {ifs : List Expr} {scope : Scope} {own : List (Str × Nat)} {pos spos py : Pos} {wi : TI} {i : Nat} {y : Str}
abbrev Bk (α : Type) := Shared → Hp → Addr → List (Str × Addr) → List Addr → α
abbrev Bk.at0 {α : Type} (f : Bk α) (X : Cx) : α := f X.s_0 X.H_0 0 [] []
variable {g : Bk TG} {tt : Bk TT} {te : Bk TE}
theorem pe_lcV (hc : X.calm = true) (hN : X.N.Nodup) (hi : PI X tg iter wi) (ok : BlkOk X.N X.env.scope scope own)
    (hg : ∀ s H C cl fp, PG (X.blk s H scope (compEnvC scope cl C X.env) fp) tg (g s H C cl fp)) (ht : ∀ s H C cl fp, PTs (X.blk s H scope (compEnvC scope cl C X.env) fp) ifs (tt s H C cl fp))
    (he : ∀ s H C cl fp, PE (X.blk s H scope (compEnvC scope cl C X.env) fp) elt (te s H C cl fp)) (e1 : ∀ s H C cl fp, g s H C cl fp = g.at0 X) (e2 : ∀ s H C cl fp, tt s H C cl fp = tt.at0 X)
    (e3 : ∀ s H C cl fp, te s H C cl fp = te.at0 X) (hs : ∀ x, foldedSetIterable iter X.env x = pure x := by intro _; rfl) :
    PE X (.ListComp elt [⟨tg, iter, ifs, 0⟩] scope pos) (tLc wi (g.at0 X) (tt.at0 X) (te.at0 X) (own.map (·.2))) :=
  pe_lc hc hN hi ok (fun s H C cl fp => by rw [← e1 s H C cl fp]; exact hg s H C cl fp) (fun s H C cl fp => by rw [← e2 s H C cl fp]; exact ht s H C cl fp) (fun s H C cl fp => by rw [← e3 s H C cl fp]; exact he s H C cl fp) hs
theorem ps_setLcV (hc : X.calm = true) (hN : X.N.Nodup) (hy : X.N[i]? = some y) (hyl : X.env.scope.names.lookup y = some .local)
    (hsw : swapsWith (.ListComp elt [⟨tg, iter, ifs, 0⟩] scope pos) (some (.Name y py)) spos.line X.env = pure true) (hi : PI X tg iter wi) (ok : BlkOk X.N X.env.scope scope own)
    (hg : ∀ s H C cl fp, PG (X.blk s H scope (compEnvC scope cl C X.env) fp) tg (g s H C cl fp)) (ht : ∀ s H C cl fp, PTs (X.blk s H scope (compEnvC scope cl C X.env) fp) ifs (tt s H C cl fp))
    (he : ∀ s H C cl fp, PE (X.blk s H scope (compEnvC scope cl C X.env) fp) elt (te s H C cl fp)) (e1 : ∀ s H C cl fp, g s H C cl fp = g.at0 X) (e2 : ∀ s H C cl fp, tt s H C cl fp = tt.at0 X)
    (e3 : ∀ s H C cl fp, te s H C cl fp = te.at0 X) (hs : ∀ x, foldedSetIterable iter X.env x = pure x := by intro _; rfl) :
    PS X (.Assign [.Name y py] (.ListComp elt [⟨tg, iter, ifs, 0⟩] scope pos) spos) (tAsg (tLc wi (g.at0 X) (tt.at0 X) (te.at0 X) (own.map (·.2))) (gName i)) :=
  ps_setLc hc hN hy hyl hsw hi ok (fun s H C cl fp => by rw [← e1 s H C cl fp]; exact hg s H C cl fp) (fun s H C cl fp => by rw [← e2 s H C cl fp]; exact ht s H C cl fp) (fun s H C cl fp => by rw [← e3 s H C cl fp]; exact he s H C cl fp) hs
end

/-! ### errors of own classes with fields -/
section
open PySem.Spec PyProof.Rows
variable {X : Cx} {CX : CXT} {k n : Nat} {f C CE : Addr} {fd : FuncData} {ps ks : List Str} {sp : Sp} {ds : List Value} {dvs : List V} {x : Str} {p p1 p2 pos : Pos} {e : Expr} {es : List Expr} {kws : List Keyword} {ta t tk : TA} {te : TE}
/-- B.__init__(self, ..), B an own class that has it from ValueError -/
theorem pe_ceinit {pl : Sem Bool} (hg : Gl X x) (hm : X.mg x = some (.ref CE)) (rd : PySem.W.readsIn X.K CE (.type "type") = true) (ga : PySem.W.specialIn X.K (.ref CE) "__getattribute__" = some (some (.builtin "type.__getattribute__")))
    (vV : PySem.W.findCls X.K (.ref CE) (.type "type") "__init__" = some (.val (.builtin "ValueError.__init__"))) (ha : PA X (e :: es) ta) (hdb : (x == ("__debug__" : Str)) = false := by decide)
    (hc : eval (.Call (.Attribute (.Name x p1) "__init__" p2) (e :: es) [] pos) X.env = (eval (.Name x p1) X.env >>= fun ov => standAt p2.atName >>= fun _ => holding [ov] (getMethod ov "__init__" pl) >>= fun (f, first) =>
      callWith pos f first (backTo pos (starEach (e :: es) X.env)) (backToKw pos (keywordEach [] X.env))) := by rfl)
    (he : starEach (e :: es) X.env = (false, eval e X.env) :: starEach es X.env := by rfl) (hpl : (backTo pos (starEach es X.env)).any (·.1) = false := by rfl) :
    PE X (.Call (.Attribute (.Name x p1) "__init__" p2) (e :: es) [] pos) (tVeI X.K ta) := by
  refine ⟨fun pins s σ H Q I h => ?_⟩
  refine PySem.W.methodCall_KW (ld_glob I hg hm ?_ hdb) hc
  refine PySem.W.method_cls I.kIn ga (PySem.W.cls_value I.kIn rd vV (by decide +kernel) ?_)
  refine callWith_method1 (first := []) (id := "ValueError.__init__") (thn (ha.run pos pins _ σ H _ (I.tok _) h) fun us s1 z => ?_) he hpl
  obtain ⟨vs, H1, J, r1, a, C, ws, rfl, hl, T, ea, q⟩ := z
  obtain ⟨u0, ur, rfl, ra, rr⟩ : ∃ u0 ur, us = u0 :: ur ∧ RelV (.ref a) u0 ∧ Vals ws ur := by
    cases r1 with
    | cons a1 b1 => exact ⟨_, _, rfl, a1, b1⟩
  obtain rfl : u0 = Value.ref a := ra
  exact oinit_ok T J ea (by rw [← rr.length, sizeLine_eq]; omega) fun s' J' => ⟨.non, H1, J', rfl, q⟩
/-- isinstance(e, C) of the error that the suite holds, one with a dict of its own -/
def rIsEW (K : PySem.W.Frag) (cls : Value) (d : Option Addr) (a : Addr) : List V → Hp → VK → Prop := fun xs H Q => ∃ (D dd : Addr) (fs : List (Str × V)) (c : V) (cv : Value) (b : Bool), cls = .ref D ∧ d = some dd ∧ H dd = some (.xd fs) ∧ ExcC K D ∧ xs = [.ref a, c] ∧
  (∀ u, RelV c u → u = cv) ∧ PySem.W.kitOne K (.ref D) cv = some b ∧ Q (.bl b) H
theorem call_isEW {a : Addr} {oe : Obj} {cls : Value} {d : Option Addr} {pn : List (Addr × Obj)} (hz : Zc cls d oe) (hf : ∃ vs, oe.data = .fields vs) : CallR (X.suite a ((a, oe) :: pn)) (.builtin "isinstance") (rIsEW X.K cls d a) := by
  intro pins s σ H xs us Q I r h
  obtain ⟨D, dd, fs, c, cv, b, rfl, rfl, hd, Z, rfl, hcv, hk, q⟩ := h
  obtain ⟨u1, u2, rfl, r1, r2⟩ : ∃ u1 u2, us = [u1, u2] ∧ RelV (.ref a) u1 ∧ RelV c u2 := by
    cases r with
    | cons a1 b1 =>
      cases b1 with
      | cons a2 b2 =>
        cases b2
        exact ⟨_, _, rfl, a1, a2⟩
  obtain rfl : u1 = Value.ref a := r1
  obtain rfl := hcv _ r2
  obtain ⟨hget, _⟩ := I.pin (a, oe) (List.mem_append_left _ List.mem_cons_self)
  obtain ⟨vs, hv⟩ := hf
  obtain ⟨mA, hns, _⟩ := (show ObjOk X.prog X.w H s.heap dd (.xd fs) from I.hok dd _ hd)
  obtain ⟨od, ho, _⟩ := lookIn_ns hns
  have J : PySem.W.InstAt s.heap a oe D (some od) := ⟨hget, hz.1, by unfold PySem.W.notCls; rw [hv] <;> rfl, by rw [hz.2]; exact ho⟩
  obtain ⟨cd, hcd, _⟩ := PySem.W.any_some Z.hd
  exact PySem.W.kia_one (PySem.W.kitx_exc (by rw [hcd]; rfl) Z.hg Z.hk Z.hs Z.ha Z.hn Z.ht Z.hm) I.kIn J hk (fun z => nomatch z) fun tk => ⟨.bl b, H, I.kept (t' := tk) fun _ _ z => z, rfl, q⟩
/-- C(.., k = v, ..) in the body of a try -/
def tMakeKS (C : Addr) (n m : Nat) (sp : Sp) (gV : List V → List V → List V) (E : L2.St → XK) (t tk : TA) : TE := fun σ H Q => t σ H fun vs H1 => tk σ H1 fun zs H2 => vs.length = n ∧ zs.length = m ∧ ∀ x dx, H2 x = none → H2 dx = none → dx ≠ x →
  sp (gV (.ref x :: vs) zs) (upd (upd H2 dx (.own x)) x (.ins C dx [])) (fun v H3 => v = .non ∧ Q (.ref x) H3) (E σ)
theorem pe_makeKS {g : List Value → List Value → List Value} {gV : List V → List V → List V} {E : L2.St → XK} (M : Mk X.K C f) (F : FnOk X.prog X.w X.K X.mg X.base CX k f fd ps sp) (hr : Room (k + 1) X.A) (hg : Gl X x) (hm : X.mg x = some (.ref C)) (hb : KBn X.K fd ps (n + 1) ks g gV)
    (hx : ∀ σ, PassesAt CX X σ (E σ)) (ha : PA X (e :: es) t) (hkw : PK X kws tk)
    (hall : (backToKw pos (keywordEach kws X.env)).all (·.1.isSome) = true := by rfl) (hks : (backToKw pos (keywordEach kws X.env)).filterMap (·.1) = ks := by rfl) (hdb : (x == ("__debug__" : Str)) = false := by decide)
    (he : starEach (e :: es) X.env = (false, eval e X.env) :: starEach es X.env := by rfl) (hpl : ((backTo pos (starEach (e :: es) X.env)).any (·.1) || (backToKw pos (keywordEach kws X.env)).any (·.1.isNone)) = false := by rfl) :
    PE X (.Call (.Name x p) (e :: es) kws pos) (tMakeKS C n ks.length sp gV E t tk) := by
  refine ⟨fun pins s σ H Q I h => wpAny_Call_Name_kw (ld_glob I hg hm (PySem.W.callWith_KW (h₀ := X.base) I.ok.mod.kin M.kp hall (thn (ha.run pos pins s σ H _ I h) fun us s1 z => ?_) hpl he) hdb)⟩
  obtain ⟨vs, H1, I1, r, q⟩ := z
  refine thn (hkw.run pos pins s1 σ H1 _ I1 q) fun ws s2 z => ?_
  obtain ⟨zs, H2, I2, rz, l1, l2, q2⟩ := z
  refine ⟨I2.kIn, ?_⟩
  rw [hks]
  have a1 := q2 (s2.heap.objs.size + 1) s2.heap.objs.size (I2.hok.fresh (Nat.le_succ _)) (I2.hok.fresh (Nat.le_refl _)) (Nat.ne_of_lt (Nat.lt_succ_self _))
  have J := Inv.made (C := C) I2
  have r1 : Vals (V.ref (s2.heap.objs.size + 1) :: vs) (Value.ref (s2.heap.objs.size + 1) :: us) := .cons rfl r
  refine wpAny_call (make_map (f := f) I2.kIn M.makes M.init (beq_iff_eq.mp M.fn) (codeAny_mono (F.run _ X.stack _ _ ⟨Value.ref (s2.heap.objs.size + 1) :: us, ks.zip ws⟩ (g (Value.ref (s2.heap.objs.size + 1) :: us) ws) _ _ (E σ) (hr.make C us (ks.zip ws))
    (J.env0.make C us (ks.zip ws)) (hb.to _ (Value.ref (s2.heap.objs.size + 1) :: us) ws J.kIn (by rw [List.length_cons, ← r.length, l1]) (rz.length.symm.trans l2)) (hb.rel r1 rz) a1) fun o s' z => ?_))
  cases o with
  | error u => exact hx σ pins _ _ u s' J z
  | ok fl =>
    cases fl with
    | ret u =>
      obtain ⟨v, H', J3, rv, ev, q3⟩ := J.after z
      subst ev
      exact ⟨rv, V.ref (s2.heap.objs.size + 1), H', J3, rfl, q3⟩
    | next => exact z.elim
    | brk => exact z.elim
    | cont => exact z.elim
end
/-- C.__init__(self, v): the error gets its dict with one field -/
def spExc1 (C : Addr) (f : Str) : Sp := fun vs H Q _ => ∃ (a : Addr) (v : V), vs = [.ref a, v] ∧ H a = some (exo a C none) ∧ ∀ d, H d = none → d ≠ a → Q .non (upd (upd H d (exd d [(f, v)])) a (exo a C (some d)))

/-! ### lists side by side -/
section
variable {α β : Type} {R S : α → β → Prop} {xs us : List α} {ys vs : List β} {x : α} {y : β} {i : Nat}
def All2 (R : α → β → Prop) (xs : List α) (ys : List β) : Prop := xs.length = ys.length ∧ ∀ (i : Nat) x y, xs[i]? = some x → ys[i]? = some y → R x y
theorem All2.nil : All2 R [] [] := ⟨rfl, fun i x y h => by simp at h⟩
theorem All2.mono (h : All2 R xs ys) (k : ∀ x y, R x y → S x y) : All2 S xs ys := ⟨h.1, fun i x y a b => k _ _ (h.2 i x y a b)⟩
theorem All2.cons (h : R x y) (k : All2 R xs ys) : All2 R (x :: xs) (y :: ys) := ⟨by rw [List.length_cons, List.length_cons, k.1], fun i a b ha hb => by
  cases i with
  | zero => simp at ha hb; subst ha; subst hb; exact h
  | succ i => simp at ha hb; exact k.2 i a b ha hb⟩
theorem All2.one (h : R x y) : All2 R [x] [y] := .cons h .nil
theorem All2.app (h : All2 R xs ys) (k : All2 R us vs) : All2 R (xs ++ us) (ys ++ vs) := ⟨by rw [List.length_append, List.length_append, h.1, k.1], fun i a b ha hb => by
  by_cases hi : i < xs.length
  · rw [List.getElem?_append_left hi] at ha
    rw [List.getElem?_append_left (by rw [← h.1]; exact hi)] at hb
    exact h.2 i a b ha hb
  · rw [List.getElem?_append_right (by omega)] at ha
    rw [List.getElem?_append_right (by rw [← h.1]; omega), ← h.1] at hb
    exact k.2 _ a b ha hb⟩
theorem All2.take (h : All2 R xs ys) (n : Nat) : All2 R (xs.take n) (ys.take n) := ⟨by rw [List.length_take, List.length_take, h.1], fun i a b ha hb => by
  rw [List.getElem?_take] at ha hb
  by_cases hi : i < n
  · rw [if_pos hi] at ha hb
    exact h.2 i a b ha hb
  · rw [if_neg hi] at ha
    cases ha⟩
theorem All2.drop (h : All2 R xs ys) (n : Nat) : All2 R (xs.drop n) (ys.drop n) := ⟨by rw [List.length_drop, List.length_drop, h.1], fun i a b ha hb => by
  rw [List.getElem?_drop] at ha hb
  exact h.2 _ a b ha hb⟩
theorem All2.get (h : All2 R xs ys) (hi : xs[i]? = some x) : ∃ y, ys[i]? = some y ∧ R x y := by
  have hl : i < ys.length := by
    rw [← h.1]
    exact (List.getElem?_eq_some_iff.mp hi).1
  have e : ys[i]? = some ys[i] := List.getElem?_eq_getElem hl
  exact ⟨_, e, h.2 i _ _ hi e⟩
theorem take_more {α : Type} {ys : List α} {y : α} {i : Nat} (h : ys[i]? = some y) : ys.take (i + 1) = ys.take i ++ [y] := by
  rw [List.take_add_one, h]
  rfl
end
section
open PySem.Spec PyProof.Rows
variable {X : Cx}
/-- one operator, two ways to read it -/
theorem op_mix {f : Value → Value → Sem Value} {r1 r2 : R2} (h1 : OpR X f r1) (h2 : OpR X f r2) : OpR X f (fun x y H Q => Wd (r1 x y H Q ∨ r2 x y H Q)) := by
  intro pins s σ H x y v u Q I rx ry h
  rcases h.ok with h | h
  · exact h1 pins s σ H x y v u Q I rx ry h
  · exact h2 pins s σ H x y v u Q I rx ry h
theorem vals_same {A : Around} {s : Shared} {xs : List V} (hx : ∀ x ∈ xs, flatB x = true ∨ ∃ a, x = .ref a) : ∀ {us ws : List Value}, Vals xs us → Vals xs ws → ∀ j (h1 : j < us.length) (h2 : j < ws.length), SeqAt.EqAt A s us[j] ws[j] true := by
  induction xs with
  | nil =>
    intro us ws r1 r2 j h1 h2
    cases r1
    exact absurd h1 (Nat.not_lt_zero j)
  | cons x xs ih =>
    intro us ws r1 r2 j h1 h2
    cases r1 with
    | cons a1 b1 =>
      cases r2 with
      | cons a2 b2 =>
        cases j with
        | zero =>
          rcases hx x List.mem_cons_self with f | ⟨a, rfl⟩
          · exact eqAt_same a1 a2 f
          · cases a1
            cases a2
            exact SeqAt.EqAt.same _
        | succ j => exact ih (fun y hy => hx y (List.mem_cons_of_mem _ hy)) b1 b2 j (Nat.lt_of_succ_lt_succ h1) (Nat.lt_of_succ_lt_succ h2)
/-- a != b, two lists of the same items -/
theorem op_neL (hu : X.A.units + 64 < cLine) : OpR X (compareOp .NotEq) (fun x y H Q => Wd (∃ (a b : Addr) (xs : List V), x = .ref a ∧ y = .ref b ∧ SqL X.K H a xs ∧ SqL X.K H b xs ∧ (∀ x ∈ xs, flatB x = true ∨ ∃ a, x = .ref a) ∧ Q (.bl false) H)) := by
  intro pins s σ H x y v u Q I rx ry h
  obtain ⟨a, b, xs, rfl, rfl, ha, hb, hx, q⟩ := h.ok
  cases rx
  cases ry
  obtain ⟨us, r1, p1, _⟩ := I.list ha
  obtain ⟨ws, r2, p2, _⟩ := I.list hb
  have hsz : us.toArray.size = ws.toArray.size := by
    rw [List.size_toArray, List.size_toArray, ← r1.length, ← r2.length]
  have k := SeqAt.RcNeAt.lists (A := X.A) (e := fun _ => true) p1.isList p2.isList hsz (by omega) (fun j h1 h2 => by
    have k := vals_same (A := X.A.in1) (s := s) hx r1 r2 j (by simpa using h1) (by simpa using h2)
    simpa using k)
  refine k X.prog X.w _ _ ?_
  rw [show ((List.range us.toArray.size).all fun _ => true) = true from List.all_eq_true.mpr fun _ _ => rfl]
  exact ⟨.bl false, H, I, rfl, q⟩
/-- a != b, two tuples of the same items -/
theorem op_neT (hu : X.A.units + 64 < cLine) : OpR X (compareOp .NotEq) (fun x y H Q => Wd (∃ (a b : Addr) (xs : List V), x = .ref a ∧ y = .ref b ∧ SqT X.K H a xs ∧ SqT X.K H b xs ∧ (∀ x ∈ xs, flatB x = true ∨ ∃ a, x = .ref a) ∧ Q (.bl false) H)) := by
  intro pins s σ H x y v u Q I rx ry h
  obtain ⟨a, b, xs, rfl, rfl, ha, hb, hx, q⟩ := h.ok
  cases rx
  cases ry
  obtain ⟨us, r1, p1, _⟩ := I.tuple ha
  obtain ⟨ws, r2, p2, _⟩ := I.tuple hb
  have hsz : us.toArray.size = ws.toArray.size := by
    rw [List.size_toArray, List.size_toArray, ← r1.length, ← r2.length]
  have k := SeqAt.RcNeAt.tuples (A := X.A) (e := fun _ => true) p1 p2 (by omega) (fun j h1 h2 => by
    have k := vals_same (A := X.A.in1) (s := s) hx r1 r2 j (by simpa using h1) (by simpa using h2)
    simpa using k)
  refine k X.prog X.w _ _ ?_
  refine ⟨.bl false, H, I, ?_, q⟩
  show Value.bool _ = Value.bool false
  simp [hsz]
end

/-! ### == and != of data of any depth, texts of any signs -/
section
open PySem.Spec PyProof.Rows
variable {X : Cx}
def rEqP (K : PySem.W.Frag) : R2 := fun x y H Q => Wd (∃ d e, Dp K H x d ∧ Dp K H y e ∧ d.plain = true ∧ e.plain = true ∧ d.depth ≤ 64 ∧ Q (.bl (PyData.eqv d e)) H)
def rNeP (K : PySem.W.Frag) : R2 := fun x y H Q => Wd (∃ d e, Dp K H x d ∧ Dp K H y e ∧ d.plain = true ∧ e.plain = true ∧ d.depth ≤ 64 ∧ Q (.bl (!PyData.eqv d e)) H)
theorem op_eqP (hu : X.A.units + 64 < cLine) : OpR X (compareOp .Eq) (rEqP X.K) := by
  intro pins s σ H x y v u Q I rx ry h
  obtain ⟨d, e, hd, he, sd, se, dp, q⟩ := h.ok
  obtain ⟨as, r1⟩ := Dp.reads I d x v hd rx
  obtain ⟨bs, r2⟩ := Dp.reads I e y u he ry
  have := Nat.min_le_left d.depth e.depth
  exact SeqAt.eq_plain r1 r2 sd se (by omega) ⟨.bl _, H, I, rfl, q⟩
theorem op_neP (hu : X.A.units + 64 < cLine) : OpR X (compareOp .NotEq) (rNeP X.K) := by
  intro pins s σ H x y v u Q I rx ry h
  obtain ⟨d, e, hd, he, sd, se, dp, q⟩ := h.ok
  obtain ⟨as, r1⟩ := Dp.reads I d x v hd rx
  obtain ⟨bs, r2⟩ := Dp.reads I e y u he ry
  have := Nat.min_le_left d.depth e.depth
  exact SeqAt.ne_plain r1 r2 sd se (by omega) ⟨.bl _, H, I, rfl, q⟩
theorem eqP_same {K : PySem.W.Frag} {x y : V} {H : Hp} {Q : VK} {d : PyData} (hx : Dp K H x d) (hy : Dp K H y d) (hp : d.plain = true) (hd : d.depth ≤ 64) (h : Q (.bl true) H) : rEqP K x y H Q :=
  ⟨d, d, hx, hy, hp, hp, hd, by rw [SeqAt.eqv_refl_plain d hp]; exact h⟩
theorem neP_same {K : PySem.W.Frag} {x y : V} {H : Hp} {Q : VK} {d : PyData} (hx : Dp K H x d) (hy : Dp K H y d) (hp : d.plain = true) (hd : d.depth ≤ 64) (h : Q (.bl false) H) : rNeP K x y H Q :=
  ⟨d, d, hx, hy, hp, hp, hd, by rw [SeqAt.eqv_refl_plain d hp]; exact h⟩
end

/-! ### operators that an own class defines -/
section
open PySem.W PySem.Calls PyProof.Rows
variable {prog : Program} {w : World} {A : Around} {E : Value → Shared → Prop} {s : Shared} {K : PySem.W.Frag} {x y C f r : Addr} {ox oy : Obj} {od : Option Obj} {nm : String}
/-- a op b, two instances of one class -/
theorem b1_same {b : Value} {Q : Value → Shared → Prop} (X : K.In s.heap) (I : InstAt s.heap x ox C od) (hb : Looks (model prog w) s.heap (typeOf b) (.ref C)) (hc : selfFirst K C = true)
    (hs : findIn K (.ref C) (PySem.dunder nm) = some (some (.ref f))) (hf : isFn K (.ref f) = true) (h : wpAny (model prog w) A (call (.ref f) [.ref x, b]) (PySem.W.CmpBack Q) E s) :
    wpAny (model prog w) A (binaryOp1 nm (.ref x) b) (fun o s' => ∃ v, o = some v ∧ Q v s') E s := by
  obtain ⟨cd, rest, hcd, hm⟩ := ksp_first hc
  have one := ksp_try X I hs hf h
  unfold binaryOp1
  refine wpAny_bind (I.type.here (wpAny_bind (hb.here (wpAny_bind ((fills_K X hcd hm hs).here ?_)))))
  simp only [beq_self_eq_true, if_true]
  refine wpAny_bind (wpAny_pure ?_)
  simp only [Bool.and_false, Bool.false_eq_true, if_false, Bool.false_and]
  refine wpAny_bind (wpAny_pure ?_)
  simp only [Bool.false_eq_true, if_false]
  refine wpAny_bind (wpAny_mono one (fun o s' ho => ?_) fun _ _ e => e)
  obtain ⟨v, rfl, hq⟩ := ho
  exact wpAny_pure ⟨v, rfl, hq⟩
/-- a op n, n an int -/
theorem b1_int {i : Int} {t : Tok} {fo ro rc : Option Value} {Q : Value → Shared → Prop} (X : K.In s.heap) (I : InstAt s.heap x ox C od) (hc : selfFirst K C = true)
    (hs : findIn K (.ref C) (PySem.dunder nm) = some (some (.ref f))) (hf : isFn K (.ref f) = true) (hr : findIn K (.ref C) (dunderR nm) = some rc) (hp : rc = none ∨ ∃ g : Addr, rc = some (.ref g))
    (h1 : findIn K (.type "int") (PySem.dunder nm) = some fo) (h2 : findIn K (.type "int") (dunderR nm) = some ro) (hsub : subIn K (.type "int") (.ref C) = some false)
    (h : wpAny (model prog w) A (call (.ref f) [.ref x, .int i t]) (PySem.W.CmpBack Q) E s) : wpAny (model prog w) A (binaryOp1 nm (.ref x) (.int i t)) (fun o s' => ∃ v, o = some v ∧ Q v s') E s := by
  obtain ⟨cd, rest, hcd, hm⟩ := ksp_first hc
  have one := ksp_try X I hs hf h
  obtain ⟨hh, g, d, tt, os⟩ := s
  have L1 : Looks (model prog w) hh (typeOf (.ref x)) (.ref C) := I.type
  have L2 : Looks (model prog w) hh (typeOf (.int i t)) (.type "int") := Looks.of_pure rfl
  have L3 : Looks (model prog w) hh (fillsNumberSlot (.ref C) nm) true := fills_K X hcd hm hs
  have L4 : Looks (model prog w) hh (fillsNumberSlot (.type "int") nm) ((fo.isSome && !isSeqSlot fo) || (ro.isSome && !isSeqSlot ro)) := ksp_fillsT X h1 h2
  have L5 : Looks (model prog w) hh (isSubtype (.type "int") (.ref C)) false := looks_subIn X hsub
  have L6 : Looks (model prog w) hh (numberSlotInPython (.ref C) nm) true := ksp_inPy X hs hr hp
  have L7 : Looks (model prog w) hh (numberSlotInPython (.type "int") nm) false := Looks.of_pure rfl
  have L8 : Looks (model prog w) hh (typeLookup (.type "int") (dunderR nm)) ro := looks_findIn X h2
  generalize ((fo.isSome && !isSeqSlot fo) || (ro.isSome && !isSeqSlot ro)) = right at L4
  have hne : (Value.ref C == Value.type "int") = false := Bool.eq_false_iff.mpr fun q => by cases beq_iff_eq.mp q
  unfold binaryOp1
  refine wpAny_bind (L1.at (wpAny_bind (L2.at (wpAny_bind (L3.at ?_)))))
  simp only [hne, Bool.false_eq_true, if_false]
  cases right with
  | false =>
    ksp_lk
    refine wpAny_mono one (fun o s' ho => ?_) fun _ _ e => e
    obtain ⟨v, rfl, hq⟩ := ho
    ksp_lk
    exact ⟨v, rfl, hq⟩
  | true =>
    ksp_lk
    refine wpAny_mono one (fun o s' ho => ?_) fun _ _ e => e
    obtain ⟨v, rfl, hq⟩ := ho
    ksp_lk
    exact ⟨v, rfl, hq⟩
/-- n op a, n an int: int's own way declines, the reflected one serves -/
theorem b1_rint {i : Int} {t : Tok} {id : String} {bi : Builtin} {Q : Value → Shared → Prop} (X : K.In s.heap) (I : InstAt s.heap y oy C od) (hc : selfFirst K C = true)
    (hs : findIn K (.ref C) (PySem.dunder nm) = some (some (.ref f))) (hr : findIn K (.ref C) (dunderR nm) = some (some (.ref r))) (hf : isFn K (.ref r) = true)
    (hfi : fillsNumberSlot (.type "int") nm = pure true) (hsub : subIn K (.ref C) (.type "int") = some false) (slot : Slot "int" (PySem.dunder nm) id) (entry : entryFor table id = some bi)
    (args : argsOk id ⟨[.int i t, .ref y], []⟩) (dec : wpAny (model prog w) A.in1 (bi ⟨[.int i t, .ref y], []⟩) (fun fin s' => fin = .done (.ret .notImplemented) ∧ s' = s) E s)
    (h : wpAny (model prog w) A (call (.ref r) [.ref y, .int i t]) (PySem.W.CmpBack Q) E s) : wpAny (model prog w) A (binaryOp1 nm (.int i t) (.ref y)) (fun o s' => ∃ v, o = some v ∧ Q v s') E s := by
  obtain ⟨cd, rest, hcd, hm⟩ := ksp_first hc
  have one := ksp_try X I hr hf h
  have two : wpAny (model prog w) A (call (.builtin id) [.int i t, .ref y]) (fun v s' => v = .notImplemented ∧ s' = s) E s :=
    wpAny_call_entry slot rfl entry (wpAny_mono dec (fun fin s' z => ⟨_, z.1, rfl, z.2⟩) fun _ _ e => e) args
  obtain ⟨hh, g, d, tt, os⟩ := s
  have L1 : Looks (model prog w) hh (typeOf (.ref y)) (.ref C) := I.type
  have L2 : Looks (model prog w) hh (typeOf (.int i t)) (.type "int") := Looks.of_pure rfl
  have L3 : Looks (model prog w) hh (fillsNumberSlot (.ref C) nm) true := fills_K X hcd hm hs
  have L4 : Looks (model prog w) hh (fillsNumberSlot (.type "int") nm) true := Looks.of_pure hfi
  have L5 : Looks (model prog w) hh (isSubtype (.ref C) (.type "int")) false := looks_subIn X hsub
  have L7 : Looks (model prog w) hh (numberSlotInPython (.type "int") nm) false := Looks.of_pure rfl
  have hne : (Value.type "int" == Value.ref C) = false := Bool.eq_false_iff.mpr fun q => by cases beq_iff_eq.mp q
  unfold binaryOp1
  refine wpAny_bind (L2.at (wpAny_bind (L1.at (wpAny_bind (L4.at ?_)))))
  simp only [hne, Bool.false_eq_true, if_false]
  ksp_lk
  refine wpAny_tryMethod_declines (s := ⟨hh, g, d, tt, os⟩) (T := "int") rfl slot (wpAny_mono two (fun v s' z => ⟨z.1, ?_⟩) fun _ _ e => e)
  obtain ⟨_, rfl⟩ := z
  ksp_lk
  refine wpAny_mono one (fun o s' ho => ?_) fun _ _ e => e
  obtain ⟨v, rfl, hq⟩ := ho
  ksp_lk
  exact ⟨v, rfl, hq⟩
/-- int's own way with an instance declines -/
theorem int_declines {i : Int} {t : Tok} {dx : Addr} {name : String} {g : Int → Int → Sem Fin} (hy : s.heap.get? y = some (instObj C dx)) :
    wpAny (model prog w) A (Builtin.Int.intBinary name g false ⟨[.int i t, .ref y], []⟩) (fun fin s' => fin = .done (.ret .notImplemented) ∧ s' = s) E s := by
  obtain ⟨hh, gg, d, tt, os⟩ := s
  wp_walk using wpAny_load hy
  exact ⟨rfl, rfl⟩
theorem fillsI_no {M : Model} {h : Heap} {add : Bool} (X : K.In h) (hn : noI K C nm = true) : Looks M h (fillsInplaceSlot (.ref C) nm add) false := by
  obtain ⟨cd, hcd, hall⟩ := any_some hn
  intro A Q E s k q
  have Lm : Looks M h (mroOf (.ref C)) cd.mro := (looks_clsIn X hcd).andThen (f := fun cd => pure cd.mro) .now
  unfold fillsInplaceSlot
  refine wpAny_bind (Lm A _ E s k ?_)
  have X' : K.In s.heap := X.keeps k
  generalize cd.mro = l at hall
  induction l with
  | nil => exact wpAny_pure q
  | cons c l ih =>
    rw [List.all_cons, Bool.and_eq_true] at hall
    rw [List.anyM_cons]
    refine wpAny_bind (wpAny_bind ((looks_findIn X' (beq_iff_eq.mp hall.1)).here ?_))
    refine wpAny_pure ?_
    exact ih hall.2
end
section
open PySem.Spec PyProof.Rows
variable {X : Cx} {CX : CXT} {k : Nat} {f r C : Addr} {fd : FuncData} {ps : List Str} {sp : Sp} {E : XK} {nm : String} {op : Operator}
/-- what the written part says of a class with __op__ (f) and __rop__ (r) -/
structure OwnOp (K : PySem.W.Frag) (C f r : Addr) (nm : String) : Prop where
  hc : PySem.W.selfFirst K C = true
  hs : PySem.W.findIn K (.ref C) (PySem.dunder nm) = some (some (.ref f))
  hf : PySem.W.isFn K (.ref f) = true
  hr : PySem.W.findIn K (.ref C) (dunderR nm) = some (some (.ref r))
  hg : PySem.W.isFn K (.ref r) = true
  h1 : ∃ fo, PySem.W.findIn K (.type "int") (PySem.dunder nm) = some fo
  h2 : ∃ ro, PySem.W.findIn K (.type "int") (dunderR nm) = some ro
  sub : PySem.W.subIn K (.type "int") (.ref C) = some false
  sub2 : PySem.W.subIn K (.ref C) (.type "int") = some false
theorem back_of {pins : List (Addr × Obj)} {σ : L2.St} {Q : VK} {u : Value} {s : Shared} (h : EP X pins σ Q u s) : PySem.W.CmpBack (EP X pins σ Q) u s := by
  obtain ⟨v, H', I, rv, q⟩ := h
  have h : EP X pins σ Q u s := ⟨v, H', I, rv, q⟩
  cases v with
  | non => cases rv; exact h
  | bl b => cases rv; exact h
  | int i => obtain ⟨t, rfl⟩ := rv; exact h
  | str i => obtain ⟨t, rfl⟩ := rv; exact h
  | byt i => obtain ⟨t, rfl⟩ := rv; exact h
  | flt i => obtain ⟨t, rfl⟩ := rv; exact h
  | ref a => cases rv; exact h
  | ty n => cases rv; exact h
/-- a op b: the operand's own method -/
def rOwn (C : Addr) (sp : Sp) (E : XK) : R2 := fun x y H Q => Wd (∃ a dx fs, x = .ref a ∧ H a = some (.ins C dx fs) ∧ ((∃ i, y = .int i) ∨ ∃ b dy gs, y = .ref b ∧ H b = some (.ins C dy gs)) ∧ sp [x, y] H Q E)
theorem own1 (O : OwnOp X.K C f r nm) (F : FnOk X.prog X.w X.K X.mg X.base CX k f fd ps sp) (hrm : Room k X.A) (hb : Binds X.K fd ps []) (hx : Passes CX X E) {pins : List (Addr × Obj)} {s : Shared} {σ : L2.St} {H : Hp} {x y : V} {v u : Value} {Q : VK}
    (I : Inv X pins σ H s) (rx : RelV x v) (ry : RelV y u) (h : rOwn C sp E x y H Q) : wpAny (model X.prog X.w) X.A (binaryOp1 nm v u) (fun o s' => ∃ z, o = some z ∧ EP X pins σ Q z s') X.xe s := by
  obtain ⟨a, dx, fs, rfl, ha, hy, h⟩ := h.ok
  obtain rfl : v = Value.ref a := rx
  obtain ⟨mA, O1, _⟩ := ins_get I.hok ha
  obtain ⟨od, J, _⟩ := O1.look
  have fin : wpAny (model X.prog X.w) X.A (call (.ref f) [.ref a, u]) (PySem.W.CmpBack (EP X pins σ Q)) X.xe s :=
    thn (run_fn (us := [.ref a, u]) (vs := [.ref a, y]) F hrm hb .nil hx I (.cons rfl (.cons ry .nil)) h) fun _ _ z => back_of z
  rcases hy with ⟨i, rfl⟩ | ⟨b, dy, gs, rfl, hb2⟩
  · obtain ⟨t, rfl⟩ := ry
    obtain ⟨fo, h1⟩ := O.h1
    obtain ⟨ro, h2⟩ := O.h2
    exact b1_int I.kIn J O.hc O.hs O.hf O.hr (.inr ⟨r, rfl⟩) h1 h2 O.sub fin
  · obtain rfl : u = Value.ref b := ry
    obtain ⟨mB, O2, _⟩ := ins_get I.hok hb2
    obtain ⟨od2, J2, _⟩ := O2.look
    exact b1_same I.kIn J J2.type O.hc O.hs O.hf fin
theorem op_own (hop : op.info.2 = nm) (O : OwnOp X.K C f r nm) (F : FnOk X.prog X.w X.K X.mg X.base CX k f fd ps sp) (hrm : Room k X.A) (hb : Binds X.K fd ps []) (hx : Passes CX X E) : OpR X (binaryOp op) (rOwn C sp E) := by
  intro pins s σ H x y v u Q I rx ry h
  have one := own1 O F hrm hb hx I rx ry h
  rcases hi : op.info with ⟨sym, nm'⟩
  rw [hi] at hop
  cases hop
  simp only [binaryOp, hi]
  refine wpAny_holding (wpAny_bind (wpAny_mono one (fun o s' ho => ?_) fun _ _ e => e))
  obtain ⟨z, rfl, q⟩ := ho
  exact wpAny_pure q
theorem iop_own (hop : op.info.2 = nm) (O : OwnOp X.K C f r nm) (hn : noI X.K C nm = true) (F : FnOk X.prog X.w X.K X.mg X.base CX k f fd ps sp) (hrm : Room k X.A) (hb : Binds X.K fd ps []) (hx : Passes CX X E) : PIp X op (rOwn C sp E) := by
  intro pins s σ H x y v u Q I rx ry h
  have one := own1 O F hrm hb hx I rx ry h
  obtain ⟨a, dx, fs, rfl, ha, hy, h⟩ := h.ok
  obtain rfl : v = Value.ref a := rx
  obtain ⟨mA, O1, _⟩ := ins_get I.hok ha
  obtain ⟨od, J, _⟩ := O1.look
  subst hop
  unfold inplaceOp
  refine wpAny_holding (wpAny_bind (J.type.here (wpAny_bind ((fillsI_no I.kIn hn).here ?_))))
  simp only [Bool.false_eq_true, if_false]
  refine wpAny_bind (wpAny_mono one (fun o s' ho => ?_) fun _ _ e => e)
  obtain ⟨z, rfl, q⟩ := ho
  exact wpAny_pure q
/-- n op a: the reflected method -/
def rROwn (C : Addr) (sp : Sp) (E : XK) : R2 := fun x y H Q => Wd (∃ (i : Int) (b dy : Addr) (gs : List (Str × V)), x = .int i ∧ y = .ref b ∧ H b = some (.ins C dy gs) ∧ sp [y, x] H Q E)
theorem op_rown {id : String} {bi : Builtin} {nm2 : String} {g : Int → Int → Sem PySem.Fin} (hop : op.info.2 = nm) (O : OwnOp X.K C f r nm) (hfi : fillsNumberSlot (.type "int") nm = pure true) (slot : Slot "int" (PySem.dunder nm) id) (entry : entryFor table id = some bi)
    (args : ∀ p q, argsOk id ⟨[p, q], []⟩) (hbi : bi = Builtin.Int.intBinary nm2 g false) (F : FnOk X.prog X.w X.K X.mg X.base CX k r fd ps sp) (hrm : Room k X.A) (hb : Binds X.K fd ps []) (hx : Passes CX X E) : OpR X (binaryOp op) (rROwn C sp E) := by
  intro pins s σ H x y v u Q I rx ry h
  obtain ⟨i, b, dy, gs, rfl, rfl, hb2, h⟩ := h.ok
  obtain ⟨t, rfl⟩ := rx
  obtain rfl : u = Value.ref b := ry
  obtain ⟨mB, O2, _⟩ := ins_get I.hok hb2
  obtain ⟨od2, J2, _⟩ := O2.look
  have fin : wpAny (model X.prog X.w) X.A (call (.ref r) [.ref b, .int i t]) (PySem.W.CmpBack (EP X pins σ Q)) X.xe s :=
    thn (run_fn (us := [.ref b, .int i t]) (vs := [.ref b, .int i]) F hrm hb .nil hx I (.cons rfl (.cons ⟨t, rfl⟩ .nil)) h) fun _ _ z => back_of z
  rcases hi : op.info with ⟨sym, nm'⟩
  rw [hi] at hop
  cases hop
  subst hbi
  have one := b1_rint (prog := X.prog) (w := X.w) (A := X.A) (E := X.xe) (Q := EP X pins σ Q) I.kIn J2 O.hc O.hs O.hr O.hg hfi O.sub2 slot entry (args _ _) (int_declines J2.at_) fin
  simp only [binaryOp, hi]
  refine wpAny_holding (wpAny_bind (wpAny_mono one (fun o s' ho => ?_) fun _ _ e => e))
  obtain ⟨z, rfl, q⟩ := ho
  exact wpAny_pure q
/-- -a -/
theorem un_own (hs : PySem.W.findIn X.K (.ref C) "__neg__" = some (some (.ref f))) (hf : PySem.W.isFn X.K (.ref f) = true) (F : FnOk X.prog X.w X.K X.mg X.base CX k f fd ps sp) (hrm : Room k X.A) (hb : Binds X.K fd ps []) (hx : Passes CX X E) :
    UnR X (unaryOp .USub) (fun x H Q => Wd (∃ a dx fs, x = .ref a ∧ H a = some (.ins C dx fs) ∧ sp [x] H Q E)) := by
  intro pins s σ H x v Q I rx h
  obtain ⟨a, dx, fs, rfl, ha, h⟩ := h.ok
  obtain rfl : v = Value.ref a := rx
  obtain ⟨mA, O1, _⟩ := ins_get I.hok ha
  obtain ⟨od, J, _⟩ := O1.look
  obtain ⟨m, fr⟩ := I.fr
  exact PySem.W.ksp_neg fr I.mod.kin J hs hf (run_fn (us := [.ref a]) (vs := [.ref a]) F hrm hb .nil hx I (.cons rfl .nil) h)
theorem run_fn1 {pins : List (Addr × Obj)} {σ : L2.St} {H : Hp} {s : Shared} {Q : VK} {us : List Value} {vs : List V} (F : FnOk X.prog X.w X.K X.mg X.base CX k f fd ps sp) (hr : Room (k + 1) X.A) (hb : Binds X.K fd ps []) (hx : Passes CX X E)
    (I : Inv X pins σ H s) (rv : Vals vs us) (h : sp vs H Q E) : wpAny (model X.prog X.w) X.A.in1 (call (.ref f) us) (EP X pins σ Q) X.xe s := by
  have hl : us.length = ps.length := by rw [← rv.length]; exact F.len _ _ _ _ h
  have b := hb s us I.kIn (by rw [List.append_nil]; exact hl)
  rw [List.append_nil] at b
  refine wpAny_call (codeAny_mono (F.run X.A.in1 X.stack s H ⟨us, []⟩ us vs Q E hr.in1 I.env0.in1 b rv h) fun o s' z => ?_)
  cases o with
  | error e => exact hx pins σ H s e s' I z
  | ok fl =>
    cases fl with
    | ret u => exact I.after z
    | next => exact z.elim
    | brk => exact z.elim
    | cont => exact z.elim
/-- abs(a) -/
theorem call_absO (hs : PySem.W.findIn X.K (.ref C) "__abs__" = some (some (.ref f))) (hf : PySem.W.isFn X.K (.ref f) = true) (F : FnOk X.prog X.w X.K X.mg X.base CX k f fd ps sp) (hrm : Room (k + 1) X.A) (hb : Binds X.K fd ps []) (hx : Passes CX X E) :
    CallR X (.builtin "abs") (fun xs H Q => Wd (∃ a dx fs, xs = [.ref a] ∧ H a = some (.ins C dx fs) ∧ sp [.ref a] H Q E)) := by
  intro pins s σ H xs us Q I rv h
  obtain ⟨a, dx, fs, rfl, ha, h⟩ := h.ok
  obtain ⟨u, rfl, ru⟩ := vals1 rv
  obtain rfl : u = Value.ref a := ru
  obtain ⟨mA, O1, _⟩ := ins_get I.hok ha
  obtain ⟨od, J, _⟩ := O1.look
  refine PySem.Calls.call_function_entry kind_abs plain_abs entry_abs (args_abs _) ?_
  unfold Builtin.abs
  refine wpAny_bind (m := oneArg "abs" _) (wpAny_pure ?_)
  refine wpAny_bind (m := callSpecial? (.ref a) (Str.ofString "__abs__")) (PySem.W.special_fn I.kIn J hs (beq_iff_eq.mp hf) ?_)
  exact thn (run_fn1 (us := [.ref a]) (vs := [.ref a]) F hrm hb hx I (.cons rfl .nil) h) fun v s' z => wpAny_pure ⟨v, rfl, z⟩
def tSMeth (C : Addr) (sp : Sp) (E : XK) (ta : TE) (t : TA) : TE := fun σ H Q => ta σ H fun x H1 => x = .ref C ∧ t σ H1 fun vs H2 => sp vs H2 Q E
theorem pe_smeth {pl : Sem Bool} {p : Addr} {o e : Expr} {es : List Expr} {m : Str} {apos pos : Pos} {ta : TE} {t : TA} (he : PE X o ta) (S : SMet X.K C m p f) (F : FnOk X.prog X.w X.K X.mg X.base CX k f fd ps sp) (hrm : Room k X.A) (hb : Binds X.K fd ps [])
    (hx : Passes CX X E) (ha : PA X (e :: es) t) (hst : starEach (e :: es) X.env = (false, eval e X.env) :: starEach es X.env := by rfl) (hpl : (backTo pos (starEach es X.env)).any (·.1) = false := by rfl)
    (ht : eval (.Call (.Attribute o m apos) (e :: es) [] pos) X.env = (eval o X.env >>= fun ov => standAt apos.atName >>= fun _ => holding [ov] (getMethod ov m pl) >>= fun (f, first) =>
      callWith pos f first (backTo pos (starEach (e :: es) X.env)) (backToKw pos (keywordEach [] X.env))) := by rfl) :
    PE X (.Call (.Attribute o m apos) (e :: es) [] pos) (tSMeth C sp E ta t) := by
  refine ⟨fun pins s σ H Q I h => ?_⟩
  refine PySem.W.methodCall_KW (pl := pl) (thn (he.run pins s σ H _ I h) fun u s1 ⟨x, H1, I1, rx, ex, q⟩ => ?_) ht
  subst ex
  obtain rfl : u = Value.ref C := rx
  obtain ⟨rest, hp⟩ := S.rc
  refine PySem.W.method_cls I1.kIn S.ga (PySem.W.cls_bind I1.kIn S.rd S.at_ (wpAny_call (PySem.W.sm_get (s := { s1 with toks := s1.toks + 1 }) I1.kIn hp (PySem.W.handed_on rfl ?_))))
  have I2 := I1.tok (s1.toks + 1)
  refine PySem.W.callWith_K (first := []) (h₀ := X.base) I.ok.mod.kin S.kp (thn (ha.run pos pins _ σ H1 _ I2 q) fun us s2 ⟨vs, H2, I3, rv, q2⟩ => ⟨I3.kIn, ?_⟩) hst hpl
  exact run_fn (us := us) (vs := vs) F hrm hb .nil hx I3 rv (by rw [List.append_nil]; exact q2)
end

/-! ### dicts with tuple keys: pop(k), del d[k], sorted(d) -/
section
open PySem DT L2.DX
variable {prog : Program} {w : World} {K : Type} [DecidableEq K] {knd : HeapKind prog w K}
theorem meetsPop1 {d b : Addr} {k : K} (hd : (d == sysModules) = false) :
    MeetsIn prog w (Builtin.«dict.pop» ⟨[.ref d, .ref b], []⟩) (fun A R s => ∃ xs, knd.room A.in1 ∧ knd.is s.heap k b ∧ s.heap.DictOfH knd d xs ∧ xs.length ≤ sizeLine ∧ atKey xs k ≠ none ∧
      ∀ p, atKey xs k = some p → ∀ h' tk, h'.DictOfH knd d (dropH xs k) → Heap.SameBut d s.heap h' → R (.ok (.ret p.2)) { s with heap := h', toks := tk }) :=
  .of_wp fun A R s ⟨xs, hu, hkey, hm, hsz, hthere, hsome⟩ => by
    obtain ⟨o, es, ep, ho, hc, hdat, he, his, hn⟩ := id hm
    have hes : es.size = xs.length := size_of_entries he
    have hpart : (keyPart (Value.ref b)).isSome = false := rfl
    unfold Builtin.«dict.pop»
    refine wpAny_bind ?_
    unfold Builtin.Dict.keyAndDefault
    refine wpAny_bind (wpAny_notOrdered_dict hm.typeIs ?_)
    show wpAny _ _ (pure (d, Value.ref b, none)) _ _ s
    refine wpAny_pure ?_
    simp only [hpart, Bool.false_eq_true, if_false]
    refine wpAny_bind (wpAny_dictEntries ho hdat (wpAny_bind (wpAny_pure ?_)))
    cases hem : es.isEmpty with
    | true =>
      have z : es.size = 0 := by simpa using hem
      have h0 : xs = [] := List.length_eq_zero_iff.mp (by omega)
      exact absurd (by rw [h0]; rfl) hthere
    | false =>
      simp only [Bool.false_eq_true, if_false]
      refine wpAny_bind (takeH hu hkey hm hsz (fun hno => absurd hno hthere) fun p e hp hev h' hm' hs' => ?_)
      simp only [Option.isNone_some, Bool.false_eq_true, if_false]
      exact wpAny_bind (wpAny_letGo (wpAny_pure ⟨e.val, rfl, by rw [hev]; exact hsome p hp h' _ hm' hs'⟩))
theorem meetsDelT {d b : Addr} {k : K} :
    MeetsIn prog w (Builtin.«dict.__delitem__» ⟨[.ref d, .ref b], []⟩) (fun A R s => ∃ xs, knd.room A.in1 ∧ knd.is s.heap k b ∧ s.heap.DictOfH knd d xs ∧ xs.length ≤ sizeLine ∧ atKey xs k ≠ none ∧
      ∀ h' tk, h'.DictOfH knd d (dropH xs k) → Heap.SameBut d s.heap h' → R (.ok (.ret .none)) { s with heap := h', toks := tk }) :=
  .of_wp fun A R s ⟨xs, hu, hkey, hm, hsz, hthere, h⟩ => by
    unfold Builtin.«dict.__delitem__»
    refine wpAny_bind ?_
    unfold Builtin.Dict.dictSlotArgs
    refine wpAny_bind (wpAny_notOrdered_dict hm.typeIs ?_)
    show wpAny _ _ (pure (Value.ref d, Value.ref b)) _ _ s
    refine wpAny_pure ?_
    show wpAny _ _ (Builtin.Dict.takeOut d (.ref b) >>= _) _ _ s
    refine wpAny_bind (takeH hu hkey hm hsz (fun hno => absurd hno hthere) fun p e hp hev h' hm' hs' => ?_)
    exact wpAny_bind (wpAny_letGo (wpAny_pure ⟨.none, rfl, h h' _ hm' hs'⟩))
end
section
open PySem.Spec PyProof.Rows L2.DX
variable {X : Cx}
def rPopT1 : V → List V → Hp → VK → Prop := fun x xs H Q => ∃ (a : Addr) (kvs : List (List L2.Key × V)) (k : List L2.Key) (b : Addr) (v : V), x = .ref a ∧ xs = [.ref b] ∧ H a = some (.dT kvs) ∧ H b = some (.tup (k.map kV)) ∧ valV kvs k = some v ∧ Q v (upd H a (.dT (dropK kvs k)))
theorem mt_popT1 (hu : X.A.units + 1 < cLine) : MtR X "dict.pop" rPopT1 := by
  intro pins s σ H x xs v us Q I rx rxs h
  obtain ⟨a, kvs, k, b, v0, rfl, rfl, ha, hb, ev, q⟩ := h
  cases rx
  obtain ⟨u1, rfl, r1⟩ := vals1 rxs
  cases r1
  obtain ⟨z, hd, xs', rel, dd⟩ := dt_of I.hok ha
  have hz : xs'.length ≤ sizeLine := by rw [← Paired.length rel]; exact z
  have r := rel.val k
  rw [ev] at r
  refine call_meetsIn PySem.F.slot_dict_pop dd.typeIs PySem.F.entry_dict_pop (PySem.F.args_dict_pop_2 _ _) (meetsPop1 (knd := tupleKind (mixKind X.prog X.w)) (k := k) hd)
    ⟨xs', tupleKind_room_in1 hu, key_of I.hok hb, dd, hz, fun e => ?_, fun p hp h' tk dd' hs => ?_⟩
  · rw [e] at r
    exact r
  · rw [hp] at r
    obtain ⟨o, es, ep, hq, h2, h3, h4, _, h5⟩ := dd'
    have I2 : Inv X pins σ (upd H a (.dT (dropK kvs k))) { s with heap := h', toks := tk } :=
      d_write I (by rw [ha]; exact True.intro) hs ⟨o, hq⟩ ⟨Nat.le_trans (dropK_le kvs k) z, hd, _, (KT_drop k rel).keeps (fun c ys ec => (by rw [upd_ne (ne_of ec ha (fun z => nomatch z))]; exact ec)), o, es, ep, hq, h2, h3, h4, h5⟩
    exact ⟨v0, _, I2, r, q⟩
variable {o i : Expr} {tpos pos : Pos} {td ty : TE}
/-- del d[k], k a tuple -/
def sDDelT (td ty : TE) : TS := fun D σ H => td σ H fun x H1 => ty σ H1 fun y H2 => ∃ (a b : Addr) (kvs : List (List L2.Key × V)) (k : List L2.Key), x = .ref a ∧ y = .ref b ∧ H2 a = some (.dT kvs) ∧ H2 b = some (.tup (k.map kV)) ∧ (valV kvs k).isSome = true ∧ D.nx σ (upd H2 a (.dT (dropK kvs k)))
theorem ps_ddelT (hu : X.A.units + 1 < cLine) (ho : PE X o td) (hi : PE X i ty) : PS X (.Delete [.Subscript o i tpos] pos) (sDDelT td ty) := by
  refine ⟨fun pins s σ H D I h => ?_⟩
  refine wpAny_Delete (wpAny_deleteEach_cons (wpAny_delete_Subscript (thn (ho.run pins s σ H _ I h) fun u s1 ⟨x, H1, I1, rx, q1⟩ => thn (hi.run pins s1 σ H1 _ I1 q1) fun iv s2 ⟨y, H2, I2, ry, a, b, kvs, k, ex, ey, ha, hb, l, q2⟩ => ?_)))
  subst ex ey
  obtain rfl : u = Value.ref a := rx
  obtain rfl : iv = Value.ref b := ry
  obtain ⟨z, hd, xs', rel, dd⟩ := dt_of I2.hok ha
  have hz : xs'.length ≤ sizeLine := by rw [← Paired.length rel]; exact z
  have r := rel.val k
  refine wpAny_delItem_slot dd.typeIs (by decide) PySem.F.slot_dict_delitem
    (call_meetsIn PySem.F.slot_dict_delitem dd.typeIs PySem.F.entry_dict_delitem (PySem.F.args_dict_delitem_2 _ _) (meetsDelT (knd := tupleKind (mixKind X.prog X.w)) (k := k))
      ⟨xs', tupleKind_room_in1 hu, key_of I2.hok hb, dd, hz, fun e => ?_, fun h' tk dd' hs => wpAny_deleteEach_nil ⟨σ, _, ?_, q2⟩⟩)
  · rw [e] at r
    cases ev : valV kvs k with
    | none => rw [ev] at l; cases l
    | some v0 => rw [ev] at r; exact r
  · obtain ⟨o, es, ep, hq, h2, h3, h4, _, h5⟩ := dd'
    exact d_write I2 (by rw [ha]; exact True.intro) hs ⟨o, hq⟩ ⟨Nat.le_trans (dropK_le kvs k) z, hd, _, (KT_drop k rel).keeps (fun c ys ec => (by rw [upd_ne (ne_of ec ha (fun z => nomatch z))]; exact ec)), o, es, ep, hq, h2, h3, h4, h5⟩
end
/-- the two ints of the tuple that v is -/
def pairOf (H : Hp) : V → Int × Int
  | .ref b => match H b with
    | some (.tup [.int i, .int j]) => (i, j)
    | _ => (0, 0)
  | _ => (0, 0)
def adOf : Value → Addr
  | .ref a => a
  | _ => 0
theorem pairOf_at {H : Hp} {b : Addr} {i j : Int} (h : H b = some (.tup [.int i, .int j])) : pairOf H (.ref b) = (i, j) := by
  show (match H b with | some (.tup [.int i, .int j]) => (i, j) | _ => ((0, 0) : Int × Int)) = (i, j)
  rw [h]
abbrev kvT (es : List (Int × Int × V)) : List (List L2.Key × V) := es.map fun e => ([.inl e.1, .inl e.2.1], e.2.2)
theorem keysT {H : Hp} : ∀ {es : List (Int × Int × V)} {ks : List (List L2.Key × Addr × Value)}, Paired (fun (p : List L2.Key × V) (q : List L2.Key × Addr × Value) => p.1 = q.1 ∧ H q.2.1 = some (.tup (p.1.map kV)) ∧ RelV p.2 q.2.2) (kvT es) ks →
    (ks.map fun x => pairOf H (.ref x.2.1)) = es.map (fun e => (e.1, e.2.1)) ∧ ∀ x ∈ ks, ∃ i j, H x.2.1 = some (.tup [.int i, .int j])
  | [], ks, h => by
    cases h
    exact ⟨rfl, fun x hx => by cases hx⟩
  | e :: es, ks, h => by
    cases h with
    | cons a t =>
      obtain ⟨h1, h2⟩ := keysT t
      have hq := a.2.1
      refine ⟨?_, fun x hx => ?_⟩
      · rw [List.map_cons, List.map_cons, h1, pairOf_at hq]
      · rcases List.mem_cons.mp hx with rfl | hx
        · exact ⟨_, _, hq⟩
        · exact h2 x hx
section
open PySem.Spec PyProof.Rows L2.DX
variable {X : Cx}
/-- sorted(d), its keys pairs of ints -/
def rSortDT : List V → Hp → VK → Prop := fun xs H Q => Wd (∃ (d : Addr) (es : List (Int × Int × V)), xs = [.ref d] ∧ H d = some (.dT (kvT es)) ∧ ∀ (bs : List Addr) (ps : List (Int × Int)) (p : Addr), H p = none →
  All2 (fun b q => H b = some (.tup [.int q.1, .int q.2])) bs ps → ps.Perm (es.map fun e => (e.1, e.2.1)) → ps.Pairwise (fun a b => SrtO.lexB b a = false) → Q (.ref p) (upd H p (.lst (bs.map V.ref))))
theorem cr_sortedDT (hc : X.calm = true) : CallR X (.builtin "sorted") rSortDT := by
  intro pins s σ H xs us Q I r h
  obtain ⟨d, es, rfl, hd, q⟩ := h.ok
  obtain ⟨u, rfl, rx⟩ := vals1 r
  cases rx
  obtain ⟨z, hs, ks, pr, o, ens, ep, ho, hx, hdt, he, hn⟩ := (show ObjOk X.prog X.w H s.heap d (.dT (kvT es)) from I.hok d _ hd)
  have l1 : ens.size = ks.length := size_of_entries he
  have l2 : (kvT es).length = ks.length := Paired.length pr
  obtain ⟨k1, k2⟩ := keysT pr
  refine Calls.call_function_entry PyProof.Rows.kind_sorted PyProof.Rows.plain_sorted PyProof.Rows.entry_sorted (PyProof.Rows.args_sorted1 _) ?_
  unfold Builtin.«sorted»
  refine wpAny_bind (m := checkCount "sorted" 1 1 _) (wpAny_pure ?_)
  refine wpAny_bind (PySem.W.kdu_collect (A := X.A.in1) (kdl_raw hs hx hdt) (I.ok.hd hc) ho (by omega) fun h' tk acc hk it => ?_)
  have ea : acc.toList = ks.map fun x => Value.ref x.2.1 := by
    have hl : acc.toList.length = ks.length := by rw [Array.length_toList, it.1]; exact l1
    apply List.ext_getElem?
    intro j
    rw [List.getElem?_map]
    cases hj : acc.toList[j]? with
    | none =>
      have h1 := List.getElem?_eq_none_iff.mp hj
      rw [List.getElem?_eq_none (by omega)]
      rfl
    | some v =>
      obtain ⟨en, hen, hv⟩ := it.2 j v (by rw [← Array.getElem?_toList]; exact hj)
      have qe := entry_at he j
      rw [hen] at qe
      cases hb : ks[j]? with
      | none =>
        rw [hb] at qe
        exact nomatch (show some en = none from qe)
      | some b =>
        rw [hb] at qe
        have e2 : en = entryOfKey (tupleKind (mixKind X.prog X.w)) b := Option.some.inj qe
        rw [hv, e2]
        rfl
  have I1 : Inv X pins σ H { s with heap := h', toks := tk } := I.kept hk
  have hz : acc.toList.length ≤ sizeLine := by rw [ea, List.length_map]; omega
  refine wpAny_bind (wpAny_newList ?_ hz)
  have hoL : (h'.push (seqObj "list" acc.toList.toArray 0)).get? h'.objs.size = some (seqObj "list" acc.toList.toArray 0) := Heap.get?_push_size _ rfl
  show wpAny _ _ _ _ _ { s with heap := h'.push (seqObj "list" acc.toList.toArray 0), toks := tk }
  have hmem : ∀ v ∈ acc.toList, ∃ b i j, v = Value.ref b ∧ H b = some (.tup [.int i, .int j]) := fun v hv => by
    rw [ea] at hv
    obtain ⟨x, hx, rfl⟩ := List.mem_map.mp hv
    obtain ⟨i, j, e⟩ := k2 x hx
    exact ⟨_, i, j, rfl, e⟩
  refine wpAny_bind (wpAny_holding (wpAny_call_entry PyProof.Rows.slot_list_sort ⟨_, hoL, rfl⟩ PyProof.Rows.entry_list_sort
    (SrtO.list_sort_ord (SrtO.swo_lex fun u => pairOf H (backV u)) hoL hz (fun h2 => SrtO.pairs_sortableO (by omega) (fun v hv => ?_) fun o e c => ?_) fun out so sb => ⟨_, rfl, ?_⟩) (PyProof.Rows.args_list_sort _)))
  · obtain ⟨b, i, j, rfl, e⟩ := hmem v hv
    obtain ⟨_, its2, r2, o, ho, hc, n, hd⟩ := I1.hok _ _ e
    obtain ⟨u1, u2, rfl, ri, rj⟩ := vals2 r2
    obtain ⟨t1, rfl⟩ := ri
    obtain ⟨t2, rfl⟩ := rj
    have e3 : pairOf H (backV (Value.ref b)) = (i, j) := pairOf_at e
    rw [e3]
    exact ⟨b, o, t1, t2, n, rfl, Heap.get?_push_of_some _ ho, hc, hd⟩
  · rw [hoL] at e
    cases e
    exact absurd (Value.type.inj c) (by decide)
  · obtain ⟨e', he'⟩ := PyProof.Rows.sortedHeap_at (vs := acc.toList) (out := out.toArray) hoL
    have h3 : ∀ u ∈ out, ∃ b i j, u = Value.ref b ∧ H b = some (.tup [.int i, .int j]) := fun u hu => hmem u (sb.perm.mem_iff.mp hu)
    have hlen : (out.map backV).length ≤ sizeLine := by
      rw [List.length_map, sb.perm.length_eq]
      exact hz
    have eo : (out.map adOf).map V.ref = out.map backV := by
      rw [List.map_map]
      refine List.map_congr_left fun u hu => ?_
      obtain ⟨b, i, j, rfl, _⟩ := h3 u hu
      rfl
    have qq := q (out.map adOf) (out.map fun u => pairOf H (backV u)) h'.objs.size (I1.hok.fresh (Nat.le_refl _)) ⟨by rw [List.length_map, List.length_map], fun i x y hx hy => ?_⟩ ?_ ?_
    · rw [eo] at qq
      refine wpAny_pure ⟨_, rfl, .ref h'.objs.size, upd H h'.objs.size (.lst (out.map backV)), I1.laid (t' := tk) (fun b u e => ?_) (Nat.le_refl _)
        (show ObjOk X.prog X.w _ _ _ (.lst (out.map backV)) from ⟨hlen, out, e', vals_back (fun u hu => by obtain ⟨b, _, _, e, _⟩ := h3 u hu; exact ⟨b, e⟩), he'⟩), rfl, qq⟩
      have hb : b < h'.objs.size := Heap.lt_size e
      rw [PyProof.Rows.sortedHeap_old (Nat.ne_of_lt hb) (by rw [size_push']; exact Nat.lt_succ_of_lt hb)]
      exact Heap.get?_push_of_some _ e
    · rw [List.getElem?_map] at hx hy
      cases ho : out[i]? with
      | none => rw [ho] at hx; cases hx
      | some u =>
        rw [ho] at hx hy
        obtain ⟨b, m, n, rfl, e⟩ := h3 u (List.mem_of_getElem? ho)
        have hx : b = x := Option.some.inj hx
        have hy : pairOf H (.ref b) = y := Option.some.inj hy
        rw [pairOf_at e] at hy
        subst hx hy
        exact e
    · have p1 := sb.perm.map (fun u => pairOf H (backV u))
      rw [ea, List.map_map] at p1
      rw [← k1]
      exact p1
    · exact List.pairwise_map.mpr so
end

/-! ### x in o, o[i], o[i] = v, len(o) of an own class; a call of a local that holds a def -/
section
open PySem.Spec PyProof.Rows
variable {X : Cx} {CX : CXT} {k : Nat} {f C : Addr} {fd : FuncData} {ps : List Str} {sp : Sp} {E : L2.St → XK} {a b o i value : Expr} {ta tb td ty tv : TE} {pos pos' : Pos}
/-- the class's special method nm stands at f -/
structure OwnM (K : PySem.W.Frag) (C f : Addr) (nm : Str) : Prop where
  hs : PySem.W.findIn K (.ref C) nm = some (some (.ref f))
  hf : PySem.W.isFn K (.ref f) = true
theorem passAll {E : XK} (h : Passes CX X E) : ∀ σ : L2.St, PassesAt CX X σ ((fun _ => E) σ) := fun σ pins H s e s' I c => h pins σ H s e s' I c
theorem run_fn1S {pins : List (Addr × Obj)} {σ : L2.St} {H : Hp} {s : Shared} {Q : VK} {us : List Value} {vs : List V} (F : FnOk X.prog X.w X.K X.mg X.base CX k f fd ps sp) (hr : Room (k + 1) X.A) (hb : Binds X.K fd ps []) (hx : PassesAt CX X σ (E σ))
    (I : Inv X pins σ H s) (rv : Vals vs us) (h : sp vs H Q (E σ)) : wpAny (model X.prog X.w) X.A.in1 (call (.ref f) us) (EP X pins σ Q) X.xe s := by
  have hl : us.length = ps.length := by rw [← rv.length]; exact F.len _ _ _ _ h
  have b := hb s us I.kIn (by rw [List.append_nil]; exact hl)
  rw [List.append_nil] at b
  refine wpAny_call (codeAny_mono (F.run X.A.in1 X.stack s H ⟨us, []⟩ us vs Q (E σ) hr.in1 I.env0.in1 b rv h) fun o s' z => ?_)
  cases o with
  | error e => exact hx pins H s e s' I z
  | ok fl =>
    cases fl with
    | ret u => exact I.after z
    | next => exact z.elim
    | brk => exact z.elim
    | cont => exact z.elim
/-- x in o -/
def rOwnIn (C : Addr) (sp : Sp) (E : XK) : R2 := fun x y H Q => Wd (∃ p dx fs, y = .ref p ∧ H p = some (.ins C dx fs) ∧ sp [y, x] H (fun v H' => ∃ c, v = .bl c ∧ Q (.bl c) H') E)
theorem op_ownIn {E : XK} (O : OwnM X.K C f "__contains__") (F : FnOk X.prog X.w X.K X.mg X.base CX k f fd ps sp) (hr : Room k X.A) (hb : Binds X.K fd ps []) (hx : Passes CX X E) : OpR X (compareOp .In) (rOwnIn C sp E) := by
  intro pins s σ H x y v u Q I rx ry h
  obtain ⟨p, dx, fs, rfl, hp, h⟩ := h.ok
  obtain rfl : u = Value.ref p := ry
  obtain ⟨mA, O1, _⟩ := ins_get I.hok hp
  obtain ⟨od, J, _⟩ := O1.look
  obtain ⟨m, fr⟩ := I.fr
  refine PySem.W.in_K fr I.mod.kin J O.hs O.hf (thn (run_fn (us := [.ref p, v]) (vs := [.ref p, x]) F hr hb .nil hx I (.cons rfl (.cons rx .nil)) h) fun r s' z => ?_)
  obtain ⟨y, H', J', ry, c, rfl, q⟩ := z
  cases ry
  exact wpAny_truthy_bool ⟨.bl c, H', J', rfl, q⟩
/-- len(o) -/
def rOwnLen (C : Addr) (sp : Sp) (E : XK) : List V → Hp → VK → Prop := fun xs H Q => Wd (∃ p dx fs, xs = [.ref p] ∧ H p = some (.ins C dx fs) ∧ sp [.ref p] H (fun v H' => ∃ n : Int, v = .int n ∧ 0 ≤ n ∧ n < 2 ^ 63 ∧ Q (.int n) H') E)
theorem call_ownLen {E : XK} (O : OwnM X.K C f "__len__") (F : FnOk X.prog X.w X.K X.mg X.base CX k f fd ps sp) (hr : Room (k + 1) X.A) (hb : Binds X.K fd ps []) (hx : Passes CX X E) : CallR X (.builtin "len") (rOwnLen C sp E) := by
  intro pins s σ H xs us Q I r h
  obtain ⟨p, dx, fs, rfl, hp, h⟩ := h.ok
  rw [Vals.ref1 r]
  obtain ⟨mA, O1, _⟩ := ins_get I.hok hp
  obtain ⟨od, J, _⟩ := O1.look
  obtain ⟨m, fr⟩ := I.fr
  refine PySem.W.len_K fr I.mod.kin J O.hs O.hf (thn (run_fn1 (us := [.ref p]) (vs := [.ref p]) F hr hb hx I (.cons rfl .nil) h) fun r s' z => ?_)
  obtain ⟨y, H', J', ry, n, rfl, h0, h1, q⟩ := z
  obtain ⟨t, rfl⟩ := ry
  exact ⟨⟨h0, h1⟩, .int n, H', J'.tok _, ⟨_, rfl⟩, q⟩
/-- o[i] -/
def tOwnIx (C : Addr) (sp : Sp) (E : L2.St → XK) (ta tb : TE) : TE := fun σ H Q => ta σ H fun x H1 => tb σ H1 fun y H2 => ∃ p dx fs, x = .ref p ∧ H2 p = some (.ins C dx fs) ∧ sp [x, y] H2 Q (E σ)
theorem pe_ownIx (O : OwnM X.K C f "__getitem__") (hfn : PySem.W.fnIn X.K f = true) (F : FnOk X.prog X.w X.K X.mg X.base CX k f fd ps sp) (hr : Room (k + 1) X.A) (hb : Binds X.K fd ps []) (hx : ∀ σ, PassesAt CX X σ (E σ)) (ha : PE X a ta) (hi : PE X b tb)
    (hsl : ∀ x i, subscripted b true (.ref x) i = runValue (.builtin "lifetime.subscript" ⟨[.ref x, i], []⟩) := by intro _ _; with_unfolding_all rfl) : PE X (.Subscript a b pos) (tOwnIx C sp E ta tb) := by
  refine ⟨fun pins s σ H Q I h => ?_⟩
  refine Subscript_ (binT ha hi I h fun v u s2 x y H2 I2 rx ry q => ?_)
  obtain ⟨p, dx, fs, rfl, hp, q⟩ := q
  obtain rfl : v = Value.ref p := rx
  obtain ⟨mA, O1, _⟩ := ins_get I2.hok hp
  obtain ⟨od, J, _⟩ := O1.look
  obtain ⟨m, fr⟩ := I2.fr
  exact PySem.W.sub_K fr I2.mod.kin J O.hs hfn O.hf (run_fn1S (us := [.ref p, u]) (vs := [.ref p, y]) F hr hb (hx σ) I2 (.cons rfl (.cons ry .nil)) q) (hsl _ _)
/-- o[i] = v -/
def sOwnSet (C : Addr) (sp : Sp) (E : L2.St → XK) (td ty tv : TE) : TS := fun D σ H => tv σ H fun v H1 => td σ H1 fun x H2 => ty σ H2 fun y H3 => ∃ p dx fs, x = .ref p ∧ H3 p = some (.ins C dx fs) ∧ sp [x, y, v] H3 (fun _ H4 => D.nx σ H4) (E σ)
theorem ps_ownSet (O : OwnM X.K C f "__setitem__") (hq : PySem.W.noSeq X.K C = true) (F : FnOk X.prog X.w X.K X.mg X.base CX k f fd ps sp) (hr : Room k X.A) (hb : Binds X.K fd ps []) (hx : ∀ σ, PassesAt CX X σ (E σ)) (ho : PE X o td) (hi : PE X i ty) (hv : PE X value tv)
    (hs : swapsWith value (some (.Subscript o i pos')) pos.line X.env = pure false) : PS X (.Assign [.Subscript o i pos'] value pos) (sOwnSet C sp E td ty tv) := by
  refine ⟨fun pins s σ H D I h => ?_⟩
  refine wpAny_Assign_Subscript (thn (hv.run pins s σ H _ I h) fun r s1 ⟨v, H1, I1, rv, q1⟩ => thn (ho.run pins s1 σ H1 _ I1 q1) fun u s2 ⟨x, H2, I2, rx, q2⟩ => thn (hi.run pins s2 σ H2 _ I2 q2) fun iv s3 ⟨y, H3, I3, ry, p, dx, fs, ex, hp, q3⟩ => ?_) hs
  subst ex
  obtain rfl : u = Value.ref p := rx
  obtain ⟨mA, O1, _⟩ := ins_get I3.hok hp
  obtain ⟨od, J, _⟩ := O1.look
  obtain ⟨m, fr⟩ := I3.fr
  refine PySem.W.ksp_setItem fr I3.mod.kin J hq O.hs O.hf (thn (run_fnS (E := E) (us := [.ref p, iv, r]) (vs := [.ref p, y, v]) F hr hb (hx σ) I3 (.cons rfl (.cons ry (.cons rv .nil))) q3) fun _ s4 z => ?_)
  obtain ⟨_, H4, I4, _, q4⟩ := z
  exact ⟨σ, H4, I4, q4⟩
end
section
open PySem.Spec PyProof.Rows
variable {X : Cx} {CX : CXT} {k1 k2 i : Nat} {f1 f2 : Addr} {fd1 fd2 : FuncData} {ps1 ps2 : List Str} {sp : Sp} {E : L2.St → XK} {x : Str} {p pos : Pos} {e : Expr} {es : List Expr} {t : TA}
/-- f(e, ..), f a local that holds one of two defs with one promise -/
def tCall2S (i : Nat) (f1 f2 : Addr) (sp : Sp) (E : L2.St → XK) (t : TA) : TE := fun σ H Q => (σ[i]? = some (some (.ref f1)) ∨ σ[i]? = some (some (.ref f2))) ∧ t σ H fun vs H1 => sp vs H1 Q (E σ)
theorem pe_call2S (F1 : FnOk X.prog X.w X.K X.mg X.base CX k1 f1 fd1 ps1 sp) (F2 : FnOk X.prog X.w X.K X.mg X.base CX k2 f2 fd2 ps2 sp) (hr1 : Room k1 X.A) (hr2 : Room k2 X.A) (hN : X.N[i]? = some x) (hv : Vis X.env.scope x) (hk1 : PySem.W.keepIn X.K (.ref f1) = true) (hk2 : PySem.W.keepIn X.K (.ref f2) = true)
    (hb1 : Binds X.K fd1 ps1 []) (hb2 : Binds X.K fd2 ps2 []) (hx : ∀ σ, PassesAt CX X σ (E σ)) (ha : PA X (e :: es) t) (hdb : (x == ("__debug__" : Str)) = false := by decide) (hcd : (x == ("__classdict__" : Str)) = false := by decide)
    (he : starEach (e :: es) X.env = (false, eval e X.env) :: starEach es X.env := by rfl) (hpl : (backTo pos (starEach es X.env)).any (·.1) = false := by rfl) : PE X (.Call (.Name x p) (e :: es) [] pos) (tCall2S i f1 f2 sp E t) := by
  refine ⟨fun pins s σ H Q I h => ?_⟩
  obtain ⟨hs, ht⟩ := h
  rcases hs with hs | hs
  · refine wpAny_Call_Name_kw (thn ((pe_var (pos := p) hN hv hdb hcd).run pins s σ H (fun v H1 => v = .ref f1 ∧ H1 = H) I ⟨.ref f1, hs, rfl, rfl⟩) fun u s1 ⟨v, H1, I1, r1, q1⟩ => ?_)
    obtain ⟨rfl, rfl⟩ := q1
    cases r1
    exact PySem.W.callWith_K (h₀ := X.base) I.ok.mod.kin hk1 (thn (ha.run pos pins s1 σ _ _ I1 ht) fun us s2 ⟨vs, H2, I2, r, q⟩ => ⟨I2.kIn, run_fnS F1 hr1 hb1 (hx σ) I2 r q⟩) he hpl
  · refine wpAny_Call_Name_kw (thn ((pe_var (pos := p) hN hv hdb hcd).run pins s σ H (fun v H1 => v = .ref f2 ∧ H1 = H) I ⟨.ref f2, hs, rfl, rfl⟩) fun u s1 ⟨v, H1, I1, r1, q1⟩ => ?_)
    obtain ⟨rfl, rfl⟩ := q1
    cases r1
    exact PySem.W.callWith_K (h₀ := X.base) I.ok.mod.kin hk2 (thn (ha.run pos pins s1 σ _ _ I1 ht) fun us s2 ⟨vs, H2, I2, r, q⟩ => ⟨I2.kIn, run_fnS F2 hr2 hb2 (hx σ) I2 r q⟩) he hpl
end

/-! ### xs == [], xs != [] -/
section
open PySem.Spec PyProof.Rows
variable {X : Cx}
def rNil (K : PySem.W.Frag) (neg : Bool) : R2 := fun x y H Q => Wd (∃ (a b : Addr) (xs : List V), x = .ref a ∧ y = .ref b ∧ SqL K H a xs ∧ SqL K H b [] ∧ Q (.bl (if neg then !xs.isEmpty else xs.isEmpty)) H)
theorem nil_sizes {xs : List V} {us ws : List Value} (r1 : Vals xs us) (r2 : Vals [] ws) : us.toArray.size = xs.length ∧ ws.toArray.size = 0 := by
  cases r2
  exact ⟨by rw [List.size_toArray, r1.length], rfl⟩
theorem op_eqNil (hu : X.A.units + 64 < cLine) : OpR X (compareOp .Eq) (rNil X.K false) := by
  intro pins s σ H x y v u Q I rx ry h
  obtain ⟨a, b, xs, rfl, rfl, ha, hb, q⟩ := h.ok
  cases rx
  cases ry
  obtain ⟨us, r1, p1, _⟩ := I.list ha
  obtain ⟨ws, r2, p2, _⟩ := I.list hb
  obtain ⟨e1, e2⟩ := nil_sizes r1 r2
  cases xs with
  | nil =>
    have k := SeqAt.RcAt.lists (A := X.A) (e := fun _ => true) p1.isList p2.isList (by rw [e1, e2]; rfl) (by omega) (fun j h1 h2 => by omega)
    refine k X.prog X.w _ _ ?_
    rw [show ((List.range us.toArray.size).all fun _ => true) = true from List.all_eq_true.mpr fun _ _ => rfl]
    exact ⟨.bl true, H, I, rfl, q⟩
  | cons z zs =>
    have k := SeqAt.RcAt.lists_lengths (A := X.A) p1.isList p2.isList (by rw [e1, e2]; rfl) (by omega)
    exact k X.prog X.w _ _ ⟨.bl false, H, I, rfl, q⟩
theorem op_neNil (hu : X.A.units + 64 < cLine) : OpR X (compareOp .NotEq) (rNil X.K true) := by
  intro pins s σ H x y v u Q I rx ry h
  obtain ⟨a, b, xs, rfl, rfl, ha, hb, q⟩ := h.ok
  cases rx
  cases ry
  obtain ⟨us, r1, p1, _⟩ := I.list ha
  obtain ⟨ws, r2, p2, _⟩ := I.list hb
  obtain ⟨e1, e2⟩ := nil_sizes r1 r2
  cases xs with
  | nil =>
    have k := SeqAt.RcNeAt.lists (A := X.A) (e := fun _ => true) p1.isList p2.isList (by rw [e1, e2]; rfl) (by omega) (fun j h1 h2 => by omega)
    refine k X.prog X.w _ _ ?_
    rw [show ((List.range us.toArray.size).all fun _ => true) = true from List.all_eq_true.mpr fun _ _ => rfl]
    exact ⟨.bl false, H, I, rfl, q⟩
  | cons z zs =>
    have k := SeqAt.RcNeAt.lists_lengths (A := X.A) p1.isList p2.isList (by rw [e1, e2]; rfl) (by omega)
    exact k X.prog X.w _ _ ⟨.bl true, H, I, rfl, q⟩
end

/-! ### the hashes of two pairs of small numbers differ: plain law -/
namespace TH
def m : Nat := 2 ^ 64
def P1 : Nat := 11400714785074694791
def P2 : Nat := 14029467366897019727
def P5 : Nat := 2870177450012600261
def i1 : Nat := 614540362697595703
def i2 : Nat := 839798700976720815
def rot (x : Nat) : Nat := (x * 2 ^ 31) % 2 ^ 64 + x / 2 ^ 33
def unrot (y : Nat) : Nat := (y * 2 ^ 33) % 2 ^ 64 + y / 2 ^ 31
theorem rot_eq {a b : Nat} (hb : b < 2 ^ 33) : rot (2 ^ 33 * a + b) = 2 ^ 31 * b + a := by
  unfold rot
  have h1 : (2 ^ 33 * a + b) * 2 ^ 31 % 2 ^ 64 = 2 ^ 31 * b := by omega
  have h2 : (2 ^ 33 * a + b) / 2 ^ 33 = a := by omega
  rw [h1, h2]
theorem split33 {x : Nat} (h : x < 2 ^ 64) : ∃ a b : Nat, x = 2 ^ 33 * a + b ∧ b < 2 ^ 33 ∧ a < 2 ^ 31 := ⟨x / 2 ^ 33, x % 2 ^ 33, by omega, by omega, by omega⟩
theorem rot_lt {x : Nat} (h : x < 2 ^ 64) : rot x < 2 ^ 64 := by
  obtain ⟨a, b, rfl, hb, ha⟩ := split33 h
  rw [rot_eq hb]
  omega
theorem unrot_rot {x : Nat} (h : x < 2 ^ 64) : unrot (rot x) = x := by
  obtain ⟨a, b, rfl, hb, ha⟩ := split33 h
  rw [rot_eq hb]
  unfold unrot
  have h1 : (2 ^ 31 * b + a) * 2 ^ 33 % 2 ^ 64 = 2 ^ 33 * a := by omega
  have h2 : (2 ^ 31 * b + a) / 2 ^ 31 = b := by omega
  rw [h1, h2]
theorem rot_add {x y d : Nat} (hx : x < 2 ^ 64) (hy : y < 2 ^ 64) (hd : d < 2 ^ 64) (e : x = (y + d) % 2 ^ 64) :
    ∃ c c2 : Nat, c ≤ 1 ∧ c2 ≤ 1 ∧ (rot x + c2 * 2 ^ 31) % 2 ^ 64 = (rot y + rot d + c) % 2 ^ 64 := by
  obtain ⟨ya, yb, rfl, hyb, hya⟩ := split33 hy
  obtain ⟨da, db, rfl, hdb, hda⟩ := split33 hd
  obtain ⟨xa, xb, rfl, hxb, hxa⟩ := split33 hx
  rw [rot_eq hyb, rot_eq hdb, rot_eq hxb]
  obtain ⟨q, hq⟩ : ∃ q, 2 ^ 33 * ya + yb + (2 ^ 33 * da + db) = 2 ^ 64 * q + (2 ^ 33 * xa + xb) := ⟨(2 ^ 33 * ya + yb + (2 ^ 33 * da + db)) / 2 ^ 64, by omega⟩
  clear e hx hy hd
  have q1 : q ≤ 1 := by omega
  by_cases c : yb + db < 2 ^ 33
  · refine ⟨0, q, by omega, q1, ?_⟩
    have e1 : xb = yb + db := by omega
    have e2 : ya + da = 2 ^ 31 * q + xa := by omega
    rw [e1]
    have : 2 ^ 31 * (yb + db) + xa + q * 2 ^ 31 = 2 ^ 31 * yb + ya + (2 ^ 31 * db + da) + 0 := by omega
    rw [this]
  · refine ⟨1, q, by omega, q1, ?_⟩
    have e1 : xb + 2 ^ 33 = yb + db := by omega
    have e2 : ya + da + 1 = 2 ^ 31 * q + xa := by omega
    have : 2 ^ 31 * xb + xa + q * 2 ^ 31 + 2 ^ 64 = 2 ^ 31 * yb + ya + (2 ^ 31 * db + da) + 1 := by omega
    rw [← this, Nat.add_mod_right]
def lane (acc h : Nat) : Nat := rot ((acc + h * P2) % 2 ^ 64) * P1 % 2 ^ 64
/-- what a step of d makes of the first lane -/
def zed (D c c2 : Nat) : Nat := (rot D + c + (2 ^ 64 - c2 * 2 ^ 31)) * P1 % 2 ^ 64
theorem lane_lt (acc h : Nat) : lane acc h < 2 ^ 64 := Nat.mod_lt _ (by decide)
theorem step1 {rx rx' rD c c2 : Nat} (hc2 : c2 ≤ 1) (h : (rx + c2 * 2 ^ 31) % 2 ^ 64 = (rx' + rD + c) % 2 ^ 64) :
    (rx * P1 % 2 ^ 64) % 2 ^ 64 = (rx' * P1 % 2 ^ 64 + (rD + c + (2 ^ 64 - c2 * 2 ^ 31)) * P1 % 2 ^ 64) % 2 ^ 64 := by
  unfold P1
  have h1 : (rx + 2 ^ 64) % 2 ^ 64 = (rx' + (rD + c + (2 ^ 64 - c2 * 2 ^ 31))) % 2 ^ 64 := by omega
  generalize rD + c + (2 ^ 64 - c2 * 2 ^ 31) = t at *
  omega
/-- the second lanes: how they differ -/
theorem lanes {d n n' e : Nat} : ∃ c c2 : Nat, c ≤ 1 ∧ c2 ≤ 1 ∧
    ((lane P5 (d + e) + n * P2) % 2 ^ 64 + n' * P2) % 2 ^ 64 = ((lane P5 d + n' * P2) % 2 ^ 64 + zed (e * P2 % 2 ^ 64) c c2 + n * P2) % 2 ^ 64 := by
  have hx : ((P5 + (d + e) * P2) % 2 ^ 64) = ((P5 + d * P2) % 2 ^ 64 + e * P2 % 2 ^ 64) % 2 ^ 64 := by
    rw [Nat.add_mul, ← Nat.add_assoc]
    exact Nat.add_mod _ _ _
  obtain ⟨c, c2, h1, h2, hr⟩ := rot_add (Nat.mod_lt _ (by decide)) (Nat.mod_lt _ (by decide)) (Nat.mod_lt _ (by decide)) hx
  refine ⟨c, c2, h1, h2, ?_⟩
  have s1 := step1 h2 hr
  unfold lane zed
  generalize rot ((P5 + (d + e) * P2) % 2 ^ 64) * P1 % 2 ^ 64 = a at *
  generalize rot ((P5 + d * P2) % 2 ^ 64) * P1 % 2 ^ 64 = a' at *
  generalize (rot (e * P2 % 2 ^ 64) + c + (2 ^ 64 - c2 * 2 ^ 31)) * P1 % 2 ^ 64 = z at *
  unfold P2
  clear hx hr
  omega
def CC : Nat := 2870177450013471924
def GG : Nat := 1546275797
def fin (acc : Nat) : Int := if (acc + CC) % 2 ^ 64 = 2 ^ 64 - 1 then 1546275796 else if (acc + CC) % 2 ^ 64 < 2 ^ 63 then (((acc + CC) % 2 ^ 64 : Nat) : Int) else (((acc + CC) % 2 ^ 64 : Nat) : Int) - 2 ^ 64
theorem fin_eq {a b : Nat} (ha : a < 2 ^ 64) (hb : b < 2 ^ 64) (h : fin a = fin b) : (a + 0) % 2 ^ 64 = b ∨ (a + GG) % 2 ^ 64 = b ∨ (b + GG) % 2 ^ 64 = a := by
  unfold fin CC at h
  unfold GG
  split at h <;> (try split at h) <;> (try split at h) <;> (try split at h) <;> omega
theorem unlane {ru ru' g : Nat} (h : (ru * P1 % 2 ^ 64 + g) % 2 ^ 64 = ru' * P1 % 2 ^ 64) : (ru + g * i1) % 2 ^ 64 = ru' % 2 ^ 64 := by
  unfold P1 at h
  unfold i1
  omega
/-- what the rotation of the difference is -/
def up (c c2 : Nat) : Nat := (c2 * 2 ^ 31 + (2 ^ 64 - c) + GG * i1) % 2 ^ 64
def dn (c c2 : Nat) : Nat := (c2 * 2 ^ 31 + (2 ^ 64 - c) + (2 ^ 64 - GG * i1 % 2 ^ 64)) % 2 ^ 64
def diffs : List Nat := [0, unrot (up 0 0), unrot (up 0 1), unrot (up 1 0), unrot (up 1 1), unrot (dn 0 0), unrot (dn 0 1), unrot (dn 1 0), unrot (dn 1 1)]
theorem du_in {u u' : Nat} (hu : u < 2 ^ 64) (hu' : u' < 2 ^ 64) (h : fin (rot u * P1 % 2 ^ 64) = fin (rot u' * P1 % 2 ^ 64)) : (u + (2 ^ 64 - u')) % 2 ^ 64 ∈ diffs := by
  have r1 := rot_lt hu
  have r2 := rot_lt hu'
  have hD : (u + (2 ^ 64 - u')) % 2 ^ 64 < 2 ^ 64 := Nat.mod_lt _ (by decide)
  obtain ⟨c, c2, h1, h2, hr⟩ := rot_add hu hu' hD (by omega)
  have r3 := rot_lt hD
  rcases fin_eq (Nat.mod_lt _ (by decide)) (Nat.mod_lt _ (by decide)) h with e | e | e
  · have e := unlane e
    have : rot u = rot u' := by omega
    have := congrArg unrot this
    rw [unrot_rot hu, unrot_rot hu'] at this
    subst this
    have : (u + (2 ^ 64 - u)) % 2 ^ 64 = 0 := by omega
    rw [this]
    exact List.mem_cons_self
  · have e := unlane e
    have k : rot ((u + (2 ^ 64 - u')) % 2 ^ 64) = dn c c2 := by
      unfold dn
      generalize GG * i1 = g at *
      omega
    rw [← unrot_rot hD, k]
    have hc : c = 0 ∨ c = 1 := by omega
    have hc2 : c2 = 0 ∨ c2 = 1 := by omega
    unfold diffs
    rcases hc with rfl | rfl <;> rcases hc2 with rfl | rfl <;> simp
  · have e := unlane e
    have k : rot ((u + (2 ^ 64 - u')) % 2 ^ 64) = up c c2 := by
      unfold up
      generalize GG * i1 = g at *
      omega
    rw [← unrot_rot hD, k]
    have hc : c = 0 ∨ c = 1 := by omega
    have hc2 : c2 = 0 ∨ c2 = 1 := by omega
    unfold diffs
    rcases hc with rfl | rfl <;> rcases hc2 with rfl | rfl <;> simp
def yv (F Z : Nat) : Nat := (F + (2 ^ 64 - Z)) % 2 ^ 64 * i2 % 2 ^ 64
def far (y : Nat) : Bool := decide (1000000 < y) && decide (y + 1000000 < 2 ^ 64)
def chk1 (e c c2 : Nat) : Bool := diffs.all fun F => far (yv F (zed (e * P2 % 2 ^ 64) c c2))
theorem chk_all : ((List.range 1000).all fun i => chk1 (i + 1) 0 0 && chk1 (i + 1) 0 1 && chk1 (i + 1) 1 0 && chk1 (i + 1) 1 1) = true := by decide +kernel
theorem chk_0 : (diffs.tail.all fun F => far (yv F 0)) = true := by decide +kernel
theorem yv_eq {F Z n n' : Nat} (hZ : Z < 2 ^ 64) (h : (F + n' * P2) % 2 ^ 64 = (Z + n * P2) % 2 ^ 64) : (yv F Z + n') % 2 ^ 64 = n % 2 ^ 64 := by
  have h1 : ((F + (2 ^ 64 - Z)) % 2 ^ 64 + n' * P2) % 2 ^ 64 = (n * P2) % 2 ^ 64 := by
    unfold P2 at *
    omega
  unfold yv
  generalize (F + (2 ^ 64 - Z)) % 2 ^ 64 = x at *
  unfold P2 at h1
  unfold i2
  omega
theorem far_no {F Z n n' : Nat} (hZ : Z < 2 ^ 64) (h : (F + n' * P2) % 2 ^ 64 = (Z + n * P2) % 2 ^ 64) (hn : n ≤ 1000000) (hn' : n' ≤ 1000000) : far (yv F Z) = false := by
  have e := yv_eq hZ h
  have hy : yv F Z < 2 ^ 64 := Nat.mod_lt _ (by decide)
  cases c : far (yv F Z) with
  | false => rfl
  | true =>
    unfold far at c
    rw [Bool.and_eq_true, decide_eq_true_iff, decide_eq_true_iff] at c
    omega
theorem chk_at {e c c2 : Nat} (h1 : 1 ≤ e) (h2 : e ≤ 1000) (hc : c ≤ 1) (hc2 : c2 ≤ 1) : chk1 e c c2 = true := by
  have h := List.all_eq_true.mp chk_all (e - 1) (List.mem_range.mpr (by omega))
  rw [show e - 1 + 1 = e by omega] at h
  simp only [Bool.and_eq_true] at h
  have hc : c = 0 ∨ c = 1 := by omega
  have hc2 : c2 = 0 ∨ c2 = 1 := by omega
  rcases hc with rfl | rfl <;> rcases hc2 with rfl | rfl
  · exact h.1.1.1
  · exact h.1.1.2
  · exact h.1.2
  · exact h.2
/-- the hash of the pair (d, n) -/
def hash2 (d n : Nat) : Int := fin (lane (lane P5 d) n)
theorem hash2_up {d e n n' : Nat} (he : e ≤ 1000) (hn : n ≤ 1000000) (hn' : n' ≤ 1000000) (h : hash2 (d + e) n = hash2 d n') : e = 0 ∧ n = n' := by
  unfold hash2 at h
  have hu : (lane P5 (d + e) + n * P2) % 2 ^ 64 < 2 ^ 64 := Nat.mod_lt _ (by decide)
  have hu' : (lane P5 d + n' * P2) % 2 ^ 64 < 2 ^ 64 := Nat.mod_lt _ (by decide)
  have hF := du_in hu hu' h
  have hu2 : (lane P5 (d + e) + n * P2) % 2 ^ 64 % 2 ^ 64 = (lane P5 (d + e) + n * P2) % 2 ^ 64 := Nat.mod_mod _ _
  by_cases c0 : e = 0
  · subst c0
    refine ⟨rfl, ?_⟩
    rw [Nat.add_zero] at *
    have cong : ((((lane P5 d + n * P2) % 2 ^ 64) + (2 ^ 64 - (lane P5 d + n' * P2) % 2 ^ 64)) % 2 ^ 64 + n' * P2) % 2 ^ 64 = (0 + n * P2) % 2 ^ 64 := by
      generalize lane P5 d = a at *
      unfold P2
      clear h hF hu2 hu hu'
      omega
    generalize (((lane P5 d + n * P2) % 2 ^ 64) + (2 ^ 64 - (lane P5 d + n' * P2) % 2 ^ 64)) % 2 ^ 64 = F at *
    rcases List.mem_cons.mp (show F ∈ 0 :: diffs.tail from hF) with rfl | hF
    · have e := yv_eq (by decide) cong
      have y0 : yv 0 0 = 0 := by decide +kernel
      rw [y0] at e
      omega
    · have f := far_no (by decide) cong hn hn'
      have g := List.all_eq_true.mp chk_0 F hF
      rw [f] at g
      cases g
  · obtain ⟨c, c2, h1, h2, hl⟩ := lanes (d := d) (n := n) (n' := n') (e := e)
    have hz : zed (e * P2 % 2 ^ 64) c c2 < 2 ^ 64 := Nat.mod_lt _ (by decide)
    have cong : ((((lane P5 (d + e) + n * P2) % 2 ^ 64) + (2 ^ 64 - (lane P5 d + n' * P2) % 2 ^ 64)) % 2 ^ 64 + n' * P2) % 2 ^ 64 = (zed (e * P2 % 2 ^ 64) c c2 + n * P2) % 2 ^ 64 := by
      clear h hF hu2
      generalize (lane P5 (d + e) + n * P2) % 2 ^ 64 = u at *
      generalize (lane P5 d + n' * P2) % 2 ^ 64 = u' at *
      generalize zed (e * P2 % 2 ^ 64) c c2 = z at *
      unfold P2 at *
      omega
    have f := far_no hz cong hn hn'
    have g := List.all_eq_true.mp (chk_at (by omega) he h1 h2) _ hF
    rw [f] at g
    cases g
theorem hash2_inj {d d' n n' : Nat} (h1 : d ≤ d' + 1000) (h2 : d' ≤ d + 1000) (hn : n ≤ 1000000) (hn' : n' ≤ 1000000) (h : hash2 d n = hash2 d' n') : d = d' ∧ n = n' := by
  by_cases c : d' ≤ d
  · obtain ⟨e, rfl⟩ := Nat.exists_eq_add_of_le c
    obtain ⟨a, b⟩ := hash2_up (by omega) hn hn' h
    exact ⟨by omega, b⟩
  · obtain ⟨e, rfl⟩ := Nat.exists_eq_add_of_le (show d ≤ d' by omega)
    obtain ⟨a, b⟩ := hash2_up (by omega) hn' hn h.symm
    exact ⟨by omega, b.symm⟩
end TH

/-! ### dict(d), d with pairs as keys -/
section
open PySem PySem.Spec PyProof.Rows
theorem hash_small {d : Int} (h0 : 0 ≤ d) (h1 : d < 2 ^ 60) : hashInt d = d := by
  have e : rawHash d = d := by
    unfold rawHash
    have h2 : ((d.natAbs : Nat) : Int) = d := by omega
    have h3 : d % ((2 ^ 61 - 1 : Nat) : Int) = d := Int.emod_eq_of_lt h0 (by omega)
    have h4 : (d == -1) = false := by simp; omega
    simp only [h2, h3, show ¬ d < 0 by omega, if_false, h4, Bool.false_eq_true]
  unfold hashInt
  rw [e]
  have : (d == -1) = false := by simp; omega
  rw [this]
  rfl
theorem hc_two : (2 ^^^ (2870177450012600261 ^^^ 3527539) : Nat) = TH.CC := by decide +kernel
def thTail (acc : Nat) : Int := if acc == 2 ^ 64 - 1 then 1546275796 else if acc < 2 ^ 63 then acc else (acc : Int) - ((2 ^ 64 : Nat) : Int)
def thStep (acc : Nat) (h : Int) : Nat :=
  let acc := (acc + (h % ((2 ^ 64 : Nat) : Int)).toNat * 14029467366897019727) % 2 ^ 64
  let acc := (acc * 2 ^ 31) % 2 ^ 64 + acc / 2 ^ 33
  (acc * 11400714785074694791) % 2 ^ 64
theorem th_gen (hs : List Int) : Builtin.Tuple.tupleHashOf hs = thTail ((hs.foldl thStep 2870177450012600261 + (hs.length ^^^ (2870177450012600261 ^^^ 3527539))) % 2 ^ 64) := by
  unfold Builtin.Tuple.tupleHashOf thTail
  have e : thStep = fun acc h => (let m : Nat := 2 ^ 64
    let acc := (acc + (h % (m : Int)).toNat * 14029467366897019727) % m
    let acc := (acc * 2 ^ 31) % m + acc / 2 ^ 33
    (acc * 11400714785074694791) % m) := by
    funext acc h
    unfold thStep
    rfl
  rw [e]
theorem th_step (acc : Nat) (h : Int) : thStep acc h = TH.lane acc (h % ((2 ^ 64 : Nat) : Int)).toNat := by
  unfold thStep TH.lane TH.rot TH.P1 TH.P2
  generalize (h % ((2 ^ 64 : Nat) : Int)).toNat = x
  generalize (acc + x * 14029467366897019727) % 2 ^ 64 = y
  rfl
theorem th_tail (acc : Nat) : thTail ((acc + TH.CC) % 2 ^ 64) = TH.fin acc := by
  unfold thTail TH.fin
  generalize (acc + TH.CC) % 2 ^ 64 = x
  by_cases h : x = 2 ^ 64 - 1
  · rw [if_pos h, if_pos (beq_iff_eq.mpr h)]
  · rw [if_neg h, if_neg fun z => h (beq_iff_eq.mp z)]
    rfl
theorem th2 (a b : Int) : Builtin.Tuple.tupleHashOf [a, b] = TH.fin (TH.lane (TH.lane TH.P5 (a % ((2 ^ 64 : Nat) : Int)).toNat) (b % ((2 ^ 64 : Nat) : Int)).toNat) := by
  have l : ([a, b] : List Int).length = 2 := rfl
  have p5 : (2870177450012600261 : Nat) = TH.P5 := by unfold TH.P5; rfl
  rw [th_gen, List.foldl_cons, List.foldl_cons, List.foldl_nil, l, hc_two, th_tail, th_step, th_step, p5]
theorem reduce_fin (acc : Nat) : reduceHash (TH.fin acc) = TH.fin acc := by
  have h1 : -(2 ^ 63 : Int) ≤ TH.fin acc ∧ TH.fin acc < 2 ^ 63 ∧ TH.fin acc ≠ -1 := by
    unfold TH.fin
    have hx : (acc + TH.CC) % 2 ^ 64 < 2 ^ 64 := Nat.mod_lt _ (by decide)
    generalize (acc + TH.CC) % 2 ^ 64 = x at *
    split
    · decide
    · split <;> omega
  generalize TH.fin acc = i at *
  unfold reduceHash
  have c1 : (decide (-(2 ^ 63 : Int) ≤ i) && decide (i < 2 ^ 63)) = true := by
    rw [decide_eq_true h1.1, decide_eq_true h1.2.1]
    rfl
  rw [if_pos c1, if_neg]
  simp
  exact h1.2.2
theorem key_hash {P : Program} {w : World} {d n : Int} (hd0 : 0 ≤ d) (hd1 : d < 2 ^ 60) (hn0 : 0 ≤ n) (hn1 : n < 2 ^ 60) : (tupleKind (mixKind P w)).hash [Sum.inl d, Sum.inl n] = TH.hash2 d.toNat n.toNat := by
  show reduceHash (Builtin.Tuple.tupleHashOf [hashInt d, hashInt n]) = _
  rw [hash_small hd0 hd1, hash_small hn0 hn1, th2, reduce_fin]
  unfold TH.hash2
  have l1 : (d % ((2 ^ 64 : Nat) : Int)).toNat = d.toNat := by omega
  have l2 : (n % ((2 ^ 64 : Nat) : Int)).toNat = n.toNat := by omega
  rw [l1, l2]
end
section
open PySem PySem.Spec PyProof.Rows
section
variable {prog : Program} {w : World} {K : Type} [DecidableEq K] {knd : HeapKind prog w K} {A : Around} {E : Value → Shared → Prop} {s : Shared}
theorem kt_call_dictT (st : knd.Stays) {o : Addr} {more : List (K × Addr × Value)} {Q : Value → Shared → Prop} (hu : knd.room A.in1.in1) (hoS : (o == sysModules) = false) (ho : s.heap.DictOfH knd o more) (hap : (more.map fun x => knd.hash x.1).Nodup) (hsz : more.length ≤ sizeLine)
    (h : ∀ h', h'.DictOfH knd s.heap.objs.size more → Heap.SameBut s.heap.objs.size (s.heap.push { cls := .type "dict", data := .dict #[] }) h' → Q (.ref s.heap.objs.size) { s with heap := h' }) :
    wpAny (model prog w) A (call (.type "dict") [.ref o]) Q E s := by
  refine callType_codes (Q₁ := fun obj s₁ => obj = .ref s.heap.objs.size ∧ s₁ = { s with heap := s.heap.push { cls := .type "dict", data := .dict #[] } }) F.kt_called_dict (F.kt_typeCall_dict_1 _) F.entry_dict_init (kt_code_dict_new _ ⟨rfl, rfl⟩) ?_
  rintro obj s₁ ⟨rfl, rfl⟩
  have hnew : (s.heap.push { cls := .type "dict", data := .dict #[] }).DictOfH knd s.heap.objs.size [] := Heap.DictOfH.new s.heap
  have hty := PySem.keyed_apart st ho
  obtain ⟨oo, es, ep, ho1, hc, hdat, he, his, hn⟩ := id ho
  have hdo : s.heap.objs.size ≠ o := fun e => absurd (Heap.lt_size ho1) (by rw [e]; exact Nat.lt_irrefl _)
  have kp : ∀ b u, s.heap.get? b = some u → (s.heap.push { cls := .type "dict", data := .dict #[] }).get? b = some u := fun b u e => Heap.get?_push_of_some _ e
  have ho' : (s.heap.push { cls := .type "dict", data := .dict #[] }).DictOfH knd o more := ⟨oo, es, ep, kp _ _ ho1, hc, hdat, he, fun x hx => st.stays (fun b o _ _ e _ => kp b o e) (his x hx), hn⟩
  refine ⟨hnew.typeIs, F.args_dict_init_2 _ _, ?_⟩
  unfold Builtin.«dict.__init__»
  refine wpAny_bind ?_
  unfold Builtin.Dict.selfAndRest
  refine wpAny_bind (wpAny_notOrdered_dict hnew.typeIs ?_)
  show wpAny _ _ (pure (s.heap.objs.size, [Value.ref o])) _ _ _
  refine wpAny_pure ?_
  show wpAny _ _ (Builtin.Dict.updateFrom "dict.__init__" s.heap.objs.size (.ref o) [] .none) _ _ _
  unfold Builtin.Dict.updateFrom
  refine wpAny_bind (wpAny_typeOf ho'.typeIs ?_)
  rw [if_neg (by decide)]
  refine wpAny_bind ?_
  unfold Builtin.Dict.merge
  refine wpAny_bind ?_
  unfold Builtin.Dict.readDirectly
  refine wpAny_bind (wpAny_isInstance ho'.typeIs isSubtype_dict_dict ?_)
  simp only [Bool.not_true, Bool.false_eq_true, if_false]
  refine wpAny_bind (wpAny_specialOf ho'.typeIs F.slot_dict_iter.lookup (wpAny_pure ?_))
  simp only [beq_self_eq_true, if_true]
  refine wpAny_bind (wpAny_pure ?_)
  refine wpAny_mergeDict_heap (hsz := by simpa using hsz) hu hdo hoS hnew ho' (.inr ⟨PySem.keyed_apart st ho', hap⟩) fun h' hd' _ hs' => ?_
  show wpAny _ _ (Builtin.Dict.addKeywords s.heap.objs.size [] >>= _) _ _ _
  rw [storedAllH_nil_of_nodup more hn] at hd'
  exact wpAny_bind (wpAny_pure (wpAny_pure ⟨rfl, h h' hd' hs'⟩))
end
/-- the hashes of the keys are apart -/
def HAp (kvs : List (List Key × V)) : Prop := ∀ (P : Program) (w : World), (kvs.map fun p => (tupleKind (mixKind P w)).hash p.1).Nodup
section
variable {X : Cx}
theorem call_dictT (hu : X.A.units + 64 < cLine) : CallR X (.type "dict") (fun xs H Q => ∃ (a : Addr) (kvs : List (List Key × V)), xs = [.ref a] ∧ Rd H a (.dT kvs) ∧ HAp kvs ∧ ∀ p, H p = none → Q (.ref p) (upd H p (.dT kvs))) := by
  intro pins s σ H xs us Q I r q
  obtain ⟨a, kvs, ex, hd, hap, q⟩ := q
  subst ex
  obtain ⟨u, eu, rx⟩ := vals1 r
  subst eu
  cases rx
  obtain ⟨z, lo, ks, rel, dd⟩ := dt_rd I.hok hd
  have el : ks.map (fun x => (tupleKind (mixKind X.prog X.w)).hash x.1) = kvs.map fun p => (tupleKind (mixKind X.prog X.w)).hash p.1 := by
    clear hap q dd z hd
    induction rel with
    | nil => rfl
    | cons h t ih => rw [List.map_cons, List.map_cons, ih, h.1]
  have ln : kvs.length = ks.length := rel.length
  refine kt_call_dictT tupleKind_stays (by show X.A.units + 1 + 1 < cLine; omega) lo dd (by rw [el]; exact hap _ _) (by rw [← ln]; exact z) fun h' d' hs => ?_
  have hm : (s.heap.objs.size == sysModules) = false := beq_eq_false_iff_ne.mpr (Nat.ne_of_gt I.big)
  obtain ⟨o, es, ep, h1, h2, h3, h4, h5, h6⟩ := d'
  have hn : H s.heap.objs.size = none := I.hok.fresh (Nat.le_refl _)
  have rel2 : KT (upd H s.heap.objs.size (.dT kvs)) kvs ks := rel.keeps fun b ys e => by rw [upd_ne (ne_of_none e hn)]; exact e
  exact ⟨.ref s.heap.objs.size, upd H s.heap.objs.size (.dT kvs), I.laid (t' := s.toks) (fun b u e => (hs.2 b (Nat.ne_of_lt (Heap.lt_size e))).trans (Heap.get?_push_of_some _ e)) (Nat.le_refl _)
    (show ObjOk X.prog X.w _ _ _ (.dT kvs) from ⟨z, hm, ks, rel2, o, es, ep, h1, h2, h3, h4, h6⟩), rfl, q _ hn⟩
end
end

/-! ### {**a, **b} of dicts with pairs as keys -/
section
open PySem PySem.Spec PyProof.Rows
section
variable {prog : Program} {w : World} {K : Type} [DecidableEq K] {knd : HeapKind prog w K} {A : Around} {E : Value → Shared → Prop} {s : Shared}
theorem mt_put {d a : Addr} {xs : List (K × Addr × Value)} {k : K} {v : Value} {Q : Unit → Shared → Prop} (hu : knd.room A) (hkey : knd.is s.heap k a) (hm : s.heap.DictOfH knd d xs)
    (hQ : ∀ h', h'.DictOfH knd d (storedH xs k a v) → Heap.SameBut d s.heap h' → Q () { s with heap := h' }) (hsz : xs.length ≤ sizeLine) :
    wpAny (model prog w) A (dictPut d (knd.hash k) (.ref a) v) Q E s := by
  obtain ⟨o, es, ep, ho, hc, hd, he, his, hn⟩ := hm
  unfold dictPut
  refine wpAny_bind (wpAny_dictFind_heap hu hkey ho hd he his hn ?_ ?_)
  · intro hno
    have hnot : k ∉ xs.map (·.1) := not_mem_keys_of_get hno
    refine wpAny_updateDictKeys (hz := by have e := size_of_entries he; omega) ho hd (hQ _ ⟨_, _, ep + 1, Heap.get?_update_self _ ho (Obj.isFreed_of_dict (Obj.data_mapDictKeys hd _)),
      hc.mapDictKeys _, Obj.data_mapDictKeys hd _, ?_, ?_, ?_⟩ (Heap.SameBut.update ..))
    · rw [storedH_new (atKey_none_of_get hno)]
      simp [he, entryOfKey]
    · rw [storedH_new (atKey_none_of_get hno)]
      intro x hx
      rcases List.mem_append.mp hx with hx | hx
      · exact knd.keeps (his x hx) ho hd (Heap.SameBut.update ..)
      · simp only [List.mem_singleton] at hx
        subst hx
        exact knd.keeps hkey ho hd (Heap.SameBut.update ..)
    · rw [storedH_new (atKey_none_of_get hno)]
      rw [List.map_append, List.nodup_append]
      refine ⟨hn, by simp, ?_⟩
      intro x hx y hy
      simp only [List.map_cons, List.map_nil, List.mem_singleton] at hy
      subst hy
      exact fun e => hnot (e ▸ hx)
  · intro j p hj
    refine wpAny_updateDict ho hd (hQ _ ⟨_, _, ep, Heap.get?_update_self _ ho (Obj.isFreed_of_dict (Obj.data_mapDict hd _)),
      hc.mapDict _, Obj.data_mapDict hd _, ?_, ?_, ?_⟩ (Heap.SameBut.update ..))
    · rw [storedH_old (atKey_of_get hn hj)]
      have := modify_map_putAt (entryOfKey knd) (fun e : DictEntry => { e with val := v }) k v (fun _ _ => rfl) hn hj
      rw [← he] at this
      obtain ⟨l⟩ := es
      simpa using this
    · rw [storedH_old (atKey_of_get hn hj)]
      intro x hx
      obtain ⟨y, hy, rfl⟩ := List.mem_map.mp hx
      unfold putAt
      split <;> exact knd.keeps (his y hy) ho hd (Heap.SameBut.update ..)
    · rw [storedH_old (atKey_of_get hn hj)]
      rw [keys_map_putAt]; exact hn
theorem mt_merge {d o : Addr} {kvs more : List (K × Addr × Value)} {Q : Unit → Shared → Prop} (hu : knd.room A) (hdo : d ≠ o) (hoS : (o == sysModules) = false)
    (hd : s.heap.DictOfH knd d kvs) (ho : s.heap.DictOfH knd o more) (hap : kvs ≠ [] ∨ ((∀ x ∈ more, s.TypeIs (.ref x.2.1) "tuple") ∧ (more.map fun x => knd.hash x.1).Nodup))
    (hsz : kvs.length + more.length ≤ sizeLine)
    (hQ : ∀ h', h'.DictOfH knd d (storedAllH kvs more) → Heap.SameBut d s.heap h' → Q () { s with heap := h' }) :
    wpAny (model prog w) A (mergeMapping d (.ref o) false) Q E s := by
  obtain ⟨od, esd, epd, hod, hcd, hdd, hed, hisd, hnd⟩ := id hd
  obtain ⟨oo, eso, epo, hoo, hco, hdo', heo, hiso, hno⟩ := id ho
  have hlen : eso.size = more.length := size_of_entries heo
  unfold mergeMapping
  refine wpAny_bind (wpAny_isInstance ho.typeIs isSubtype_dict_dict ?_)
  rw [if_pos rfl]
  refine wpAny_bind (wpAny_specialOf ho.typeIs F.slot_dict_iter.lookup (wpAny_bind (wpAny_pure ?_)))
  rw [show (some (Value.builtin "dict.__iter__") == some (Value.builtin "dict.__iter__")) = true from by simp]
  dsimp only
  rw [if_neg (by rw [hoS]; exact Bool.false_ne_true)]
  have loop : wpAny (model prog w) A (do
      let l ← dictEntries o
      have size : Nat := l.size
      let epoch ← dictEpoch o
      forIn (List.range size) PUnit.unit fun i (_ : PUnit) => (do
          let l' ← dictEntries o
          match l'[i]? with
            | some e => do
              holding [e.key, e.val] (dictPut d e.hash e.key e.val)
              let ep' ← dictEpoch o
              if (ep' != epoch) = true then do
                  (unsupported "dict.changed-during-merge" : Sem PUnit)
                  pure (ForInStep.yield PUnit.unit)
                else pure (ForInStep.yield PUnit.unit)
            | _ => do
              (unsupported "dict.changed-during-merge" : Sem PUnit)
              pure (ForInStep.yield PUnit.unit) : Sem (ForInStep PUnit))
      pure ()) Q E s := by
    refine wpAny_bind (wpAny_dictEntries hoo hdo' ?_)
    refine wpAny_bind (wpAny_dictEpoch hoo hdo' ?_)
    refine wpAny_bind ?_
    rw [List.range_eq_range']
    refine wpAny_forIn_list _
      (fun rest _ s' => ∃ h' i, s' = { s with heap := h' } ∧ rest = List.range' i (eso.size - i) ∧ i ≤ eso.size ∧ h'.DictOfH knd d (storedAllH kvs (more.take i)) ∧ h'.DictOfH knd o more ∧ h'.get? o = some oo ∧ Heap.SameBut d s.heap h')
      _ ?_ ?_ _ _ ⟨s.heap, 0, rfl, by simp, Nat.zero_le _, by simpa [storedAllH] using hd, ho, hoo, Heap.SameBut.refl _ _⟩
    · rintro x rest b s' ⟨h', i, rfl, hr, hi, hd', ho', hoo', hs'⟩
      have hlt : i < eso.size := by
        rcases Nat.lt_or_ge i eso.size with h | h
        · exact h
        · rw [Nat.sub_eq_zero_of_le h] at hr; simp at hr
      obtain ⟨rfl, hrest⟩ : x = i ∧ rest = List.range' (i + 1) (eso.size - (i + 1)) := by
        have e : eso.size - i = (eso.size - (i + 1)) + 1 := by omega
        rw [e, List.range'_succ] at hr
        injection hr with h1 h2
        exact ⟨h1, h2⟩
      refine wpAny_bind (wpAny_dictEntries hoo' hdo' ?_)
      obtain ⟨⟨k, a, v⟩, hkv⟩ : ∃ kv, more[x]? = some kv := ⟨more[x]'(by rw [← hlen]; exact hlt), List.getElem?_eq_getElem _⟩
      rw [entry_at heo x, hkv]
      show wpAny _ _ (holding [.ref a, v] (dictPut d (knd.hash k) (.ref a) v) >>= _) _ _ _
      have hmx : (storedAllH kvs (more.take x)).length ≤ sizeLine := by
        have e1 := storedAllH_length (more.take x) kvs
        have e2 : (more.take x).length ≤ more.length := by rw [List.length_take]; omega
        omega
      have hkey : knd.is h' k a := by
        obtain ⟨_, _, _, _, _, _, _, his', _⟩ := ho'
        exact his' (k, a, v) (List.mem_of_getElem? hkv)
      refine wpAny_bind (wpAny_holding (mt_put (s := { s with heap := h' }) (hsz := hmx) hu hkey hd' fun h'' hd'' hs'' => ?_))
      have hoo'' : h''.get? o = some oo := (hs''.2 o (Ne.symm hdo)).trans hoo'
      refine wpAny_bind (wpAny_dictEpoch hoo'' hdo' ?_)
      rw [if_neg (by simp)]
      exact wpAny_pure ⟨h'', x + 1, rfl, hrest, hlt, by rw [storedAllH_take_succ kvs more x (k, a, v) hkv]; exact hd'', ho'.notHere hd' hdo hs'', hoo'', hs'.trans hs''⟩
    · rintro b s' ⟨h', i, rfl, hr, hi, hd', ho', hoo', hs'⟩
      have hin : i = eso.size := by
        rcases Nat.lt_or_ge i eso.size with h | h
        · have e : eso.size - i = (eso.size - (i + 1)) + 1 := by omega
          rw [e, List.range'_succ] at hr; exact nomatch hr
        · exact Nat.le_antisymm hi h
      refine wpAny_pure (hQ h' ?_ hs')
      rw [hin, hlen, List.take_length] at hd'; exact hd'
  refine wpAny_bind (wpAny_dictEntries hod hdd ?_)
  split
  · rename_i hemp
    have hkvs : kvs = [] := by
      have h0 : esd = #[] := Array.isEmpty_iff.mp hemp
      have := size_of_entries hed
      rw [h0] at this
      exact List.length_eq_zero_iff.mp (by simpa using this.symm)
    have hap' := hap.resolve_left fun h => h hkvs
    have kap := keysApart heo hap'.1 hap'.2
    refine wpAny_bind (wpAny_dictEntries hoo hdo' ?_)
    refine wpAny_bind ?_
    rw [← Array.forIn_toList]
    refine wpAny_forIn_list _ (fun rest _ s' => s' = s ∧ ∀ e ∈ rest, ∃ x ∈ more, e = entryOfKey knd x) _ ?_ ?_ _ _ ⟨rfl, fun e he => by rw [heo] at he; obtain ⟨x, hx, h⟩ := List.mem_map.mp he; exact ⟨x, hx, h.symm⟩⟩
    · rintro e rest b s' ⟨rfl, hall⟩
      have hrest : ∀ x ∈ rest, ∃ y ∈ more, x = entryOfKey knd y := fun x hx => hall x (List.mem_cons_of_mem _ hx)
      obtain ⟨x, hx, rfl⟩ := hall e List.mem_cons_self
      have hc : (eso.filter (fun y => y.hash == (entryOfKey knd x).hash)).size ≤ 1 := by
        have hn : (eso.toList.map (·.hash)).Nodup := by
          rw [heo, List.map_map]
          exact hap'.2
        rw [← Array.length_toList, Array.toList_filter]
        exact filter_le_one (·.hash) _ eso.toList hn
      show wpAny _ _ (specialOf (.ref x.2.1) (Str.ofString "__eq__") >>= _) _ _ _
      refine wpAny_bind (wpAny_specialOf (hap'.1 x hx) F.slot_tuple_eq.lookup ?_)
      refine wpAny_ite_split (fun _ => ?_) (fun _ => wpAny_pure ⟨rfl, hrest⟩)
      rw [if_neg (by omega)]
      exact wpAny_pure ⟨rfl, hrest⟩
    · rintro b s' ⟨rfl, _⟩
      exact loop
  · exact loop
/-- {**a, **b}: the two dicts into a new one -/
theorem mt_display {e1 e2 : Expr} {env : Env} {pos : Pos} {Q : Value → Shared → Prop}
    (h : wpAny (model prog w) A (eval e1 env) (fun u s1 => wpAny (model prog w) A (mergeMapping s.heap.objs.size u false) (fun _ s2 => wpAny (model prog w) A (eval e2 env) (fun u2 s3 => wpAny (model prog w) A (mergeMapping s.heap.objs.size u2 false) (fun _ s4 => Q (.ref s.heap.objs.size) s4) (fun _ _ => False) s3) E s2) (fun _ _ => False) s1) E
      { s with heap := s.heap.push { cls := .type "dict", data := .dict #[] } }) :
    wpAny (model prog w) A (eval (.Dict [none, none] [e1, e2] pos) env) Q E s := by
  rw [arm_eval_Dict]
  refine wpAny_bind (wpAny_standAt ?_)
  show wpAny _ _ (dictDisplay [(none, do let x ← eval e1 env; standAt pos; pure x), (none, do let x ← eval e2 env; standAt pos; pure x)]) _ _ _
  unfold dictDisplay
  dsimp only
  refine wpAny_bind ?_
  rw [List.forIn_cons]
  refine wpAny_bind ?_
  dsimp only
  refine wpAny_bind ?_
  rw [if_pos (show (([] : List (Sem Value × Sem Value)).isEmpty = true) from rfl)]
  refine wpAny_pure ?_
  dsimp only
  refine wpAny_bind (wpAny_alloc ?_)
  refine wpAny_bind (wpAny_holding (wpAny_bind (wpAny_mono h (fun u s1 h1 => wpAny_bind (wpAny_standAt (wpAny_pure ?_))) fun _ _ z => z)))
  refine wpAny_bind (wpAny_onRaise (wpAny_tryCatch (wpAny_onRaise (wpAny_holding (wpAny_mono h1 (fun _ s2 h2 => ?_) fun _ _ z => z.elim)))))
  refine wpAny_pure ?_
  dsimp only
  rw [List.forIn_cons]
  refine wpAny_bind ?_
  dsimp only
  refine wpAny_bind ?_
  rw [if_pos (show (([] : List (Sem Value × Sem Value)).isEmpty = true) from rfl)]
  refine wpAny_pure ?_
  dsimp only
  refine wpAny_bind (wpAny_pure ?_)
  refine wpAny_bind (wpAny_holding (wpAny_bind (wpAny_mono h2 (fun u2 s3 h3 => wpAny_bind (wpAny_standAt (wpAny_pure ?_))) fun _ _ z => z)))
  refine wpAny_bind (wpAny_onRaise (wpAny_tryCatch (wpAny_onRaise (wpAny_holding (wpAny_mono h3 (fun _ s4 h4 => ?_) fun _ _ z => z.elim)))))
  refine wpAny_pure ?_
  dsimp only
  rw [List.forIn_nil]
  refine wpAny_pure ?_
  dsimp only
  refine wpAny_bind ?_
  rw [if_pos (show (([] : List (Sem Value × Sem Value)).isEmpty = true) from rfl)]
  refine wpAny_pure ?_
  exact wpAny_pure h4
end
end
section
open PySem PySem.Spec PyProof.Rows
def mergeT (kvs more : List (List L2.Key × V)) : List (List L2.Key × V) := more.foldl (fun acc kv => putK acc kv.1 kv.2) kvs
theorem KT_merge {H : Hp} : ∀ {more : List (List L2.Key × V)} {rs : List (List L2.Key × Addr × Value)} {kvs : List (List L2.Key × V)} {vs : List (List L2.Key × Addr × Value)}, KT H more rs → KT H kvs vs → KT H (mergeT kvs more) (storedAllH vs rs) := by
  intro more rs kvs vs r
  induction r generalizing kvs vs with
  | nil => intro q; exact q
  | @cons p q ps qs h t ih =>
    intro r0
    have e : KT H (putK kvs p.1 p.2) (storedH vs q.1 q.2.1 q.2.2) := by
      have := KT.put r0 p.1 h.2.1 h.2.2
      rw [← h.1]
      exact this
    exact ih e
theorem length_mergeT : ∀ (more kvs : List (List L2.Key × V)), (mergeT kvs more).length ≤ kvs.length + more.length
  | [], kvs => by show kvs.length ≤ kvs.length + 0; omega
  | p :: r, kvs => by
    have h1 := length_mergeT r (putK kvs p.1 p.2)
    have h2 := length_putK kvs p.1 p.2
    show (mergeT (putK kvs p.1 p.2) r).length ≤ _
    rw [List.length_cons]; omega
section
variable {X : Cx} {e1 e2 : Expr} {pos : Pos} {t1 t2 : TE}
theorem run_mergeT {pins : List (Addr × Obj)} {σ : L2.St} {H : Hp} {s : Shared} {p a : Addr} {kvs ls : List (List L2.Key × V)} {E : Value → Shared → Prop} {Q : Unit → Shared → Prop} (hu : X.A.units + 64 < cLine) (I : Inv X pins σ H s) (hp : H p = some (.dT kvs)) (ha : Rd H a (.dT ls)) (n : p ≠ a) (ap : HAp ls) (z : kvs.length + ls.length ≤ sizeLine)
    (h : ∀ s', Inv X pins σ (upd H p (.dT (mergeT kvs ls))) s' → Q () s') : wpAny (model X.prog X.w) X.A (mergeMapping p (.ref a) false) Q E s := by
  obtain ⟨z1, hd1, xs, rel, dd⟩ := dt_of I.hok hp
  obtain ⟨z2, hd2, ys, rel2, dd2⟩ := dt_rd I.hok ha
  have el : ys.map (fun x => (tupleKind (mixKind X.prog X.w)).hash x.1) = ls.map fun p => (tupleKind (mixKind X.prog X.w)).hash p.1 := by
    clear ha ap z dd2 z2 h
    induction rel2 with
    | nil => rfl
    | cons h t ih => rw [List.map_cons, List.map_cons, ih, h.1]
  have lx : kvs.length = xs.length := rel.length
  have ly : ls.length = ys.length := rel2.length
  refine mt_merge (knd := tupleKind (mixKind X.prog X.w)) (by show X.A.units < cLine; omega) n hd2 dd dd2 (.inr ⟨PySem.keyed_apart tupleKind_stays dd2, by rw [el]; exact ap _ _⟩) (by rw [← lx, ← ly]; exact z) fun h' d' hs => h _ ?_
  obtain ⟨o, es, ep, hq, h2, h3, h4, _, h5⟩ := d'
  refine d_write I (by rw [hp]; exact True.intro) hs ⟨o, hq⟩ ⟨Nat.le_trans (length_mergeT ls kvs) z, hd1, _, (KT_merge rel2 rel).keeps fun c ys ec => ?_, o, es, ep, hq, h2, h3, h4, h5⟩
  rw [upd_ne (ne_of ec hp (fun z => nomatch z))]
  exact ec
def tMergeT (t1 t2 : TE) : TE := fun σ H Q => ∀ p, H p = none → t1 σ (upd H p (.dT [])) fun x H1 => ∃ (a : Addr) (kvs : List (List L2.Key × V)), x = .ref a ∧ p ≠ a ∧ Rd H1 a (.dT kvs) ∧ HAp kvs ∧ H1 p = some (.dT []) ∧ kvs.length ≤ sizeLine ∧
  t2 σ (upd H1 p (.dT (mergeT [] kvs))) fun y H2 => ∃ (b : Addr) (ls : List (List L2.Key × V)), y = .ref b ∧ p ≠ b ∧ Rd H2 b (.dT ls) ∧ HAp ls ∧ H2 p = some (.dT (mergeT [] kvs)) ∧ (mergeT [] kvs).length + ls.length ≤ sizeLine ∧ Q (.ref p) (upd H2 p (.dT (mergeT (mergeT [] kvs) ls)))
theorem pe_mergeT (hu : X.A.units + 64 < cLine) (h1 : PE X e1 t1) (h2 : PE X e2 t2) : PE X (.Dict [none, none] [e1, e2] pos) (tMergeT t1 t2) := by
  refine ⟨fun pins s σ H Q I q => ?_⟩
  have hn := I.hok.fresh (Nat.le_refl s.heap.objs.size)
  have I1 := I.laid (a := s.heap.objs.size) (o := .dT []) (h' := s.heap.push { cls := .type "dict", data := .dict #[] }) (t' := s.toks) (fun _ _ q => Heap.get?_push_of_some _ q) (Nat.le_refl _) (dt_empty s.heap I.big)
  refine mt_display (wpAny_mono (h1.run pins _ σ _ _ I1 (q _ hn)) (fun u s1 ⟨x, H1, I2, rx, a, kvs, ex, na, ra, ap, hp, zk, q2⟩ => ?_) fun _ _ z => z)
  subst ex
  obtain rfl : u = Value.ref a := rx
  refine run_mergeT hu I2 hp ra na ap (by rw [List.length_nil]; omega) fun s2 I3 => ?_
  refine wpAny_mono (h2.run pins _ σ _ _ I3 q2) (fun u s3 ⟨x, H2, I4, rx, b, ls, ex, nb, rb, apb, hp2, zl, q3⟩ => ?_) fun _ _ z => z
  subst ex
  obtain rfl : u = Value.ref b := rx
  exact run_mergeT hu I4 hp2 rb nb apb zl fun s4 I5 => ⟨.ref s.heap.objs.size, _, I5, rfl, q3⟩
end
end

/-! ### match o: case ['a' | 'b' | 'c', _, n]: .. case ['d', _, m]: .. -/
section
open PySem.Spec PyProof.Rows
variable {X : Cx}
/-- a written text as a pattern, beside a flat value -/
theorem mp_val {pins : List (Addr × Obj)} {σ : L2.St} {H : Hp} {s : Shared} {v0 : V} {u0 : Value} {z : Str} {j : Nat} {q r : Pos} {Q : Option (List (Str × Value)) → Shared → Prop} (I : Inv X pins σ H s) (r0 : RelV v0 u0) (fl : flatV v0 = true) (hu : X.A.units + 64 < cLine)
    (h : ∀ s', Inv X pins σ H s' → if eqV v0 (.str z) = true then Q (some []) s' else Q none s') : wpAny (model X.prog X.w) X.A (matchPattern (.MatchValue (.Constant (.str z) j q) r) X.env u0) Q X.xe s := by
  refine wpAny_matchPattern_Value (thn ((pe_str (X := X) (x := z) (j := j) (pos := q)).run pins s σ H (fun v H1 => v = .str z ∧ H1 = H) I ⟨rfl, rfl⟩) fun x s1 ⟨v, H1, I1, r1, q1⟩ => ?_)
  obtain ⟨rfl, rfl⟩ := q1
  obtain ⟨d, hd, e⟩ : ∃ d : PyData, Dp X.K H1 v0 d ∧ d.plain = true ∧ d.depth ≤ 64 ∧ PyData.eqv d (.str z) = eqV v0 (.str z) := by
    cases v0 with
    | non => exact ⟨_, .non, rfl, Nat.le_of_ble_eq_true rfl, rfl⟩
    | bl b => exact ⟨_, .bl b, rfl, Nat.le_of_ble_eq_true rfl, rfl⟩
    | int i => exact ⟨_, .int i, rfl, Nat.le_of_ble_eq_true rfl, rfl⟩
    | str y => exact ⟨_, .str y, rfl, Nat.le_of_ble_eq_true rfl, rfl⟩
    | byt _ => cases fl
    | flt _ => cases fl
    | ref _ => cases fl
    | ty _ => cases fl
  refine thn (op_eqP hu pins s1 σ H1 v0 (.str z) u0 x (fun v H2 => v = .bl (eqV v0 (.str z)) ∧ H2 = H1) I1 r0 r1 ⟨d, .str z, hd, .str z, e.1, rfl, e.2.1, by rw [e.2.2], rfl⟩) fun c s2 ⟨v, H2, I2, r2, q2⟩ => ?_
  obtain ⟨rfl, rfl⟩ := q2
  cases r2
  exact wpAny_truthy_bool (h s2 I2)
variable {te : TE} {e : Expr} {t1 t2 : TS} {b1 b2 : List Stmt} {w1 w2 w3 w4 n1 n2 : Str} {j1 j2 j3 j4 : Nat} {q1 q2 q3 q4 r1 r2 r3 r4 p1 p2 p3 p4 p5 p6 p7 pos : Pos} {i1 i2 : Nat}
def tMatch3 (te : TE) (w1 w2 w3 w4 : Str) (i1 i2 : Nat) (t1 t2 : TS) : TS := fun D σ H => te σ H fun x H1 => ∃ (p : Addr) (v0 v1 v2 : V), x = .ref p ∧ H1 p = some (.tup [v0, v1, v2]) ∧ flatV v0 = true ∧
  if (eqV v0 (.str w1) || eqV v0 (.str w2) || eqV v0 (.str w3)) = true then t1 D (σ.set i1 (some v2)) H1 else if eqV v0 (.str w4) = true then t2 D (σ.set i2 (some v2)) H1 else D.nx σ H1
theorem bind_ok {pins : List (Addr × Obj)} {σ : L2.St} {H : Hp} {s : Shared} {i : Nat} {x : Str} {v : V} {u : Value} {Q : Unit → Shared → Prop} (I : Inv X pins σ H s) (hN : X.N.Nodup) (hi : X.N[i]? = some x) (hx : Loc X.env.scope x)
    (hf : X.fn x = true ∨ X.env.scope.names.lookup x = some .local) (r : RelV v u) (h : ∀ s', Inv X pins (σ.set i (some v)) H s' → Q () s') :
    wpAny (model X.prog X.w) X.A (assignInOrder ([(x, u)].map fun (n, _) => bindName X.env n) ([(x, u)].map (·.2))) Q X.xe s :=
  wpAny_assignInOrder_more (wpAny_bindName (store_ok I hN hi hx r (fun s1 I1 => wpAny_assignInOrder_none (h s1 I1)) hf))
theorem ps_match3 (hc : X.calm = true) (hu : X.A.units + 64 < cLine) (hN : X.N.Nodup) (hi1 : X.N[i1]? = some n1) (hx1 : Loc X.env.scope n1) (hi2 : X.N[i2]? = some n2) (hx2 : Loc X.env.scope n2) (he : PE X e te) (h1 : PSs X b1 t1) (h2 : PSs X b2 t2)
    (hf1 : X.fn n1 = true ∨ X.env.scope.names.lookup n1 = some .local := by first | exact .inl rfl | exact .inr rfl) (hf2 : X.fn n2 = true ∨ X.env.scope.names.lookup n2 = some .local := by first | exact .inl rfl | exact .inr rfl) :
    PS X (.Match e [⟨.MatchSequence [.MatchOr [.MatchValue (.Constant (.str w1) j1 q1) r1, .MatchValue (.Constant (.str w2) j2 q2) r2, .MatchValue (.Constant (.str w3) j3 q3) r3] p1, .MatchAs none none p2, .MatchAs none (some n1) p3] p4, none, b1⟩,
      ⟨.MatchSequence [.MatchValue (.Constant (.str w4) j4 q4) r4, .MatchAs none none p5, .MatchAs none (some n2) p6] p7, none, b2⟩] pos) (tMatch3 te w1 w2 w3 w4 i1 i2 t1 t2) := by
  refine ⟨fun pins s σ H D I h => ?_⟩
  refine wpAny_Match (thn (he.run pins s σ H _ I h) fun u s1 ⟨x, H1, I1, rx, p, v0, v1, v2, ex, hp, fl, q⟩ => ?_)
  subst ex
  obtain rfl : u = Value.ref p := rx
  have hit : ∀ {ps : List Pattern} {pos : Pos} {Q : Option (List (Str × Value)) → Shared → Prop} {s : Shared}, Inv X pins σ H1 s → ps.length = 3 → (∀ u0 u1 u2 s', Inv X pins σ H1 s' → RelV v0 u0 → RelV v1 u1 → RelV v2 u2 → wpAny (model X.prog X.w) X.A (matchEach ps X.env [u0, u1, u2]) Q X.xe s') →
      (ps.findIdx? (·.isStar) = none) → ((ps.all fun p => p.isWildcard || (p.isStar && p.names.isEmpty)) = false) → wpAny (model X.prog X.w) X.A (matchPattern (.MatchSequence ps pos) X.env (.ref p)) Q X.xe s := by
    intro ps pos Q s I hl h3 hs hw
    obtain ⟨its, rv, ht, hz⟩ := I.tuple (SqT.of hp)
    obtain ⟨u0, u1, u2, rfl, a0, a1, a2⟩ : ∃ u0 u1 u2, its = [u0, u1, u2] ∧ RelV v0 u0 ∧ RelV v1 u1 ∧ RelV v2 u2 := by
      cases rv with
      | cons a0 t0 =>
        cases t0 with
        | cons a1 t1 =>
          cases t1 with
          | cons a2 t2 =>
            cases t2
            exact ⟨_, _, _, rfl, a0, a1, a2⟩
    refine matchSeq_tuple_hit ht (show ((3 : Nat) : Int) < 2 ^ 63 by decide) (by rw [hl]; rfl) ?_ hs hw
    rw [hl]
    refine unpackItems_tuple (items := #[u0, u1, u2]) (I.ok.hd hc) ht fun h' hx => ?_
    exact h3 u0 u1 u2 _ (I.kept (t' := s.toks + 1 + 1) fun b o e => hx b o (Nat.ne_of_lt (Heap.lt_size e)) e) a0 a1 a2
  refine wpAny_matchCases_cons (hit I1 rfl ?_ rfl rfl)
  intro u0 u1 u2 s2 I2 a0 a1 a2
  have no : (eqV v0 (.str w1) || eqV v0 (.str w2) || eqV v0 (.str w3)) = false → ∀ s3, Inv X pins σ H1 s3 →
      wpAny (model X.prog X.w) X.A (matchCases [⟨.MatchSequence [.MatchValue (.Constant (.str w4) j4 q4) r4, .MatchAs none none p5, .MatchAs none (some n2) p6] p7, none, b2⟩] X.env (.ref p) false) (SP X pins D) X.xe s3 := by
    intro hn s3 I3
    rw [hn] at q
    refine wpAny_matchCases_cons (hit I3 rfl ?_ rfl rfl)
    intro u0 u1 u2 s4 I4 a0 a1 a2
    refine wpAny_matchEach_cons (mp_val I4 a0 fl hu fun s5 I5 => ?_)
    split
    · next h4 =>
      refine wpAny_matchEach_cons (wpAny_matchPattern_Capture (wpAny_matchEach_cons (wpAny_matchPattern_Capture (wpAny_matchEach_nil ?_))))
      refine bind_ok I5 hN hi2 hx2 hf2 a2 fun s6 I6 => ?_
      rw [h4] at q
      exact h2.run pins s6 _ H1 D I6 q
    · next h4 =>
      rw [if_neg h4] at q
      exact wpAny_matchCases_nil ⟨σ, H1, I5, q⟩
  have yes : (eqV v0 (.str w1) || eqV v0 (.str w2) || eqV v0 (.str w3)) = true → ∀ s3, Inv X pins σ H1 s3 →
      wpAny (model X.prog X.w) X.A (matchEach [.MatchAs none none p2, .MatchAs none (some n1) p3] X.env [u1, u2]) (fun (r' : Option (List (Str × Value))) s₂ => match r' with
        | none => wpAny (model X.prog X.w) X.A (matchCases [⟨.MatchSequence [.MatchValue (.Constant (.str w4) j4 q4) r4, .MatchAs none none p5, .MatchAs none (some n2) p6] p7, none, b2⟩] X.env (.ref p) false) (SP X pins D) X.xe s₂
        | some more => wpAny (model X.prog X.w) X.A (assignInOrder ((([] : List (Str × Value)) ++ more).map fun (n, _) => bindName X.env n) ((([] : List (Str × Value)) ++ more).map (·.2))) (fun _ s₂ => wpAny (model X.prog X.w) X.A (execs b1 X.env) (SP X pins D) X.xe s₂) X.xe s₂) X.xe s3 := by
    intro hy s3 I3
    rw [hy] at q
    refine wpAny_matchEach_cons (wpAny_matchPattern_Capture (wpAny_matchEach_cons (wpAny_matchPattern_Capture (wpAny_matchEach_nil ?_))))
    exact bind_ok I3 hN hi1 hx1 hf1 a2 fun s6 I6 => h1.run pins s6 _ H1 D I6 q
  refine wpAny_matchEach_cons (wpAny_matchPattern_Or (wpAny_matchFirst_cons (mp_val I2 a0 fl hu fun s3 I3 => ?_)))
  split
  · next h4 => exact yes (by rw [h4]; rfl) s3 I3
  · next h4 =>
    refine wpAny_matchFirst_cons (mp_val I3 a0 fl hu fun s5 I5 => ?_)
    split
    · next h5 => exact yes (by rw [h5]; simp) s5 I5
    · next h5 =>
      refine wpAny_matchFirst_cons (mp_val I5 a0 fl hu fun s6 I6 => ?_)
      split
      · next h6 => exact yes (by rw [h6]; simp) s6 I6
      · next h6 => exact wpAny_matchFirst_nil (no (by simp [h4, h5, h6]) s6 I6)
end

/-! ### the law's own helpers: bag, integer, divisor, lowest -/
def spBag (K : PySem.W.Frag) : Sp := fun vs H Q _ => ∃ (a : Addr) (ns : List Int), vs = [.ref a] ∧ SqL K H a (ns.map V.int) ∧ ∀ (g l : Addr) (H' : Hp), Same H H' → H g = none → H l = none → Bag H' g l → Q (.ref g) H'
def spInteger : Sp := fun vs H Q _ => ∃ g l : Addr, vs = [.ref g] ∧ Bag H g l ∧ ∀ (n : Int) (H' : Hp), n.natAbs ≤ 10 ^ 49 → Bag H' g l → Kp g H H' → Q (.int n) H'
def spLowest : Sp := fun vs H Q _ => ∃ t b : Int, vs = [.int t, .int b] ∧ b ≠ 0 ∧ b.natAbs < 2 ^ 9000 ∧ ∀ p, H p = none → Q (.ref p) (upd H p (.tup [.int (Rat.divInt t b).num, .int ((Rat.divInt t b).den : Int)]))
theorem Bag.keep {H H' : Hp} {g l : Addr} (b : Bag H g l) (s : Same H H') : Bag H' g l := by
  obtain ⟨i, r, sd, c, ns, hg, hl, hi⟩ := b
  exact ⟨i, r, sd, c, ns, s _ _ hg, s _ _ hl, hi⟩
theorem Bag.lst {H : Hp} {g l : Addr} (b : Bag H g l) : ∃ xs, H g = some (.lst xs) := by
  obtain ⟨i, r, sd, c, ns, hg, hl, hi⟩ := b
  exact ⟨_, hg⟩
theorem Bag.ne {H : Hp} {g l p : Addr} (b : Bag H g l) (hp : H p = none) : p ≠ g ∧ p ≠ l := by
  obtain ⟨i, r, sd, c, ns, hg, hl, hi⟩ := b
  exact ⟨(ne_of_none hg hp).symm, (ne_of_none hl hp).symm⟩
/-- a bag stands where nothing of it is written -/
theorem Bag.put {H : Hp} {g l p : Addr} {o : HO} (b : Bag H g l) (n : p ≠ g ∧ p ≠ l) : Bag (upd H p o) g l := by
  obtain ⟨i, r, sd, c, ns, hg, hl, hi⟩ := b
  exact ⟨i, r, sd, c, ns, by rw [upd_ne n.1.symm]; exact hg, by rw [upd_ne n.2.symm]; exact hl, hi⟩
theorem Bag.new {H : Hp} {g l p : Addr} {o : HO} (b : Bag H g l) (hp : H p = none) : Bag (upd H p o) g l := b.keep fun c u e => by
  rw [upd_ne (ne_of_none e hp)]
  exact e
theorem Kp.new {g p : Addr} {H H' : Hp} {o : HO} (k : Kp g H H') (hp : H' p = none) : Kp g H (upd H' p o) := fun b u e n => by
  have e1 := k b u e n
  rw [upd_ne (ne_of_none e1 hp)]
  exact e1
theorem Kp.put {g p : Addr} {H H' : Hp} {o : HO} (k : Kp g H H') (hp : H p = none) : Kp g H (upd H' p o) := fun b u e n => by
  rw [upd_ne (ne_of_none e hp)]
  exact k b u e n
theorem Kp.same {g : Addr} {H H' : Hp} (s : Same H H') : Kp g H H' := fun b u e _ => s b u e
theorem Same.new {H : Hp} {p : Addr} {o : HO} (hp : H p = none) : Same H (upd H p o) := fun b u e => by
  rw [upd_ne (ne_of_none e hp)]
  exact e
theorem size_at {c : Int} (h0 : 0 ≤ c) (h6 : c < 6) (hc : c ≠ 0) : ∃ z : Int, atI [V.int 1, V.int 2, V.int 3, V.int 12, V.int 1000, V.int (10 ^ (49 : Int).toNat)] c = some (.int z) ∧ 0 < z ∧ z ≤ 10 ^ 49 := by
  have : c = 1 ∨ c = 2 ∨ c = 3 ∨ c = 4 ∨ c = 5 := by omega
  rcases this with rfl | rfl | rfl | rfl | rfl
  · exact ⟨2, rfl, by decide, by decide⟩
  · exact ⟨3, rfl, by decide, by decide⟩
  · exact ⟨12, rfl, by decide, by decide⟩
  · exact ⟨1000, rfl, by decide, by decide⟩
  · exact ⟨10 ^ 49, rfl, by decide, by decide⟩
theorem big49 : (10 : Nat) ^ 49 < 2 ^ 200 := by decide
theorem pow_mono {a b : Nat} (h : a ≤ b) : (2 : Nat) ^ a ≤ 2 ^ b := Nat.pow_le_pow_right (by decide) h
theorem lt_pow {n a b : Nat} (h : n < 2 ^ a) (hab : a ≤ b) : n < 2 ^ b := Nat.lt_of_lt_of_le h (pow_mono hab)
theorem lt200 {n : Nat} (h : n ≤ 10 ^ 49) : n < 2 ^ 200 := Nat.lt_of_le_of_lt h big49
theorem lt9000 {n : Nat} (h : n ≤ 10 ^ 49) : n < 2 ^ 9000 := lt_pow (lt200 h) (by decide)
def spLaw (K : PySem.W.Frag) : Sp := fun vs H Q _ => ∃ (a : Addr) (ns : List Int), vs = [.ref a] ∧ SqL K H a (ns.map V.int) ∧ ns.length ≤ 63 ∧ ∀ H', Q (.bl true) H'
theorem neD_same {K : PySem.W.Frag} {H : Hp} {p q : Addr} {a b : Int} {Q : VK} (hp : H p = some (.tup [.int a, .int b])) (hq : H q = some (.tup [.int a, .int b])) (h : Q (.bl false) H) : rNeD K (.ref p) (.ref q) H Q := by
  refine ⟨.tuple [.int a, .int b], .tuple [.int a, .int b], .tup (SqT.of hp) (.cons (.int a) (.cons (.int b) .nil)), .tup (SqT.of hq) (.cons (.int a) (.cons (.int b) .nil)), rfl, rfl, ?_⟩
  have e : PyData.eqv (.tuple [.int a, .int b]) (.tuple [.int a, .int b]) = true := by simp [PyData.eqv, PyData.eqvAll]
  rw [e]
  exact h
theorem or_go {K : PySem.W.Frag} {H : Hp} {σ : L2.St} {Q : VK} {n d : Int} (hd : d ≠ 0) (h : ∀ m : Int, m ≠ 0 → (m = n ∨ m = d) → Q (.int m) H) : ∃ k, TruV K (.int n) H k ∧ if k = true then Q (.int n) H else tC (.int d) σ H Q := by
  by_cases e : n = 0
  · exact ⟨false, by rw [e]; rfl, iteF (h d hd (.inr rfl))⟩
  · exact ⟨true, (show true = (n != 0) by simp [e]), iteT (h n e (.inl rfl))⟩
theorem kit_self {K : PySem.W.Frag} {C : Addr} : PySem.W.kitOne K (.ref C) (.ref C) = some true := by simp [PySem.W.kitOne]
def spNumber : Sp := fun vs H Q _ => ∃ n : Int, vs = [.int n] ∧ Q (.bl true) H
section
variable {P : Program} {w : World} {K : PySem.W.Frag} {mg : Str → Option Value} {base : Heap} {A : Ad}
theorem ok_l_bag (T : Txt K mg A) : FnOk P w K mg base CX0 1 A.l_bag A.fd_l_bag P_l_bag (spBag K) := by
  refine T.F_l_bag.ok sc_l_bag (fun vs H Q E h => ?_) (fun cdv Ar outer s H vs Q E hr h => ?_)
  · obtain ⟨a, ns, rfl, _⟩ := h
    rfl
  · obtain ⟨a, ns, rfl, hS, k⟩ := h
    refine ⟨_, (pss_one (ps_ret (pe_lst (pa_cons (pe_callTy call_list_of (by rfl) T.z_list (by decide +kernel) (pa_cons (pv 0) pa_nil)) (pa_cons pe_int (pa_cons pe_int (pa_cons pe_int (pa_cons pe_int pa_nil)))))))), ?_⟩
    refine ⟨_, rfl, a, _, rfl, .inl hS, fun l hl => ⟨by walk_at "fact", fun g hg => ?_⟩⟩
    have nlg : l ≠ g := fun z => by
      rw [z, upd_same] at hg
      cases hg
    have hg0 : H g = none := by
      rw [upd_ne nlg.symm] at hg
      exact hg
    exact k g l _ ((Same.new hl).trans (Same.new hg)) hg0 hl ⟨0, 0, 17, 0, ns, upd_same, by rw [upd_ne nlg]; exact upd_same, by decide⟩
end

theorem Same.at_new {H H' : Hp} {D : Addr} {o : HO} (hD : H D = none) (s : Same H H') : Same H (upd H' D o) := fun b u e => by
  rw [upd_ne (ne_of_none e hD)]
  exact s b u e
/-- [.. for .. in a list], its parts keep what stands -/
theorem lc_same {K : PySem.W.Frag} {a : Addr} {xs : List V} {g : TG} {tt : TT} {te : TE} {vs : List Nat} {σ : L2.St} {H1 : Hp} {D : Addr} {Qd : Hp → Prop} (f : Nat → V) (hl : H1 a = some (.lst xs)) (hz : xs.length ≤ 1000) (hD : H1 D = none)
    (hs : ∀ i x H' (N : VK) (M : Hp → Prop), xs[i]? = some x → Same H1 H' → (∀ H4, Same H' H4 → N (f i) H4) → g x (wipe σ vs) H' fun σ2 H2 => wipe σ2 vs = wipe σ vs ∧ tt σ2 H2 fun b H3 => if b = true then te σ2 H3 N else M H3)
    (hd : ∀ H', Same H1 H' → H' D = some (.lst ((List.range xs.length).map f)) → Qd H') :
    ∃ W : Nat → Nat → Hp → Prop, (∃ m, W 0 m (upd H1 D (.lst []))) ∧ ∀ i m H, W i m H →
      ((Itl K a).stop i H ∧ Qd H) ∨ ((Itl K a).go i H ∧ ∃ Nx : Hp → Prop, (∀ H', Nx H' → ∃ m', m' < m ∧ W (i + 1) m' H') ∧ ∀ x H', (Itl K a).yld i H x H' → g x (wipe σ vs) H' fun σ2 H2 => wipe σ2 vs = wipe σ vs ∧ tt σ2 H2 fun b H3 =>
        if b = true then te σ2 H3 fun y H4 => ∃ acc, H4 D = some (.lst acc) ∧ acc.length < sizeLine ∧ Nx (upd H4 D (.lst (acc ++ [y]))) else Nx H3) := by
  refine lc_list (K := K) (a := a) (xs := xs) (fun i H' => Wd (Same H1 H' ∧ H' D = some (.lst ((List.range i).map f)))) ⟨Same.new hD, upd_same⟩ (fun i H' _ h => SqL.of (h.ok.1 _ _ hl)) ?_ (fun H' h => hd H' h.ok.1 h.ok.2)
  rintro i x H' hi ⟨s, hd'⟩
  refine hs i x H' _ _ hi s fun H4 s4 => ⟨_, s4 _ _ hd', ?_, Same.at_new hD (s.trans s4), ?_⟩
  · rw [List.length_map, List.length_range]
    have := (List.getElem?_eq_some_iff.mp hi).1
    exact Nat.lt_of_lt_of_le (Nat.lt_of_lt_of_le this hz) (by decide)
  · rw [upd_same, List.range_succ, List.map_append]
    rfl
theorem Same.none {H H' : Hp} {p : Addr} (s : Same H H') (h : H' p = none) : H p = none := by
  cases e : H p with
  | none => rfl
  | some o =>
    rw [s _ _ e] at h
    cases h

/-- what stands anywhere but at the list D is kept -/
theorem kp_of_same {D : Addr} {H H' : Hp} (s : Same H H') : Kp D H H' := fun b o e _ => s b o e
/-- [.. for .. in a list], its parts keep what stands; R tells of each item that is made -/
theorem lc_sameP {K : PySem.W.Frag} {a : Addr} {xs : List V} {g : TG} {tt : TT} {te : TE} {vs : List Nat} {σ : L2.St} {H1 : Hp} {D : Addr} {Qd : Hp → Prop} (R : Nat → V → Hp → Prop) (hl : H1 a = some (.lst xs)) (hz : xs.length ≤ 1000) (hD : H1 D = none)
    (mono : ∀ i y H H' acc, H D = some (.lst acc) → Kp D H H' → R i y H → R i y H')
    (hs : ∀ i x H' (N : VK) (M : Hp → Prop), xs[i]? = some x → Same H1 H' → (∀ y H4, Same H' H4 → R i y H4 → N y H4) → g x (wipe σ vs) H' fun σ2 H2 => wipe σ2 vs = wipe σ vs ∧ tt σ2 H2 fun b H3 => if b = true then te σ2 H3 N else M H3)
    (hd : ∀ ys H', Same H1 H' → ys.length = xs.length → (∀ i y, ys[i]? = some y → R i y H') → H' D = some (.lst ys) → Qd H') :
    ∃ W : Nat → Nat → Hp → Prop, (∃ m, W 0 m (upd H1 D (.lst []))) ∧ ∀ i m H, W i m H →
      ((Itl K a).stop i H ∧ Qd H) ∨ ((Itl K a).go i H ∧ ∃ Nx : Hp → Prop, (∀ H', Nx H' → ∃ m', m' < m ∧ W (i + 1) m' H') ∧ ∀ x H', (Itl K a).yld i H x H' → g x (wipe σ vs) H' fun σ2 H2 => wipe σ2 vs = wipe σ vs ∧ tt σ2 H2 fun b H3 =>
        if b = true then te σ2 H3 fun y H4 => ∃ acc, H4 D = some (.lst acc) ∧ acc.length < sizeLine ∧ Nx (upd H4 D (.lst (acc ++ [y]))) else Nx H3) := by
  refine lc_list (K := K) (a := a) (xs := xs) (fun i H' => Wd (∃ ys : List V, Same H1 H' ∧ ys.length = i ∧ H' D = some (.lst ys) ∧ ∀ j y, ys[j]? = some y → R j y H')) ⟨[], Same.new hD, rfl, upd_same, fun j y h => by cases h⟩ (fun i H' _ h => ?_) ?_ (fun H' h => ?_)
  · obtain ⟨ys, s, _⟩ := h.ok
    exact SqL.of (s _ _ hl)
  · rintro i x H' hi ⟨ys, s, hyl, hd', hR⟩
    refine hs i x H' _ _ hi s fun y H4 s4 r4 => ⟨_, s4 _ _ hd', ?_, ys ++ [y], Same.at_new hD (s.trans s4), ?_, upd_same, fun j z hz => ?_⟩
    · rw [hyl]
      have := (List.getElem?_eq_some_iff.mp hi).1
      exact Nat.lt_of_lt_of_le (Nat.lt_of_lt_of_le this hz) (by decide)
    · rw [List.length_append, hyl]
      rfl
    · have kp : Kp D H4 (upd H4 D (.lst (ys ++ [y]))) := (Kp.refl D H4).up
      rw [List.getElem?_append] at hz
      split at hz
      · exact mono _ _ _ _ _ (s4 _ _ hd') kp (mono _ _ _ _ _ hd' (kp_of_same s4) (hR j z hz))
      · have e : j - ys.length = 0 := by
          cases e : j - ys.length with
          | zero => rfl
          | succ n => rw [e] at hz; cases hz
        rw [e] at hz
        cases hz
        have : j = i := by omega
        subst this
        exact mono _ _ _ _ _ (s4 _ _ hd') kp r4
  · obtain ⟨ys, s, hyl, hd', hR⟩ := h.ok
    exact hd ys H' s hyl hR hd'
/-- an if by a question whose answer is p; the heap may grow -/
theorem tIf_of {t : TT} {a b : TS} {D : Ends} {σ : L2.St} {H : Hp} {p : Prop} (ht : ∀ Q : Bool → Hp → Prop, (∀ H', Same H H' → p → Q true H') → (∀ H', Same H H' → ¬ p → Q false H') → t σ H Q) (ha : ∀ H', Same H H' → p → a D σ H') (hb : ∀ H', Same H H' → ¬ p → b D σ H') : tIfS t a b D σ H :=
  ht _ (fun H' s hp => iteT (ha H' s hp)) (fun H' s hn => iteF (hb H' s hn))
theorem q_dec {p : Prop} [Decidable p] {Q : Bool → Hp → Prop} {H : Hp} (h1 : p → Q true H) (h2 : ¬ p → Q false H) : Q (decide p) H := by
  by_cases e : p
  · rw [decide_eq_true e]
    exact h1 e
  · rw [decide_eq_false e]
    exact h2 e

/-! ### the __init__ of the errors -/
/-- C.__init__(self, v, ..): the error gets its dict; fs: the fields, the last one first -/
def spExcF (C : Addr) (n : Nat) (fs : List V → List (Str × V)) : Sp := fun vs H Q _ => ∃ (a : Addr) (ws : List V), vs = .ref a :: ws ∧ ws.length = n ∧ H a = some (exo a C none) ∧
  ∀ (d : Addr) (H' : Hp), H d = none → d ≠ a → (∀ b o, H b = some o → b ≠ a → H' b = some o) → H' a = some (exo a C (some d)) → H' d = some (exd d (fs ws)) → Q .non H'
section
variable {P : Program} {w : World} {K : PySem.W.Frag} {mg : Str → Option Value} {base : Heap} {A : Ad}
def fs_BadEntry : List V → List (Str × V)
  | [v0, v1] => [("number", v1), ("day", v0)]
  | _ => []
theorem ok_m_BadEntry_init (T : Txt K mg A) : FnOk P w K mg base CX0 3 A.m_BadEntry_init A.fd_m_BadEntry_init P_m_BadEntry_init (spExcF A.BadEntry 2 fs_BadEntry) := by
  refine T.F_m_BadEntry_init.ok sc_m_BadEntry_init (fun vs H Q E h => ?_) (fun cdv Ar outer s H vs Q E hr h => ?_)
  · obtain ⟨a, ws, rfl, hl, _⟩ := h
    rw [List.length_cons, hl]
    rfl
  · obtain ⟨a, ws, rfl, hl, ha, k⟩ := h
    match ws, hl with
    | [v0, v1], _ =>
      refine ⟨_, (pss_cons (ps_expr (pe_ceinit (by rfl) T.g_CostError T.rd_CostError T.cg_CostError T.vi_CostError (pa_cons (pv 0) (pa_cons pe_str pa_nil))))
      (pss_cons (ps_ost (pv 0) (pv 1))
      (pss_one (ps_ost (pv 0) (pv 2))))), ?_⟩
      refine ⟨_, rfl, a, A.BadEntry, _, rfl, by show 1 ≤ 1000; decide, T.ox_BadEntry, ha, ?_⟩
      refine ⟨_, rfl, _, rfl, a, A.BadEntry, rfl, T.ox_BadEntry, T.n_BadEntry_day, .inl ⟨ha, fun d hd nd => ?_⟩⟩
      have ea : upd (upd H d (exd d [("day", v0)])) a (exo a A.BadEntry (some d)) a = some (exo a A.BadEntry (some d)) := upd_same
      have ed : upd (upd H d (exd d [("day", v0)])) a (exo a A.BadEntry (some d)) d = some (exd d [("day", v0)]) := by rw [upd_ne nd, upd_same]
      refine ⟨_, rfl, _, rfl, a, A.BadEntry, rfl, T.ox_BadEntry, T.n_BadEntry_number, .inr ⟨d, _, ea, ed, by show 1 ≤ 900; decide, ?_⟩⟩
      exact k d _ hd nd (fun b o e n => by rw [upd_ne (ne_of_none e hd), upd_ne n, upd_ne (ne_of_none e hd)]; exact e) (by rw [upd_ne nd.symm]; exact ea) upd_same
def fs_NoEntry : List V → List (Str × V)
  | [v0, v1] => [("number", v1), ("day", v0)]
  | _ => []
theorem ok_m_NoEntry_init (T : Txt K mg A) : FnOk P w K mg base CX0 3 A.m_NoEntry_init A.fd_m_NoEntry_init P_m_NoEntry_init (spExcF A.NoEntry 2 fs_NoEntry) := by
  refine T.F_m_NoEntry_init.ok sc_m_NoEntry_init (fun vs H Q E h => ?_) (fun cdv Ar outer s H vs Q E hr h => ?_)
  · obtain ⟨a, ws, rfl, hl, _⟩ := h
    rw [List.length_cons, hl]
    rfl
  · obtain ⟨a, ws, rfl, hl, ha, k⟩ := h
    match ws, hl with
    | [v0, v1], _ =>
      refine ⟨_, (pss_cons (ps_expr (pe_ceinit (by rfl) T.g_CostError T.rd_CostError T.cg_CostError T.vi_CostError (pa_cons (pv 0) (pa_cons pe_str pa_nil))))
      (pss_cons (ps_ost (pv 0) (pv 1))
      (pss_one (ps_ost (pv 0) (pv 2))))), ?_⟩
      refine ⟨_, rfl, a, A.NoEntry, _, rfl, by show 1 ≤ 1000; decide, T.ox_NoEntry, ha, ?_⟩
      refine ⟨_, rfl, _, rfl, a, A.NoEntry, rfl, T.ox_NoEntry, T.n_NoEntry_day, .inl ⟨ha, fun d hd nd => ?_⟩⟩
      have ea : upd (upd H d (exd d [("day", v0)])) a (exo a A.NoEntry (some d)) a = some (exo a A.NoEntry (some d)) := upd_same
      have ed : upd (upd H d (exd d [("day", v0)])) a (exo a A.NoEntry (some d)) d = some (exd d [("day", v0)]) := by rw [upd_ne nd, upd_same]
      refine ⟨_, rfl, _, rfl, a, A.NoEntry, rfl, T.ox_NoEntry, T.n_NoEntry_number, .inr ⟨d, _, ea, ed, by show 1 ≤ 900; decide, ?_⟩⟩
      exact k d _ hd nd (fun b o e n => by rw [upd_ne (ne_of_none e hd), upd_ne n, upd_ne (ne_of_none e hd)]; exact e) (by rw [upd_ne nd.symm]; exact ea) upd_same
end

/-! ### names that the law draws -/
section
open PySem.Spec PyProof.Rows
variable {X : Cx}
/-- a text times 0 or 1 -/
theorem op_mul01 : OpR X (binaryOp .Mult) (fun x y H Q => ∃ (z : Str) (n : Int), x = .str z ∧ y = .int n ∧ (n = 0 ∨ n = 1) ∧ Q (.str (if n = 0 then Str.empty else z)) H) := by
  intro pins s σ H x y v u Q I rx ry h
  obtain ⟨z, n, rfl, rfl, hn, q⟩ := h
  obtain ⟨t, rfl⟩ := rx
  obtain ⟨t', rfl⟩ := ry
  rcases hn with rfl | rfl
  · exact PySem.P.mul_str_none (by decide) (by decide) ⟨.str Str.empty, H, I.tok _, ⟨_, rfl⟩, q⟩
  · refine PySem.P.mul_str (by decide) (fun _ h => absurd h (by simp)) (fun _ h => absurd h (by simp)) ?_
    show (Made.val (.str z t)).post _ s
    exact ⟨.str z, H, I, ⟨_, rfl⟩, q⟩
end
/-- a name: a few small letters -/
def NmOk (n : List Nat) : Prop := 1 ≤ n.length ∧ n.length ≤ 12 ∧ ∀ c ∈ n, 97 ≤ c ∧ c < 123
def vS (l : List Nat) : V := .str (SX.S l)
/-- the k-th name -/
def nmAt (st : List Nat) (wh : Nat) (sh lo : Int) (k : Nat) : List Nat := st.take wh ++ [97 + ((sh + 7 * (k : Int)) % 26).toNat] ++ st.drop wh ++ (if (k : Int) % 3 = lo then [97 + sh.toNat] else [])
theorem nm_len {st : List Nat} {wh : Nat} {sh lo : Int} {k : Nat} : (nmAt st wh sh lo k).length = st.length + 1 + (if (k : Int) % 3 = lo then 1 else 0) := by
  unfold nmAt
  rw [List.length_append, List.length_append, List.length_append, List.length_take, List.length_drop, List.length_singleton]
  split
  · rw [List.length_singleton]
    omega
  · rw [List.length_nil]
    omega
theorem nm_at {st : List Nat} {wh : Nat} {sh lo : Int} {k : Nat} (hw : wh ≤ st.length) : (nmAt st wh sh lo k)[wh]? = some (97 + ((sh + 7 * (k : Int)) % 26).toNat) := by
  have h1 : (st.take wh).length = wh := by
    rw [List.length_take]
    omega
  unfold nmAt
  rw [List.append_assoc, List.append_assoc, List.getElem?_append_right (by omega), h1, Nat.sub_self]
  rfl
theorem nm_inj {st : List Nat} {wh : Nat} {sh lo : Int} {k j : Nat} (hw : wh ≤ st.length) (hk : k < 26) (hj : j < 26) (e : nmAt st wh sh lo k = nmAt st wh sh lo j) : k = j := by
  have h := nm_at (sh := sh) (lo := lo) (k := k) hw
  rw [e, nm_at hw] at h
  have h := Option.some.inj h
  omega
theorem nm_ok {st : List Nat} {wh : Nat} {sh lo : Int} {k : Nat} (hs : st.length ≤ 10) (hc : ∀ c ∈ st, 97 ≤ c ∧ c < 123) (h0 : 0 ≤ sh) (h1 : sh < 26) : NmOk (nmAt st wh sh lo k) := by
  refine ⟨by rw [nm_len]; omega, by rw [nm_len]; split <;> omega, fun c hm => ?_⟩
  unfold nmAt at hm
  simp only [List.mem_append, List.mem_singleton] at hm
  rcases hm with ((hm | hm) | hm) | hm
  · exact hc c (List.mem_of_mem_take hm)
  · omega
  · exact hc c (List.mem_of_mem_drop hm)
  · split at hm
    · rw [List.mem_singleton] at hm
      omega
    · cases hm
def lettersZ : Str := "abcdefghijklmnopqrstuvwxyz"
theorem letter_at {c : Int} (h0 : 0 ≤ c) (h1 : c < 26) : atI lettersZ.cps.toList c = some (97 + c.toNat) := by
  have : ∀ n : Fin 26, atI lettersZ.cps.toList ((n.val : Nat) : Int) = some (97 + n.val) := by decide +kernel
  have h := this ⟨c.toNat, by omega⟩
  rw [show ((c.toNat : Nat) : Int) = c by omega] at h
  exact h
def spNames : Sp := fun vs H Q _ => ∃ (g l q : Addr) (cnt : Int) (ws : List (List Nat)), vs = [.ref g, .int cnt, .ref q] ∧ Bag H g l ∧ q ≠ g ∧ 1 ≤ cnt ∧ cnt ≤ 26 ∧ H q = some (.lst (ws.map vS)) ∧ 1 ≤ ws.length ∧ ws.length ≤ 1000 ∧ (∀ w ∈ ws, w.length ≤ 1000) ∧
  ∀ (p : Addr) (ns : List (List Nat)) (H' : Hp), H p = none → H' p = some (.lst (ns.map vS)) → ns.length = cnt.toNat → ns.Nodup → (∀ n ∈ ns, NmOk n ∨ n ∈ ws) → Bag H' g l → Kp g H H' → Q (.ref p) H'
theorem len_at {c : Int} (h0 : 0 ≤ c) (h5 : c < 5) : ∃ z : Int, atI [V.int 0, .int 1, .int 2, .int 3, .int 10] c = some (.int z) ∧ 0 ≤ z ∧ z ≤ 10 := by
  have : c = 0 ∨ c = 1 ∨ c = 2 ∨ c = 3 ∨ c = 4 := by omega
  rcases this with rfl | rfl | rfl | rfl | rfl
  · exact ⟨0, rfl, by decide, by decide⟩
  · exact ⟨1, rfl, by decide, by decide⟩
  · exact ⟨2, rfl, by decide, by decide⟩
  · exact ⟨3, rfl, by decide, by decide⟩
  · exact ⟨10, rfl, by decide, by decide⟩
theorem kp_none {g p : Addr} {H H' : Hp} (k : Kp g H H') (h : H' p = none) (n : p ≠ g) : H p = none := by
  cases e : H p with
  | none => rfl
  | some o =>
    rw [k _ _ e n] at h
    cases h
theorem joinL_chars : ∀ cs : List Nat, TL.joinL [] (cs.map fun c => [c]) = cs
  | [] => rfl
  | [c] => rfl
  | c :: d :: cs => by
    have ih := joinL_chars (d :: cs)
    show [c] ++ ([] ++ TL.joinL [] ((d :: cs).map fun c => [c])) = _
    rw [ih]
    rfl
theorem join_chars (cs : List Nat) : Txt.join (Str.ofString "") (cs.map fun c => SX.S [c]) = SX.S cs := by
  have h := SX.join_S [] (cs.map fun c => [c])
  rw [List.map_map, joinL_chars] at h
  exact h
theorem cut_to {st : List Nat} {wh : Int} (h0 : 0 ≤ wh) (h1 : wh.toNat ≤ st.length) : cutS (SX.S st) none (some wh) = SX.S (st.take wh.toNat) := by
  have e : HT.sIx (SX.S st).length (SX.S st).length (some wh) = wh.toNat := by
    show (if wh < 0 then _ else min wh.toNat _) = _
    rw [if_neg (by omega), SX.S_len]
    omega
  unfold cutS
  rw [HT.sIx_none, e, Nat.sub_zero, List.drop_zero]
theorem cut_from {st : List Nat} {wh : Int} (h0 : 0 ≤ wh) (h1 : wh.toNat ≤ st.length) : cutS (SX.S st) (some wh) none = SX.S (st.drop wh.toNat) := by
  have e : HT.sIx (SX.S st).length 0 (some wh) = wh.toNat := by
    show (if wh < 0 then _ else min wh.toNat _) = _
    rw [if_neg (by omega), SX.S_len]
    omega
  unfold cutS
  rw [HT.sIx_none, e, SX.S_len, List.take_of_length_le (by rw [List.length_drop]; exact Nat.le_refl _)]
theorem nodup_set {α : Type} {l : List α} {j : Nat} {x : α} (h : l.Nodup) (hx : x ∉ l) : (l.set j x).Nodup := by
  unfold List.Nodup at *
  rw [List.pairwise_iff_getElem] at *
  intro a b ha hb hab
  rw [List.length_set] at ha hb
  rw [List.getElem_set, List.getElem_set]
  split
  · rw [if_neg (by omega)]
    exact fun e => hx (e ▸ List.getElem_mem _)
  · split
    · exact fun e => hx (e ▸ List.getElem_mem _)
    · exact h a b ha hb hab
theorem ixN_in {n : Nat} {i : Int} (h0 : 0 ≤ i) (h1 : i < (n : Int)) : ixN n i = some i.toNat := by
  unfold ixN
  rw [if_pos h0, if_pos h1]
theorem mem_set_of {α : Type} {l : List α} {j : Nat} {x y : α} (h : y ∈ l.set j x) : y = x ∨ y ∈ l := by
  rcases List.mem_or_eq_of_mem_set h with h | h
  · exact .inr h
  · exact .inl h
theorem inV_names {ns : List (List Nat)} {x : List Nat} : inV (vS x) (ns.map vS) = decide (x ∈ ns) := by
  unfold inV
  rw [List.any_map, Bool.eq_iff_iff, List.any_eq_true, decide_eq_true_iff]
  constructor
  · rintro ⟨y, hy, e⟩
    have e2 : (SX.S y == SX.S x) = true := e
    rw [SX.S_beq, beq_iff_eq] at e2
    exact e2 ▸ hy
  · intro h
    refine ⟨x, h, ?_⟩
    show (SX.S x == SX.S x) = true
    rw [SX.S_beq, beq_iff_eq]
theorem flat_names (ns : List (List Nat)) : (ns.map vS).all flatV = true := by
  rw [List.all_map, List.all_eq_true]
  intro x _
  rfl
/-- what the names are, once they stand -/
def NmsOk (ns ws : List (List Nat)) (cnt : Int) : Prop := ns.length = cnt.toNat ∧ ns.Nodup ∧ ∀ n ∈ ns, NmOk n ∨ n ∈ ws
theorem nms_set {ns ws : List (List Nat)} {cnt : Int} {j : Nat} {x : List Nat} (h : NmsOk ns ws cnt) (hx : x ∉ ns) (ok : NmOk x ∨ x ∈ ws) : NmsOk (ns.set j x) ws cnt :=
  ⟨by rw [List.length_set]; exact h.1, nodup_set h.2.1 hx, fun n hn => by
    rcases mem_set_of hn with rfl | hn
    · exact ok
    · exact h.2.2 n hn⟩
theorem nms_range {st : List Nat} {wh : Nat} {sh lo cnt : Int} {ws : List (List Nat)} (hw : wh ≤ st.length) (hs : st.length ≤ 10) (hc : ∀ c ∈ st, 97 ≤ c ∧ c < 123) (h0 : 0 ≤ sh) (h1 : sh < 26) (hcn : cnt ≤ 26) :
    NmsOk ((List.range cnt.toNat).map fun k => nmAt st wh sh lo k) ws cnt := by
  refine ⟨by rw [List.length_map, List.length_range], ?_, fun n hn => ?_⟩
  · unfold List.Nodup
    rw [List.pairwise_map]
    refine List.Pairwise.imp_of_mem ?_ List.nodup_range
    intro a b ha hb hab e
    rw [List.mem_range] at ha hb
    exact hab (nm_inj hw (by omega) (by omega) e)
  · obtain ⟨k, _, rfl⟩ := List.mem_map.mp hn
    exact .inl (nm_ok hs hc h0 h1)
section
variable {P : Program} {w : World} {K : PySem.W.Frag} {mg : Str → Option Value} {base : Heap} {A : Ad}
theorem ok_l_names (T : Txt K mg A) : FnOk P w K mg base CX0 2 A.l_names A.fd_l_names P_l_names spNames := by
  refine T.F_l_names.ok sc_l_names (fun vs H Q E h => ?_) (fun cdv Ar outer s H vs Q E hr h => ?_)
  · obtain ⟨g, l, q, cnt, ws, rfl, _⟩ := h
    rfl
  · obtain ⟨g, l, q, cnt, ws, rfl, hB, nqg, hc1, hc26, hq, hw1, hw2, hw3, k⟩ := h
    refine ⟨_, (pss_cons (ps_set (i := 3) sc_l_names.nd rfl (Or.inr rfl) pe_str)
      (pss_cons (ps_set (i := 4) sc_l_names.nd rfl (Or.inl rfl) (pe_ix ix_list (pe_lst (pa_cons pe_int (pa_cons pe_int (pa_cons pe_int (pa_cons pe_int (pa_cons pe_int pa_nil)))))) (pe_call (ok_l_draw T) (hr.mono (by decide)) (by rfl) T.g__law_draw T.F_l_draw.kp T.b_l_draw .nil pass0 (pa_cons (pv 0) (pa_cons pe_int pa_nil))) (fun _ _ => rfl)))
      (pss_cons (ps_set (i := 5) sc_l_names.nd rfl (Or.inl rfl) (pe_join pe_str (pe_g (pe_lcV (own := [("_law_k", 10)]) rfl sc_l_names.nd (pi_range1 rfl T.z_range (pa_cons (pv 4) pa_nil)) (blkOk_by (own := [("_law_k", 10)]) (N := N_l_names) (sc := defScope s_l_names) (by decide +kernel)) (fun _ _ _ _ _ => (pg_name (i := 10) sc_l_names.nd rfl (Or.inl rfl))) (fun _ _ _ _ _ => pts_nil) (fun _ _ _ _ _ => (pe_ix ix_str (pv 3) (pe_call (ok_l_draw T) (hr.mono (by decide)) (by rfl) T.g__law_draw T.F_l_draw.kp T.b_l_draw .nil pass0 (pa_cons (pv 0) (pa_cons pe_int pa_nil))) (fun _ _ => rfl))) (fun _ _ _ _ _ => rfl) (fun _ _ _ _ _ => rfl) (fun _ _ _ _ _ => rfl)))))
      (pss_cons (ps_set (i := 6) sc_l_names.nd rfl (Or.inl rfl) (pe_call (ok_l_draw T) (hr.mono (by decide)) (by rfl) T.g__law_draw T.F_l_draw.kp T.b_l_draw .nil pass0 (pa_cons (pv 0) (pa_cons (pe_op op_add (pv 4) pe_int) pa_nil))))
      (pss_cons (ps_set (i := 7) sc_l_names.nd rfl (Or.inl rfl) (pe_call (ok_l_draw T) (hr.mono (by decide)) (by rfl) T.g__law_draw T.F_l_draw.kp T.b_l_draw .nil pass0 (pa_cons (pv 0) (pa_cons pe_int pa_nil))))
      (pss_cons (ps_set (i := 8) sc_l_names.nd rfl (Or.inl rfl) (pe_call (ok_l_draw T) (hr.mono (by decide)) (by rfl) T.g__law_draw T.F_l_draw.kp T.b_l_draw .nil pass0 (pa_cons (pv 0) (pa_cons pe_int pa_nil))))
      (pss_cons (ps_set (i := 9) sc_l_names.nd rfl (Or.inl rfl) (pe_lst pa_nil))
      (pss_cons (ps_g (ps_for PassesOwn.never rfl (pi_range1 rfl T.z_range (pa_cons (pv 1) pa_nil)) (pg_name (i := 10) sc_l_names.nd rfl (Or.inl rfl)) (pss_cons (ps_set (i := 11) sc_l_names.nd rfl (Or.inl rfl) (pe_op op_add_str (pe_op op_add_str (pe_slice sl_str (pv 5) po_none (po_some (pv 6))) (pe_ix ix_str (pv 3) (pe_op op_mod (pe_callTy call_int1 (by rfl) T.z_int (by decide +kernel) (pa_cons (pe_op op_add (pv 7) (pe_op op_mul pe_int (pv 10))) pa_nil)) pe_int) (fun _ _ => rfl))) (pe_slice sl_str (pv 5) (po_some (pv 6)) po_none)))
      (pss_one (ps_expr (pe_bm PySem.F.plainAttrs_list PySem.F.slot_list_append PySem.F.type_list_append mt_append (pv 9) (pa_cons (pe_op op_add_str (pv 11) (pe_op op_mul01 (pe_ix ix_str (pv 3) (pv 7) (fun _ _ => rfl)) (pe_callTy call_int1 (by rfl) T.z_int (by decide +kernel) (pa_cons (pe_cmpR op_eq (pe_op op_mod (pe_callTy call_int1 (by rfl) T.z_int (by decide +kernel) (pa_cons (pv 10) pa_nil)) pe_int) (pv 8) (nomark _)) pa_nil)))) pa_nil)))))))
      (pss_g (Evl.pss_cut (ps_if (PW.pt (pw_and (pt_cmpR op_gt (pv 1) pe_int (nomark _)) (pw_and (pt_cmpR op_lt (pv 4) pe_int (nomark _)) (pw_and1 (pt_cmpR op_eq (pv 8) pe_int (nomark _)))))) (pss_one (ps_asg (pe_op op_add_str (pe_ix ix_list (pv 9) pe_int (fun _ _ => rfl)) (pe_ix ix_str (pv 3) (pe_call (ok_l_draw T) (hr.mono (by decide)) (by rfl) T.g__law_draw T.F_l_draw.kp T.b_l_draw .nil pass0 (pa_cons (pv 0) (pa_cons pe_int pa_nil))) (fun _ _ => rfl))) (pg_sub (pv 9) pe_int set_list))) pss_nil)
      (pss_cons (ps_set (i := 12) sc_l_names.nd rfl (Or.inl rfl) (pe_call (ok_l_draw T) (hr.mono (by decide)) (by rfl) T.g__law_draw T.F_l_draw.kp T.b_l_draw .nil pass0 (pa_cons (pv 0) (pa_cons (pe_op op_mul pe_int (pv 1)) pa_nil))))
      (pss_cons (ps_set (i := 13) sc_l_names.nd rfl (Or.inl rfl) (pe_ix ix_list (pv 2) (pe_call (ok_l_draw T) (hr.mono (by decide)) (by rfl) T.g__law_draw T.F_l_draw.kp T.b_l_draw .nil pass0 (pa_cons (pv 0) (pa_cons (pe_callB call_len_seq (by rfl) T.z_len (by decide +kernel) (pa_cons (pv 2) pa_nil)) pa_nil))) (fun _ _ => rfl)))
      (pss_g (Evl.pss_cut (ps_if (PW.pt (pw_and (pt_cmpR op_lt (pv 12) (pv 1) (nomark _)) (pw_and1 (pt_cmpR op_notIn_seq (pv 13) (pv 9) (by rfl))))) (pss_one (ps_asg (pv 13) (pg_sub (pv 9) (pv 12) set_list))) pss_nil)
      (pss_one (ps_ret (pv 9))))))))))))))))), ?_⟩
    walk_at "go"
    intro p1 hp1
    have B1 := hB.new (o := .lst [V.int 0, .int 1, .int 2, .int 3, .int 10]) hp1
    have nq1 := ne_of_none hq hp1
    have hq1 := Same.new (o := .lst [V.int 0, .int 1, .int 2, .int 3, .int 10]) hp1 _ _ hq
    walk_at "go"
    intro c0 H2 c00 c01 B2 K2
    obtain ⟨sz, hsz, hsz0, hsz1⟩ := len_at c00 c01
    have hl2 := K2 _ _ upd_same (hB.ne hp1).1
    have hq2 := K2 _ _ hq1 nqg
    have K02 : Kp g H H2 := (Kp.same (Same.new hp1)).trans K2
    refine ⟨p1, _, _, _, rfl, rfl, SqL.of hl2, hsz, ?_⟩
    refine ⟨⟨_, rfl⟩, ?_⟩
    refine ⟨⟨_, rfl, _, rfl, by omega, by omega, fun D hD => ?_⟩⟩
    have nD := (B2.ne hD).1
    have hD0 : H D = none := kp_none K02 hD nD
    refine lc_range (fun i H' => Wd (∃ cs : List Nat, cs.length = i ∧ (∀ c ∈ cs, 97 ≤ c ∧ c < 123) ∧ H' D = some (.lst (cs.map fun c => vS [c])) ∧ Bag H' g l ∧ Kp g H H')) ⟨[], rfl, fun c h => (by cases h), upd_same, B2.new hD, K02.new hD⟩ ?_ ?_
    · rintro i H3 hi ⟨cs, hcl, hcs, hD3, B3, K3⟩
      refine ⟨rfl, ⟨_, rfl, _, rfl, g, l, _, rfl, B3, by decide, by decide, fun n H4 n0 n1 B4 K4 => ?_⟩⟩
      refine ⟨_, _, _, rfl, rfl, (by decide : lettersZ.length ≤ sizeLine), letter_at n0 n1, _, K4 _ _ hD3 nD, ?_, ?_⟩
      · rw [List.length_map, hcl]
        exact Nat.lt_of_lt_of_le (by omega : i < 100) (by decide)
      · refine ⟨cs ++ [97 + n.toNat], by rw [List.length_append, hcl]; rfl, fun c hm => ?_, ?_, B4.put (B2.ne hD), (K3.trans K4).put hD0⟩
        · rcases List.mem_append.mp hm with hm | hm
          · exact hcs c hm
          · rw [List.mem_singleton] at hm
            omega
        · rw [upd_same, List.map_append]
          rfl
    · rintro H3 ⟨st, hsl, hst, hD3, B3, K3⟩
      have hq3 := K3 _ _ hq nqg
      refine ⟨_, D, st.map fun c => SX.S [c], rfl, rfl, .inl (SqL.of (by rw [List.map_map]; exact hD3)), ?_, ?_⟩
      · have e : ∀ cs : List Nat, ((cs.map fun c => SX.S [c]).map (·.length)).sum = cs.length := fun cs => by
          induction cs with
          | nil => rfl
          | cons c cs ih =>
            rw [List.map_cons, List.map_cons, List.sum_cons, ih, List.length_cons, Nat.add_comm]
            rfl
        rw [e, List.length_map, hsl]
        show sz.toNat + sz.toNat * 0 ≤ _
        omega
      · rw [join_chars]
        have hz9 : (sz + 1).natAbs < 2 ^ 9000 := lt_pow (a := 10) (by omega) (by decide)
        walk_at "go"
        intro wh H4 wh0 wh1 B4 K4
        walk_at "go"
        intro sh H5 sh0 sh1 B5 K5
        walk_at "go"
        intro lo H6 lo0 lo1 B6 K6
        walk_at "go"
        intro f hf
        have K36 := K4.trans (K5.trans K6)
        have K6' := K3.trans K36
        have nf := B6.ne hf
        have hf0 : H f = none := kp_none K6' hf nf.1
        have hq6 := K6' _ _ hq nqg
        have hwl : wh.toNat ≤ st.length := by omega
        have c1 : cutS (SX.S st) none (some wh) = SX.S (st.take wh.toNat) := cut_to wh0 hwl
        have c2 : cutS (SX.S st) (some wh) none = SX.S (st.drop wh.toNat) := cut_from wh0 hwl
        have sl : ∀ l : List Nat, l.length ≤ 1000 → (SX.S l).length ≤ sizeLine := fun l h => by
          rw [SX.S_len]
          exact Nat.le_trans h (by decide)
        refine ⟨⟨_, rfl, _, rfl, by omega, by omega, for_range (lo := 0) (n := cnt.toNat) (fun i σ' H' => Wd (∃ o10 o11 : Option V, σ' = [some (.ref g), some (.int cnt), some (.ref q), some (.str lettersZ), some (.int sz), some (vS st), some (.int wh), some (.int sh), some (.int lo), some (.ref f), o10, o11, none, none] ∧
          H' = upd H6 f (.lst ((List.range i).map fun k => vS (nmAt st wh.toNat sh lo k))))) ⟨none, none, rfl, rfl⟩ ?_ ?_⟩⟩
        · rintro i σ' H7 hi ⟨o10, o11, rfl, rfl⟩
          refine ⟨_, rfl, _, rfl, wh, rfl, _, rfl, sl st (by omega), ?_⟩
          rw [c1]
          have hi26 : (i : Int) < 26 := by omega
          refine ⟨_, rfl, _, rfl, _, rfl, _, _, rfl, rfl, .inl ⟨by decide, by decide⟩, _, _, rfl, rfl, .inl ⟨_, rfl, _, _, rfl, rfl, (show (0 : Int) < 26 by decide), _, _, _, rfl, rfl, (by decide : lettersZ.length ≤ sizeLine), letter_at (Int.emod_nonneg _ (by decide)) (Int.emod_lt_of_pos _ (by decide)), ?_⟩⟩
          have e1 : SX.S (st.take wh.toNat) ++ (⟨#[97 + ((sh + 7 * (0 + (i : Int))) % 26).toNat]⟩ : Str) = SX.S (st.take wh.toNat ++ [97 + ((sh + 7 * (i : Int)) % 26).toNat]) := by
            rw [Int.zero_add]
            exact SX.S_cat _ _
          have l1 : (st.take wh.toNat).length ≤ 10 := by
            rw [List.length_take]
            omega
          have l2 : (st.drop wh.toNat).length ≤ 10 := by
            rw [List.length_drop]
            omega
          refine ⟨_, _, rfl, rfl, ?_, ?_⟩
          · rw [SX.S_len]
            exact Nat.le_trans (by show _ + 1 ≤ 1000; omega) (by decide : 1000 ≤ sizeLine)
          rw [e1]
          refine ⟨_, rfl, _, rfl, wh, rfl, _, rfl, sl st (by omega), ?_⟩
          rw [c2]
          refine ⟨_, _, rfl, rfl, ?_, ?_⟩
          · rw [SX.S_len, SX.S_len, List.length_append]
            exact Nat.le_trans (by rw [List.length_singleton]; omega) (by decide : 1000 ≤ sizeLine)
          rw [SX.S_cat]
          refine ⟨_, rfl, .inl ⟨rfl, _, SqL.of upd_same⟩, _, rfl, _, rfl, _, rfl, _, _, _, rfl, rfl, (by decide : lettersZ.length ≤ sizeLine), letter_at sh0 sh1, ?_⟩
          refine ⟨_, rfl, .inl ⟨_, rfl, _, _, rfl, rfl, (show (0 : Int) < 3 by decide), _, rfl, rfl, .inr ⟨_, rfl, ?_⟩⟩⟩
          refine ⟨_, _, rfl, rfl, ?_, ?_⟩
          · split
            · exact .inr rfl
            · exact .inl rfl
          have e2 : SX.S (st.take wh.toNat ++ [97 + ((sh + 7 * (i : Int)) % 26).toNat] ++ st.drop wh.toNat) ++ (if (if (decide (V.int ((0 + (i : Int)) % 3) = V.int lo)) = true then (1 : Int) else 0) = 0 then Str.empty else (⟨#[97 + sh.toNat]⟩ : Str)) = SX.S (nmAt st wh.toNat sh lo i) := by
            unfold nmAt
            rw [Int.zero_add]
            by_cases e : (i : Int) % 3 = lo
            · rw [if_pos (decide_eq_true (congrArg V.int e)), if_neg (by decide), if_pos e]
              exact SX.S_cat _ _
            · rw [if_neg (fun z => e (V.int.inj (of_decide_eq_true z))), if_pos rfl, if_neg e]
              exact SX.S_cat _ []
          refine ⟨_, _, rfl, rfl, ?_, ?_⟩
          · rw [SX.S_len, List.length_append, List.length_append, List.length_singleton]
            refine Nat.le_trans (Nat.add_le_add_left (m := 1) ?_ _) (Nat.le_trans (by omega : _ ≤ 1000) (by decide : 1000 ≤ sizeLine))
            split
            · rw [if_neg (by decide)]
              exact Nat.le_refl 1
            · rw [if_pos rfl]
              exact Nat.zero_le 1
          rw [e2]
          refine ⟨f, _, _, rfl, rfl, upd_same, ?_, _, _, rfl, ?_⟩
          · rw [List.length_map, List.length_range]
            exact Nat.lt_of_lt_of_le (by omega : i < 1000) (by decide)
          · rw [upd_upd, List.range_succ, List.map_append]
            rfl
        · rintro σ' H7 ⟨o10, o11, rfl, rfl⟩
          have hnm := nms_range (st := st) (wh := wh.toNat) (sh := sh) (lo := lo) (cnt := cnt) (ws := ws) hwl (by omega) hst sh0 sh1 hc26
          have nfq : f ≠ q := fun e => by rw [e, hq6] at hf; cases hf
          refine ⟨⟨fun σ' H' => Wd (∃ (ns : List (List Nat)), σ' = [some (.ref g), some (.int cnt), some (.ref q), some (.str lettersZ), some (.int sz), some (vS st), some (.int wh), some (.int sh), some (.int lo), some (.ref f), o10, o11, none, none] ∧
            H' f = some (.lst (ns.map vS)) ∧ NmsOk ns ws cnt ∧ Bag H' g l ∧ Kp g H H'), ?_, ?_⟩⟩
          · have B7 := B6.new (o := .lst ((List.range cnt.toNat).map fun k => vS (nmAt st wh.toNat sh lo k))) hf
            have K7 : Kp g H (upd H6 f (.lst ((List.range cnt.toNat).map fun k => vS (nmAt st wh.toNat sh lo k)))) := K6'.put hf0
            have stay : Wd (∃ (ns : List (List Nat)), [some (.ref g), some (.int cnt), some (.ref q), some (.str lettersZ), some (.int sz), some (vS st), some (.int wh), some (.int sh), some (.int lo), some (.ref f), o10, o11, none, none] = [some (.ref g), some (.int cnt), some (.ref q), some (.str lettersZ), some (.int sz), some (vS st), some (.int wh), some (.int sh), some (.int lo), some (.ref f), o10, o11, none, none] ∧
              (upd H6 f (.lst ((List.range cnt.toNat).map fun k => vS (nmAt st wh.toNat sh lo k)))) f = some (.lst (ns.map vS)) ∧ NmsOk ns ws cnt ∧ Bag (upd H6 f (.lst ((List.range cnt.toNat).map fun k => vS (nmAt st wh.toNat sh lo k)))) g l ∧ Kp g H (upd H6 f (.lst ((List.range cnt.toNat).map fun k => vS (nmAt st wh.toNat sh lo k))))) :=
              ⟨_, rfl, by rw [upd_same, List.map_map]; rfl, hnm, B7, K7⟩
            walk_at "go"
            refine if_dec (fun e1 => ?_) (fun _ => stay)
            walk_at "go"
            refine if_dec (fun e2 => ?_) (fun _ => stay)
            walk_at "go"
            refine if_int (fun e3 => ?_) (fun _ => stay)
            subst e3
            obtain ⟨m, hm⟩ : ∃ m, cnt.toNat = m + 2 := ⟨cnt.toNat - 2, by omega⟩
            refine ⟨_, rfl, f, _, _, vS (nmAt st wh.toNat sh 3 0), rfl, rfl, SqL.of upd_same, ?_, _, rfl, _, rfl, g, l, _, rfl, B7, by decide, by decide, fun n H8 n0 n1 B8 K8 => ?_⟩
            · refine atI_nat (j := 0) ?_
              rw [List.getElem?_map, List.getElem?_range (by omega)]
              rfl
            have hf8 := K8 _ _ upd_same nf.1
            refine ⟨_, _, _, rfl, rfl, (by decide : lettersZ.length ≤ sizeLine), letter_at n0 n1, _, _, rfl, rfl, ?_, ?_⟩
            · show (SX.S _).length + 1 ≤ _
              rw [SX.S_len, nm_len]
              refine Nat.le_trans ?_ (by decide : 1000 ≤ sizeLine)
              split <;> omega
            have e4 : SX.S (nmAt st wh.toNat sh 3 0) ++ (⟨#[97 + n.toNat]⟩ : Str) = SX.S (nmAt st wh.toNat sh 3 0 ++ [97 + n.toNat]) := SX.S_cat _ _
            have n3 : ∀ k : Nat, ((k : Int) % 3 = 3) = False := fun k => by
              rw [eq_iff_iff]
              exact ⟨fun h => by omega, fun h => h.elim⟩
            have le : ∀ k, (nmAt st wh.toNat sh 3 k).length = st.length + 1 := fun k => by
              rw [nm_len, if_neg (by rw [n3]; exact fun h => h)]
            refine ⟨_, rfl, f, _, _, 1, rfl, rfl, hf8, ?_, ?_⟩
            · rw [List.length_map, List.length_range, hm]
              exact ixN_in (by decide) (by show (1 : Int) < ((m + 2 : Nat) : Int); omega)
            · refine ⟨((List.range cnt.toNat).map fun k => nmAt st wh.toNat sh 3 k).set 1 (nmAt st wh.toNat sh 3 0 ++ [97 + n.toNat]), rfl, ?_, nms_set hnm ?_ (.inl ?_), B8.put nf, (K7.trans K8).put hf0⟩
              · rw [upd_same, List.map_set, List.map_map]
                show some (HO.lst (List.set _ 1 (V.str (SX.S (nmAt st wh.toNat sh 3 0) ++ (⟨#[97 + n.toNat]⟩ : Str))))) = _
                rw [e4]
                rfl
              · intro hm
                obtain ⟨k, _, e⟩ := List.mem_map.mp hm
                have e5 := congrArg List.length e
                rw [List.length_append, le, le, List.length_singleton] at e5
                omega
              · have ok := nm_ok (st := st) (wh := wh.toNat) (sh := sh) (lo := 3) (k := 0) (by omega) hst sh0 sh1
                refine ⟨by rw [List.length_append, le]; omega, by rw [List.length_append, le, List.length_singleton]; omega, fun c hc => ?_⟩
                rcases List.mem_append.mp hc with hc | hc
                · exact ok.2.2 c hc
                · rw [List.mem_singleton] at hc
                  omega
          · rintro σ' H8 ⟨ns, rfl, hf8, hnm8, B8, K8⟩
            have hc9 : (4 * cnt).natAbs < 2 ^ 9000 := lt_pow (a := 10) (by omega) (by decide)
            walk_at "go"
            intro sp H9 sp0 sp1 B9 K9
            have hq9 := (K8.trans K9) _ _ hq nqg
            have hf9 := K9 _ _ hf8 nf.1
            have hw9 : ((ws.map vS).length : Int).natAbs < 2 ^ 9000 := lt_pow (a := 10) (by rw [List.length_map]; omega) (by decide)
            refine ⟨_, rfl, _, rfl, _, rfl, q, _, rfl, .inl (SqL.of hq9), g, l, _, rfl, B9, ?_, hw9, fun wi H10 wi0 wi1 B10 K10 => ?_⟩
            · rw [List.length_map]
              omega
            rw [List.length_map] at wi1
            obtain ⟨j, rfl⟩ := Int.eq_ofNat_of_zero_le wi0
            have hj : j < ws.length := by omega
            have hwj : (ws.map vS)[j]? = some (vS ws[j]) := by rw [List.getElem?_map, List.getElem?_eq_getElem hj]; rfl
            have hq10 := K10 _ _ hq9 nqg
            have hf10 := K10 _ _ hf9 nf.1
            have K10' := (K8.trans K9).trans K10
            refine ⟨q, _, _, _, rfl, rfl, SqL.of hq10, atI_nat hwj, ?_⟩
            refine ⟨⟨fun σ' H' => Wd (∃ (ns : List (List Nat)) (o : List (Option V)), σ' = [some (.ref g), some (.int cnt), some (.ref q), some (.str lettersZ), some (.int sz), some (vS st), some (.int wh), some (.int sh), some (.int lo), some (.ref f)] ++ o ∧
              H' f = some (.lst (ns.map vS)) ∧ NmsOk ns ws cnt ∧ Bag H' g l ∧ Kp g H H'), ?_, ?_⟩⟩
            · walk_at "go"
              refine if_dec (fun e1 => ?_) (fun _ => ⟨ns, [_, _, _, _], rfl, hf10, hnm8, B10, K10'⟩)
              refine ⟨_, rfl, _, rfl, f, _, rfl, .inl (SqL.of hf10), rfl, flat_names ns, _, rfl, ?_⟩
              show if (!inV (vS ws[j]) (ns.map vS)) = true then _ else _
              rw [inV_names]
              by_cases hm : ws[j] ∈ ns
              · rw [decide_eq_true hm]
                exact iteF ⟨ns, [_, _, _, _], rfl, hf10, hnm8, B10, K10'⟩
              · rw [decide_eq_false hm]
                refine iteT ⟨_, rfl, _, rfl, _, rfl, f, _, _, sp.toNat, rfl, rfl, hf10, ?_, ?_⟩
                · rw [List.length_map, hnm8.1]
                  exact ixN_in sp0 (by omega)
                · refine ⟨ns.set sp.toNat ws[j], [_, _, _, _], rfl, ?_, nms_set hnm8 hm (.inr (List.getElem_mem _)), B10.put nf, K10'.put hf0⟩
                  rw [upd_same, List.map_set]
            · rintro σ' H11 ⟨ns, o, rfl, hf11, hnm11, B11, K11⟩
              exact ⟨_, rfl, k f ns H11 hf0 hf11 hnm11.1 hnm11.2.1 hnm11.2.2 B11 K11⟩
end

/-! ### is_name, is_number -/
/-- a plain value: an int, a text or nothing -/
inductive Pl : V → Prop
  | int (i : Int) : Pl (.int i)
  | str (s : Str) : Pl (.str s)
  | non : Pl .non
theorem Pl.flat {v : V} (h : Pl v) : flatV v = true := by cases h <;> rfl
def nameL (cs : List Nat) : Bool := decide (1 ≤ cs.length) && (decide (cs.length ≤ 12) && cs.all fun c => decide (c ∈ lettersZ.cps.toList))
def nameV : V → Bool
  | .str z => nameL z.cps.toList
  | _ => false
def numV (lo : Int) : V → Bool
  | .int n => decide (lo ≤ n) && decide (n ≤ 1000000)
  | _ => false
def spIsName : Sp := fun vs H Q _ => ∃ v : V, vs = [v] ∧ Pl v ∧ (∀ z, v = .str z → z.length ≤ 1000) ∧ ∀ H', Same H H' → Q (.bl (nameV v)) H'
/-- a plain value or a tuple -/
def Pn (H : Hp) (v : V) : Prop := Pl v ∨ ∃ p xs, v = .ref p ∧ H p = some (.tup xs)
def spIsNumber : Sp := fun vs H Q _ => ∃ (v : V) (lo : Int), vs = [v, .int lo] ∧ Pn H v ∧ Q (.bl (numV lo v)) H
section
variable {P : Program} {w : World} {K : PySem.W.Frag} {mg : Str → Option Value} {base : Heap} {A : Ad}
theorem ok_f_is_number (T : Txt K mg A) : FnOk P w K mg base CX0 1 A.f_is_number A.fd_f_is_number P_f_is_number spIsNumber := by
  refine T.F_f_is_number.ok sc_f_is_number (fun vs H Q E h => ?_) (fun cdv Ar outer s H vs Q E hr h => ?_)
  · obtain ⟨v, lo, rfl, _⟩ := h
    rfl
  · obtain ⟨v, lo, rfl, hv, k⟩ := h
    refine ⟨_, (pss_one (ps_ret (pe_and (pe_callB call_isi (by rfl) T.z_isinstance (by decide +kernel) (pa_cons (pv 0) (pa_cons (pe_bltn (v := .ty "int") (by rfl) T.z_int (by decide +kernel) rfl) pa_nil))) (pe_and (pe_not (pe_callB call_isi (by rfl) T.z_isinstance (by decide +kernel) (pa_cons (pv 0) (pa_cons (pe_bltn (v := .ty "bool") (by rfl) T.z_bool (by decide +kernel) rfl) pa_nil)))) (pe_one (pe_chain op_le op_le (pv 1) (pv 0) (pe_glob (v := .int 1000000) (by rfl) T.g_MOST.choose_spec ⟨_, rfl⟩))))))), ?_⟩
    rcases hv with hv | ⟨p, xs, rfl, hp⟩
    case inr => exact ⟨_, rfl, _, _, _, _, _, rfl, .ty "int", .base (.tup hp), kit_ty (b := "int") (r := false) (by decide +kernel), false, rfl, iteF k⟩
    cases hv with
    | int i =>
      refine ⟨_, rfl, _, _, _, _, _, rfl, .ty "int", .base (.int i), kit_ty (b := "int") (r := true) (by decide +kernel), true, rfl, iteT ?_⟩
      refine ⟨_, rfl, _, _, _, _, _, rfl, .ty "bool", .base (.int i), kit_ty (b := "bool") (r := false) (by decide +kernel), ?_⟩
      refine ⟨_, rfl, true, rfl, iteT ?_⟩
      have e : numV lo (.int i) = (decide (lo ≤ i) && decide (i ≤ 1000000)) := rfl
      by_cases h0 : lo ≤ i
      · refine ⟨_, rfl, _, rfl, _, _, rfl, rfl, true, congrArg V.bl (decide_eq_true h0), iteT ?_⟩
        rw [e, decide_eq_true h0, Bool.true_and] at k
        exact ⟨_, _, rfl, rfl, k⟩
      · refine ⟨_, rfl, _, rfl, _, _, rfl, rfl, false, congrArg V.bl (decide_eq_false h0), iteF ?_⟩
        rw [e, decide_eq_false h0, Bool.false_and] at k
        exact k
    | str z => exact ⟨_, rfl, _, _, _, _, _, rfl, .ty "int", .base (.str z), kit_ty (b := "int") (r := false) (by decide +kernel), false, rfl, iteF k⟩
    | non => exact ⟨_, rfl, _, _, _, _, _, rfl, .ty "int", .base .non, kit_ty (b := "int") (r := false) (by decide +kernel), false, rfl, iteF k⟩
theorem ok_f_is_name (T : Txt K mg A) : FnOk P w K mg base CX0 1 A.f_is_name A.fd_f_is_name P_f_is_name spIsName := by
  refine T.F_f_is_name.ok sc_f_is_name (fun vs H Q E h => ?_) (fun cdv Ar outer s H vs Q E hr h => ?_)
  · obtain ⟨v, rfl, _⟩ := h
    rfl
  · obtain ⟨v, rfl, hv, hz, k⟩ := h
    refine ⟨_, (pss_one (ps_ret (pe_and (pe_callB call_isi (by rfl) T.z_isinstance (by decide +kernel) (pa_cons (pv 0) (pa_cons (pe_bltn (v := .ty "str") (by rfl) T.z_str (by decide +kernel) rfl) pa_nil))) (pe_and (pe_chain op_le op_le pe_int (pe_callB (call_len_str) (by rfl) T.z_len (by decide +kernel) (pa_cons (pv 0) pa_nil)) (pe_glob (v := .int 12) (by rfl) T.g_LONGEST.choose_spec ⟨_, rfl⟩)) (pe_one (pe_callB (cr_all rfl) (by rfl) T.z_all (by decide +kernel) (pa_cons (pe_g (pe_lcV (own := [("letter", 1)]) rfl sc_f_is_name.nd (pi_str (pv 0)) (blkOk_by (own := [("letter", 1)]) (N := N_f_is_name) (sc := defScope s_f_is_name) (by decide +kernel)) (fun _ _ _ _ _ => (pg_name (i := 1) sc_f_is_name.nd rfl (Or.inl rfl))) (fun _ _ _ _ _ => pts_nil) (fun _ _ _ _ _ => (pe_cmpR op_in_sign (pv 1) (pe_glob (v := .str "abcdefghijklmnopqrstuvwxyz") (by rfl) T.g_LETTERS.choose_spec ⟨_, rfl⟩) (by rfl))) (fun _ _ _ _ _ => rfl) (fun _ _ _ _ _ => rfl) (fun _ _ _ _ _ => rfl))) pa_nil))))))), ?_⟩
    cases hv with
    | int i => exact ⟨_, rfl, _, _, _, _, _, rfl, .ty "str", .base (.int i), kit_ty (b := "str") (r := false) (by decide +kernel), false, rfl, iteF (k H fun _ _ h => h)⟩
    | non => exact ⟨_, rfl, _, _, _, _, _, rfl, .ty "str", .base .non, kit_ty (b := "str") (r := false) (by decide +kernel), false, rfl, iteF (k H fun _ _ h => h)⟩
    | str z =>
      have hz := hz z rfl
      have hzs : z.length ≤ sizeLine := Nat.le_trans hz (by decide)
      refine ⟨_, rfl, _, _, _, _, _, rfl, .ty "str", .base (.str z), kit_ty (b := "str") (r := true) (by decide +kernel), true, rfl, iteT ?_⟩
      have e : nameV (.str z) = (decide (1 ≤ z.length) && (decide (z.length ≤ 12) && z.cps.toList.all fun c => decide (c ∈ lettersZ.cps.toList))) := rfl
      have e1 : decide ((1 : Int) ≤ (z.length : Int)) = decide (1 ≤ z.length) := by
        rw [decide_eq_decide]
        omega
      have e2 : decide ((z.length : Int) ≤ 12) = decide (z.length ≤ 12) := by
        rw [decide_eq_decide]
        omega
      refine ⟨_, rfl, _, rfl, hzs, _, _, rfl, rfl, decide (1 ≤ z.length), congrArg V.bl e1, ?_⟩
      by_cases h1 : 1 ≤ z.length
      · rw [decide_eq_true h1]
        refine iteT ⟨_, _, rfl, rfl, decide (z.length ≤ 12), congrArg V.bl e2, ?_⟩
        by_cases h2 : z.length ≤ 12
        · rw [decide_eq_true h2]
          refine iteT ⟨⟨_, rfl, z, rfl, fun D hD => ?_⟩⟩
          refine lc_it walk_str (fun i H' => Wd (Same H H' ∧ H' D = some (.lst ((z.cps.toList.take i).map fun c => V.bl (decide (c ∈ lettersZ.cps.toList)))))) ⟨Same.new hD, upd_same⟩ (fun _ _ _ _ => trivial) ?_ ?_
          · rintro i x H1 H2 hi ⟨s1, h1'⟩ ⟨rfl, c, hc, rfl⟩
            have hi' : i < z.cps.toList.length := by simpa using hi
            have hc' : z.cps.toList[i]? = some c := by rw [Array.getElem?_toList]; exact hc
            refine ⟨rfl, _, rfl, c, _, rfl, rfl, _, h1', ?_, Same.at_new hD s1, ?_⟩
            · rw [List.length_map, List.length_take]
              exact Nat.lt_of_lt_of_le (by have : z.cps.toList.length = z.length := by simp [Str.length]
                                           omega : _ < 1000) (by decide)
            · rw [upd_same, take_more hc', List.map_append]
              rfl
          · rintro H1 ⟨s1, h1'⟩
            refine ⟨D, z.cps.toList.map fun c => decide (c ∈ lettersZ.cps.toList), rfl, SqL.of ?_, ?_⟩
            · rw [h1', List.take_of_length_le (by simp), List.map_map]
              rfl
            · have kk := k H1 s1
              rw [e, decide_eq_true h1, decide_eq_true h2, Bool.true_and, Bool.true_and] at kk
              rw [List.all_map]
              exact kk
        · rw [decide_eq_false h2]
          refine iteF ?_
          have kk := k H fun _ _ h => h
          rw [e, decide_eq_false h2, Bool.false_and, Bool.and_false] at kk
          exact kk
      · rw [decide_eq_false h1]
        refine iteF ⟨_, rfl, iteF ?_⟩
        have kk := k H fun _ _ h => h
        rw [e, decide_eq_false h1, Bool.false_and] at kk
        exact kk
end

/-! ### is_entry -/
def entOk (v0 v1 v2 : V) : Bool := nameV v1 && (if (eqV v0 (.str "buy") || eqV v0 (.str "sell") || eqV v0 (.str "back")) = true then numV 1 v2 else if eqV v0 (.str "late") = true then nameV v2 else false)
def shortV (v : V) : Prop := ∀ z, v = .str z → z.length ≤ 1000
def EntTup (H : Hp) (v v0 v1 v2 : V) : Prop := ∃ p, v = .ref p ∧ H p = some (.tup [v0, v1, v2]) ∧ Pl v0 ∧ Pl v1 ∧ Pl v2 ∧ shortV v1 ∧ shortV v2
/-- what is no tuple of three things -/
def NoEnt (H : Hp) (v : V) : Prop := Pl v ∨ ∃ p xs, v = .ref p ∧ (H p = some (.lst xs) ∨ (H p = some (.tup xs) ∧ xs.length ≠ 3 ∧ xs.length ≤ 1000))
def spIsEntry : Sp := fun vs H Q _ => ∃ v : V, vs = [v] ∧ ((∃ v0 v1 v2, EntTup H v v0 v1 v2 ∧ ∀ H', Same H H' → Q (.bl (entOk v0 v1 v2)) H') ∨ (NoEnt H v ∧ ∀ H', Same H H' → Q (.bl false) H'))
section
variable {P : Program} {w : World} {K : PySem.W.Frag} {mg : Str → Option Value} {base : Heap} {A : Ad}
theorem ok_f_is_entry (T : Txt K mg A) : FnOk P w K mg base CX0 2 A.f_is_entry A.fd_f_is_entry P_f_is_entry spIsEntry := by
  refine T.F_f_is_entry.ok sc_f_is_entry (fun vs H Q E h => ?_) (fun cdv Ar outer s H vs Q E hr h => ?_)
  · obtain ⟨v, rfl, _⟩ := h
    rfl
  · obtain ⟨v, rfl, h⟩ := h
    refine ⟨_, (pss_cons (ps_if (PW.pt (pw_or (pt_not (pt_val (pe_callB call_isi (by rfl) T.z_isinstance (by decide +kernel) (pa_cons (pv 0) (pa_cons (pe_bltn (v := .ty "tuple") (by rfl) T.z_tuple (by decide +kernel) rfl) pa_nil))))) (pw_or (pt_cmpR op_ne (pe_callB call_len_seq (by rfl) T.z_len (by decide +kernel) (pa_cons (pv 0) pa_nil)) pe_int (nomark _)) (pw_or1 (pt_not (pt_val (pe_call (ok_f_is_name T) (hr.mono (by decide)) (by rfl) T.g_is_name T.F_f_is_name.kp T.b_f_is_name .nil pass0 (pa_cons (pe_ix ix_tup (pv 0) pe_int (fun _ _ => rfl)) pa_nil)))))))) (pss_one (ps_ret pe_bl)) pss_nil)
      (pss_cons (ps_match3 (w1 := "buy") (w2 := "sell") (w3 := "back") (w4 := "late") (i1 := 1) (i2 := 2) rfl hr.units sc_f_is_entry.nd rfl (Or.inl rfl) rfl (Or.inl rfl) (pv 0) (pss_one (ps_ret (pe_call (ok_f_is_number T) (hr.mono (by decide)) (by rfl) T.g_is_number T.F_f_is_number.kp T.b_f_is_number .nil pass0 (pa_cons (pv 1) (pa_cons pe_int pa_nil))))) (pss_one (ps_ret (pe_call (ok_f_is_name T) (hr.mono (by decide)) (by rfl) T.g_is_name T.F_f_is_name.kp T.b_f_is_name .nil pass0 (pa_cons (pv 2) pa_nil)))))
      (pss_one (ps_ret pe_bl)))), ?_⟩
    rcases h with ⟨v0, v1, v2, ⟨p, rfl, hp, h0, h1, h2, s1, s2⟩, k⟩ | ⟨hN, k⟩
    · refine ⟨_, rfl, _, _, _, _, _, rfl, .ty "tuple", .base (.tup hp), kit_ty (b := "tuple") (r := true) (by decide +kernel), _, rfl, iteF ?_⟩
      refine ⟨_, rfl, p, _, rfl, .inr (SqT.of hp), rfl, _, rfl, iteF ?_⟩
      refine ⟨_, rfl, p, _, _, v1, rfl, rfl, SqT.of hp, rfl, v1, rfl, h1, s1, fun H1 e1 => ⟨_, rfl, ?_⟩⟩
      cases n1 : nameV v1 with
      | false =>
        refine iteT ?_
        have kk := k H1 e1
        unfold entOk at kk
        rw [n1, Bool.false_and] at kk
        exact kk
      | true =>
        have hp1 := e1 _ _ hp
        refine iteF ⟨_, rfl, p, v0, v1, v2, rfl, hp1, h0.flat, ?_⟩
        have kk := fun H' (e : Same H1 H') => k H' (e1.trans e)
        unfold entOk at kk
        rw [n1, Bool.true_and] at kk
        split
        · next e =>
          rw [if_pos e] at kk
          exact ⟨_, rfl, v2, 1, rfl, .inl h2, kk H1 fun _ _ h => h⟩
        · next e =>
          rw [if_neg e] at kk
          split
          · next e' =>
            rw [if_pos e'] at kk
            exact ⟨_, rfl, v2, rfl, h2, s2, fun H' s' => kk H' s'⟩
          · next e' =>
            rw [if_neg e'] at kk
            exact kk H1 fun _ _ h => h
    · rcases hN with hv | ⟨p, xs, rfl, hp | ⟨hp, hl, hz⟩⟩
      · cases hv with
        | int i => exact ⟨_, rfl, _, _, _, _, _, rfl, .ty "tuple", .base (.int i), kit_ty (b := "tuple") (r := false) (by decide +kernel), _, rfl, iteT (k H fun _ _ h => h)⟩
        | str z => exact ⟨_, rfl, _, _, _, _, _, rfl, .ty "tuple", .base (.str z), kit_ty (b := "tuple") (r := false) (by decide +kernel), _, rfl, iteT (k H fun _ _ h => h)⟩
        | non => exact ⟨_, rfl, _, _, _, _, _, rfl, .ty "tuple", .base .non, kit_ty (b := "tuple") (r := false) (by decide +kernel), _, rfl, iteT (k H fun _ _ h => h)⟩
      · exact ⟨_, rfl, _, _, _, _, _, rfl, .ty "tuple", .base (.lst hp), kit_ty (b := "tuple") (r := false) (by decide +kernel), _, rfl, iteT (k H fun _ _ h => h)⟩
      · refine ⟨_, rfl, _, _, _, _, _, rfl, .ty "tuple", .base (.tup hp), kit_ty (b := "tuple") (r := true) (by decide +kernel), _, rfl, iteF ?_⟩
        refine ⟨_, rfl, p, _, rfl, .inr (SqT.of hp), rfl, _, rfl, ?_⟩
        refine ifNF (fun e => hl ?_) (k H fun _ _ h => h)
        have := V.int.inj e
        omega
end

/-! ### a book's entries -/
structure En where
  d : Int
  n : Int
  e : Addr
  kd : Str
  nm : Str
  x : V
def kvE (es : List En) : List (List L2.Key × V) := kvT (es.map fun t => (t.d, t.n, V.ref t.e))
abbrev keyE (d n : Int) : List L2.Key := [.inl d, .inl n]
def isE (d n : Int) (t : En) : Bool := decide (t.d = d) && decide (t.n = n)
theorem isE_iff {d n : Int} {t : En} : isE d n t = true ↔ t.d = d ∧ t.n = n := by
  unfold isE
  rw [Bool.and_eq_true, decide_eq_true_iff, decide_eq_true_iff]
theorem keyE_eq {d n : Int} {t : En} : (([.inl t.d, .inl t.n] : List L2.Key) = keyE d n) ↔ isE d n t = true := by
  rw [isE_iff]
  constructor
  · intro h
    injection h with h1 h2
    injection h2 with h2 _
    exact ⟨Sum.inl.inj h1, Sum.inl.inj h2⟩
  · rintro ⟨rfl, rfl⟩
    rfl
def atE (es : List En) (d n : Int) : Option En := es.find? (isE d n)
def dropE (es : List En) (d n : Int) : List En := es.filter fun t => !isE d n t
def putE (es : List En) (t : En) : List En := if (atE es t.d t.n).isSome = true then es.map (fun u => if isE t.d t.n u = true then t else u) else es ++ [t]
theorem val_kvE {d n : Int} : ∀ es : List En, valV (kvE es) (keyE d n) = (atE es d n).map fun t => V.ref t.e
  | [] => rfl
  | t :: es => by
    have ih := val_kvE (d := d) (n := n) es
    by_cases h : isE d n t = true
    · rw [show kvE (t :: es) = ([.inl t.d, .inl t.n], V.ref t.e) :: kvE es from rfl, valV_pos (keyE_eq.mpr h)]
      unfold atE
      rw [List.find?_cons, h]
      rfl
    · rw [show kvE (t :: es) = ([.inl t.d, .inl t.n], V.ref t.e) :: kvE es from rfl, valV_neg (fun e => h (keyE_eq.mp e)), ih]
      unfold atE
      rw [List.find?_cons, (by simpa using h : isE d n t = false)]
theorem drop_kvE {d n : Int} : ∀ es : List En, dropK (kvE es) (keyE d n) = kvE (dropE es d n)
  | [] => rfl
  | t :: es => by
    have ih := drop_kvE (d := d) (n := n) es
    unfold dropK at ih ⊢
    unfold dropE at ih ⊢
    rw [show kvE (t :: es) = ([.inl t.d, .inl t.n], V.ref t.e) :: kvE es from rfl]
    by_cases h : isE d n t = true
    · rw [List.filter_cons_of_neg (by simp [keyE_eq.mpr h]), List.filter_cons_of_neg (by simp [h]), ih]
    · have hk : decide ((([.inl t.d, .inl t.n] : List L2.Key), V.ref t.e).1 ≠ keyE d n) = true := decide_eq_true fun e => h (keyE_eq.mp e)
      rw [List.filter_cons_of_pos (p := fun kv : List L2.Key × V => decide (kv.1 ≠ keyE d n)) hk, List.filter_cons_of_pos (by simpa using h), ih]
      rfl
theorem put_kvE {es : List En} {t : En} : putK (kvE es) (keyE t.d t.n) (.ref t.e) = kvE (putE es t) := by
  have hany : ((kvE es).any fun kv => decide (kv.1 = keyE t.d t.n)) = (atE es t.d t.n).isSome := by
    rw [valV_any, val_kvE, Option.isSome_map]
  unfold putK putE
  rw [hany]
  split
  · unfold kvE kvT
    rw [List.map_map, List.map_map, List.map_map, List.map_map]
    refine List.map_congr_left fun u _ => ?_
    show (if ([.inl u.d, .inl u.n] : List L2.Key) = keyE t.d t.n then _ else _) = _
    by_cases h : isE t.d t.n u = true
    · rw [if_pos (keyE_eq.mpr h)]
      show _ = (fun t : En => (([.inl t.d, .inl t.n] : List L2.Key), V.ref t.e)) (if isE t.d t.n u = true then t else u)
      rw [if_pos h]
      show (([.inl u.d, .inl u.n] : List L2.Key), V.ref t.e) = ([.inl t.d, .inl t.n], V.ref t.e)
      rw [(isE_iff.mp h).1, (isE_iff.mp h).2]
    · rw [if_neg (fun e => h (keyE_eq.mp e))]
      show _ = (fun t : En => (([.inl t.d, .inl t.n] : List L2.Key), V.ref t.e)) (if isE t.d t.n u = true then t else u)
      rw [if_neg h]
  · unfold kvE kvT
    rw [List.map_append, List.map_append]
    rfl
/-- by day and number -/
def leK (a b : Int × Int) : Bool := !SrtO.lexB b a
theorem leK_iff {a b : Int × Int} : leK a b = true ↔ a.1 < b.1 ∨ (a.1 = b.1 ∧ a.2 ≤ b.2) := by
  unfold leK
  rw [Bool.not_eq_true', SrtO.lexB_no]
  omega
def keysE (es : List En) : List (Int × Int) := es.map fun t => (t.d, t.n)
def srtK (es : List En) : List (Int × Int) := (keysE es).mergeSort leK
theorem srtK_uniq {es : List En} {ps : List (Int × Int)} (h : ps.Perm (keysE es)) (hs : ps.Pairwise (fun a b => SrtO.lexB b a = false)) : ps = srtK es := by
  refine List.Perm.eq_of_pairwise (le := fun a b => leK a b = true) (fun a b _ _ h1 h2 => ?_) (hs.imp fun {a b} z => by unfold leK; rw [z]; rfl) ?_ (h.trans (List.mergeSort_perm _ _).symm)
  · rw [leK_iff] at h1 h2
    exact Prod.ext (by omega) (by omega)
  · refine List.pairwise_mergeSort (le := leK) (fun a b c h1 h2 => ?_) (fun a b => ?_) _
    · rw [leK_iff] at h1 h2 ⊢
      omega
    · rw [Bool.or_eq_true, leK_iff, leK_iff]
      omega
theorem mem_srtK {es : List En} {p : Int × Int} : p ∈ srtK es ↔ ∃ t ∈ es, (t.d, t.n) = p := by
  unfold srtK
  rw [(List.mergeSort_perm _ _).mem_iff]
  unfold keysE
  rw [List.mem_map]
theorem len_srtK {es : List En} : (srtK es).length = es.length := by
  unfold srtK keysE
  rw [List.length_mergeSort, List.length_map]
theorem atE_some {es : List En} {d n : Int} {t : En} (h : atE es d n = some t) : t ∈ es ∧ t.d = d ∧ t.n = n := by
  have h1 := List.find?_some h
  exact ⟨List.mem_of_find?_eq_some h, isE_iff.mp h1⟩
theorem atE_mem {es : List En} {t : En} (h : t ∈ es) : ∃ u, atE es t.d t.n = some u := by
  cases e : atE es t.d t.n with
  | some u => exact ⟨u, rfl⟩
  | none =>
    have := List.find?_eq_none.mp e t h
    exact absurd (isE_iff.mpr ⟨rfl, rfl⟩) this
/-- the names of a kind, in the order of the places, each once -/
def namedE (es : List En) (kd : Str) : List (Int × Int) → List Str → List Str
  | [], acc => acc
  | p :: ps, acc => namedE es kd ps (match atE es p.1 p.2 with
    | some t => if t.kd = kd ∧ t.nm ∉ acc then acc ++ [t.nm] else acc
    | none => acc)
def EntsAt (H : Hp) (es : List En) : Prop := ∀ t ∈ es, H t.e = some (.tup [.str t.kd, .str t.nm, t.x])
theorem EntsAt.keep {H H' : Hp} {es : List En} (h : EntsAt H es) (s : ∀ b xs, H b = some (.tup xs) → H' b = some (.tup xs)) : EntsAt H' es := fun t ht => s _ _ (h t ht)
/-- the book at b, its dict at dd -/
def BookAt (C : Addr) (H : Hp) (b dd : Addr) (es : List En) : Prop := (∃ dx, H b = some (.ins C dx [("entries", .ref dd)])) ∧ H dd = some (.dT (kvE es))
theorem BookAt.same {C : Addr} {H H' : Hp} {b dd : Addr} {es : List En} (h : BookAt C H b dd es) (s : Same H H') : BookAt C H' b dd es := by
  obtain ⟨⟨dx, h1⟩, h2⟩ := h
  exact ⟨⟨dx, s _ _ h1⟩, s _ _ h2⟩
theorem mk_excF {C : Addr} {n : Nat} {fs : List V → List (Str × V)} {H : Hp} {ws : List V} {Q : XK} (h : ∀ d H', Same H H' → H d = none → H' d = some (.xd (fs ws)) → Q (.ref C) (some d) H') {a : Addr} (ha : H a = none) (hl : ws.length = n := by rfl) :
    spExcF C n fs (.ref a :: ws) (upd H a (exo a C none)) (fun v H2 => v = .non ∧ ∃ (d : Addr) (fs : List (Str × V)), H2 a = some (exo a C (some d)) ∧ H2 d = some (exd d fs) ∧ H d = none ∧ Q (.ref C) (some d) (upd (del H2 a) d (.xd fs))) (fun _ _ _ => False) := by
  refine ⟨a, ws, rfl, hl, upd_same, fun d H' hd nd keep ea ed => ⟨rfl, d, _, ea, ed, ?_, ?_⟩⟩
  · rw [upd_ne nd] at hd
    exact hd
  · rw [upd_ne nd] at hd
    refine h d _ (fun b o e => ?_) hd upd_same
    have n1 := ne_of_none e ha
    have n2 := ne_of_none e hd
    rw [upd_ne n2, del_ne n1]
    exact keep b o (by rw [upd_ne n1]; exact e) n1

theorem mem_putE {es : List En} {t u : En} (h : u ∈ putE es t) : u = t ∨ u ∈ es := by
  unfold putE at h
  split at h
  · obtain ⟨v, hv, e⟩ := List.mem_map.mp h
    split at e
    · exact .inl e.symm
    · exact .inr (e ▸ hv)
  · rcases List.mem_append.mp h with h | h
    · exact .inr h
    · exact .inl (List.mem_singleton.mp h)
theorem len_putE {es : List En} {t : En} : (putE es t).length ≤ es.length + 1 := by
  unfold putE
  split
  · rw [List.length_map]
    exact Nat.le_succ _
  · rw [List.length_append]
    exact Nat.le_refl _

/-- the places of the entries lie close together: their hashes are apart -/
structure Near (es : List En) : Prop where
  d0 : ∀ u ∈ es, 0 ≤ u.d ∧ u.d < 2 ^ 60
  n0 : ∀ u ∈ es, 0 ≤ u.n ∧ u.n ≤ 1000000
  dd : ∀ u ∈ es, ∀ v ∈ es, u.d ≤ v.d + 1000
theorem Near.sub {es fs : List En} (h : Near es) (s : ∀ u ∈ fs, ∃ v ∈ es, u.d = v.d ∧ u.n = v.n) : Near fs := by
  refine ⟨fun u hu => ?_, fun u hu => ?_, fun u hu v hv => ?_⟩
  · obtain ⟨w, hw, e1, _⟩ := s u hu
    rw [e1]
    exact h.d0 w hw
  · obtain ⟨w, hw, _, e2⟩ := s u hu
    rw [e2]
    exact h.n0 w hw
  · obtain ⟨w, hw, e1, _⟩ := s u hu
    obtain ⟨w2, hw2, e2, _⟩ := s v hv
    rw [e1, e2]
    exact h.dd w hw w2 hw2
theorem key_hashU {P : Program} {w : World} {es : List En} (h : Near es) {u : En} (hu : u ∈ es) : (PySem.tupleKind (mixKind P w)).hash (keyE u.d u.n) = TH.hash2 u.d.toNat u.n.toNat := by
  have a := h.d0 u hu
  have b := h.n0 u hu
  have c : u.n < 2 ^ 60 := Int.lt_of_le_of_lt b.2 (by decide)
  rw [show keyE u.d u.n = [Sum.inl u.d, Sum.inl u.n] from rfl]
  rw [key_hash a.1 a.2 b.1 c]
theorem near_inj {es : List En} (h : Near es) {u v : En} (hu : u ∈ es) (hv : v ∈ es) (z : TH.hash2 u.d.toNat u.n.toNat = TH.hash2 v.d.toNat v.n.toNat) : (u.d, u.n) = (v.d, v.n) := by
  have a := h.d0 u hu
  have b := h.n0 u hu
  have a2 := h.d0 v hv
  have b2 := h.n0 v hv
  have c := h.dd u hu v hv
  have c2 := h.dd v hv u hu
  obtain ⟨e1, e2⟩ := TH.hash2_inj (by omega) (by omega) (by omega) (by omega) z
  have h1 : u.d = v.d := by omega
  have h2 : u.n = v.n := by omega
  rw [h1, h2]
theorem hap_kvE {es : List En} (nd : (keysE es).Nodup) (h : Near es) : HAp (kvE es) := by
  intro P w
  unfold keysE List.Nodup at nd
  rw [List.pairwise_map] at nd
  unfold kvE kvT List.Nodup
  rw [List.pairwise_map, List.pairwise_map, List.pairwise_map]
  refine nd.imp_of_mem fun {u v} hu hv ne z => ne (near_inj h hu hv ?_)
  rw [← key_hashU (P := P) (w := w) h hu, ← key_hashU (P := P) (w := w) h hv]
  exact z

/-! ### the book -/
section
variable {P : Program} {w : World} {K : PySem.W.Frag} {mg : Str → Option Value} {base : Heap} {A : Ad}
def spBookInit (C : Addr) : Sp := fun vs H Q _ => ∃ b dx, vs = [.ref b] ∧ H b = some (.ins C dx []) ∧ ∀ d, H d = none → Q .non (upd (upd H d (.dT [])) b (.ins C dx [("entries", .ref d)]))
theorem ok_m_Book_init (T : Txt K mg A) : FnOk P w K mg base CX0 1 A.m_Book_init A.fd_m_Book_init P_m_Book_init (spBookInit A.Book) := by
  refine T.F_m_Book_init.ok sc_m_Book_init (fun vs H Q E h => ?_) (fun cdv Ar outer s H vs Q E hr h => ?_)
  · obtain ⟨b, dx, rfl, _⟩ := h
    rfl
  · obtain ⟨b, dx, rfl, hb, k⟩ := h
    refine ⟨_, (pss_one (ps_fld (pv 0) (pe_dnewT) rfl)), ?_⟩
    intro d hd
    exact ⟨_, rfl, b, A.Book, dx, [], rfl, by rw [upd_ne (ne_of_none hb hd)]; exact hb, T.cl_Book, T.n_Book_entries, by show 0 < 1000; decide, k d hd⟩
def spContains (C : Addr) : Sp := fun vs H Q _ => ∃ b dd t es d n, vs = [.ref b, .ref t] ∧ BookAt C H b dd es ∧ H t = some (.tup [.int d, .int n]) ∧ Q (.bl (atE es d n).isSome) H
theorem ok_m_Book_contains (T : Txt K mg A) : FnOk P w K mg base CX0 1 A.m_Book_contains A.fd_m_Book_contains P_m_Book_contains (spContains A.Book) := by
  refine T.F_m_Book_contains.ok sc_m_Book_contains (fun vs H Q E h => ?_) (fun cdv Ar outer s H vs Q E hr h => ?_)
  · obtain ⟨b, dd, t, es, d, n, rfl, _⟩ := h
    rfl
  · obtain ⟨b, dd, t, es, d, n, rfl, ⟨⟨dx, hb⟩, hd⟩, ht, k⟩ := h
    refine ⟨_, (pss_one (ps_ret (pe_cmp (pc_din (hu_of hr) (pv 1) (pe_fld (pv 0) rfl)) rfl))), ?_⟩
    refine ⟨_, rfl, _, rfl, b, A.Book, dx, _, _, rfl, hb, T.cl_Book, T.n_Book_entries, rfl, dd, _, rfl, DGet.t (k := keyE d n) hd ht, ?_⟩
    rw [val_kvE, Option.isSome_map]
    exact k
def spLen (C : Addr) : Sp := fun vs H Q _ => ∃ b dd es, vs = [.ref b] ∧ BookAt C H b dd es ∧ Q (.int (es.length : Nat)) H
theorem ok_m_Book_len (T : Txt K mg A) : FnOk P w K mg base CX0 1 A.m_Book_len A.fd_m_Book_len P_m_Book_len (spLen A.Book) := by
  refine T.F_m_Book_len.ok sc_m_Book_len (fun vs H Q E h => ?_) (fun cdv Ar outer s H vs Q E hr h => ?_)
  · obtain ⟨b, dd, es, rfl, _⟩ := h
    rfl
  · obtain ⟨b, dd, es, rfl, ⟨⟨dx, hb⟩, hd⟩, k⟩ := h
    refine ⟨_, (pss_one (ps_ret (pe_callB (call_len_dT) (by rfl) T.z_len (by decide +kernel) (pa_cons (pe_fld (pv 0) rfl) pa_nil)))), ?_⟩
    refine ⟨_, rfl, b, A.Book, dx, _, _, rfl, hb, T.cl_Book, T.n_Book_entries, rfl, dd, _, rfl, hd, ?_⟩
    have e : (kvE es).length = es.length := by unfold kvE kvT; rw [List.length_map, List.length_map]
    rw [e]
    exact k
def noE (n d : V) : List (Str × V) := [("number", n), ("day", d)]
def spGetItem (C CE : Addr) : Sp := fun vs H Q E => ∃ b dd t es d n, vs = [.ref b, .ref t] ∧ BookAt C H b dd es ∧ H t = some (.tup [.int d, .int n]) ∧ (∀ u, atE es d n = some u → Q (.ref u.e) H) ∧
  (atE es d n = none → ∀ x H', Same H H' → H' x = some (.xd (noE (.int n) (.int d))) → E (.ref CE) (some x) H')
theorem ok_m_Book_getitem (T : Txt K mg A) : FnOk P w K mg base (L2.CX P w) 5 A.m_Book_getitem A.fd_m_Book_getitem P_m_Book_getitem (spGetItem A.Book A.NoEntry) := by
  refine T.F_m_Book_getitem.okX sc_m_Book_getitem (fun vs H Q E h => ?_) (fun cdv Ar outer s H vs Q E hr h => ?_)
  · obtain ⟨b, dd, t, es, d, n, rfl, _⟩ := h
    rfl
  · obtain ⟨b, dd, t, es, d, n, rfl, ⟨⟨dx, hb⟩, hd⟩, ht, k1, k2⟩ := h
    refine ⟨_, (pss_cons (ps_asg (pv 1) (pg_tup (n := 2) rfl (pgs_cons (pg_name (i := 2) sc_m_Book_getitem.nd rfl (Or.inl rfl)) (pgs_cons (pg_name (i := 3) sc_m_Book_getitem.nd rfl (Or.inl rfl)) pgs_nil))))
      (pss_cons (ps_if (pt_cmp (pc_dnotin (hu_of hr) (pv 1) (pe_fld (pv 0) rfl))) (pss_one (ps_raise rfl (takes_of rfl rfl rfl rfl) (pmk_oex T.ox_NoEntry T.oi_NoEntry T.ot_NoEntry (ok_m_NoEntry_init T) (hr.mono (by decide)) T.b_m_NoEntry_init .nil pass0 (by rfl) T.g_NoEntry (pa_cons (pv 2) (pa_cons (pv 3) pa_nil))))) pss_nil)
      (pss_one (ps_ret (pe_dget (hu_of hr) (pe_fld (pv 0) rfl) (pv 1) (fun _ _ => rfl)))))), ?_⟩
    refine ⟨_, rfl, t, _, rfl, SqT.of ht, rfl, _, _, rfl, _, _, rfl, rfl, ?_⟩
    refine ⟨_, rfl, _, rfl, b, A.Book, dx, _, _, rfl, hb, T.cl_Book, T.n_Book_entries, rfl, dd, _, rfl, DGet.t (k := keyE d n) hd ht, _, rfl, ?_⟩
    rw [val_kvE, Option.isSome_map]
    cases e : atE es d n with
    | none => exact iteT ⟨_, rfl, _, rfl, (by show 2 ≤ 1000; decide), fun a ha => mk_excF (fun x H' s _ h => k2 e x H' s h) ha⟩
    | some u =>
      refine iteF ⟨_, rfl, b, A.Book, dx, _, _, rfl, hb, T.cl_Book, T.n_Book_entries, rfl, _, rfl, dd, V.ref u.e, rfl, ?_, k1 u e⟩
      have g := DGet.t (k := keyE d n) hd ht
      rw [val_kvE, e] at g
      exact g
def spRemove (C CE : Addr) : Sp := fun vs H Q E => ∃ b dd es d n, vs = [.ref b, .int d, .int n] ∧ BookAt C H b dd es ∧ ((atE es d n).isSome = true → ∀ H', Same H H' → Q .non (upd H' dd (.dT (kvE (dropE es d n))))) ∧
  (atE es d n = none → ∀ x H', Same H H' → H' x = some (.xd (noE (.int n) (.int d))) → E (.ref CE) (some x) H')
theorem ok_m_Book_remove (T : Txt K mg A) : FnOk P w K mg base (L2.CX P w) 5 A.m_Book_remove A.fd_m_Book_remove P_m_Book_remove (spRemove A.Book A.NoEntry) := by
  refine T.F_m_Book_remove.okX sc_m_Book_remove (fun vs H Q E h => ?_) (fun cdv Ar outer s H vs Q E hr h => ?_)
  · obtain ⟨b, dd, es, d, n, rfl, _⟩ := h
    rfl
  · obtain ⟨b, dd, es, d, n, rfl, ⟨⟨dx, hb⟩, hd⟩, k1, k2⟩ := h
    refine ⟨_, (pss_cons (ps_if (pt_cmp (pc_dnotin (hu_of hr) (pe_tup (pa_cons (pv 1) (pa_cons (pv 2) pa_nil))) (pe_fld (pv 0) rfl))) (pss_one (ps_raise rfl (takes_of rfl rfl rfl rfl) (pmk_oex T.ox_NoEntry T.oi_NoEntry T.ot_NoEntry (ok_m_NoEntry_init T) (hr.mono (by decide)) T.b_m_NoEntry_init .nil pass0 (by rfl) T.g_NoEntry (pa_cons (pv 1) (pa_cons (pv 2) pa_nil))))) pss_nil)
      (pss_one (ps_ddelT (hu_of hr) (pe_fld (pv 0) rfl) (pe_tup (pa_cons (pv 1) (pa_cons (pv 2) pa_nil)))))), ?_⟩
    refine ⟨_, rfl, _, rfl, (by show 2 ≤ sizeLine; decide), fun t ht => ?_⟩
    have s1 := Same.new (o := .tup [V.int d, .int n]) ht
    refine ⟨_, rfl, b, A.Book, dx, _, _, rfl, s1 _ _ hb, T.cl_Book, T.n_Book_entries, rfl, dd, _, rfl, DGet.t (k := keyE d n) (s1 _ _ hd) upd_same, _, rfl, ?_⟩
    rw [val_kvE, Option.isSome_map]
    cases e : atE es d n with
    | none => exact iteT ⟨_, rfl, _, rfl, (by show 2 ≤ 1000; decide), fun a ha => mk_excF (fun x H' s _ h => k2 e x H' (s1.trans s) h) ha⟩
    | some u =>
      refine iteF ⟨_, rfl, b, A.Book, dx, _, _, rfl, s1 _ _ hb, T.cl_Book, T.n_Book_entries, rfl, _, rfl, _, rfl, (by show 2 ≤ sizeLine; decide), fun t2 ht2 => ?_⟩
      have s2 := Same.new (o := .tup [V.int d, .int n]) ht2
      refine ⟨dd, t2, _, keyE d n, rfl, rfl, s2 _ _ (s1 _ _ hd), upd_same, ?_, ?_⟩
      · rw [val_kvE, e]
        rfl
      · rw [drop_kvE]
        exact k1 (by rw [e]; rfl) _ (s1.trans s2)
def spPlaces (C : Addr) : Sp := fun vs H Q _ => ∃ b dd es, vs = [.ref b] ∧ BookAt C H b dd es ∧ ∀ bs p, H p = none → All2 (fun b q => H b = some (.tup [.int q.1, .int q.2])) bs (srtK es) → Q (.ref p) (upd H p (.lst (bs.map V.ref)))
theorem ok_m_Book_places (T : Txt K mg A) : FnOk P w K mg base CX0 1 A.m_Book_places A.fd_m_Book_places P_m_Book_places (spPlaces A.Book) := by
  refine T.F_m_Book_places.ok sc_m_Book_places (fun vs H Q E h => ?_) (fun cdv Ar outer s H vs Q E hr h => ?_)
  · obtain ⟨b, dd, es, rfl, _⟩ := h
    rfl
  · obtain ⟨b, dd, es, rfl, ⟨⟨dx, hb⟩, hd⟩, k⟩ := h
    refine ⟨_, (pss_one (ps_ret (pe_callB (cr_sortedDT rfl) (by rfl) T.z_sorted (by decide +kernel) (pa_cons (pe_fld (pv 0) rfl) pa_nil)))), ?_⟩
    refine ⟨_, rfl, b, A.Book, dx, _, _, rfl, hb, T.cl_Book, T.n_Book_entries, rfl, ⟨dd, es.map fun t : En => (t.d, t.n, V.ref t.e), rfl, hd, fun bs ps p hp h2 hperm hs => ?_⟩⟩
    rw [List.map_map] at hperm
    have e := srtK_uniq (es := es) hperm hs
    subst e
    exact k bs p hp h2
def SetOk (H : Hp) (v : V) (ok : Bool) : Prop := (∃ v0 v1 v2, EntTup H v v0 v1 v2 ∧ ok = entOk v0 v1 v2) ∨ (NoEnt H v ∧ ok = false)
def spSetItem (C CE : Addr) : Sp := fun vs H Q E => ∃ b dd t es vd vn v ok, vs = [.ref b, .ref t, v] ∧ BookAt C H b dd es ∧ es.length < 1000 ∧ H t = some (.tup [vd, vn]) ∧ Pn H vd ∧ Pn H vn ∧ SetOk H v ok ∧
  (∀ d n, vd = .int d → vn = .int n → (numV 0 vd && (numV 0 vn && ok)) = true → ∀ H', Same H H' → Q .non (upd H' dd (.dT (putK (kvE es) (keyE d n) v)))) ∧
  ((numV 0 vd && (numV 0 vn && ok)) = false → ∀ x H', Same H H' → H' x = some (.xd (noE vn vd)) → E (.ref CE) (some x) H')
theorem num_int {lo : Int} {v : V} (h : numV lo v = true) : ∃ i, v = .int i := by
  cases v with
  | int i => exact ⟨i, rfl⟩
  | _ => cases h
theorem ok_m_Book_setitem (T : Txt K mg A) : FnOk P w K mg base (L2.CX P w) 5 A.m_Book_setitem A.fd_m_Book_setitem P_m_Book_setitem (spSetItem A.Book A.BadEntry) := by
  refine T.F_m_Book_setitem.okX sc_m_Book_setitem (fun vs H Q E h => ?_) (fun cdv Ar outer s H vs Q E hr h => ?_)
  · obtain ⟨b, dd, t, es, vd, vn, v, ok, rfl, _⟩ := h
    rfl
  · obtain ⟨b, dd, t, es, vd, vn, v, ok, rfl, ⟨⟨dx, hb⟩, hd⟩, hz, ht, hvd, hvn, hok, k1, k2⟩ := h
    refine ⟨_, (pss_cons (ps_asg (pv 1) (pg_tup (n := 2) rfl (pgs_cons (pg_name (i := 3) sc_m_Book_setitem.nd rfl (Or.inl rfl)) (pgs_cons (pg_name (i := 4) sc_m_Book_setitem.nd rfl (Or.inl rfl)) pgs_nil))))
      (pss_cons (ps_if (PW.pt (pw_or (pt_not (pt_val (pe_call (ok_f_is_number T) (hr.mono (by decide)) (by rfl) T.g_is_number T.F_f_is_number.kp T.b_f_is_number .nil pass0 (pa_cons (pv 3) (pa_cons pe_int pa_nil))))) (pw_or (pt_not (pt_val (pe_call (ok_f_is_number T) (hr.mono (by decide)) (by rfl) T.g_is_number T.F_f_is_number.kp T.b_f_is_number .nil pass0 (pa_cons (pv 4) (pa_cons pe_int pa_nil))))) (pw_or1 (pt_not (pt_val (pe_call (ok_f_is_entry T) (hr.mono (by decide)) (by rfl) T.g_is_entry T.F_f_is_entry.kp T.b_f_is_entry .nil pass0 (pa_cons (pv 2) pa_nil)))))))) (pss_one (ps_raise rfl (takes_of rfl rfl rfl rfl) (pmk_oex T.ox_BadEntry T.oi_BadEntry T.ot_BadEntry (ok_m_BadEntry_init T) (hr.mono (by decide)) T.b_m_BadEntry_init .nil pass0 (by rfl) T.g_BadEntry (pa_cons (pv 3) (pa_cons (pv 4) pa_nil))))) pss_nil)
      (pss_one (ps_dput (hu_of hr) (pe_fld (pv 0) rfl) (pv 1) (pv 2) rfl)))), ?_⟩
    refine ⟨_, rfl, t, _, rfl, SqT.of ht, rfl, _, _, rfl, _, _, rfl, rfl, ?_⟩
    refine ⟨_, rfl, vd, 0, rfl, hvd, _, rfl, ?_⟩
    have bad : (numV 0 vd && (numV 0 vn && ok)) = false → ∀ H1, Same H H1 → ∀ a, H1 a = none → _ := fun e H1 s1 a ha => mk_excF (C := A.BadEntry) (n := 2) (fs := fs_BadEntry) (H := H1) (ws := [vd, vn]) (Q := E) (fun x H' s _ h => k2 e x H' (s1.trans s) h) ha
    cases n1 : numV 0 vd with
    | false => exact iteT ⟨_, rfl, _, rfl, (by show 2 ≤ 1000; decide), bad (by rw [n1]; rfl) H fun _ _ h => h⟩
    | true =>
      refine iteF ⟨_, rfl, vn, 0, rfl, hvn, _, rfl, ?_⟩
      cases n2 : numV 0 vn with
      | false => exact iteT ⟨_, rfl, _, rfl, (by show 2 ≤ 1000; decide), bad (by rw [n1, n2]; rfl) H fun _ _ h => h⟩
      | true =>
        refine iteF ⟨_, rfl, v, rfl, ?_⟩
        obtain ⟨d, rfl⟩ := num_int n1
        obtain ⟨n, rfl⟩ := num_int n2
        have hzl : (kvE es).length < sizeLine := by
          unfold kvE kvT
          rw [List.length_map, List.length_map]
          exact Nat.lt_of_lt_of_le hz (by decide)
        rcases hok with ⟨v0, v1, v2, hE, rfl⟩ | ⟨hN, rfl⟩
        · refine .inl ⟨v0, v1, v2, hE, fun H1 s1 => ⟨_, rfl, ?_⟩⟩
          cases e : entOk v0 v1 v2 with
          | false => exact iteT ⟨_, rfl, _, rfl, (by show 2 ≤ 1000; decide), bad (by rw [n1, n2, e]; rfl) H1 s1⟩
          | true =>
            refine iteF ⟨_, rfl, _, rfl, b, A.Book, dx, _, _, rfl, s1 _ _ hb, T.cl_Book, T.n_Book_entries, rfl, _, rfl, dd, _, rfl, DPut.t (k := keyE d n) (s1 _ _ hd) (s1 _ _ ht) hzl, ?_⟩
            exact k1 d n rfl rfl (by rw [n1, n2, e]; rfl) H1 s1
        · refine .inr ⟨hN, fun H1 s1 => ⟨_, rfl, iteT ⟨_, rfl, _, rfl, (by show 2 ≤ 1000; decide), bad (by rw [n1, n2]; rfl) H1 s1⟩⟩⟩
theorem upd_idem {H : Hp} {a : Addr} {o : HO} (h : H a = some o) : H = upd H a o := funext fun b => by
  by_cases e : b = a
  · rw [e, upd_same, h]
  · rw [upd_ne e]
def stepE (es : List En) (kd : Str) (acc : List Str) (p : Int × Int) : List Str := match atE es p.1 p.2 with
  | some t => if t.kd = kd ∧ t.nm ∉ acc then acc ++ [t.nm] else acc
  | none => acc
theorem named_app {es : List En} {kd : Str} {p : Int × Int} : ∀ {ps : List (Int × Int)} {acc : List Str}, namedE es kd (ps ++ [p]) acc = stepE es kd (namedE es kd ps acc) p
  | [], acc => rfl
  | q :: ps, acc => named_app (ps := ps)
theorem step_len {es : List En} {kd : Str} {acc : List Str} {p : Int × Int} : (stepE es kd acc p).length ≤ acc.length + 1 := by
  unfold stepE
  split
  · split
    · rw [List.length_append, List.length_singleton]
      exact Nat.le_refl _
    · exact Nat.le_succ _
  · exact Nat.le_succ _
theorem named_len {es : List En} {kd : Str} : ∀ (ps : List (Int × Int)) {acc : List Str}, (namedE es kd ps acc).length ≤ ps.length + acc.length
  | [], acc => by rw [List.length_nil, Nat.zero_add]; exact Nat.le_refl _
  | p :: ps, acc => by
    have h := named_len (es := es) (kd := kd) ps (acc := stepE es kd acc p)
    have h2 := step_len (es := es) (kd := kd) (acc := acc) (p := p)
    rw [List.length_cons]
    exact Nat.le_trans h (by omega)
theorem inV_strs {ns : List Str} {x : Str} : inV (.str x) (ns.map V.str) = decide (x ∈ ns) := by
  unfold inV
  rw [List.any_map, Bool.eq_iff_iff, List.any_eq_true, decide_eq_true_iff]
  constructor
  · rintro ⟨y, hy, e⟩
    have e2 : (y == x) = true := e
    rw [beq_iff_eq] at e2
    exact e2 ▸ hy
  · intro h
    refine ⟨x, h, ?_⟩
    show (x == x) = true
    rw [beq_iff_eq]
theorem flat_strs (ns : List Str) : (ns.map V.str).all flatV = true := by
  rw [List.all_map, List.all_eq_true]
  intro x _
  rfl
def spNamed (C : Addr) : Sp := fun vs H Q _ => ∃ b dd es kd, vs = [.ref b, .str kd] ∧ BookAt C H b dd es ∧ EntsAt H es ∧ es.length < 1000 ∧ ∀ p H', Same H H' → H p = none → H' p = some (.lst ((namedE es kd (srtK es) []).map V.str)) → Q (.ref p) H'
theorem ok_m_Book_named (T : Txt K mg A) : FnOk P w K mg base CX0 2 A.m_Book_named A.fd_m_Book_named P_m_Book_named (spNamed A.Book) := by
  refine T.F_m_Book_named.ok sc_m_Book_named (fun vs H Q E h => ?_) (fun cdv Ar outer s H vs Q E hr h => ?_)
  · obtain ⟨b, dd, es, kd, rfl, _⟩ := h
    rfl
  · obtain ⟨b, dd, es, kd, rfl, B, hE, hz, k⟩ := h
    refine ⟨_, (pss_cons (ps_set (i := 2) sc_m_Book_named.nd rfl (Or.inl rfl) (pe_lst pa_nil))
      (pss_cons (ps_g (ps_for PassesOwn.never rfl (pi_list (pe_meth0 (pv 0) T.cl_Book T.m_Book_places (ok_m_Book_places T) (hr.mono (by decide)) T.b_m_Book_places .nil pass0)) (pg_name (i := 3) sc_m_Book_named.nd rfl (Or.inl rfl)) (pss_cons (ps_set (i := 4) sc_m_Book_named.nd rfl (Or.inl rfl) (pe_dget (hu_of hr) (pe_fld (pv 0) rfl) (pv 3) (fun _ _ => rfl)))
      (pss_one (ps_if (PW.pt (pw_and (pt_cmpR op_eq (pe_ix ix_tup (pv 4) pe_int (fun _ _ => rfl)) (pv 1) (nomark _)) (pw_and1 (pt_cmpR op_notIn_seq (pe_ix ix_tup (pv 4) pe_int (fun _ _ => rfl)) (pv 2) (by rfl))))) (pss_one (ps_expr (pe_bm PySem.F.plainAttrs_list PySem.F.slot_list_append PySem.F.type_list_append mt_append (pv 2) (pa_cons (pe_ix ix_tup (pv 4) pe_int (fun _ _ => rfl)) pa_nil)))) pss_nil)))))
      (pss_one (ps_ret (pv 2))))), ?_⟩
    refine ⟨Nat.zero_le _, fun f hf => ?_⟩
    have s1 := Same.new (o := .lst []) hf
    have B1 := B.same s1
    obtain ⟨⟨dx, hb⟩, hd⟩ := B1
    refine ⟨⟨_, rfl, b, dx, _, rfl, hb, rfl, b, dd, es, rfl, ⟨⟨dx, hb⟩, hd⟩, fun bs p hp h2 => ?_⟩⟩
    have s2 := Same.new (o := .lst (bs.map V.ref)) hp
    have nfp : f ≠ p := ne_of_none upd_same hp
    have base2 : Same H (upd (upd H f (.lst [])) p (.lst (bs.map V.ref))) := s1.trans s2
    have hfb : (upd (upd H f (.lst [])) p (.lst (bs.map V.ref))) f = some (.lst []) := by rw [upd_ne nfp, upd_same]
    have hpb : (upd (upd H f (.lst [])) p (.lst (bs.map V.ref))) p = some (.lst (bs.map V.ref)) := upd_same
    have hbb := s2 _ _ hb
    have hdb := s2 _ _ hd
    have hkb : ∀ (i : Nat) (x : Addr) (y : Int × Int), bs[i]? = some x → (srtK es)[i]? = some y → (upd (upd H f (.lst [])) p (.lst (bs.map V.ref))) x = some (.tup [.int y.1, .int y.2]) := fun i x y hx hy => s2 _ _ (h2.2 i x y hx hy)
    have hEb : EntsAt (upd (upd H f (.lst [])) p (.lst (bs.map V.ref))) es := hE.keep fun b xs h => base2 _ _ h
    generalize upd (upd H f (.lst [])) p (.lst (bs.map V.ref)) = Hb at base2 hfb hpb hbb hdb hkb hEb ⊢
    have nfd : dd ≠ f := ne_of hdb hfb (by intro z; cases z)
    have nfb : b ≠ f := ne_of hbb hfb (by intro z; cases z)
    refine ⟨p, rfl, ⟨_, SqL.of hpb⟩, for_list (xs := bs.map V.ref) (fun i σ' H' => Wd (∃ o3 o4 : Option V, σ' = [some (.ref b), some (.str kd), some (.ref f), o3, o4] ∧ H' = upd Hb f (.lst ((namedE es kd ((srtK es).take i) []).map V.str)))) ⟨none, none, rfl, upd_idem hfb⟩ ?_ ?_ ?_⟩
    · rintro i σ' H' _ ⟨o3, o4, rfl, rfl⟩
      exact SqL.of (by rw [upd_ne nfp.symm]; exact hpb)
    · rintro i x σ' H' hx ⟨o3, o4, rfl, rfl⟩
      rw [List.getElem?_map] at hx
      obtain ⟨q, hq, rfl⟩ := Option.map_eq_some_iff.mp hx
      obtain ⟨y, hy, _⟩ := h2.get hq
      have hqt := hkb i q y hq hy
      have nqf : q ≠ f := ne_of hqt hfb (by intro z; cases z)
      obtain ⟨t0, ht0, e0⟩ := mem_srtK.mp (List.mem_of_getElem? hy)
      obtain ⟨t, ht⟩ := atE_mem ht0
      obtain ⟨hmem, e1, e2⟩ := atE_some ht
      have ey : y = (t0.d, t0.n) := e0.symm
      have ht' : atE es y.1 y.2 = some t := by rw [ey]; exact ht
      have hte := hEb t hmem
      have ntf : t.e ≠ f := ne_of hte hfb (by intro z; cases z)
      have g := DGet.t (H := upd Hb f (.lst ((namedE es kd ((srtK es).take i) []).map V.str))) (a := dd) (b := q) (kvs := kvE es) (k := keyE y.1 y.2) (by rw [upd_ne nfd]; exact hdb) (by rw [upd_ne nqf]; exact hqt)
      rw [val_kvE, ht'] at g
      have hte' : upd Hb f (.lst ((namedE es kd ((srtK es).take i) []).map V.str)) t.e = some (.tup [.str t.kd, .str t.nm, t.x]) := by rw [upd_ne ntf]; exact hte
      refine ⟨_, rfl, b, A.Book, dx, _, _, rfl, by rw [upd_ne nfb]; exact hbb, T.cl_Book, T.n_Book_entries, rfl, _, rfl, dd, V.ref t.e, rfl, g, ?_⟩
      refine ⟨_, rfl, t.e, _, _, .str t.kd, rfl, rfl, SqT.of hte', rfl, _, rfl, rfl, _, rfl, ?_⟩
      have hst : namedE es kd ((srtK es).take (i + 1)) [] = stepE es kd (namedE es kd ((srtK es).take i) []) y := by rw [take_more hy, named_app]
      unfold stepE at hst
      rw [ht'] at hst
      have stay : ¬ (t.kd = kd ∧ t.nm ∉ namedE es kd ((srtK es).take i) []) → Wd (∃ o3 o4 : Option V, [some (.ref b), some (.str kd), some (.ref f), some (.ref q), some (.ref t.e)] = [some (.ref b), some (.str kd), some (.ref f), o3, o4] ∧ upd Hb f (.lst ((namedE es kd ((srtK es).take i) []).map V.str)) = upd Hb f (.lst ((namedE es kd ((srtK es).take (i + 1)) []).map V.str))) := fun hn => by
        refine ⟨_, _, rfl, ?_⟩
        rw [hst]
        show _ = upd Hb f (.lst ((if t.kd = kd ∧ t.nm ∉ namedE es kd ((srtK es).take i) [] then _ else _ : List Str).map V.str))
        rw [if_neg hn]
      refine if_dec (fun e => ?_) (fun e => stay fun h => e (congrArg V.str h.1))
      have ek : t.kd = kd := V.str.inj e
      refine ⟨_, rfl, t.e, _, _, .str t.nm, rfl, rfl, SqT.of hte', rfl, _, rfl, f, _, rfl, .inl (SqL.of upd_same), rfl, flat_strs _, _, rfl, ?_⟩
      show if (!inV (.str t.nm) ((namedE es kd ((srtK es).take i) []).map V.str)) = true then _ else _
      rw [inV_strs]
      by_cases hm : t.nm ∈ namedE es kd ((srtK es).take i) []
      · rw [decide_eq_true hm]
        exact iteF (stay fun h => h.2 hm)
      · rw [decide_eq_false hm]
        refine iteT ⟨_, rfl, .inl ⟨rfl, _, SqL.of upd_same⟩, _, rfl, t.e, _, _, .str t.nm, rfl, rfl, SqT.of hte', rfl, f, _, _, rfl, rfl, upd_same, ?_, _, _, rfl, ?_⟩
        · rw [List.length_map]
          exact Nat.lt_of_lt_of_le (Nat.lt_of_le_of_lt (named_len _) (by rw [List.length_take, len_srtK]; show min _ _ + 0 < 1000; omega)) (by decide)
        · rw [upd_upd, hst]
          show _ = upd Hb f (.lst ((if t.kd = kd ∧ t.nm ∉ namedE es kd ((srtK es).take i) [] then _ else _ : List Str).map V.str))
          rw [if_pos ⟨ek, hm⟩, List.map_append]
          rfl
    · rintro σ' H' ⟨o3, o4, rfl, rfl⟩
      refine ⟨_, rfl, k f _ (Same.at_new hf base2) hf ?_⟩
      rw [upd_same, List.length_map, h2.1, List.take_of_length_le (Nat.le_refl _)]
def spKind (C : Addr) (kd : Str) : Sp := fun vs H Q _ => ∃ b dd es, vs = [.ref b] ∧ BookAt C H b dd es ∧ EntsAt H es ∧ es.length < 1000 ∧ ∀ p H', Same H H' → H p = none → H' p = some (.lst ((namedE es kd (srtK es) []).map V.str)) → Q (.ref p) H'
theorem ok_m_Book_lots (T : Txt K mg A) : FnOk P w K mg base CX0 3 A.m_Book_lots A.fd_m_Book_lots P_m_Book_lots (spKind A.Book "buy") := by
  refine T.F_m_Book_lots.ok sc_m_Book_lots (fun vs H Q E h => ?_) (fun cdv Ar outer s H vs Q E hr h => ?_)
  · obtain ⟨b, dd, es, rfl, _⟩ := h
    rfl
  · obtain ⟨b, dd, es, rfl, B, hE, hz, k⟩ := h
    obtain ⟨⟨dx, hb⟩, hd⟩ := B
    exact ⟨_, (pss_one (ps_ret (pe_meth (pv 0) T.cl_Book T.m_Book_named (ok_m_Book_named T) (hr.mono (by decide)) T.b_m_Book_named .nil pass0 (pa_cons pe_str pa_nil)))), _, rfl, b, dx, _, rfl, hb, rfl, b, dd, es, "buy", rfl, ⟨⟨dx, hb⟩, hd⟩, hE, hz, k⟩
theorem ok_m_Book_sales (T : Txt K mg A) : FnOk P w K mg base CX0 3 A.m_Book_sales A.fd_m_Book_sales P_m_Book_sales (spKind A.Book "sell") := by
  refine T.F_m_Book_sales.ok sc_m_Book_sales (fun vs H Q E h => ?_) (fun cdv Ar outer s H vs Q E hr h => ?_)
  · obtain ⟨b, dd, es, rfl, _⟩ := h
    rfl
  · obtain ⟨b, dd, es, rfl, B, hE, hz, k⟩ := h
    obtain ⟨⟨dx, hb⟩, hd⟩ := B
    exact ⟨_, (pss_one (ps_ret (pe_meth (pv 0) T.cl_Book T.m_Book_named (ok_m_Book_named T) (hr.mono (by decide)) T.b_m_Book_named .nil pass0 (pa_cons pe_str pa_nil)))), _, rfl, b, dx, _, rfl, hb, rfl, b, dd, es, "sell", rfl, ⟨⟨dx, hb⟩, hd⟩, hE, hz, k⟩
theorem ok_m_Book_late_costs (T : Txt K mg A) : FnOk P w K mg base CX0 3 A.m_Book_late_costs A.fd_m_Book_late_costs P_m_Book_late_costs (spKind A.Book "late") := by
  refine T.F_m_Book_late_costs.ok sc_m_Book_late_costs (fun vs H Q E h => ?_) (fun cdv Ar outer s H vs Q E hr h => ?_)
  · obtain ⟨b, dd, es, rfl, _⟩ := h
    rfl
  · obtain ⟨b, dd, es, rfl, B, hE, hz, k⟩ := h
    obtain ⟨⟨dx, hb⟩, hd⟩ := B
    exact ⟨_, (pss_one (ps_ret (pe_meth (pv 0) T.cl_Book T.m_Book_named (ok_m_Book_named T) (hr.mono (by decide)) T.b_m_Book_named .nil pass0 (pa_cons pe_str pa_nil)))), _, rfl, b, dx, _, rfl, hb, rfl, b, dd, es, "late", rfl, ⟨⟨dx, hb⟩, hd⟩, hE, hz, k⟩
end

/-! ### names that are valid; what is picked -/
theorem letter_mem {c : Nat} (h : 97 ≤ c ∧ c < 123) : c ∈ lettersZ.cps.toList := by
  have : ∀ n : Fin 26, (97 + n.val) ∈ lettersZ.cps.toList := by decide +kernel
  have h2 := this ⟨c - 97, by omega⟩
  rw [show 97 + (c - 97) = c by omega] at h2
  exact h2
theorem name_ok {n : List Nat} (h : NmOk n) : nameV (vS n) = true := by
  show nameL (SX.S n).cps.toList = true
  have e : (SX.S n).cps.toList = n := rfl
  rw [e]
  unfold nameL
  rw [decide_eq_true h.1, decide_eq_true h.2.1, Bool.true_and, Bool.true_and, List.all_eq_true]
  intro c hc
  exact decide_eq_true (letter_mem (h.2.2 c hc))
def spPick : Sp := fun vs H Q _ => ∃ (g l q : Addr) (xs : List V), vs = [.ref g, .ref q] ∧ Bag H g l ∧ q ≠ g ∧ H q = some (.lst xs) ∧ 1 ≤ xs.length ∧ xs.length ≤ 1000 ∧ ∀ (v : V) (H' : Hp), v ∈ xs → Bag H' g l → Kp g H H' → Q v H'
section
variable {P : Program} {w : World} {K : PySem.W.Frag} {mg : Str → Option Value} {base : Heap} {A : Ad}
theorem ok_l_pick (T : Txt K mg A) : FnOk P w K mg base CX0 2 A.l_pick A.fd_l_pick P_l_pick spPick := by
  refine T.F_l_pick.ok sc_l_pick (fun vs H Q E h => ?_) (fun cdv Ar outer s H vs Q E hr h => ?_)
  · obtain ⟨g, l, q, xs, rfl, _⟩ := h
    rfl
  · obtain ⟨g, l, q, xs, rfl, B, nq, hq, h1, h2, k⟩ := h
    refine ⟨_, (pss_one (ps_ret (pe_ix ix_list (pv 1) (pe_call (ok_l_draw T) (hr.mono (by decide)) (by rfl) T.g__law_draw T.F_l_draw.kp T.b_l_draw .nil pass0 (pa_cons (pv 0) (pa_cons (pe_callB call_len_seq (by rfl) T.z_len (by decide +kernel) (pa_cons (pv 1) pa_nil)) pa_nil))) (fun _ _ => rfl)))), ?_⟩
    refine ⟨_, rfl, _, rfl, _, rfl, q, _, rfl, .inl (SqL.of hq), g, l, _, rfl, B, by omega, lt_pow (a := 10) (by omega) (by decide), fun c H1 c0 c1 B1 K1 => ?_⟩
    have hq1 := K1 _ _ hq nq
    obtain ⟨j, rfl⟩ := Int.eq_ofNat_of_zero_le c0
    have hj : j < xs.length := by omega
    exact ⟨q, _, _, _, rfl, rfl, SqL.of hq1, atI_nat (List.getElem?_eq_getElem hj), k _ H1 (List.getElem_mem hj) B1 K1⟩
end

/-! ### the law's next place -/
/-- the drawn entries: a list of triples -/
def Tri (H : Hp) (t : Addr) (u : En) : Prop := H t = some (.tup [.int u.d, .int u.n, .ref u.e])
def ltE (a b : En) : Prop := a.d < b.d ∨ (a.d = b.d ∧ a.n < b.n)
def spNext : Sp := fun vs H Q _ => ∃ (g l q : Addr) (ts : List Addr) (es : List En), vs = [.ref g, .ref q] ∧ Bag H g l ∧ q ≠ g ∧ H q = some (.lst (ts.map V.ref)) ∧ All2 (Tri H) ts es ∧ (∀ u ∈ es, 0 ≤ u.d ∧ 0 ≤ u.n) ∧
  ∀ (p : Addr) (d n : Int) (H' : Hp), H' p = some (.tup [.int d, .int n]) → 0 ≤ d → 0 ≤ n → (es = [] → d ≤ 3 ∧ n ≤ 2) → (∀ u, es.getLast? = some u → (u.d < d ∨ (u.d = d ∧ u.n < n)) ∧ d ≤ u.d + 9 ∧ n ≤ u.n + 3) → Bag H' g l → Kp g H H' → Q (.ref p) H'
theorem last_at {α : Type} {xs : List α} {x : α} (h : xs.getLast? = some x) : atI xs (-1) = some x := by
  have hl : 0 < xs.length := List.length_pos_iff.mpr fun e => by rw [e] at h; cases h
  unfold atI ixN
  rw [if_neg (by decide), if_pos (by omega)]
  rw [List.getLast?_eq_getElem?] at h
  show xs[(-1 + (xs.length : Int)).toNat]? = _
  rw [show (-1 + (xs.length : Int)).toNat = xs.length - 1 by omega]
  exact h
theorem All2.last {α β : Type} {R : α → β → Prop} {xs : List α} {ys : List β} {y : β} (h : All2 R xs ys) (hy : ys.getLast? = some y) : ∃ x, xs.getLast? = some x ∧ R x y := by
  rw [List.getLast?_eq_getElem?] at hy
  have hl : 0 < ys.length := List.length_pos_iff.mpr fun e => by rw [e] at hy; cases hy
  have hx : ys.length - 1 < xs.length := by rw [h.1]; omega
  refine ⟨xs[ys.length - 1], ?_, h.2 _ _ _ (List.getElem?_eq_getElem hx) hy⟩
  rw [List.getLast?_eq_getElem?, h.1]
  exact List.getElem?_eq_getElem hx
section
variable {P : Program} {w : World} {K : PySem.W.Frag} {mg : Str → Option Value} {base : Heap} {A : Ad}
theorem ok_l_next (T : Txt K mg A) : FnOk P w K mg base CX0 2 A.l_next A.fd_l_next P_l_next spNext := by
  refine T.F_l_next.ok sc_l_next (fun vs H Q E h => ?_) (fun cdv Ar outer s H vs Q E hr h => ?_)
  · obtain ⟨g, l, q, ts, es, rfl, _⟩ := h
    rfl
  · obtain ⟨g, l, q, ts, es, rfl, B, nq, hq, h2, hp, k⟩ := h
    refine ⟨_, (pss_cons (ps_if (pt_cmpR (op_eqNil hr.units) (pv 1) (pe_lst pa_nil) (nomark _)) (pss_one (ps_ret (pe_tup (pa_cons (pe_call (ok_l_draw T) (hr.mono (by decide)) (by rfl) T.g__law_draw T.F_l_draw.kp T.b_l_draw .nil pass0 (pa_cons (pv 0) (pa_cons pe_int pa_nil))) (pa_cons (pe_call (ok_l_draw T) (hr.mono (by decide)) (by rfl) T.g__law_draw T.F_l_draw.kp T.b_l_draw .nil pass0 (pa_cons (pv 0) (pa_cons pe_int pa_nil))) pa_nil))))) pss_nil)
      (pss_cons (ps_set (i := 2) sc_l_next.nd rfl (Or.inl rfl) (pe_ix ix_list (pe_lst (pa_cons pe_int (pa_cons pe_int (pa_cons pe_int (pa_cons pe_int (pa_cons pe_int (pa_cons pe_int (pa_cons pe_int pa_nil)))))))) (pe_call (ok_l_draw T) (hr.mono (by decide)) (by rfl) T.g__law_draw T.F_l_draw.kp T.b_l_draw .nil pass0 (pa_cons (pv 0) (pa_cons pe_int pa_nil))) (fun _ _ => rfl)))
      (pss_cons (ps_if (pt_cmpR op_eq (pv 2) pe_int (nomark _)) (pss_one (ps_ret (pe_tup (pa_cons (pe_ix ix_tup (pe_ix ix_list (pv 1) (pe_un un_neg pe_int) (fun _ _ => rfl)) pe_int (fun _ _ => rfl)) (pa_cons (pe_op op_add (pe_op op_add (pe_ix ix_tup (pe_ix ix_list (pv 1) (pe_un un_neg pe_int) (fun _ _ => rfl)) pe_int (fun _ _ => rfl)) pe_int) (pe_call (ok_l_draw T) (hr.mono (by decide)) (by rfl) T.g__law_draw T.F_l_draw.kp T.b_l_draw .nil pass0 (pa_cons (pv 0) (pa_cons pe_int pa_nil)))) pa_nil))))) pss_nil)
      (pss_one (ps_ret (pe_tup (pa_cons (pe_op op_add (pe_ix ix_tup (pe_ix ix_list (pv 1) (pe_un un_neg pe_int) (fun _ _ => rfl)) pe_int (fun _ _ => rfl)) (pv 2)) (pa_cons (pe_call (ok_l_draw T) (hr.mono (by decide)) (by rfl) T.g__law_draw T.F_l_draw.kp T.b_l_draw .nil pass0 (pa_cons (pv 0) (pa_cons pe_int pa_nil))) pa_nil)))))))), ?_⟩
    refine ⟨_, rfl, Nat.zero_le _, fun z hz => ⟨q, z, _, rfl, rfl, SqL.of (Same.new hz _ _ hq), SqL.of upd_same, _, rfl, ?_⟩⟩
    have B1 := B.new (o := .lst []) hz
    have s1 := Same.new (o := .lst []) hz
    have hq1 := s1 _ _ hq
    rcases hes : es with _ | ⟨u0, us⟩
    · have ht : ts = [] := List.eq_nil_of_length_eq_zero (by rw [h2.1, hes]; rfl)
      subst ht
      refine iteT ⟨_, rfl, g, l, _, rfl, B1, by decide, by decide, fun d H2 d0 d1 B2 K2 => ?_⟩
      refine ⟨_, rfl, g, l, _, rfl, B2, by decide, by decide, fun n H3 n0 n1 B3 K3 => ⟨(by show 2 ≤ sizeLine; decide), fun p hp' => ?_⟩⟩
      exact k p d n _ upd_same d0 n0 (fun _ => ⟨by omega, by omega⟩) (fun u hu => by rw [hes] at hu; cases hu) (B3.new hp') (((Kp.same s1).trans (K2.trans K3)).new hp')
    · obtain ⟨u, hu⟩ : ∃ u, es.getLast? = some u := ⟨_, by rw [hes]; exact List.getLast?_eq_some_getLast (by simp)⟩
      obtain ⟨t, htl, htu⟩ := h2.last hu
      have hum : u ∈ es := List.mem_of_getLast? hu
      have hn : ts ≠ [] := fun e => by rw [e] at htl; cases htl
      have he : (ts.map V.ref).isEmpty = false := by
        cases ts with
        | nil => exact absurd rfl hn
        | cons _ _ => rfl
      have htl' : (ts.map V.ref).getLast? = some (.ref t) := by rw [List.getLast?_map, htl]; rfl
      show if (ts.map V.ref).isEmpty = true then _ else _
      rw [he]
      refine iteF ⟨(by show 7 ≤ sizeLine; decide), fun z2 hz2 => ?_⟩
      have s2 := Same.new (o := .lst [V.int 0, .int 0, .int 0, .int 1, .int 1, .int 2, .int 9]) hz2
      have B2 := B1.new (o := .lst [V.int 0, .int 0, .int 0, .int 1, .int 1, .int 2, .int 9]) hz2
      refine ⟨_, rfl, g, l, _, rfl, B2, by decide, by decide, fun c H3 c0 c1 B3 K3 => ?_⟩
      have hz3 := K3 _ _ upd_same (B1.ne hz2).1
      have K03 : Kp g H H3 := (Kp.same (s1.trans s2)).trans K3
      have hq3 := K03 _ _ hq nq
      obtain ⟨xs, hg⟩ := B.lst
      have ht3 : H3 t = some (.tup [.int u.d, .int u.n, .ref u.e]) := K03 _ _ htu (ne_of htu hg (by intro z; cases z))
      obtain ⟨st, hst, st0, st9⟩ : ∃ st : Int, atI [V.int 0, .int 0, .int 0, .int 1, .int 1, .int 2, .int 9] c = some (.int st) ∧ 0 ≤ st ∧ st ≤ 9 := by
        have : c = 0 ∨ c = 1 ∨ c = 2 ∨ c = 3 ∨ c = 4 ∨ c = 5 ∨ c = 6 := by omega
        rcases this with rfl | rfl | rfl | rfl | rfl | rfl | rfl <;> exact ⟨_, rfl, by decide, by decide⟩
      refine ⟨z2, _, _, _, rfl, rfl, SqL.of hz3, hst, _, rfl, rfl, _, rfl, if_int (fun e => ?_) (fun e => ?_)⟩
      · refine ⟨_, rfl, 1, rfl, q, _, _, _, rfl, rfl, SqL.of hq3, last_at htl', t, _, _, _, rfl, rfl, SqT.of ht3, rfl, ?_⟩
        refine ⟨_, rfl, 1, rfl, q, _, _, _, rfl, rfl, SqL.of hq3, last_at htl', t, _, _, _, rfl, rfl, SqT.of ht3, rfl, _, _, rfl, rfl, ?_⟩
        refine ⟨_, rfl, g, l, _, rfl, B3, by decide, by decide, fun c2 H4 e0 e1 B4 K4 => ⟨_, _, rfl, rfl, (by show 2 ≤ sizeLine; decide), fun p hp' => ?_⟩⟩
        refine k p u.d (u.n + 1 + c2) _ upd_same (hp u hum).1 (by have := (hp u hum).2; omega) (fun z => by rw [hes] at z; cases z) (fun u' hu' => ?_) (B4.new hp') ((K03.trans K4).new hp')
        rw [hu] at hu'
        cases hu'
        exact ⟨.inr ⟨rfl, by omega⟩, by omega, by omega⟩
      · refine ⟨_, rfl, 1, rfl, q, _, _, _, rfl, rfl, SqL.of hq3, last_at htl', t, _, _, _, rfl, rfl, SqT.of ht3, rfl, _, rfl, _, _, rfl, rfl, ?_⟩
        refine ⟨_, rfl, g, l, _, rfl, B3, by decide, by decide, fun c2 H4 e0 e1 B4 K4 => ⟨(by show 2 ≤ sizeLine; decide), fun p hp' => ?_⟩⟩
        have hs1 : 1 ≤ st := by omega
        refine k p (u.d + st) c2 _ upd_same (by have := (hp u hum).1; omega) e0 (fun z => by rw [hes] at z; cases z) (fun u' hu' => ?_) (B4.new hp') ((K03.trans K4).new hp')
        rw [hu] at hu'
        cases hu'
        have := (hp u hum).2
        exact ⟨.inl (by omega), by omega, by omega⟩
end

/-! ### a drawn order -/
def spMixed : Sp := fun vs H Q _ => ∃ (g l q : Addr) (xs : List V), vs = [.ref g, .ref q] ∧ Bag H g l ∧ H q = some (.lst xs) ∧ xs.length ≤ 1000 ∧
  ∀ (p : Addr) (ys : List V) (H' : Hp), ys.Perm xs → H p = none → H' p = some (.lst ys) → Bag H' g l → Kp g H H' → Q (.ref p) H'
theorem perm_pop {α : Type} : ∀ {zs : List α} {k : Nat} {y : α}, zs[k]? = some y → (y :: zs.eraseIdx k).Perm zs
  | z :: zs, 0, y, h => by
    simp at h
    subst h
    exact .refl _
  | z :: zs, k + 1, y, h => by
    have ih := perm_pop (zs := zs) (k := k) (y := y) (by simpa using h)
    exact (List.Perm.swap z y _).trans (ih.cons z)
theorem seq_ix {i : Int} {n : Nat} (h0 : 0 ≤ i) (h1 : i < n) : seqIndex? i n = some i.toNat := by
  have e : (if i < 0 then i + (n : Int) else i) = i := if_neg (by omega)
  unfold seqIndex?
  simp only [e, h0, h1, decide_true, Bool.and_self, if_true]
section
variable {P : Program} {w : World} {K : PySem.W.Frag} {mg : Str → Option Value} {base : Heap} {A : Ad}
theorem ok_l_mixed (T : Txt K mg A) : FnOk P w K mg base CX0 2 A.l_mixed A.fd_l_mixed P_l_mixed spMixed := by
  refine T.F_l_mixed.ok sc_l_mixed (fun vs H Q E h => ?_) (fun cdv Ar outer s H vs Q E hr h => ?_)
  · obtain ⟨g, l, q, xs, rfl, _⟩ := h
    rfl
  · obtain ⟨g, l, q, xs, rfl, hB, hq, hlen, k⟩ := h
    refine ⟨_, (pss_cons (ps_set (i := 2) sc_l_mixed.nd rfl (Or.inl rfl) (pe_callTy call_list_of (by rfl) T.z_list (by decide +kernel) (pa_cons (pv 1) pa_nil)))
      (pss_cons (ps_set (i := 3) sc_l_mixed.nd rfl (Or.inl rfl) (pe_lst pa_nil))
      (pss_cons (ps_g (ps_for PassesOwn.never rfl (pi_range1 rfl T.z_range (pa_cons (pe_callB call_len_seq (by rfl) T.z_len (by decide +kernel) (pa_cons (pv 1) pa_nil)) pa_nil)) (pg_name (i := 4) sc_l_mixed.nd rfl (Or.inl rfl)) (pss_one (ps_expr (pe_bm PySem.F.plainAttrs_list PySem.F.slot_list_append PySem.F.type_list_append mt_append (pv 3) (pa_cons (pe_bm PySem.F.plainAttrs_list PySem.F.slot_list_pop PySem.F.type_list_pop mt_popAt (pv 2) (pa_cons (pe_call (ok_l_draw T) (hr.mono (by decide)) (by rfl) T.g__law_draw T.F_l_draw.kp T.b_l_draw .nil pass0 (pa_cons (pv 0) (pa_cons (pe_callB call_len_seq (by rfl) T.z_len (by decide +kernel) (pa_cons (pv 2) pa_nil)) pa_nil))) pa_nil)) pa_nil))))))
      (pss_one (ps_ret (pv 3)))))), ?_⟩
    refine ⟨_, rfl, q, xs, rfl, .inl (SqL.of hq), fun a ha => ⟨Nat.zero_le _, fun f hf => ?_⟩⟩
    have naf : a ≠ f := fun z => by
      rw [z, upd_same] at hf
      cases hf
    have hf0 : H f = none := by
      rw [upd_ne naf.symm] at hf
      exact hf
    have na := hB.ne ha
    have nf := hB.ne hf0
    have nqa := ne_of_none hq ha
    have nqf := ne_of_none hq hf0
    refine ⟨⟨_, rfl, q, xs, rfl, .inl (SqL.of (by rw [upd_ne nqf, upd_ne nqa]; exact hq)), _, rfl, by omega, by omega, for_range (lo := 0) (n := xs.length) (fun i σ' H' => Wd (∃ (ys zs : List V) (v : Option V),
      σ' = [some (.ref g), some (.ref q), some (.ref a), some (.ref f), v] ∧ H' a = some (.lst zs) ∧ H' f = some (.lst ys) ∧ (ys ++ zs).Perm xs ∧ zs.length + i = xs.length ∧ Bag H' g l ∧ Kp g H H'))
      ⟨[], xs, none, rfl, by rw [upd_ne naf, upd_same], upd_same, .refl _, rfl, (hB.put na).put nf, ((Kp.refl g H).put ha).put hf0⟩ ?_ ?_⟩⟩
    · rintro i σ' H' hi ⟨ys, zs, v, rfl, h1, h2, hp, hz, B1, K1⟩
      have z9 : ((zs.length : Nat) : Int).natAbs < 2 ^ 9000 := lt_pow (a := 10) (by omega) (by decide)
      have yl : ys.length ≤ 1000 := by
        have := hp.length_eq
        rw [List.length_append] at this
        omega
      refine ⟨_, rfl, .inl ⟨rfl, _, SqL.of h2⟩, _, rfl, .inl ⟨rfl, _, SqL.of h1⟩, _, rfl, _, rfl, a, zs, rfl, .inl (SqL.of h1), g, l, _, rfl, B1, by omega, z9, fun n H2 n0 n1 B2 K2 => ?_⟩
      have h1' := K2 _ _ h1 na.1
      have h2' := K2 _ _ h2 nf.1
      have hk : n.toNat < zs.length := by omega
      have hy : zs[n.toNat]? = some zs[n.toNat] := List.getElem?_eq_getElem hk
      refine ⟨a, zs, n, n.toNat, zs[n.toNat], rfl, rfl, h1', by omega, by omega, seq_ix n0 n1, hy, f, ys, _, rfl, rfl, (by rw [upd_ne naf.symm]; exact h2'), Nat.lt_of_le_of_lt yl (by decide), ?_⟩
      refine ⟨ys ++ [zs[n.toNat]], zs.eraseIdx n.toNat, _, rfl, by rw [upd_ne naf, upd_same], upd_same, ?_, ?_, (B2.put na).put nf, ((K1.trans K2).put ha).put hf0⟩
      · rw [List.append_assoc]
        exact ((perm_pop hy).append_left ys).trans hp
      · rw [List.length_eraseIdx, if_pos hk]
        omega
    · rintro σ' H' ⟨ys, zs, v, rfl, h1, h2, hp, hz, B1, K1⟩
      have e : zs = [] := List.eq_nil_of_length_eq_zero (by omega)
      subst e
      rw [List.append_nil] at hp
      exact ⟨_, rfl, k f ys H' hp hf0 h2 B1 K1⟩
end

def words4 : List (List Nat) := [[98, 117, 121], [115, 101, 108, 108], [98, 97, 99, 107], [108, 97, 116, 101]]
theorem words_ok : ∀ n ∈ words4, nameV (vS n) = true ∧ n.length ≤ 1000 := by
  intro n hn
  simp only [words4, List.mem_cons, List.not_mem_nil, or_false] at hn
  rcases hn with rfl | rfl | rfl | rfl <;> exact ⟨by decide +kernel, by decide⟩
theorem late_no : (eqV (.str "late") (.str "buy") || eqV (.str "late") (.str "sell") || eqV (.str "late") (.str "back")) = false := by decide +kernel
theorem late_yes : eqV (.str "late") (.str "late") = true := by decide +kernel
theorem ent_units {kd nm : Str} {i : Int} (hk : (eqV (.str kd) (.str "buy") || eqV (.str kd) (.str "sell") || eqV (.str kd) (.str "back")) = true) (hn : nameV (.str nm) = true) (h1 : 1 ≤ i) (h2 : i ≤ 1000000) : entOk (.str kd) (.str nm) (.int i) = true := by
  unfold entOk
  rw [hn, if_pos hk]
  show (true && (decide (1 ≤ i) && decide (i ≤ 1000000))) = true
  rw [decide_eq_true h1, decide_eq_true h2]
  rfl
theorem ent_late {nm lot : Str} (hn : nameV (.str nm) = true) (hl : nameV (.str lot) = true) : entOk (.str "late") (.str nm) (.str lot) = true := by
  unfold entOk
  rw [hn, if_neg (by rw [late_no]; decide), if_pos late_yes, hl]
  rfl

/-! ### the entries that the law draws -/
def NamesOk (ns : List (List Nat)) : Prop := ∀ n ∈ ns, nameV (vS n) = true ∧ n.length ≤ 1000
def EnOk (u : En) : Prop := entOk (.str u.kd) (.str u.nm) u.x = true ∧ Pl u.x ∧ shortV (.str u.nm) ∧ shortV u.x
structure EL (H : Hp) (g l nq sq eq bq lq : Addr) (ns bs : List (List Nat)) (ts : List Addr) (es : List En) (kvs : List (L2.Key × V)) : Prop where
  bag : Bag H g l
  N : H nq = some (.lst (ns.map vS))
  S : H sq = some (.lst (ns.map vS).reverse)
  E : H eq = some (.lst (ts.map V.ref))
  T : All2 (Tri H) ts es
  ent : EntsAt H es
  B : H bq = some (.lst (bs.map vS))
  L : H lq = some (.dK kvs)
  gn : nq ≠ g ∧ sq ≠ g
  ge : eq ≠ g ∧ eq ≠ l
  gb : bq ≠ g ∧ bq ≠ l
  dd : eq ≠ nq ∧ eq ≠ sq ∧ eq ≠ bq ∧ bq ≠ nq ∧ bq ≠ sq
structure ELp (ns bs : List (List Nat)) (es : List En) (kvs : List (L2.Key × V)) (i : Nat) (stock costs : Int) : Prop where
  nl : ns.length = 9
  nok : NamesOk ns
  bl : bs.length ≤ 6
  bm : ∀ b ∈ bs, b ∈ ns
  eok : ∀ u ∈ es, EnOk u
  rng : ∀ u ∈ es, 0 ≤ u.d ∧ 0 ≤ u.n ∧ u.d ≤ 9 * i + 3 ∧ u.n ≤ 3 * i + 3
  inc : es.Pairwise ltE
  el : es.length ≤ i
  kl : kvs.length ≤ i
  kv : ∀ p ∈ kvs, ∃ m ∈ ns, p.1 = Sum.inr (SX.S m) ∧ ∃ j : Int, p.2 = .int j ∧ 0 ≤ j ∧ j ≤ 1000000
  s0 : 0 ≤ stock
  s1 : stock ≤ i * 1000000
  c0 : 0 ≤ costs
  c3 : costs ≤ 3
  z : i = 0 → stock = 0 ∧ bs = []
theorem EL.move {H H' : Hp} {g l nq sq eq bq lq : Addr} {ns bs : List (List Nat)} {ts : List Addr} {es : List En} {kvs : List (L2.Key × V)} (h : EL H g l nq sq eq bq lq ns bs ts es kvs) (bag : Bag H' g l) (k : Kp g H H') : EL H' g l nq sq eq bq lq ns bs ts es kvs := by
  obtain ⟨xs, hg⟩ := h.bag.lst
  exact ⟨bag, k _ _ h.N h.gn.1, k _ _ h.S h.gn.2, k _ _ h.E h.ge.1, h.T.mono fun x y z => k _ _ z (ne_of z hg (by intro z; cases z)), fun t ht => k _ _ (h.ent t ht) (ne_of (h.ent t ht) hg (by intro z; cases z)), k _ _ h.B h.gb.1, k _ _ h.L (ne_of h.L hg (by intro z; cases z)), h.gn, h.ge, h.gb, h.dd⟩
theorem EL.same {H H' : Hp} {g l nq sq eq bq lq : Addr} {ns bs : List (List Nat)} {ts : List Addr} {es : List En} {kvs : List (L2.Key × V)} (h : EL H g l nq sq eq bq lq ns bs ts es kvs) (s : Same H H') : EL H' g l nq sq eq bq lq ns bs ts es kvs := h.move (h.bag.keep s) (Kp.same s)
theorem EL.bput {H : Hp} {g l nq sq eq bq lq : Addr} {ns bs : List (List Nat)} {ts : List Addr} {es : List En} {kvs : List (L2.Key × V)} (h : EL H g l nq sq eq bq lq ns bs ts es kvs) (bs' : List (List Nat)) : EL (upd H bq (.lst (bs'.map vS))) g l nq sq eq bq lq ns bs' ts es kvs := by
  have n : ∀ {a : Addr} {xs : List V}, H a = some (.tup xs) → a ≠ bq := fun z => ne_of z h.B (by intro z; cases z)
  exact ⟨h.bag.put h.gb, by rw [upd_ne h.dd.2.2.2.1.symm]; exact h.N, by rw [upd_ne h.dd.2.2.2.2.symm]; exact h.S, by rw [upd_ne h.dd.2.2.1]; exact h.E, h.T.mono fun x y z => (by unfold Tri; rw [upd_ne (n z)]; exact z), fun t ht => by rw [upd_ne (n (h.ent t ht))]; exact h.ent t ht, upd_same, by rw [upd_ne (ne_of h.L h.B (by intro z; cases z))]; exact h.L, h.gn, h.ge, h.gb, h.dd⟩
theorem EL.lput {H : Hp} {g l nq sq eq bq lq : Addr} {ns bs : List (List Nat)} {ts : List Addr} {es : List En} {kvs : List (L2.Key × V)} (h : EL H g l nq sq eq bq lq ns bs ts es kvs) (kvs' : List (L2.Key × V)) : EL (upd H lq (.dK kvs')) g l nq sq eq bq lq ns bs ts es kvs' := by
  have k : ∀ c o, H c = some o → (∀ kvs, o ≠ .dK kvs) → upd H lq (.dK kvs') c = some o := fun c o e n => by
    rw [upd_ne fun z => by rw [z, h.L] at e; exact n _ (Option.some.inj e).symm]
    exact e
  obtain ⟨i, r, s, c, xs, h1, h2, h3⟩ := h.bag.ex
  exact ⟨⟨i, r, s, c, xs, k _ _ h1 (by intro _ z; cases z), k _ _ h2 (by intro _ z; cases z), h3⟩, k _ _ h.N (by intro _ z; cases z), k _ _ h.S (by intro _ z; cases z), k _ _ h.E (by intro _ z; cases z), h.T.mono fun x y z => k _ _ z (by intro _ z; cases z), fun t ht => k _ _ (h.ent t ht) (by intro _ z; cases z), k _ _ h.B (by intro _ z; cases z), upd_same, h.gn, h.ge, h.gb, h.dd⟩
theorem EL.eput {H : Hp} {g l nq sq eq bq lq t : Addr} {ns bs : List (List Nat)} {ts : List Addr} {es : List En} {kvs : List (L2.Key × V)} {u : En} (h : EL H g l nq sq eq bq lq ns bs ts es kvs) (ht : Tri H t u) (hu : H u.e = some (.tup [.str u.kd, .str u.nm, u.x])) : EL (upd H eq (.lst ((ts ++ [t]).map V.ref))) g l nq sq eq bq lq ns bs (ts ++ [t]) (es ++ [u]) kvs := by
  have n : ∀ {a : Addr} {xs : List V}, H a = some (.tup xs) → a ≠ eq := fun z => ne_of z h.E (by intro z; cases z)
  refine ⟨h.bag.put h.ge, by rw [upd_ne h.dd.1.symm]; exact h.N, by rw [upd_ne h.dd.2.1.symm]; exact h.S, upd_same, (h.T.app (.one ht)).mono fun x y z => (by unfold Tri; rw [upd_ne (n z)]; exact z), fun v hv => ?_, by rw [upd_ne h.dd.2.2.1.symm]; exact h.B, by rw [upd_ne (ne_of h.L h.E (by intro z; cases z))]; exact h.L, h.gn, h.ge, h.gb, h.dd⟩
  rcases List.mem_append.mp hv with hv | hv
  · rw [upd_ne (n (h.ent v hv))]
    exact h.ent v hv
  · rw [List.mem_singleton] at hv
    subst hv
    rw [upd_ne (n hu)]
    exact hu
theorem upd_back {H : Hp} {a d : Addr} {u x y : HO} (h : H a = some u) (n : d ≠ a) : upd (upd (upd H a x) d y) a u = upd H d y := funext fun b => by
  by_cases e : b = a
  · rw [e, upd_same, upd_ne n.symm, h]
  · rw [upd_ne e]
    by_cases e2 : b = d
    · rw [e2, upd_same, upd_same]
    · rw [upd_ne e2, upd_ne e2, upd_ne e]
theorem mem_putK {kvs : List (L2.Key × V)} {k : L2.Key} {v : V} {p : L2.Key × V} (h : p ∈ putK kvs k v) : p = (k, v) ∨ p ∈ kvs := by
  unfold putK at h
  split at h
  · obtain ⟨q, hq, e⟩ := List.mem_map.mp h
    split at e
    · next ek => exact .inl (by rw [← e, ek])
    · exact .inr (e ▸ hq)
  · rcases List.mem_append.mp h with h | h
    · exact .inr h
    · exact .inl (List.mem_singleton.mp h)
theorem len_putK {kvs : List (L2.Key × V)} {k : L2.Key} {v : V} : (putK kvs k v).length ≤ kvs.length + 1 := by
  unfold putK
  split
  · rw [List.length_map]
    exact Nat.le_succ _
  · rw [List.length_append]
    exact Nat.le_refl _
theorem valV_mem {kvs : List (L2.Key × V)} {k : L2.Key} {v : V} (h : valV kvs k = some v) : (k, v) ∈ kvs := by
  unfold valV at h
  obtain ⟨p, hp, rfl⟩ := Option.map_eq_some_iff.mp h
  have h1 := List.find?_some hp
  have h2 : p.1 = k := of_decide_eq_true h1
  rw [← h2]
  exact List.mem_of_find?_eq_some hp
theorem mem_valV {kvs : List (L2.Key × V)} {k : L2.Key} {v : V} (h : (k, v) ∈ kvs) : ∃ v', valV kvs k = some v' := by
  cases e : valV kvs k with
  | some v' => exact ⟨v', rfl⟩
  | none =>
    unfold valV at e
    rw [Option.map_eq_none_iff] at e
    have := List.find?_eq_none.mp e _ h
    exact absurd (decide_eq_true rfl) this
theorem buy_yes : (eqV (.str "buy") (.str "buy") || eqV (.str "buy") (.str "sell") || eqV (.str "buy") (.str "back")) = true := by decide +kernel
theorem sell_yes : (eqV (.str "sell") (.str "buy") || eqV (.str "sell") (.str "sell") || eqV (.str "sell") (.str "back")) = true := by decide +kernel
theorem back_yes : (eqV (.str "back") (.str "buy") || eqV (.str "back") (.str "sell") || eqV (.str "back") (.str "back")) = true := by decide +kernel
theorem at_mem {xs : List V} {j : Nat} (h : j < xs.length) : ∃ x ∈ xs, atI xs (j : Int) = some x := ⟨xs[j], List.getElem_mem h, atI_nat (List.getElem?_eq_getElem h)⟩
theorem lt_last {es : List En} {u : En} {v : En} (hp : es.Pairwise ltE) (hu : u ∈ es) (h : ∀ w, es.getLast? = some w → w.d < v.d ∨ (w.d = v.d ∧ w.n < v.n)) : ltE u v := by
  cases hl : es.getLast? with
  | none => rw [List.getLast?_eq_none_iff.mp hl] at hu; cases hu
  | some w =>
    have hw := h w hl
    by_cases e : u = w
    · rw [e]
      exact hw
    · obtain ⟨l, rfl⟩ := List.getLast?_eq_some_iff.mp hl
      rw [List.pairwise_append] at hp
      have hul : u ∈ l := by
        rcases List.mem_append.mp hu with z | z
        · exact z
        · exact absurd (List.mem_singleton.mp z) e
      have := hp.2.2 u hul w (List.mem_singleton.mpr rfl)
      unfold ltE at this ⊢
      omega
def spEntries : Sp := fun vs H Q _ => ∃ (g l : Addr) (most : Int), vs = [.ref g, .int most] ∧ Bag H g l ∧ 1 ≤ most ∧ most ≤ 100 ∧
  ∀ (q : Addr) (ts : List Addr) (es : List En) (H' : Hp), H q = none → H' q = some (.lst (ts.map V.ref)) → All2 (Tri H') ts es → EntsAt H' es → (∀ u ∈ es, EnOk u) → (∀ u ∈ es, 0 ≤ u.d ∧ 0 ≤ u.n ∧ u.d ≤ 1000 ∧ u.n ≤ 1000) → es.Pairwise ltE → es ≠ [] → (es.length : Int) ≤ most → Bag H' g l → Kp g H H' → Q (.ref q) H'
section
variable {P : Program} {w : World} {K : PySem.W.Frag} {mg : Str → Option Value} {base : Heap} {A : Ad}
theorem ok_l_entries (T : Txt K mg A) : FnOk P w K mg base CX0 3 A.l_entries A.fd_l_entries P_l_entries spEntries := by
  refine T.F_l_entries.ok sc_l_entries (fun vs H Q E h => ?_) (fun cdv Ar outer s H vs Q E hr h => ?_)
  · obtain ⟨g, l, most, rfl, _⟩ := h
    rfl
  · obtain ⟨g, l, most, rfl, B, m1, m2, k⟩ := h
    refine ⟨_, (pss_cons (ps_set (i := 2) sc_l_entries.nd rfl (Or.inl rfl) (pe_op op_add pe_int (pe_call (ok_l_draw T) (hr.mono (by decide)) (by rfl) T.g__law_draw T.F_l_draw.kp T.b_l_draw .nil pass0 (pa_cons (pv 0) (pa_cons (pv 1) pa_nil)))))
      (pss_cons (ps_set (i := 3) sc_l_entries.nd rfl (Or.inl rfl) (pe_ix ix_list (pe_lst (pa_cons pe_int (pa_cons pe_int pa_nil))) (pe_op op_fdiv (pe_call (ok_l_draw T) (hr.mono (by decide)) (by rfl) T.g__law_draw T.F_l_draw.kp T.b_l_draw .nil pass0 (pa_cons (pv 0) (pa_cons pe_int pa_nil))) pe_int) (fun _ _ => rfl)))
      (pss_cons (ps_set (i := 4) sc_l_entries.nd rfl (Or.inl rfl) (pe_call (ok_l_names T) (hr.mono (by decide)) (by rfl) T.g__law_names T.F_l_names.kp T.b_l_names .nil pass0 (pa_cons (pv 0) (pa_cons pe_int (pa_cons (pe_lst (pa_cons pe_str (pa_cons pe_str (pa_cons pe_str (pa_cons pe_str pa_nil))))) pa_nil)))))
      (pss_cons (ps_set (i := 5) sc_l_entries.nd rfl (Or.inl rfl) (pe_revL (pv 4)))
      (pss_cons (ps_set (i := 6) sc_l_entries.nd rfl (Or.inl rfl) (pe_lst pa_nil))
      (pss_cons (ps_set (i := 7) sc_l_entries.nd rfl (Or.inl rfl) (pe_lst pa_nil))
      (pss_cons (ps_set (i := 8) sc_l_entries.nd rfl (Or.inr rfl) (pe_dnewK))
      (pss_cons (ps_set (i := 9) sc_l_entries.nd rfl (Or.inl rfl) pe_int)
      (pss_cons (ps_set (i := 10) sc_l_entries.nd rfl (Or.inl rfl) pe_int)
      (pss_cons (ps_g (ps_for PassesOwn.never rfl (pi_range1 rfl T.z_range (pa_cons (pv 2) pa_nil)) (pg_name (i := 11) sc_l_entries.nd rfl (Or.inl rfl)) (pss_cons (ps_set (i := 12) sc_l_entries.nd rfl (Or.inl rfl) (pe_call (ok_l_draw T) (hr.mono (by decide)) (by rfl) T.g__law_draw T.F_l_draw.kp T.b_l_draw .nil pass0 (pa_cons (pv 0) (pa_cons pe_int pa_nil))))
      (pss_cons (ps_g (ps_lock (ps_setLcV (i := 13) (own := [("_law_sale", 16)]) rfl sc_l_entries.nd rfl rfl (sw_true rfl rfl rfl (by decide +kernel)) (pi_keys (pv 8)) (blkOk_by (own := [("_law_sale", 16)]) (N := N_l_entries) (sc := defScope s_l_entries) (by decide +kernel)) (fun _ _ _ _ _ => (pg_name (i := 16) sc_l_entries.nd rfl (Or.inl rfl))) (fun _ _ _ _ _ => (pts_one (pt_cmpR op_gt (pe_dget (hu_of hr) (pv 8) (pv 16) (fun _ _ => rfl)) pe_int (nomark _)))) (fun _ _ _ _ _ => (pv 16)) (fun _ _ _ _ _ => rfl) (fun _ _ _ _ _ => rfl) (fun _ _ _ _ _ => rfl))))
      (pss_cons (ps_set (i := 14) sc_l_entries.nd rfl (Or.inl rfl) pe_non)
      (pss_g (Evl.pss_cut (ps_if (PW.pt (pw_and (pt_cmpR op_lt (pe_callB call_len_seq (by rfl) T.z_len (by decide +kernel) (pa_cons (pv 7) pa_nil)) pe_int (nomark _)) (pw_and1 (PW.pt (pw_or (pt_cmpR op_eq (pv 9) pe_int (nomark _)) (pw_or1 (pt_cmpR op_lt (pv 12) pe_int (nomark _)))))))) (pss_cons (ps_set (i := 15) sc_l_entries.nd rfl (Or.inl rfl) (pe_op op_add pe_int (pe_call (ok_l_draw T) (hr.mono (by decide)) (by rfl) T.g__law_draw T.F_l_draw.kp T.b_l_draw .nil pass0 (pa_cons (pv 0) (pa_cons (pv 3) pa_nil)))))
      (pss_cons (ps_set (i := 14) sc_l_entries.nd rfl (Or.inl rfl) (pe_tup (pa_cons pe_str (pa_cons (pe_ix ix_list (pv 4) (pe_callB call_len_seq (by rfl) T.z_len (by decide +kernel) (pa_cons (pv 7) pa_nil)) (fun _ _ => rfl)) (pa_cons (pv 15) pa_nil)))))
      (pss_cons (ps_expr (pe_bm PySem.F.plainAttrs_list PySem.F.slot_list_append PySem.F.type_list_append mt_append (pv 7) (pa_cons (pe_ix ix_list (pv 4) (pe_callB call_len_seq (by rfl) T.z_len (by decide +kernel) (pa_cons (pv 7) pa_nil)) (fun _ _ => rfl)) pa_nil)))
      (pss_one (ps_set (i := 9) sc_l_entries.nd rfl (Or.inl rfl) (pe_op op_add (pv 9) (pv 15))))))) (pss_one (ps_if (PW.pt (pw_and (pt_cmpR op_gt (pv 9) pe_int (nomark _)) (pw_and (pt_cmpR op_lt (pv 12) pe_int (nomark _)) (pw_and1 (pt_cmpR op_lt (pe_callB (call_lenD) (by rfl) T.z_len (by decide +kernel) (pa_cons (pv 8) pa_nil)) pe_int (nomark _)))))) (pss_cons (ps_set (i := 15) sc_l_entries.nd rfl (Or.inl rfl) (pe_op op_add pe_int (pe_call (ok_l_draw T) (hr.mono (by decide)) (by rfl) T.g__law_draw T.F_l_draw.kp T.b_l_draw .nil pass0 (pa_cons (pv 0) (pa_cons (pv 9) pa_nil)))))
      (pss_g (Evl.pss_cut (ps_if (PW.pt (pw_and (pt_cmpR op_eq (pv 12) pe_int (nomark _)) (pw_and1 (pt_cmpR op_le (pv 9) pe_int (nomark _))))) (pss_one (ps_set (i := 15) sc_l_entries.nd rfl (Or.inl rfl) (pv 9))) pss_nil)
      (pss_cons (ps_set (i := 15) sc_l_entries.nd rfl (Or.inl rfl) (pe_callB (call_min2 rfl) (by rfl) T.z_min (by decide +kernel) (pa_cons (pv 15) (pa_cons pe_int pa_nil))))
      (pss_cons (ps_set (i := 14) sc_l_entries.nd rfl (Or.inl rfl) (pe_tup (pa_cons pe_str (pa_cons (pe_ix ix_list (pv 5) (pe_callB (call_lenD) (by rfl) T.z_len (by decide +kernel) (pa_cons (pv 8) pa_nil)) (fun _ _ => rfl)) (pa_cons (pv 15) pa_nil)))))
      (pss_cons (ps_dput (hu_of hr) (pv 8) (pe_ix ix_list (pv 5) (pe_callB call_lenD (by rfl) T.z_len (by decide +kernel) (pa_cons (pv 8) pa_nil)) (fun _ _ => rfl)) (pv 15) rfl)
      (pss_one (ps_set (i := 9) sc_l_entries.nd rfl (Or.inl rfl) (pe_op op_sub (pv 9) (pv 15)))))))))) (pss_one (ps_if (PW.pt (pw_and (pt_cmpR (op_neNil hr.units) (pv 13) (pe_lst pa_nil) (nomark _)) (pw_and1 (pt_cmpR op_lt (pv 12) pe_int (nomark _))))) (pss_cons (ps_set (i := 16) sc_l_entries.nd rfl (Or.inl rfl) (pe_call (ok_l_pick T) (hr.mono (by decide)) (by rfl) T.g__law_pick T.F_l_pick.kp T.b_l_pick .nil pass0 (pa_cons (pv 0) (pa_cons (pv 13) pa_nil))))
      (pss_cons (ps_set (i := 15) sc_l_entries.nd rfl (Or.inl rfl) (pe_op op_add pe_int (pe_call (ok_l_draw T) (hr.mono (by decide)) (by rfl) T.g__law_draw T.F_l_draw.kp T.b_l_draw .nil pass0 (pa_cons (pv 0) (pa_cons (pe_dget (hu_of hr) (pv 8) (pv 16) (fun _ _ => rfl)) pa_nil)))))
      (pss_cons (ps_set (i := 14) sc_l_entries.nd rfl (Or.inl rfl) (pe_tup (pa_cons pe_str (pa_cons (pv 16) (pa_cons (pv 15) pa_nil)))))
      (pss_cons (ps_dput (hu_of hr) (pv 8) (pv 16) (pe_op op_sub (pe_dget (hu_of hr) (pv 8) (pv 16) (fun _ _ => rfl)) (pv 15)) rfl)
      (pss_one (ps_set (i := 9) sc_l_entries.nd rfl (Or.inl rfl) (pe_op op_add (pv 9) (pv 15)))))))) (pss_one (ps_if (PW.pt (pw_and (pt_cmpR (op_neNil hr.units) (pv 7) (pe_lst pa_nil) (nomark _)) (pw_and1 (pt_cmpR op_lt (pv 10) pe_int (nomark _))))) (pss_cons (ps_set (i := 14) sc_l_entries.nd rfl (Or.inl rfl) (pe_tup (pa_cons pe_str (pa_cons (pe_ix ix_list (pv 4) (pe_op op_add pe_int (pv 10)) (fun _ _ => rfl)) (pa_cons (pe_call (ok_l_pick T) (hr.mono (by decide)) (by rfl) T.g__law_pick T.F_l_pick.kp T.b_l_pick .nil pass0 (pa_cons (pv 0) (pa_cons (pv 7) pa_nil))) pa_nil)))))
      (pss_one (ps_set (i := 10) sc_l_entries.nd rfl (Or.inl rfl) (pe_op op_add (pv 10) pe_int)))) pss_nil)))))))
      (pss_one (ps_if (pt_cmpR op_notN (pv 14) pe_non (nomark _)) (pss_cons (ps_asg (pe_call (ok_l_next T) (hr.mono (by decide)) (by rfl) T.g__law_next T.F_l_next.kp T.b_l_next .nil pass0 (pa_cons (pv 0) (pa_cons (pv 6) pa_nil))) (pg_tup (n := 2) rfl (pgs_cons (pg_name (i := 17) sc_l_entries.nd rfl (Or.inl rfl)) (pgs_cons (pg_name (i := 18) sc_l_entries.nd rfl (Or.inl rfl)) pgs_nil))))
      (pss_one (ps_expr (pe_bm PySem.F.plainAttrs_list PySem.F.slot_list_append PySem.F.type_list_append mt_append (pv 6) (pa_cons (pe_tup (pa_cons (pv 17) (pa_cons (pv 18) (pa_cons (pv 14) pa_nil)))) pa_nil))))) pss_nil)))))))))
      (pss_one (ps_ret (pv 6))))))))))))), ?_⟩
    refine ⟨_, rfl, _, rfl, g, l, _, rfl, B, by omega, lt_pow (a := 10) (by omega) (by decide), fun c1 H1 c10 c11 B1 K1 => ⟨_, _, rfl, rfl, ?_⟩⟩
    refine ⟨(by show 2 ≤ sizeLine; decide), fun z1 hz1 => ?_⟩
    have B1' := B1.new (o := .lst [V.int 6, .int 1000000]) hz1
    refine ⟨_, rfl, g, l, _, rfl, B1', by decide, by decide, fun c2 H2 c20 c21 B2 K2 => ?_⟩
    have hz2 := K2 _ _ upd_same (B1.ne hz1).1
    have K02 : Kp g H H2 := (K1.new hz1).trans K2
    obtain ⟨sz, hsz, sz1, sz2⟩ : ∃ sz : Int, atI [V.int 6, .int 1000000] (c2 / 7) = some (.int sz) ∧ 1 ≤ sz ∧ sz ≤ 1000000 := by
      have : c2 / 7 = 0 ∨ c2 / 7 = 1 := by omega
      rcases this with h | h <;> rw [h] <;> exact ⟨_, rfl, by decide, by decide⟩
    refine ⟨_, _, rfl, rfl, ⟨by decide, by decide⟩, z1, _, _, _, rfl, rfl, SqL.of hz2, hsz, ?_⟩
    refine ⟨_, rfl, (by show 4 ≤ sizeLine; decide), fun wq hwq => ?_⟩
    have B2' := B2.new (o := .lst [V.str "buy", .str "sell", .str "back", .str "late"]) hwq
    refine ⟨g, l, wq, 9, words4, rfl, B2', (B2.ne hwq).1, by decide, by decide, upd_same, by decide, by decide, by decide, fun nq ns H3 nnq hnq hnl hnd hno B3 K3 => ?_⟩
    have NO : NamesOk ns := fun n hn => by
      rcases hno n hn with h | h
      · exact ⟨name_ok h, Nat.le_trans h.2.1 (by decide)⟩
      · exact words_ok n h
    have K03 : Kp g H H3 := (K02.new hwq).trans K3
    have nqg : nq ≠ g := fun e => by
      obtain ⟨xs, hg⟩ := B2'.lst
      rw [e, hg] at nnq
      cases nnq
    refine ⟨_, rfl, nq, _, rfl, SqL.of hnq, fun sq hsq => ?_⟩
    refine ⟨Nat.zero_le _, fun eq heq => ⟨Nat.zero_le _, fun bq hbq lq hlq => ?_⟩⟩
    have v1 := Same.new (o := .lst (ns.map vS).reverse) hsq
    have v2 := Same.new (o := .lst []) heq
    have v3 := Same.new (o := .lst []) hbq
    have v4 := Same.new (o := .dK []) hlq
    have v14 := v1.trans (v2.trans (v3.trans v4))
    have q1 : H3 eq = none := Same.none v1 heq
    have q2 : H3 bq = none := Same.none (v1.trans v2) hbq
    have st : EL (upd (upd (upd (upd H3 sq (.lst (ns.map vS).reverse)) eq (.lst [])) bq (.lst [])) lq (.dK [])) g l nq sq eq bq lq ns [] [] [] [] :=
      ⟨B3.keep v14, v14 _ _ hnq, (v2.trans (v3.trans v4)) _ _ upd_same, (v3.trans v4) _ _ upd_same, .nil, fun t ht => (by cases ht), v4 _ _ upd_same, upd_same, ⟨nqg, (B3.ne hsq).1⟩, B3.ne q1, B3.ne q2,
        ⟨(ne_of_none hnq q1).symm, (ne_of_none upd_same heq).symm, ne_of_none upd_same hbq, (ne_of_none hnq q2).symm, (ne_of_none (v2 _ _ upd_same) hbq).symm⟩⟩
    have KS : Kp g H (upd (upd (upd (upd H3 sq (.lst (ns.map vS).reverse)) eq (.lst [])) bq (.lst [])) lq (.dK [])) := K03.trans (Kp.same v14)
    have feq : H eq = none := kp_none K03 q1 (B3.ne q1).1
    have fbq : H bq = none := kp_none K03 q2 (B3.ne q2).1
    have flq : H lq = none := kp_none (K03.trans (Kp.same (v1.trans (v2.trans v3)))) hlq ((B3.keep (v1.trans (v2.trans v3))).ne hlq).1
    generalize upd (upd (upd (upd H3 sq (.lst (ns.map vS).reverse)) eq (.lst [])) bq (.lst [])) lq (.dK []) = H4 at st KS ⊢
    have pp : ELp ns [] [] [] 0 0 0 := ⟨hnl, NO, by decide, fun b hb => (by cases hb), fun u hu => (by cases hu), fun u hu => (by cases hu), .nil, Nat.le_refl _, Nat.le_refl _, fun p hp => (by cases hp), by decide, by decide, by decide, by decide, fun _ => ⟨rfl, rfl⟩⟩
    refine ⟨⟨_, rfl, 1 + c1, rfl, by omega, by omega, for_range (lo := 0) (n := (1 + c1).toNat) (fun i σ' H' => Wd (∃ (bs : List (List Nat)) (ts : List Addr) (es : List En) (kvs : List (L2.Key × V)) (stock costs : Int) (o : List (Option V)), o.length = 8 ∧
      σ' = [some (.ref g), some (.int most), some (.int (1 + c1)), some (.int sz), some (.ref nq), some (.ref sq), some (.ref eq), some (.ref bq), some (.ref lq), some (.int stock), some (.int costs)] ++ o ∧ EL H' g l nq sq eq bq lq ns bs ts es kvs ∧ ELp ns bs es kvs i stock costs ∧ (i = 0 ∨ es ≠ []) ∧ Kp g H H'))
      ⟨[], [], [], [], 0, 0, [none, none, none, none, none, none, none, none], rfl, rfl, st, pp, .inl rfl, KS⟩ ?_ ?_⟩⟩
    · rintro i σ' H5 hi ⟨bs, ts, es, kvs, stock, costs, o, hol, rfl, st, pp, hne, KH⟩
      match o, hol with
      | [o11, o12, o13, o14, o15, o16, o17, o18], _ =>
        have i100 : i < 100 := by omega
        refine ⟨_, rfl, g, l, _, rfl, st.bag, by decide, by decide, fun ch H6 ch0 ch1 B6 K6 => ?_⟩
        have st6 := st.move B6 K6
        refine ⟨⟨lq, _, st6.L, trivial, fun od => ⟨_, rfl, lq, od, rfl, .inl ⟨kvs, upd_same, fun D hD => ?_⟩⟩⟩⟩
        have nDl : D ≠ lq := fun e => by rw [e, upd_same] at hD; cases hD
        refine lc_it walk_keys (fun j H' => Wd (∃ zs : List Str, zs.length ≤ j ∧ (∀ z ∈ zs, ∃ n : Int, valV kvs (.inr z) = some (.int n) ∧ 0 < n) ∧ H' = upd (upd H6 lq (.frz od (.dK kvs))) D (.lst (zs.map V.str)))) ⟨[], Nat.le_refl _, fun z hz => (by cases hz), rfl⟩ (fun j H' _ h => ?_) ?_ ?_
        · obtain ⟨zs, _, _, rfl⟩ := h.ok
          rw [upd_ne nDl.symm, upd_same]
        · rintro j x H7 H8 hj ⟨zs, hzl, hz, rfl⟩ ⟨rfl, kk, v, hkv, rfl⟩
          obtain ⟨m, hm, ek, _⟩ := pp.kv (kk, v) (List.mem_of_getElem? hkv)
          obtain ⟨v', hv'⟩ := mem_valV (List.mem_of_getElem? hkv)
          obtain ⟨_, _, _, n', ev', n0', n1'⟩ := pp.kv _ (valV_mem hv')
          have ek : kk = Sum.inr (SX.S m) := ek
          have ev' : v' = .int n' := ev'
          subst ek ev'
          have gg : DGet (upd (upd H6 lq (.frz od (.dK kvs))) D (.lst (zs.map V.str))) lq (.str (SX.S m)) (some (.int n')) := .inl ⟨kvs, Sum.inr (SX.S m), .inr ⟨od, by rw [upd_ne nDl.symm, upd_same]⟩, rfl, hv'.symm⟩
          refine ⟨rfl, _, rfl, _, rfl, lq, .int n', rfl, gg, _, _, rfl, rfl, _, rfl, if_dec (fun e => ?_) (fun e => ?_)⟩
          · refine ⟨_, rfl, _, upd_same, ?_, zs ++ [SX.S m], by rw [List.length_append]; exact Nat.succ_le_succ hzl, fun z hz' => ?_, by rw [upd_upd, List.map_append]; rfl⟩
            · rw [List.length_map]
              exact Nat.lt_of_lt_of_le (by have := pp.kl; omega : zs.length < 1000) (by decide)
            · rcases List.mem_append.mp hz' with hz' | hz'
              · exact hz z hz'
              · rw [List.mem_singleton] at hz'
                subst hz'
                exact ⟨n', hv', e⟩
          · exact ⟨zs, Nat.le_succ_of_le hzl, hz, rfl⟩
        rintro H7 ⟨zs, hzl, hz, rfl⟩
        refine ⟨by rw [upd_ne nDl.symm, upd_same], ?_⟩
        rw [upd_back st6.L nDl]
        have hD6 : H6 D = none := by
          rw [upd_ne nDl] at hD
          exact hD
        have sD := Same.new (o := .lst (zs.map V.str)) hD6
        have st7 := st6.same sD
        have KD : Kp g H (upd H6 D (.lst (zs.map V.str))) := (KH.trans K6).trans (Kp.same sD)
        have hDD : upd H6 D (.lst (zs.map V.str)) D = some (.lst (zs.map V.str)) := upd_same
        have nDg := B6.ne hD6
        generalize upd H6 D (.lst (zs.map V.str)) = H7 at st7 KD hDD ⊢
        clear sD hD st6 hD6
        have rng' : ∀ u ∈ es, 0 ≤ u.d ∧ 0 ≤ u.n ∧ u.d ≤ 9 * ((i + 1 : Nat) : Int) + 3 ∧ u.n ≤ 3 * ((i + 1 : Nat) : Int) + 3 := fun u hu => by
          have := pp.rng u hu
          refine ⟨this.1, this.2.1, by omega, by omega⟩
        have s1i := pp.s1
        have s0i := pp.s0
        have mid : ∀ (bs' : List (List Nat)) (kvs' : List (L2.Key × V)) (stock' costs' : Int), bs'.length ≤ 6 → (∀ b ∈ bs', b ∈ ns) → kvs'.length ≤ i + 1 → (∀ p ∈ kvs', ∃ m ∈ ns, p.1 = Sum.inr (SX.S m) ∧ ∃ j : Int, p.2 = .int j ∧ 0 ≤ j ∧ j ≤ 1000000) → 0 ≤ stock' → stock' ≤ stock + 1000000 → 0 ≤ costs' → costs' ≤ 3 → ELp ns bs' es kvs' (i + 1) stock' costs' := fun bs' kvs' stock' costs' a1 a2 a3 a4 a5 a6 a7 a8 =>
          ⟨pp.nl, pp.nok, a1, a2, pp.eok, rng', pp.inc, Nat.le_succ_of_le pp.el, a3, a4, a5, by omega, a7, a8, fun z => by omega⟩
        refine ⟨⟨fun σ' H' => Wd (∃ (bs' : List (List Nat)) (kvs' : List (L2.Key × V)) (stock' costs' : Int) (ev : V) (o : List (Option V)), o.length = 4 ∧
          σ' = [some (.ref g), some (.int most), some (.int (1 + c1)), some (.int sz), some (.ref nq), some (.ref sq), some (.ref eq), some (.ref bq), some (.ref lq), some (.int stock'), some (.int costs'), some (.int (0 + (i : Int))), some (.int ch), some (.ref D), some ev] ++ o ∧ EL H' g l nq sq eq bq lq ns bs' ts es kvs' ∧ ELp ns bs' es kvs' (i + 1) stock' costs' ∧
          ((ev = .non ∧ es ≠ []) ∨ ∃ e kd nm x, ev = .ref e ∧ H' e = some (.tup [.str kd, .str nm, x]) ∧ EnOk ⟨0, 0, e, kd, nm, x⟩) ∧ Kp g H H'), ?_, ?_⟩⟩
        · refine tIf_of (p := bs.length < 6 ∧ (stock = 0 ∨ ch < 2)) (H := H7) (fun Q hT hF => ?_) (fun H8 s8 hp => ?_) (fun H8 s8 hp => ?_)
          · refine ⟨_, rfl, bq, _, rfl, .inl (SqL.of st7.B), _, _, rfl, rfl, _, rfl, if_dec (fun e => ?_) (fun e => hF H7 (fun _ _ h => h) fun z => e ?_)⟩
            · have e' : bs.length < 6 := by
                rw [List.length_map] at e
                omega
              refine ⟨_, rfl, rfl, _, rfl, if_int (fun e1 => hT H7 (fun _ _ h => h) ⟨e', .inl e1⟩) (fun e1 => ?_)⟩
              exact ⟨_, rfl, _, _, rfl, rfl, _, rfl, q_dec (fun e2 => hT H7 (fun _ _ h => h) ⟨e', .inr e2⟩) (fun e2 => hF H7 (fun _ _ h => h) fun z => z.2.elim e1 e2)⟩
            · rw [List.length_map]
              have := z.1
              omega
          · have st8 := st7.same s8
            refine ⟨_, rfl, _, rfl, g, l, _, rfl, st8.bag, by omega, lt_pow (a := 20) (by omega) (by decide), fun c3 H9 c30 c31 B9 K9 => ⟨_, _, rfl, rfl, ?_⟩⟩
            have st9 := st8.move B9 K9
            have hbl := pp.nl
            have hb6 := hp.1
            have hlt : bs.length < ns.length := by omega
            have hat : atI (ns.map vS) (((bs.map vS).length : Nat) : Int) = some (vS ns[bs.length]) := by
              rw [List.length_map]
              refine atI_nat ?_
              rw [List.getElem?_map, List.getElem?_eq_getElem hlt]
              rfl
            have hmem : ns[bs.length] ∈ ns := List.getElem_mem hlt
            obtain ⟨hn1, hn2⟩ := pp.nok _ hmem
            refine ⟨_, rfl, _, rfl, bq, _, rfl, .inl (SqL.of st9.B), nq, _, _, _, rfl, rfl, SqL.of st9.N, hat, _, rfl, (by show 3 ≤ sizeLine; decide), fun e he => ?_⟩
            have sE := Same.new (o := .tup [V.str "buy", vS ns[bs.length], .int (1 + c3)]) he
            have stA := st9.same sE
            refine ⟨_, rfl, .inl ⟨rfl, _, SqL.of stA.B⟩, _, rfl, _, rfl, bq, _, rfl, .inl (SqL.of stA.B), nq, _, _, _, rfl, rfl, SqL.of stA.N, hat, bq, _, _, rfl, rfl, stA.B, ?_, ?_⟩
            · rw [List.length_map]
              exact Nat.lt_of_lt_of_le (by omega : bs.length < 1000) (by decide)
            refine ⟨_, rfl, _, rfl, _, _, rfl, rfl, bs ++ [ns[bs.length]], kvs, stock + (1 + c3), costs, .ref e, [_, _, _, _], rfl, rfl, ?_, mid _ kvs _ costs (by rw [List.length_append]; show bs.length + 1 ≤ 6; omega) (fun b hb => ?_) (Nat.le_succ_of_le pp.kl) pp.kv (by omega) (by omega) pp.c0 pp.c3, .inr ⟨e, "buy", SX.S ns[bs.length], .int (1 + c3), rfl, ?_, ent_units buy_yes hn1 (by omega) (by omega), .int _, fun z ez => by rw [← V.str.inj ez, SX.S_len]; exact hn2, fun z ez => by cases ez⟩, ?_⟩
            · have := stA.bput (bs ++ [ns[bs.length]])
              rw [List.map_append] at this
              exact this
            · rcases List.mem_append.mp hb with hb | hb
              · exact pp.bm b hb
              · rw [List.mem_singleton] at hb
                rw [hb]
                exact hmem
            · rw [upd_ne (ne_of_none st9.B he).symm, upd_same]
              rfl
            · exact (((KD.trans (Kp.same s8)).trans K9).trans (Kp.same sE)).put fbq
          · have hes : es ≠ [] := hne.resolve_left fun z => hp (by
              obtain ⟨z1, z2⟩ := pp.z z
              rw [z1, z2]
              exact ⟨by decide, .inl rfl⟩)
            have st8 := st7.same s8
            have hD8 := s8 _ _ hDD
            refine tIf_of (p := 0 < stock ∧ ch < 5 ∧ kvs.length < 9) (H := H8) (fun Q hT hF => ?_) (fun H9 s9 hp2 => ?_) (fun H9 s9 hp2 => ?_)
            · refine ⟨_, rfl, _, _, rfl, rfl, _, rfl, if_dec (fun e => ?_) (fun e => hF H8 (fun _ _ h => h) fun z => e z.1)⟩
              refine ⟨_, rfl, _, _, rfl, rfl, _, rfl, if_dec (fun e2 => ?_) (fun e2 => hF H8 (fun _ _ h => h) fun z => e2 z.2.1)⟩
              refine ⟨_, rfl, lq, _, rfl, st8.L, _, _, rfl, rfl, _, rfl, q_dec (fun e3 => hT H8 (fun _ _ h => h) ⟨e, e2, by omega⟩) (fun e3 => hF H8 (fun _ _ h => h) fun z => e3 (by have := z.2.2; omega))⟩
            · have st9 := st8.same s9
              have hk9 := hp2.2.2
              have hst : stock < 2 ^ 40 := by omega
              refine ⟨_, rfl, _, rfl, g, l, _, rfl, st9.bag, hp2.1, lt_pow (a := 40) (by omega) (by decide), fun c3 HA c30 c31 BA KA => ⟨_, _, rfl, rfl, ?_⟩⟩
              have stA := st9.move BA KA
              refine ⟨⟨fun σ' H' => Wd (∃ u : Int, 1 ≤ u ∧ u ≤ stock ∧ H' = HA ∧ σ' = [some (.ref g), some (.int most), some (.int (1 + c1)), some (.int sz), some (.ref nq), some (.ref sq), some (.ref eq), some (.ref bq), some (.ref lq), some (.int stock), some (.int costs), some (.int (0 + (i : Int))), some (.int ch), some (.ref D), some .non, some (.int u), o16, o17, o18]), ?_, ?_⟩⟩
              · refine ⟨_, rfl, rfl, _, rfl, if_int (fun e => ?_) (fun e => iteF ⟨1 + c3, by omega, by omega, rfl, rfl⟩)⟩
                exact ⟨_, rfl, _, _, rfl, rfl, _, rfl, if_dec (fun e2 => ⟨_, rfl, stock, by omega, Int.le_refl _, rfl, rfl⟩) (fun e2 => ⟨1 + c3, by omega, by omega, rfl, rfl⟩)⟩
              · rintro σ' H' ⟨u, u1, u2, rfl, rfl⟩
                refine ⟨_, rfl, _, _, rfl, ?_⟩
                obtain ⟨v, hv, v1, v2, v3⟩ : ∃ v : Int, (if (1000000 : Int) < u then 1000000 else u) = v ∧ 1 ≤ v ∧ v ≤ 1000000 ∧ v ≤ stock := by
                  split
                  · exact ⟨_, rfl, by omega, by omega, by omega⟩
                  · exact ⟨_, rfl, by omega, by omega, by omega⟩
                rw [hv]
                obtain ⟨x, hxm, hat⟩ := at_mem (xs := (ns.map vS).reverse) (j := kvs.length) (by rw [List.length_reverse, List.length_map, pp.nl]; exact hk9)
                obtain ⟨m, hm, rfl⟩ := List.mem_map.mp (List.mem_reverse.mp hxm)
                obtain ⟨hn1, hn2⟩ := pp.nok m hm
                refine ⟨_, rfl, _, rfl, lq, _, rfl, stA.L, sq, _, _, _, rfl, rfl, SqL.of stA.S, hat, _, rfl, (by show 3 ≤ sizeLine; decide), fun e he => ?_⟩
                have sE := Same.new (o := .tup [V.str "sell", vS m, .int v]) he
                have stB := stA.same sE
                have hkl := pp.kl
                refine ⟨_, rfl, _, rfl, _, rfl, _, rfl, lq, _, rfl, stB.L, sq, _, _, _, rfl, rfl, SqL.of stB.S, hat, lq, _, rfl, DPut.k (k := Sum.inr (SX.S m)) stB.L (Nat.lt_of_lt_of_le (by omega : kvs.length < 1000) (by decide)), ?_⟩
                refine ⟨_, rfl, _, rfl, _, _, rfl, rfl, bs, putK kvs (Sum.inr (SX.S m)) (.int v), stock - v, costs, .ref e, [_, _, _, _], rfl, rfl, stB.lput _, mid bs _ _ costs pp.bl pp.bm (Nat.le_trans len_putK (Nat.succ_le_succ hkl)) (fun p hp' => ?_) (by omega) (by omega) pp.c0 pp.c3, .inr ⟨e, "sell", SX.S m, .int v, rfl, ?_, ent_units sell_yes hn1 v1 v2, .int _, fun z ez => by rw [← V.str.inj ez, SX.S_len]; exact hn2, fun z ez => by cases ez⟩, ?_⟩
                · rcases mem_putK hp' with rfl | hp'
                  · exact ⟨m, hm, rfl, v, rfl, by omega, v2⟩
                  · exact pp.kv p hp'
                · rw [upd_ne (ne_of_none stA.L he).symm, upd_same]
                  rfl
                · exact ((((KD.trans (Kp.same s8)).trans (Kp.same s9)).trans KA).trans (Kp.same sE)).put flq
            · have st9 := st8.same s9
              have hD9 := s9 _ _ hD8
              refine tIf_of (p := zs ≠ [] ∧ ch < 7) (H := H9) (fun Q hT hF => ?_) (fun HA sA hp3 => ?_) (fun HA sA hp3 => ?_)
              · refine ⟨_, rfl, Nat.zero_le _, fun z hz' => ⟨D, z, _, rfl, rfl, SqL.of (Same.new hz' _ _ hD9), SqL.of upd_same, _, rfl, ?_⟩⟩
                have sz' := Same.new (o := .lst []) hz'
                cases zs with
                | nil => exact iteF (hF _ sz' fun z => z.1 rfl)
                | cons z0 zs0 => exact iteT ⟨_, rfl, _, _, rfl, rfl, _, rfl, q_dec (fun e2 => hT _ sz' ⟨by simp, e2⟩) (fun e2 => hF _ sz' fun z => e2 z.2)⟩
              · have stA := st9.same sA
                have hDA := sA _ _ hD9
                have hzl' : zs.length ≤ 1000 := by have := pp.kl; omega
                refine ⟨_, rfl, _, rfl, g, l, D, _, rfl, stA.bag, nDg.1, hDA, by rw [List.length_map]; exact List.length_pos_iff.mpr hp3.1, by rw [List.length_map]; exact hzl', fun v HB hv BB KB => ?_⟩
                obtain ⟨z, hzm, rfl⟩ := List.mem_map.mp hv
                obtain ⟨n, hn, n0⟩ := hz z hzm
                obtain ⟨m, hm, em, n', en', _, n1⟩ := pp.kv _ (valV_mem hn)
                obtain rfl : n = n' := V.int.inj en'
                obtain rfl : z = SX.S m := Sum.inr.inj em
                obtain ⟨hn1, hn2⟩ := pp.nok m hm
                have stB := stA.move BB KB
                have gB : ∀ {HH : Hp}, HH lq = some (.dK kvs) → DGet HH lq (.str (SX.S m)) (some (.int n)) := fun h => by
                  have g0 := DGet.k (k := Sum.inr (SX.S m)) h
                  rw [hn] at g0
                  exact g0
                refine ⟨_, rfl, _, rfl, _, rfl, lq, .int n, rfl, gB stB.L, g, l, _, rfl, stB.bag, n0, lt_pow (a := 40) (by omega) (by decide), fun c3 HC c30 c31 BC KC => ⟨_, _, rfl, rfl, ?_⟩⟩
                have stC := stB.move BC KC
                refine ⟨_, rfl, _, rfl, (by show 3 ≤ sizeLine; decide), fun e he => ?_⟩
                have sE := Same.new (o := .tup [V.str "back", .str (SX.S m), .int (1 + c3)]) he
                have stD := stC.same sE
                have hkl := pp.kl
                refine ⟨_, rfl, _, rfl, lq, .int n, rfl, gB stD.L, _, rfl, _, _, rfl, rfl, _, rfl, _, rfl, lq, _, rfl, DPut.k (k := Sum.inr (SX.S m)) stD.L (Nat.lt_of_lt_of_le (by omega : kvs.length < 1000) (by decide)), ?_⟩
                refine ⟨_, rfl, _, rfl, _, _, rfl, rfl, bs, putK kvs (Sum.inr (SX.S m)) (.int (n - (1 + c3))), stock + (1 + c3), costs, .ref e, [_, _, _, _], rfl, rfl, stD.lput _, mid bs _ _ costs pp.bl pp.bm (Nat.le_trans len_putK (Nat.succ_le_succ hkl)) (fun p hp' => ?_) (by omega) (by omega) pp.c0 pp.c3, .inr ⟨e, "back", SX.S m, .int (1 + c3), rfl, ?_, ent_units back_yes hn1 (by omega) (by omega), .int _, fun z ez => by rw [← V.str.inj ez, SX.S_len]; exact hn2, fun z ez => by cases ez⟩, ?_⟩
                · rcases mem_putK hp' with rfl | hp'
                  · exact ⟨m, hm, rfl, _, rfl, by omega, by omega⟩
                  · exact pp.kv p hp'
                · rw [upd_ne (ne_of_none stC.L he).symm, upd_same]
                · exact ((((((KD.trans (Kp.same s8)).trans (Kp.same s9)).trans (Kp.same sA)).trans KB).trans KC).trans (Kp.same sE)).put flq
              · have stA := st9.same sA
                refine tIf_of (p := bs ≠ [] ∧ costs < 3) (H := HA) (fun Q hT hF => ?_) (fun HB sB hp4 => ?_) (fun HB sB hp4 => ?_)
                · refine ⟨_, rfl, Nat.zero_le _, fun z hz' => ⟨bq, z, _, rfl, rfl, SqL.of (Same.new hz' _ _ stA.B), SqL.of upd_same, _, rfl, ?_⟩⟩
                  have sz' := Same.new (o := .lst []) hz'
                  cases bs with
                  | nil => exact iteF (hF _ sz' fun z => z.1 rfl)
                  | cons z0 zs0 => exact iteT ⟨_, rfl, _, _, rfl, rfl, _, rfl, q_dec (fun e2 => hT _ sz' ⟨by simp, e2⟩) (fun e2 => hF _ sz' fun z => e2 z.2)⟩
                · have stB := stA.same sB
                  have hc0 := pp.c0
                  obtain ⟨j, hj⟩ : ∃ j : Nat, 6 + costs = (j : Int) := ⟨(6 + costs).toNat, by omega⟩
                  obtain ⟨x, hxm, hat⟩ := at_mem (xs := ns.map vS) (j := j) (by rw [List.length_map, pp.nl]; have := hp4.2; omega)
                  obtain ⟨m, hm, rfl⟩ := List.mem_map.mp hxm
                  obtain ⟨hn1, hn2⟩ := pp.nok m hm
                  rw [← hj] at hat
                  refine ⟨_, rfl, _, rfl, _, _, rfl, rfl, nq, _, _, _, rfl, rfl, SqL.of stB.N, hat, _, rfl, _, rfl, g, l, bq, _, rfl, stB.bag, stB.gb.1, stB.B, by rw [List.length_map]; exact List.length_pos_iff.mpr hp4.1, by rw [List.length_map]; have := pp.bl; omega, fun v HC hv BC KC => ?_⟩
                  obtain ⟨lot, hlm, rfl⟩ := List.mem_map.mp hv
                  obtain ⟨hl1, hl2⟩ := pp.nok lot (pp.bm lot hlm)
                  have stC := stB.move BC KC
                  refine ⟨(by show 3 ≤ sizeLine; decide), fun e he => ?_⟩
                  have sE := Same.new (o := .tup [V.str "late", vS m, vS lot]) he
                  refine ⟨_, rfl, _, _, rfl, rfl, bs, kvs, stock, costs + 1, .ref e, [_, _, _, _], rfl, rfl, stC.same sE, mid bs kvs stock _ pp.bl pp.bm (Nat.le_succ_of_le pp.kl) pp.kv s0i (by omega) (by omega) (by have := hp4.2; omega), .inr ⟨e, "late", SX.S m, vS lot, rfl, upd_same, ent_late hn1 hl1, .str _, fun z ez => by rw [← V.str.inj ez, SX.S_len]; exact hn2, fun z ez => by rw [← V.str.inj ez, SX.S_len]; exact hl2⟩, ?_⟩
                  exact ((((((KD.trans (Kp.same s8)).trans (Kp.same s9)).trans (Kp.same sA)).trans (Kp.same sB)).trans KC).trans (Kp.same sE))
                · exact ⟨bs, kvs, stock, costs, .non, [_, _, _, _], rfl, rfl, stA.same sB, mid bs kvs stock costs pp.bl pp.bm (Nat.le_succ_of_le pp.kl) pp.kv s0i (by omega) pp.c0 pp.c3, .inl ⟨rfl, hes⟩, (((KD.trans (Kp.same s8)).trans (Kp.same s9)).trans (Kp.same sA)).trans (Kp.same sB)⟩
        · rintro σ' H8 ⟨bs', kvs', stock', costs', ev, o, hol, rfl, st8, pp8, hev, K8⟩
          match o, hol with
          | [p15, p16, p17, p18], _ =>
            rcases hev with ⟨rfl, hes⟩ | ⟨e, kd, nm, x, rfl, he, hok⟩
            · refine ⟨_, rfl, rfl, _, rfl, ifNT rfl ?_⟩
              exact ⟨bs', ts, es, kvs', stock', costs', [_, _, _, _, _, _, _, _], rfl, rfl, st8, pp8, .inr hes, K8⟩
            · refine ⟨_, rfl, rfl, _, rfl, ifNF (fun z => by cases z) ?_⟩
              refine ⟨_, rfl, _, rfl, g, l, eq, ts, es, rfl, st8.bag, st8.ge.1, st8.E, st8.T, fun u hu => ⟨(pp.rng u hu).1, (pp.rng u hu).2.1⟩, fun p d n H9 hp d0 n0 hnil hlast B9 K9 => ?_⟩
              have st9 := st8.move B9 K9
              obtain ⟨xs, hg⟩ := st8.bag.lst
              have he9 := K9 _ _ he (ne_of he hg (by intro z; cases z))
              refine ⟨p, _, rfl, SqT.of hp, rfl, _, _, rfl, _, _, rfl, rfl, ?_⟩
              refine ⟨_, rfl, .inl ⟨rfl, _, SqL.of st9.E⟩, _, rfl, _, rfl, _, rfl, (by show 3 ≤ sizeLine; decide), fun t ht => ?_⟩
              have sT := Same.new (o := .tup [V.int d, .int n, .ref e]) ht
              have stA := st9.same sT
              refine ⟨eq, _, _, rfl, rfl, stA.E, ?_, bs', ts ++ [t], es ++ [⟨d, n, e, kd, nm, x⟩], kvs', stock', costs', [_, _, _, _, _, _, _, _], rfl, rfl, ?_, ?_, .inr (by simp), ?_⟩
              · rw [List.length_map, st9.T.1]
                exact Nat.lt_of_lt_of_le (by have := pp.el; omega : es.length < 1000) (by decide)
              · have := stA.eput (t := t) (u := ⟨d, n, e, kd, nm, x⟩) upd_same (sT _ _ he9)
                rw [List.map_append] at this
                exact this
              · have hbound : d ≤ 9 * ((i + 1 : Nat) : Int) + 3 ∧ n ≤ 3 * ((i + 1 : Nat) : Int) + 3 := by
                  cases hl : es.getLast? with
                  | none =>
                    have := hnil (List.getLast?_eq_none_iff.mp hl)
                    omega
                  | some u =>
                    have h1 := hlast u hl
                    have h2 := pp.rng u (List.mem_of_getLast? hl)
                    omega
                refine ⟨pp8.nl, pp8.nok, pp8.bl, pp8.bm, fun u hu => ?_, fun u hu => ?_, ?_, by rw [List.length_append]; exact Nat.succ_le_succ pp.el, pp8.kl, pp8.kv, pp8.s0, pp8.s1, pp8.c0, pp8.c3, pp8.z⟩
                · rcases List.mem_append.mp hu with hu | hu
                  · exact pp.eok u hu
                  · rw [List.mem_singleton] at hu
                    subst hu
                    exact hok
                · rcases List.mem_append.mp hu with hu | hu
                  · exact rng' u hu
                  · rw [List.mem_singleton] at hu
                    subst hu
                    exact ⟨d0, n0, hbound.1, hbound.2⟩
                · rw [List.pairwise_append]
                  refine ⟨pp.inc, List.pairwise_singleton _ _, fun a ha b hb => ?_⟩
                  rw [List.mem_singleton] at hb
                  subst hb
                  exact lt_last pp.inc ha fun u hu => (hlast u hu).1
              · exact ((K8.trans K9).trans (Kp.same sT)).put feq
    · rintro σ' H5 ⟨bs, ts, es, kvs, stock, costs, o, hol, rfl, st, pp, hne, KH⟩
      refine ⟨_, rfl, k eq ts es H5 feq st.E st.T st.ent pp.eok (fun u hu => ?_) pp.inc (hne.resolve_left (by omega)) ?_ st.bag KH⟩
      · have := pp.rng u hu
        have h100 : ((1 + c1).toNat : Int) ≤ 100 := by omega
        refine ⟨this.1, this.2.1, by omega, by omega⟩
      · have := pp.el
        omega
end

/-! ### sorted(xs), xs pairs whose first part is a pair of ints, no two alike -/
theorem perm_map_back {α β : Type} {f : α → β} {us : List α} {out : List β} (h : out.Perm (us.map f)) : ∃ zs : List α, out = zs.map f ∧ zs.Perm us := by
  induction out generalizing us with
  | nil =>
    have : us = [] := by
      have := h.length_eq
      rw [List.length_map] at this
      exact List.eq_nil_of_length_eq_zero this.symm
    subst this
    exact ⟨[], rfl, .nil⟩
  | cons b out ih =>
    obtain ⟨u, hu, rfl⟩ := List.mem_map.mp (h.mem_iff.mp List.mem_cons_self)
    obtain ⟨l1, l2, rfl⟩ := List.append_of_mem hu
    rw [List.map_append, List.map_cons] at h
    have h2 : out.Perm ((l1 ++ l2).map f) := by
      rw [List.map_append]
      exact (List.perm_cons (f u)).mp (h.trans List.perm_middle)
    obtain ⟨zs, rfl, hp⟩ := ih h2
    exact ⟨u :: zs, rfl, ((List.perm_cons u).mpr hp).trans List.perm_middle.symm⟩
theorem inj_of_nodup {α β : Type} {f : α → β} {l : List α} (h : (l.map f).Nodup) {x y : α} (hx : x ∈ l) (hy : y ∈ l) (e : f x = f y) : x = y := by
  induction l with
  | nil => cases hx
  | cons a l ih =>
    rw [List.map_cons, List.nodup_cons] at h
    rcases List.mem_cons.mp hx with e1 | hx2
    · rcases List.mem_cons.mp hy with e2 | hy2
      · rw [e1, e2]
      · rw [e1] at e
        exact absurd (e ▸ List.mem_map.mpr ⟨y, hy2, rfl⟩) h.1
    · rcases List.mem_cons.mp hy with e2 | hy2
      · rw [e2] at e
        exact absurd (e ▸ List.mem_map.mpr ⟨x, hx2, rfl⟩) h.1
      · exact ih h.2 hx2 hy2
section
open PySem PySem.W PyProof.Rows SrtO
variable {prog : Program} {w : World} {A : Around} {s : Shared}
/-- v is a tuple of a pair of ints and something else -/
def IsKeyed (h : Heap) (v : Value) (x y : Int) : Prop := ∃ a o ka ba n, v = .ref a ∧ h.get? a = some o ∧ o.cls = .type "tuple" ∧ o.data = .seq #[.ref ka, .ref ba] n ∧ Srt.IsPair h (.ref ka) x y
theorem IsKeyed.keeps {h h' : Heap} {v : Value} {x y : Int} (p : IsKeyed h v x y) (k : ∀ b o, h.get? b = some o → o.cls = .type "tuple" → h'.get? b = some o) : IsKeyed h' v x y := by
  obtain ⟨a, o, ka, ba, n, e, ho, hc, hd, q⟩ := p
  exact ⟨a, o, ka, ba, n, e, k _ _ ho hc, hc, hd, q.keeps k⟩
theorem pair_reads {h : Heap} {ka : Addr} {x y : Int} (p : Srt.IsPair h (.ref ka) x y) : ∃ as, Reads h (.ref ka) (.tuple [.int x, .int y]) as := by
  obtain ⟨a, o, t, u, n, e, ho, hc, hd⟩ := p
  cases e
  exact ⟨_, .tuple ho hc hd (.cons (.int x t) (.cons (.int y u) .nil))⟩
theorem eqv_pair {x y x' y' : Int} : PyData.eqv (.tuple [.int x, .int y]) (.tuple [.int x', .int y']) = decide ((x, y) = (x', y')) := by
  show (x == x' && (y == y' && true)) = _
  rw [Bool.and_true, Bool.eq_iff_iff, Bool.and_eq_true, beq_iff_eq, beq_iff_eq, decide_eq_true_iff]
  exact ⟨fun z => Prod.ext z.1 z.2, fun z => ⟨congrArg Prod.fst z, congrArg Prod.snd z⟩⟩
theorem keyed_cmp {vs : List Value} {k : Value → Int × Int} (hp : ∀ v ∈ vs, IsKeyed s.heap v (k v).1 (k v).2) (hn : ∀ v ∈ vs, ∀ u ∈ vs, k v = k u → v = u) (hu : A.units + 64 < cLine) : Cmp prog w A s (tuples' false) (fun p => p.1 ∈ vs) (lt2 fun v u => lexB (k v) (k u)) := by
  intro p q hm hm'
  have h1 := hp _ hm
  have h2 := hp _ hm'
  show wpAny (model prog w) A (keyLt' (tuples' false) p.1 q.1) (fun r s' => s' = s ∧ r = lexB (k p.1) (k q.1)) (fun _ _ => False) s
  obtain ⟨a, o, ka, ba, n, e, ho, hc, hd, hk⟩ := h1
  obtain ⟨a', o', ka', ba', n', e', ho', hc', hd', hk'⟩ := h2
  by_cases z : p.1 = q.1
  · have irr : lexB (k p.1) (k q.1) = false := by
      rw [z]
      exact lexB_no.mpr (by omega)
    rw [irr]
    rw [z] at e
    have ea : a = a' := Value.ref.inj (e.symm.trans e')
    subst ea
    rw [ho] at ho'
    cases ho'
    rw [hd] at hd'
    cases hd'
    rw [z, e]
    refine kat_lt ho hd ho hd ?_
    show KatLex prog w A false (decide (2 < 2)) _ [(.ref ka, .ref ka), (.ref ba, .ref ba)] 0 s
    refine kat_cons (SeqAt.EqAt.same (.ref ka) prog w _ _ (kat_yes (kat_cons (SeqAt.EqAt.same (.ref ba) prog w _ _ (kat_yes (kat_nil ⟨rfl, rfl⟩))))))
  · have hne : ¬ k p.1 = k q.1 := fun t => z (hn _ hm _ hm' t)
    obtain ⟨as, r1⟩ := pair_reads hk
    obtain ⟨bs, r2⟩ := pair_reads hk'
    have q1 := SeqAt.eqAt_plain _ _ A s _ _ as bs r1 r2 rfl rfl (Nat.lt_of_le_of_lt (Nat.add_le_add_left (Nat.le_trans (Nat.min_le_left _ _) (Nat.le_of_ble_eq_true rfl : (PyData.tuple [.int (k p.1).1, .int (k p.1).2]).depth ≤ 1)) _) (by omega))
    rw [eqv_pair, decide_eq_false (show ¬ ((k p.1).1, (k p.1).2) = ((k q.1).1, (k q.1).2) from hne)] at q1
    rw [e, e'] at *
    refine kat_lt ho hd ho' hd' ?_
    show KatLex prog w A false (decide (2 < 2)) _ [(.ref ka, .ref ka'), (.ref ba, .ref ba')] 0 s
    refine kat_cons (q1 prog w _ _ (kat_no (kat_one _ _ ?_)))
    obtain ⟨a1, o1, t1, u1, n1, e1, ho1, hc1, hd1⟩ := hk
    obtain ⟨a2, o2, t2, u2, n2, e2, ho2, hc2, hd2⟩ := hk'
    cases e1
    cases e2
    refine HT.lt_tupInts ⟨o1, ho1, hc1, n1, hd1⟩ ⟨o2, ho2, hc2, n2, hd2⟩ (.cons _ _ (.cons _ _ .nil)) (.cons _ _ (.cons _ _ .nil)) (by omega) ?_
    refine ⟨rfl, ?_⟩
    show (if _ = _ then (if _ = _ then false else decide _) else decide _) = lexB _ _
    unfold lexB
    split
    · split
      · next ey => exact (decide_eq_false (by rw [ey]; exact Int.lt_irrefl _)).symm
      · rfl
    · rfl
theorem keyed_firsts {h : Heap} : ∀ {vs : List Value}, (∀ v ∈ vs, ∃ x y, IsKeyed h v x y) → ∃ fs : List Value, KatTups h vs fs ∧ fs.length = vs.length ∧ ∀ f ∈ fs, ∃ (q : Addr) (o : Obj), f = Value.ref q ∧ h.get? q = some o ∧ o.cls = .type "tuple"
  | [], _ => ⟨[], KatTups.nil, rfl, fun f hf => by simp at hf⟩
  | v :: vs, x => by
    obtain ⟨fs, k, hl, hi⟩ := keyed_firsts (vs := vs) fun u hu => x u (List.mem_cons_of_mem _ hu)
    obtain ⟨_, _, a, o, ka, ba, n, rfl, ho, hc, hd, a1, o1, t1, u1, n1, e1, ho1, hc1, hd1⟩ := x v (List.mem_cons_self ..)
    cases e1
    refine ⟨.ref ka :: fs, KatTups.cons ho hc hd rfl k, by rw [List.length_cons, List.length_cons, hl], fun f hf => ?_⟩
    rcases List.mem_cons.mp hf with rfl | hf
    · exact ⟨ka, o1, rfl, ho1, hc1⟩
    · exact hi f hf
theorem keyed_sortable {a : Addr} {vs : List Value} {k : Value → Int × Int} (h0 : 0 < vs.length) (hp : ∀ v ∈ vs, IsKeyed s.heap v (k v).1 (k v).2) (hn : ∀ v ∈ vs, ∀ u ∈ vs, k v = k u → v = u) (hu : A.units + 64 < cLine) (ha : ∀ o, s.heap.get? a = some o → o.cls ≠ .type "tuple") : SortableO prog w A s a vs fun v u => lexB (k v) (k u) := by
  intro h' keep
  have hp' : ∀ v ∈ vs, IsKeyed h' v (k v).1 (k v).2 := fun v hm => (hp v hm).keeps fun b o e c => keep b o (fun z => by subst z; exact ha o e c) e
  obtain ⟨fs, h1, h2, h3⟩ := keyed_firsts fun v hm => ⟨_, _, hp' v hm⟩
  refine ⟨tuples' false, fun Q E hq => ?_, keyed_cmp hp' hn hu⟩
  refine kat_kind (T := .type "tuple") h1 (by omega) (fun f hm => ?_) (by rfl) ?_
  · obtain ⟨q, o, rfl, ho, hc⟩ := h3 f hm
    have z : PySem.W.Looks (model prog w) h' (typeOf (.ref q)) o.cls := (PySem.W.Looks.ld ho).andThen .now
    rw [hc] at z
    exact z
  · have e : (Value.type "tuple" != Value.type "tuple") = false := by first | rfl | decide | simp
    rw [e]
    exact hq
end
section
open PySem.Spec PyProof.Rows
variable {X : Cx}
/-- sorted(xs): us tells the parts of each, by addresses: itself, the pair, the rest -/
def rSortK (K : PySem.W.Frag) : List V → Hp → VK → Prop := fun vs H Q => Wd (∃ (a : Addr) (us : List (Addr × (Int × Int))), vs = [V.ref a] ∧ SqL K H a (us.map fun u => V.ref u.1) ∧
  (∀ u ∈ us, ∃ ka ba, H u.1 = some (.tup [.ref ka, .ref ba]) ∧ H ka = some (.tup [.int u.2.1, .int u.2.2])) ∧ (us.map (·.2)).Nodup ∧ (us.map (·.1)).Nodup ∧
  ∀ (zs : List (Addr × (Int × Int))) (p : Addr), H p = none → zs.Perm us → (zs.map (·.2)).Pairwise (fun a b => SrtO.lexB b a = false) → Q (.ref p) (upd H p (.lst (zs.map fun u => V.ref u.1))))
def keyIn (us : List (Addr × (Int × Int))) : Value → Int × Int
  | .ref a => ((us.find? fun u => u.1 == a).map (·.2)).getD (0, 0)
  | _ => (0, 0)
theorem keyIn_at {us : List (Addr × (Int × Int))} {u : Addr × (Int × Int)} (hn : (us.map (·.1)).Nodup) (h : u ∈ us) : keyIn us (.ref u.1) = u.2 := by
  show ((us.find? fun v => v.1 == u.1).map (·.2)).getD (0, 0) = u.2
  induction us with
  | nil => cases h
  | cons v vs ih =>
    rw [List.map_cons, List.nodup_cons] at hn
    rw [List.find?_cons]
    rcases List.mem_cons.mp h with rfl | h
    · rw [beq_self_eq_true]
      rfl
    · have hv : (v.1 == u.1) = false := by
        rw [beq_eq_false_iff_ne]
        exact fun e => hn.1 (e ▸ List.mem_map.mpr ⟨u, h, rfl⟩)
      rw [hv]
      exact ih hn.2 h
theorem cr_sortedK (hu : X.A.units + 66 < cLine) : CallR X (.builtin "sorted") (rSortK X.K) := by
  intro pins s σ H vs ws Q I r h
  obtain ⟨a, us, rfl, hs, hx, hn2, hn1, q⟩ := h.ok
  obtain ⟨its, rv, hl, hz⟩ := I.list hs
  rw [Vals.ref1 r]
  have ei : its = us.map fun u => Value.ref u.1 := by
    clear hs hl hx hn1 hn2 q h hz
    induction us generalizing its with
    | nil => cases rv; rfl
    | cons u us ih =>
      cases rv with
      | cons r1 r2 =>
        rw [List.map_cons, ← ih _ r2]
        cases r1
        rfl
  have hmem : ∀ v ∈ its, ∃ u ∈ us, v = Value.ref u.1 := fun v hv => by
    rw [ei] at hv
    obtain ⟨u, hu, rfl⟩ := List.mem_map.mp hv
    exact ⟨u, hu, rfl⟩
  have keyed : ∀ v ∈ its, IsKeyed s.heap v (keyIn us v).1 (keyIn us v).2 := fun v hv => by
    obtain ⟨u, hum, rfl⟩ := hmem v hv
    rw [keyIn_at hn1 hum]
    obtain ⟨ka, ba, e1, e2⟩ := hx u hum
    obtain ⟨_, i2, rr, o, ho, hc, n, hd⟩ := I.hok _ _ e1
    obtain ⟨w1, w2, rfl, q1, q2⟩ := vals2 rr
    cases q1
    cases q2
    obtain ⟨_, i3, rr3, o3, ho3, hc3, n3, hd3⟩ := I.hok _ _ e2
    obtain ⟨w3, w4, rfl, q3, q4⟩ := vals2 rr3
    obtain ⟨t3, rfl⟩ := q3
    obtain ⟨t4, rfl⟩ := q4
    exact ⟨u.1, o, ka, ba, n, rfl, ho, hc, hd, ka, o3, t3, t4, n3, rfl, ho3, hc3, hd3⟩
  have inj : ∀ v ∈ its, ∀ u ∈ its, keyIn us v = keyIn us u → v = u := fun v hv u hv' e => by
    obtain ⟨x, hxm, rfl⟩ := hmem v hv
    obtain ⟨y, hym, rfl⟩ := hmem u hv'
    rw [keyIn_at hn1 hxm, keyIn_at hn1 hym] at e
    have := inj_of_nodup hn2 hxm hym e
    rw [this]
  refine SrtO.sorted_ord (SrtO.swo_lex (keyIn us)) hl.isList (by rw [← rv.length]; exact hz) (fun h2 h₁ b hb kk => ?_) fun out so sb => ?_
  · refine keyed_sortable (s := { s with heap := h₁ }) (by omega) (fun v hm => (keyed v hm).keeps fun b o e _ => (kk b o e).2) inj (by show X.A.in1.in1.units + 64 < cLine; have e1 : X.A.in1.in1.units ≤ X.A.units + 2 := Nat.le_refl _; omega) fun o e => ?_
    have e' : some o = some (seqObj "list" its.toArray 0) := e.symm.trans hb
    cases e'
    intro c
    exact absurd (Value.type.inj c) (by decide)
  · obtain ⟨zs, hzs, hperm⟩ : ∃ zs : List (Addr × (Int × Int)), out = zs.map (fun u => Value.ref u.1) ∧ zs.Perm us := by
      have hp := sb.perm
      rw [ei] at hp
      exact perm_map_back hp
    have hlen : (zs.map fun u => V.ref u.1).length ≤ sizeLine := by
      rw [List.length_map, hperm.length_eq]
      rw [List.length_map] at hz
      exact hz
    obtain ⟨n, hn⟩ := PyProof.Rows.sortedAll_at s.heap its out.toArray
    have hd : s.heap.objs.size ≤ s.heap.objs.size + 1 := Nat.le_succ _
    refine ⟨.ref (s.heap.objs.size + 1), _, I.laid (t' := s.toks) (o := .lst (zs.map fun u => V.ref u.1)) (fun b o e => PyProof.Rows.sortedAll_old e) hd ⟨hlen, out, n, ?_, hn⟩, rfl, q zs _ (I.hok.fresh hd) hperm ?_⟩
    · rw [hzs]
      clear hzs hperm hlen
      induction zs with
      | nil => exact .nil
      | cons z zs ih => exact .cons rfl ih
    · have so' : out.Pairwise fun v u => SrtO.lexB (keyIn us u) (keyIn us v) = false := so
      rw [hzs, List.pairwise_map] at so'
      rw [List.pairwise_map]
      refine List.Pairwise.imp_of_mem (fun {x y} hx' hy' e => ?_) so'
      rw [keyIn_at hn1 (hperm.mem_iff.mp hx'), keyIn_at hn1 (hperm.mem_iff.mp hy')] at e
      exact e
end

/-! ### lists as data -/
theorem depthAll_le {k : Nat} : ∀ {xs : List PyData}, (∀ x ∈ xs, x.depth ≤ k) → PyData.depthAll xs ≤ k
  | [], _ => by unfold PyData.depthAll; exact Nat.zero_le _
  | x :: xs, h => by
    unfold PyData.depthAll
    exact Nat.max_le.mpr ⟨h x List.mem_cons_self, depthAll_le fun y hy => h y (List.mem_cons_of_mem _ hy)⟩
theorem depth_list {k : Nat} {xs : List PyData} (h : ∀ x ∈ xs, x.depth ≤ k) : (PyData.list xs).depth ≤ k + 1 := by
  unfold PyData.depth
  exact Nat.succ_le_succ (depthAll_le h)
theorem plainAll_of : ∀ {xs : List PyData}, (∀ x ∈ xs, x.plain = true) → PyData.plainAll xs = true
  | [], _ => rfl
  | x :: xs, h => by
    unfold PyData.plainAll
    rw [h x List.mem_cons_self, plainAll_of fun y hy => h y (List.mem_cons_of_mem _ hy)]
    rfl
theorem dpAll_of {K : PySem.W.Frag} {H : Hp} {α : Type} {f : α → V} {g : α → PyData} : ∀ {l : List α}, (∀ x ∈ l, Dp K H (f x) (g x)) → DpAll K H (l.map f) (l.map g)
  | [], _ => .nil
  | x :: l, h => .cons (h x List.mem_cons_self) (dpAll_of fun y hy => h y (List.mem_cons_of_mem _ hy))
/-- a list whose items are data -/
structure DL (K : PySem.W.Frag) (H : Hp) (v : V) (d : PyData) (k : Nat) : Prop where
  dp : Dp K H v d
  pl : d.plain = true
  de : d.depth ≤ k
theorem dl_strs {K : PySem.W.Frag} {H : Hp} {p : Addr} {ns : List Str} (h : H p = some (.lst (ns.map V.str))) : DL K H (.ref p) (.list (ns.map PyData.str)) 1 :=
  ⟨.lst (SqL.of h) (dpAll_of fun x _ => .str x), by unfold PyData.plain; exact plainAll_of fun x hx => by obtain ⟨y, _, rfl⟩ := List.mem_map.mp hx; rfl, depth_list fun x hx => by obtain ⟨y, _, rfl⟩ := List.mem_map.mp hx; exact Nat.le_refl _⟩
def pairD (p : Int × Int) : PyData := .tuple [.int p.1, .int p.2]
theorem dpAll_pairs {K : PySem.W.Frag} {H : Hp} : ∀ {bs : List Addr} {ps : List (Int × Int)}, All2 (fun b q => H b = some (.tup [.int q.1, .int q.2])) bs ps → DpAll K H (bs.map V.ref) (ps.map pairD)
  | [], [], _ => .nil
  | [], _ :: _, h => by cases h.1
  | _ :: _, [], h => by cases h.1
  | b :: bs, p :: ps, h => .cons (.tup (SqT.of (h.2 0 b p rfl rfl)) (.cons (.int _) (.cons (.int _) .nil))) (dpAll_pairs ⟨by have := h.1; simpa using this, fun i x y hx hy => h.2 (i + 1) x y hx hy⟩)
theorem dl_pairs {K : PySem.W.Frag} {H : Hp} {p : Addr} {bs : List Addr} {ps : List (Int × Int)} (h : H p = some (.lst (bs.map V.ref))) (h2 : All2 (fun b q => H b = some (.tup [.int q.1, .int q.2])) bs ps) : DL K H (.ref p) (.list (ps.map pairD)) 2 :=
  ⟨.lst (SqL.of h) (dpAll_pairs h2), by unfold PyData.plain; exact plainAll_of fun x hx => by obtain ⟨y, _, rfl⟩ := List.mem_map.mp hx; rfl, depth_list fun x hx => by obtain ⟨y, _, rfl⟩ := List.mem_map.mp hx; exact Nat.le_of_ble_eq_true rfl⟩
theorem dl_list3 {K : PySem.W.Frag} {H : Hp} {p : Addr} {a b c : V} {da db dc : PyData} {k : Nat} (h : H p = some (.lst [a, b, c])) (ha : DL K H a da k) (hb : DL K H b db k) (hc : DL K H c dc k) : DL K H (.ref p) (.list [da, db, dc]) (k + 1) :=
  ⟨.lst (SqL.of h) (.cons ha.dp (.cons hb.dp (.cons hc.dp .nil))), by unfold PyData.plain PyData.plainAll PyData.plainAll PyData.plainAll PyData.plainAll; rw [ha.pl, hb.pl, hc.pl]; rfl, depth_list fun x hx => by
    simp only [List.mem_cons, List.not_mem_nil, or_false] at hx
    rcases hx with rfl | rfl | rfl
    · exact ha.de
    · exact hb.de
    · exact hc.de⟩
theorem ne_dl {K : PySem.W.Frag} {H : Hp} {x y : V} {d : PyData} {k : Nat} {Q : VK} (hx : DL K H x d k) (hy : DL K H y d k) (hk : k ≤ 64) (h : Q (.bl false) H) : rNeP K x y H Q := neP_same hx.dp hy.dp hx.pl (Nat.le_trans hx.de hk) h
theorem eq_dl {K : PySem.W.Frag} {H : Hp} {x y : V} {d : PyData} {k : Nat} {Q : VK} (hx : DL K H x d k) (hy : DL K H y d k) (hk : k ≤ 64) (h : Q (.bl true) H) : rEqP K x y H Q := eqP_same hx.dp hy.dp hx.pl (Nat.le_trans hx.de hk) h

def pdV : V → PyData
  | .int i => .int i
  | .str z => .str z
  | _ => .none
theorem dl_pl {K : PySem.W.Frag} {H : Hp} {v : V} (h : Pl v) : DL K H v (pdV v) 0 := by
  cases h with
  | int i => exact ⟨.int i, rfl, Nat.le_refl _⟩
  | str z => exact ⟨.str z, rfl, Nat.le_refl _⟩
  | non => exact ⟨.non, rfl, Nat.le_refl _⟩
theorem dl_ent {K : PySem.W.Frag} {H : Hp} {p : Addr} {kd nm : Str} {x : V} (h : H p = some (.tup [.str kd, .str nm, x])) (hx : Pl x) : DL K H (.ref p) (.tuple [.str kd, .str nm, pdV x]) 1 := by
  have d := dl_pl (K := K) (H := H) hx
  refine ⟨.tup (SqT.of h) (.cons (.str _) (.cons (.str _) (.cons d.dp .nil))), ?_, ?_⟩
  · unfold PyData.plain PyData.plainAll PyData.plainAll PyData.plainAll PyData.plainAll
    rw [d.pl]
    rfl
  · unfold PyData.depth
    refine Nat.succ_le_succ (depthAll_le fun y hy => ?_)
    simp only [List.mem_cons, List.not_mem_nil, or_false] at hy
    rcases hy with rfl | rfl | rfl
    · exact Nat.le_refl _
    · exact Nat.le_refl _
    · exact d.de
theorem All2.keep {H H' : Hp} {bs : List Addr} {ps : List (Int × Int)} (h : All2 (fun b q => H b = some (.tup [.int q.1, .int q.2])) bs ps) (s : Same H H') : All2 (fun b q => H' b = some (.tup [.int q.1, .int q.2])) bs ps := h.mono fun _ _ z => s _ _ z

/-! ### books of drawn entries -/
def keyN (es : List En) : Prop := (keysE es).Nodup
theorem fold_len : ∀ (es acc : List En), (es.foldl putE acc).length ≤ acc.length + es.length
  | [], acc => Nat.le_refl _
  | t :: es, acc => by
    have h := fold_len es (putE acc t)
    have h2 := len_putE (es := acc) (t := t)
    rw [List.foldl_cons, List.length_cons]
    omega
theorem atE_none {es : List En} {d n : Int} (h : ∀ u ∈ es, (u.d, u.n) ≠ (d, n)) : atE es d n = none := by
  unfold atE
  rw [List.find?_eq_none]
  intro u hu e
  exact h u hu (by rw [(isE_iff.mp e).1, (isE_iff.mp e).2])
theorem put_new {es : List En} {t : En} (h : ∀ u ∈ es, (u.d, u.n) ≠ (t.d, t.n)) : putE es t = es ++ [t] := by
  unfold putE
  rw [atE_none h]
  rfl
theorem fold_new : ∀ (es acc : List En), (keysE (acc ++ es)).Nodup → es.foldl putE acc = acc ++ es
  | [], acc, _ => by rw [List.foldl_nil, List.append_nil]
  | t :: es, acc, h => by
    have hn : ∀ u ∈ acc, (u.d, u.n) ≠ (t.d, t.n) := fun u hu e => by
      unfold keysE at h
      rw [List.map_append, List.nodup_append] at h
      exact h.2.2 _ (List.mem_map.mpr ⟨u, hu, rfl⟩) _ (List.mem_map.mpr ⟨t, List.mem_cons_self, rfl⟩) e
    rw [List.foldl_cons, put_new hn, fold_new es (acc ++ [t]) (by rw [List.append_assoc]; exact h), List.append_assoc]
    rfl
theorem inc_nodup {es : List En} (h : es.Pairwise ltE) : keyN es := by
  unfold keyN keysE List.Nodup
  rw [List.pairwise_map]
  refine h.imp fun {a b} z e => ?_
  unfold ltE at z
  have e1 := congrArg Prod.fst e
  have e2 := congrArg Prod.snd e
  simp only at e1 e2
  omega
def spBook (C : Addr) : Sp := fun vs H Q _ => ∃ (q : Addr) (ts : List Addr) (es : List En), vs = [.ref q] ∧ H q = some (.lst (ts.map V.ref)) ∧ All2 (Tri H) ts es ∧ EntsAt H es ∧ (∀ u ∈ es, EnOk u) ∧ (∀ u ∈ es, 0 ≤ u.d ∧ 0 ≤ u.n ∧ u.d ≤ 1000000 ∧ u.n ≤ 1000000) ∧ es.length < 900 ∧
  ∀ (b bd : Addr) (H' : Hp), Same H H' → H b = none → H bd = none → BookAt C H' b bd (es.foldl putE []) → Q (.ref b) H'
theorem same_mk2 {H : Hp} {x dx C : Addr} (hx : H x = none) (hd : H dx = none) : Same H (upd (upd H dx (.own x)) x (.ins C dx [])) := fun b o e => by
  rw [upd_ne (ne_of_none e hx), upd_ne (ne_of_none e hd)]
  exact e
section
variable {P : Program} {w : World} {K : PySem.W.Frag} {mg : Str → Option Value} {base : Heap} {A : Ad}
theorem own_get (T : Txt K mg A) : OwnM K A.Book A.m_Book_getitem "__getitem__" := ⟨T.m_Book___getitem__.at_, T.m_Book___getitem__.fn⟩
theorem own_set (T : Txt K mg A) : OwnM K A.Book A.m_Book_setitem "__setitem__" := ⟨T.m_Book___setitem__.at_, T.m_Book___setitem__.fn⟩
theorem ok_l_book (T : Txt K mg A) : FnOk P w K mg base CX0 9 A.l_book A.fd_l_book P_l_book (spBook A.Book) := by
  refine T.F_l_book.ok sc_l_book (fun vs H Q E h => ?_) (fun cdv Ar outer s H vs Q E hr h => ?_)
  · obtain ⟨q, ts, es, rfl, _⟩ := h
    rfl
  · obtain ⟨q, ts, es, rfl, hq, hT, hE, hok, hrg, hz, k⟩ := h
    refine ⟨_, (pss_cons (ps_set (i := 1) sc_l_book.nd rfl (Or.inl rfl) (pe_make0 T.mk_Book (ok_m_Book_init T) (hr.mono (by decide)) (by rfl) T.g_Book T.b_m_Book_init .nil pass0))
      (pss_cons (ps_g (ps_for PassesOwn.never rfl (pi_list (pv 0)) (pg_tup (n := 3) rfl (pgs_cons (pg_name (i := 2) sc_l_book.nd rfl (Or.inl rfl)) (pgs_cons (pg_name (i := 3) sc_l_book.nd rfl (Or.inl rfl)) (pgs_cons (pg_name (i := 4) sc_l_book.nd rfl (Or.inl rfl)) pgs_nil)))) (pss_one (ps_ownSet (E := fun _ => E0) (own_set T) T.nsq_Book (ok_m_Book_setitem T) (hr.mono (by decide)) T.b_m_Book_setitem (passAll passL) (pv 1) (pe_tup (pa_cons (pv 2) (pa_cons (pv 3) pa_nil))) (pv 4) rfl))))
      (pss_one (ps_ret (pv 1))))), ?_⟩
    refine fun b dx hb hdx ndx => ⟨b, dx, rfl, upd_same, fun bd hbd => ⟨rfl, ?_⟩⟩
    have u1 := same_mk2 (C := A.Book) hb hdx
    have nbb : bd ≠ b := fun e => by rw [e, upd_same] at hbd; cases hbd
    have fbd : H bd = none := Same.none u1 hbd
    have S7 : Same H (upd (upd (upd (upd H dx (.own b)) b (.ins A.Book dx [])) bd (.dT [])) b (.ins A.Book dx [("entries", .ref bd)])) := Same.at_new hb (u1.trans (Same.new hbd))
    have b7 : BookAt A.Book (upd (upd (upd (upd H dx (.own b)) b (.ins A.Book dx [])) bd (.dT [])) b (.ins A.Book dx [("entries", .ref bd)])) b bd [] := ⟨⟨dx, upd_same⟩, by rw [upd_ne nbb, upd_same]; rfl⟩
    generalize upd (upd (upd (upd H dx (.own b)) b (.ins A.Book dx [])) bd (.dT [])) b (.ins A.Book dx [("entries", .ref bd)]) = H7 at S7 b7 ⊢
    refine ⟨⟨_, rfl, q, rfl, ⟨_, SqL.of (S7 _ _ hq)⟩, for_list (xs := ts.map V.ref) (fun i σ' H' => Wd (∃ o2 o3 o4 : Option V, σ' = [some (.ref q), some (.ref b), o2, o3, o4] ∧ Same H H' ∧ BookAt A.Book H' b bd ((es.take i).foldl putE []))) ⟨none, none, none, rfl, S7, b7⟩ ?_ ?_ ?_⟩⟩
    · rintro i σ' H' _ ⟨o2, o3, o4, rfl, s8, _⟩
      exact SqL.of (s8 _ _ hq)
    · rintro i x σ' H' hx ⟨o2, o3, o4, rfl, s8, B8⟩
      rw [List.getElem?_map] at hx
      obtain ⟨t, ht, rfl⟩ := Option.map_eq_some_iff.mp hx
      obtain ⟨u, hu, htu⟩ := hT.get ht
      have hum := List.mem_of_getElem? hu
      have ht8 : H' t = some (.tup [.int u.d, .int u.n, .ref u.e]) := s8 _ _ htu
      obtain ⟨ok1, ok2, ok3, ok4⟩ := hok u hum
      have hr4 := hrg u hum
      refine ⟨t, _, rfl, SqT.of ht8, rfl, _, _, rfl, _, _, rfl, _, _, rfl, rfl, ?_⟩
      obtain ⟨⟨dx2, hb8⟩, hd8⟩ := B8
      refine ⟨_, rfl, _, rfl, _, rfl, _, rfl, (by show 2 ≤ sizeLine; decide), fun r hr' => ?_⟩
      have sr := Same.new (o := .tup [V.int u.d, .int u.n]) hr'
      have hel : ((es.take i).foldl putE []).length < 1000 := by
        have := fold_len (es.take i) []
        rw [List.length_take] at this
        simp only [List.length_nil] at this
        omega
      have e8 : H' u.e = some (.tup [.str u.kd, .str u.nm, u.x]) := s8 _ _ (hE u hum)
      refine ⟨b, dx2, _, rfl, sr _ _ hb8, b, bd, r, _, .int u.d, .int u.n, .ref u.e, true, rfl, ⟨⟨dx2, sr _ _ hb8⟩, sr _ _ hd8⟩, hel, upd_same, .inl (.int _), .inl (.int _), .inl ⟨.str u.kd, .str u.nm, u.x, ⟨u.e, rfl, sr _ _ e8, .str _, .str _, ok2, ok3, ok4⟩, ok1.symm⟩, fun d' n' e1 e2 _ Hg sg => ?_, fun e => ?_⟩
      · obtain rfl := V.int.inj e1
        obtain rfl := V.int.inj e2
        refine ⟨_, _, _, rfl, ?_, ⟨dx2, ?_⟩, ?_⟩
        · exact fun c o ec => by
            rw [upd_ne (ne_of_none ec fbd)]
            exact sg _ _ (sr _ _ (s8 _ _ ec))
        · rw [upd_ne (ne_of (sg _ _ (sr _ _ hb8)) (sg _ _ (sr _ _ hd8)) (by intro z; cases z))]
          exact sg _ _ (sr _ _ hb8)
        · rw [upd_same, put_kvE (t := u), take_more hu, List.foldl_append]
          rfl
      · have en : (numV 0 (.int u.d) && (numV 0 (.int u.n) && true)) = true := by
          show ((decide (0 ≤ u.d) && decide (u.d ≤ 1000000)) && ((decide (0 ≤ u.n) && decide (u.n ≤ 1000000)) && true)) = true
          rw [decide_eq_true hr4.1, decide_eq_true hr4.2.2.1, decide_eq_true hr4.2.1, decide_eq_true hr4.2.2.2]
          rfl
        rw [en] at e
        cases e
    · rintro σ' H' ⟨o2, o3, o4, rfl, s8, B8⟩
      rw [List.length_map, hT.1, List.take_of_length_le (Nat.le_refl _)] at B8
      exact ⟨_, rfl, k b bd H' s8 hb fbd B8⟩
end

/-! ### what a book holds, in order -/
def leEn (a b : En) : Bool := leK (a.d, a.n) (b.d, b.n)
def srtE (es : List En) : List En := es.mergeSort leEn
theorem leEn_trans (a b c : En) (h1 : leEn a b = true) (h2 : leEn b c = true) : leEn a c = true := by
  unfold leEn at *
  rw [leK_iff] at *
  simp only at *
  omega
theorem leEn_total (a b : En) : (leEn a b || leEn b a) = true := by
  unfold leEn
  rw [Bool.or_eq_true, leK_iff, leK_iff]
  simp only
  omega
theorem srtE_perm (es : List En) : (srtE es).Perm es := List.mergeSort_perm _ _
theorem srtE_sorted (es : List En) : (srtE es).Pairwise fun a b => leEn a b = true := List.pairwise_mergeSort leEn_trans leEn_total es
theorem en_inj {es : List En} (hn : keyN es) {a b : En} (ha : a ∈ es) (hb : b ∈ es) (h : (a.d, a.n) = (b.d, b.n)) : a = b := inj_of_nodup hn ha hb h
theorem srtE_uniq {es l : List En} (hn : keyN es) (h : l.Perm es) (hs : l.Pairwise fun a b => leEn a b = true) : l = srtE es := by
  refine List.Perm.eq_of_pairwise (le := fun a b => leEn a b = true) (fun a b ha hb h1 h2 => ?_) hs (srtE_sorted es) (h.trans (srtE_perm es).symm)
  refine en_inj hn (h.mem_iff.mp ha) ((srtE_perm es).mem_iff.mp hb) ?_
  unfold leEn at h1 h2
  rw [leK_iff] at h1 h2
  simp only at h1 h2
  exact Prod.ext (by simp only; omega) (by simp only; omega)
theorem srtK_srtE {es : List En} : srtK es = (srtE es).map fun t => (t.d, t.n) := by
  refine (srtK_uniq (es := es) ((srtE_perm es).map _) ?_).symm
  rw [List.pairwise_map]
  refine (srtE_sorted es).imp fun {a b} h => ?_
  unfold leEn leK at h
  rw [Bool.not_eq_true'] at h
  exact h
theorem atE_self {es : List En} (hn : keyN es) {t : En} (ht : t ∈ es) : atE es t.d t.n = some t := by
  obtain ⟨u, hu⟩ := atE_mem ht
  obtain ⟨hm, e1, e2⟩ := atE_some hu
  rw [hu, en_inj hn hm ht (by rw [e1, e2])]
/-- the list at p: pairs of a place and its entry -/
def KeptAt (H : Hp) (p : Addr) (us : List (Addr × Addr × En)) : Prop := H p = some (.lst (us.map fun u => V.ref u.1)) ∧ ∀ u ∈ us, H u.1 = some (.tup [.ref u.2.1, .ref u.2.2.e]) ∧ H u.2.1 = some (.tup [.int u.2.2.d, .int u.2.2.n])
def entD (u : En) : PyData := .tuple [.str u.kd, .str u.nm, pdV u.x]
def itemD (u : En) : PyData := .tuple [pairD (u.d, u.n), entD u]
theorem dl_kept {K : PySem.W.Frag} {H : Hp} {p : Addr} {us : List (Addr × Addr × En)} (h : KeptAt H p us) (hE : EntsAt H (us.map fun u => u.2.2)) (hx : ∀ u ∈ us, Pl u.2.2.x) : DL K H (.ref p) (.list ((us.map fun u => u.2.2).map itemD)) 3 := by
  have one : ∀ u ∈ us, DL K H (.ref u.1) (itemD u.2.2) 2 := fun u hu => by
    have e := dl_ent (K := K) (hE u.2.2 (List.mem_map.mpr ⟨u, hu, rfl⟩)) (hx u hu)
    refine ⟨.tup (SqT.of (h.2 u hu).1) (.cons (.tup (SqT.of (h.2 u hu).2) (.cons (.int _) (.cons (.int _) .nil))) (.cons e.dp .nil)), ?_, ?_⟩
    · unfold itemD PyData.plain PyData.plainAll PyData.plainAll PyData.plainAll
      unfold entD
      rw [e.pl]
      rfl
    · unfold itemD PyData.depth
      refine Nat.succ_le_succ (depthAll_le fun y hy => ?_)
      simp only [List.mem_cons, List.not_mem_nil, or_false] at hy
      rcases hy with rfl | rfl
      · exact Nat.le_of_ble_eq_true rfl
      · exact e.de
  rw [List.map_map]
  refine ⟨.lst (SqL.of h.1) (dpAll_of fun u hu => (one u hu).dp), ?_, depth_list fun y hy => ?_⟩
  · unfold PyData.plain
    refine plainAll_of fun y hy => ?_
    obtain ⟨u, hu, rfl⟩ := List.mem_map.mp hy
    exact (one u hu).pl
  · obtain ⟨u, hu, rfl⟩ := List.mem_map.mp hy
    exact (one u hu).de
def spKept (C : Addr) : Sp := fun vs H Q _ => ∃ b bd es, vs = [.ref b] ∧ BookAt C H b bd es ∧ keyN es ∧ es.length < 1000 ∧ ∀ p us H', Same H H' → H p = none → KeptAt H' p us → us.map (fun u => u.2.2) = srtE es → Q (.ref p) H'
theorem pick_list {α : Type} {R : Nat → α → Prop} {n : Nat} (h : ∀ i, i < n → ∃ x, R i x) : ∃ xs : List α, xs.length = n ∧ ∀ i x, xs[i]? = some x → R i x := by
  induction n with
  | zero => exact ⟨[], rfl, fun i x z => by cases z⟩
  | succ n ih =>
    obtain ⟨xs, hl, hx⟩ := ih fun i hi => h i (Nat.lt_succ_of_lt hi)
    obtain ⟨x, hxn⟩ := h n (Nat.lt_succ_self n)
    refine ⟨xs ++ [x], by rw [List.length_append, hl]; rfl, fun i y hy => ?_⟩
    rw [List.getElem?_append] at hy
    split at hy
    · exact hx i y hy
    · have hi : i - xs.length = 0 := by
        cases e : i - xs.length with
        | zero => rfl
        | succ m => rw [e] at hy; cases hy
      rw [hi] at hy
      cases hy
      have : i = n := by omega
      rw [this]
      exact hxn
section
variable {P : Program} {w : World} {K : PySem.W.Frag} {mg : Str → Option Value} {base : Heap} {A : Ad}
theorem ok_l_kept (T : Txt K mg A) : FnOk P w K mg base CX0 9 A.l_kept A.fd_l_kept P_l_kept (spKept A.Book) := by
  refine T.F_l_kept.ok sc_l_kept (fun vs H Q E h => ?_) (fun cdv Ar outer s H vs Q E hr h => ?_)
  · obtain ⟨b, bd, es, rfl, _⟩ := h
    rfl
  · obtain ⟨b, bd, es, rfl, B, hn, hz, k⟩ := h
    refine ⟨_, (pss_one (ps_ret (pe_g (pe_lcV (own := [("_law_spot", 1)]) rfl sc_l_kept.nd (pi_list (pe_meth0 (pv 0) T.cl_Book T.m_Book_places (ok_m_Book_places T) (hr.mono (by decide)) T.b_m_Book_places .nil pass0)) (blkOk_by (own := [("_law_spot", 1)]) (N := N_l_kept) (sc := defScope s_l_kept) (by decide +kernel)) (fun _ _ _ _ _ => (pg_name (i := 1) sc_l_kept.nd rfl (Or.inl rfl))) (fun _ _ _ _ _ => pts_nil) (fun _ _ _ _ _ => (pe_tup (pa_cons (pv 1) (pa_cons (pe_ownIx (E := fun _ => E0) (own_get T) T.fgi_Book (ok_m_Book_getitem T) (hr.mono (by decide)) T.b_m_Book_getitem (passAll passL) (pv 0) (pe_tup (pa_cons (pe_ix ix_tup (pv 1) pe_int (fun _ _ => rfl)) (pa_cons (pe_ix ix_tup (pv 1) pe_int (fun _ _ => rfl)) pa_nil)))) pa_nil)))) (fun _ _ _ _ _ => rfl) (fun _ _ _ _ _ => rfl) (fun _ _ _ _ _ => rfl))))), ?_⟩
    obtain ⟨⟨dx, hb⟩, hd⟩ := id B
    refine ⟨⟨_, rfl, b, dx, _, rfl, hb, rfl, b, bd, es, rfl, B, fun bs q hq h2 => ?_⟩⟩
    have s1 := Same.new (o := .lst (bs.map V.ref)) hq
    have hlen : bs.length = es.length := by rw [h2.1, len_srtK]
    refine ⟨q, rfl, ⟨_, SqL.of upd_same⟩, fun D hD => ?_⟩
    refine lc_sameP (fun i y H' => ∃ (a ka : Addr) (u : En), y = V.ref a ∧ (srtE es)[i]? = some u ∧ H' a = some (.tup [.ref ka, .ref u.e]) ∧ H' ka = some (.tup [.int u.d, .int u.n])) upd_same (by rw [List.length_map, hlen]; omega) hD (fun i y G G' acc hDl kp ⟨a, ka, u, e1, e2, e3, e4⟩ => ⟨a, ka, u, e1, e2, kp _ _ e3 (ne_of e3 hDl (by intro z; cases z)), kp _ _ e4 (ne_of e4 hDl (by intro z; cases z))⟩) ?_ ?_
    · intro i x H' N M hx s' hN
      rw [List.getElem?_map] at hx
      obtain ⟨t, ht, rfl⟩ := Option.map_eq_some_iff.mp hx
      obtain ⟨y, hy, hty⟩ := h2.get ht
      have ht' : H' t = some (.tup [.int y.1, .int y.2]) := (s1.trans s') _ _ hty
      rw [srtK_srtE, List.getElem?_map] at hy
      obtain ⟨u, hu, rfl⟩ := Option.map_eq_some_iff.mp hy
      have hum : u ∈ es := (srtE_perm es).mem_iff.mp (List.mem_of_getElem? hu)
      have sA := s1.trans s'
      refine ⟨rfl, _, rfl, _, rfl, _, rfl, t, _, _, _, rfl, rfl, SqT.of ht', rfl, _, rfl, t, _, _, _, rfl, rfl, SqT.of ht', rfl, (by show 2 ≤ sizeLine; decide), fun r hr' => ?_⟩
      have sr := Same.new (o := .tup [V.int u.d, .int u.n]) hr'
      refine ⟨b, dx, _, rfl, sr _ _ (sA _ _ hb), b, bd, r, es, u.d, u.n, rfl, (B.same sA).same sr, upd_same, (fun v ev => ?_), fun ev => ?_⟩
      · rw [atE_self hn hum] at ev
        cases ev
        refine ⟨(by show 2 ≤ sizeLine; decide), fun z hz' => ?_⟩
        have sz := Same.new (o := .tup [V.ref t, .ref u.e]) hz'
        exact hN _ _ (sr.trans sz) ⟨z, t, u, rfl, hu, upd_same, sz _ _ (sr _ _ ht')⟩
      · rw [atE_self hn hum] at ev
        cases ev
    · intro ys H' s' hyl hR hD'
      rw [List.length_map, hlen] at hyl
      obtain ⟨us, hul, hus⟩ := pick_list (n := es.length) (R := fun i (x : Addr × Addr × En) => ys[i]? = some (.ref x.1) ∧ (srtE es)[i]? = some x.2.2 ∧ H' x.1 = some (.tup [.ref x.2.1, .ref x.2.2.e]) ∧ H' x.2.1 = some (.tup [.int x.2.2.d, .int x.2.2.n])) fun i hi => by
        obtain ⟨a, ka, u, e1, e2, e3, e4⟩ := hR i ys[i] (List.getElem?_eq_getElem (by omega))
        exact ⟨(a, ka, u), by rw [← e1]; exact List.getElem?_eq_getElem (by omega), e2, e3, e4⟩
      have ey : ys = us.map fun u => V.ref u.1 := by
        apply List.ext_getElem?
        intro i
        rw [List.getElem?_map]
        by_cases hi : i < us.length
        · rw [List.getElem?_eq_getElem hi, (hus i _ (List.getElem?_eq_getElem hi)).1]
          rfl
        · rw [List.getElem?_eq_none (by omega), List.getElem?_eq_none (by omega)]
          rfl
      have eu : us.map (fun u => u.2.2) = srtE es := by
        have hsl : (srtE es).length = es.length := (srtE_perm es).length_eq
        apply List.ext_getElem?
        intro i
        rw [List.getElem?_map]
        by_cases hi : i < us.length
        · rw [List.getElem?_eq_getElem hi, (hus i _ (List.getElem?_eq_getElem hi)).2.1]
          rfl
        · rw [List.getElem?_eq_none (by omega), List.getElem?_eq_none (by omega)]
          rfl
      rw [ey] at hD'
      refine k D us H' (s1.trans s') (Same.none s1 hD) ⟨hD', fun u hu => ?_⟩ eu
      obtain ⟨i, hi⟩ := List.mem_iff_getElem?.mp hu
      exact (hus i u hi).2.2
end

/-! ### == and != of data that may differ -/
theorem dl_pair {K : PySem.W.Frag} {H : Hp} {t : Addr} {p : Int × Int} (h : H t = some (.tup [.int p.1, .int p.2])) : DL K H (.ref t) (pairD p) 1 := by
  refine ⟨.tup (SqT.of h) (.cons (.int _) (.cons (.int _) .nil)), ?_, ?_⟩
  · unfold pairD PyData.plain PyData.plainAll PyData.plainAll PyData.plainAll
    rfl
  · unfold pairD PyData.depth
    refine Nat.succ_le_succ (depthAll_le fun y hy => ?_)
    simp only [List.mem_cons, List.not_mem_nil, or_false] at hy
    rcases hy with rfl | rfl <;> exact Nat.le_refl _
theorem ne_dls {K : PySem.W.Frag} {H : Hp} {x y : V} {d e : PyData} {k : Nat} {Q : VK} (hx : DL K H x d k) (hy : DL K H y e k) (hk : k ≤ 64) (h : Q (.bl (!PyData.eqv d e)) H) : rNeP K x y H Q := ⟨⟨d, e, hx.dp, hy.dp, hx.pl, hy.pl, Nat.le_trans hx.de hk, h⟩⟩
theorem eq_dls {K : PySem.W.Frag} {H : Hp} {x y : V} {d e : PyData} {k : Nat} {Q : VK} (hx : DL K H x d k) (hy : DL K H y e k) (hk : k ≤ 64) (h : Q (.bl (PyData.eqv d e)) H) : rEqP K x y H Q := ⟨⟨d, e, hx.dp, hy.dp, hx.pl, hy.pl, Nat.le_trans hx.de hk, h⟩⟩
theorem eqv_pairD {p q : Int × Int} : PyData.eqv (pairD p) (pairD q) = decide (p = q) := by
  obtain ⟨a, b⟩ := p
  obtain ⟨c, d⟩ := q
  have e : PyData.eqv (pairD (a, b)) (pairD (c, d)) = ((a == c) && ((b == d) && true)) := by
    unfold pairD
    simp only [PyData.eqv, PyData.eqvAll]
  rw [e, Bool.and_true, Bool.eq_iff_iff, Bool.and_eq_true, beq_iff_eq, beq_iff_eq, decide_eq_true_eq, Prod.mk.injEq]

/-! ### Book.joined -/
def clashB (es1 es2 : List En) (p : Int × Int) : Bool := match atE es1 p.1 p.2, atE es2 p.1 p.2 with
  | some u, some v => !PyData.eqv (entD v) (entD u)
  | _, _ => false
def joinE (es1 es2 : List En) : List En := es2.foldl putE (es1.foldl putE [])
theorem merge_kvE : ∀ (es acc : List En), mergeT (kvE acc) (kvE es) = kvE (es.foldl putE acc)
  | [], acc => rfl
  | t :: es, acc => by
    show mergeT (putK (kvE acc) (keyE t.d t.n) (.ref t.e)) (kvE es) = _
    rw [put_kvE, merge_kvE es (putE acc t)]
    rfl
theorem kvE_len (es : List En) : (kvE es).length = es.length := by unfold kvE kvT; rw [List.length_map, List.length_map]
def spJoined (C CE : Addr) : Sp := fun vs H Q E => ∃ (a ad b bd : Addr) (es1 es2 : List En), vs = [.ref a, .ref b] ∧ BookAt C H a ad es1 ∧ BookAt C H b bd es2 ∧ EntsAt H es1 ∧ EntsAt H es2 ∧ (∀ u ∈ es1, Pl u.x) ∧ (∀ u ∈ es2, Pl u.x) ∧ HAp (kvE es1) ∧ HAp (kvE es2) ∧ es1.length < 400 ∧ es2.length < 400 ∧
  ((∀ p ∈ srtK es1, clashB es1 es2 p = false) → ∀ c cd H', Same H H' → H c = none → H cd = none → BookAt C H' c cd (joinE es1 es2) → Q (.ref c) H') ∧
  (∀ (i : Nat) (p : Int × Int), (srtK es1)[i]? = some p → (∀ (j : Nat) (q : Int × Int), j < i → (srtK es1)[j]? = some q → clashB es1 es2 q = false) → clashB es1 es2 p = true → ∀ x H', Same H H' → H' x = some (.xd (noE (.int p.2) (.int p.1))) → E (.ref CE) (some x) H')
section
variable {P : Program} {w : World} {K : PySem.W.Frag} {mg : Str → Option Value} {base : Heap} {A : Ad}
theorem own_in (T : Txt K mg A) : OwnM K A.Book A.m_Book_contains "__contains__" := ⟨T.m_Book___contains__.at_, T.m_Book___contains__.fn⟩
theorem ok_m_Book_joined (T : Txt K mg A) : FnOk P w K mg base (L2.CX P w) 9 A.m_Book_joined A.fd_m_Book_joined P_m_Book_joined (spJoined A.Book A.BadEntry) := by
  refine T.F_m_Book_joined.okX sc_m_Book_joined (fun vs H Q E h => ?_) (fun cdv Ar outer s H vs Q E hr h => ?_)
  · obtain ⟨a, ad, b, bd, es1, es2, rfl, _⟩ := h
    rfl
  · obtain ⟨a, ad, b, bd, es1, es2, rfl, B1, B2, hE1, hE2, hx1, hx2, ap1, ap2, z1, z2, k1, k2⟩ := h
    refine ⟨_, (pss_cons (ps_g (ps_for (passes_of rfl) rfl (pi_list (pe_meth0 (pv 0) T.cl_Book T.m_Book_places (ok_m_Book_places T) (hr.mono (by decide)) T.b_m_Book_places .nil pass0)) (pg_name (i := 2) sc_m_Book_joined.nd rfl (Or.inl rfl)) (pss_one (ps_if (PW.pt (pw_and (pt_cmpR (op_ownIn (own_in T) (ok_m_Book_contains T) (hr.mono (by decide)) T.b_m_Book_contains pass0) (pv 2) (pv 1) (by rfl)) (pw_and1 (pt_cmpR (op_neP hr.units) (pe_ownIx (own_get T) T.fgi_Book (ok_m_Book_getitem T) (hr.mono (by decide)) T.b_m_Book_getitem (passAll passL) (pv 1) (pv 2)) (pe_dget (hu_of hr) (pe_fld (pv 0) rfl) (pv 2) (fun _ _ => rfl)) (nomark _))))) (pss_one (ps_raise rfl (takes_of rfl rfl rfl rfl) (pmk_oex T.ox_BadEntry T.oi_BadEntry T.ot_BadEntry (ok_m_BadEntry_init T) (hr.mono (by decide)) T.b_m_BadEntry_init .nil pass0 (by rfl) T.g_BadEntry (pa_cons (pe_ix ix_tup (pv 2) pe_int (fun _ _ => rfl)) (pa_cons (pe_ix ix_tup (pv 2) pe_int (fun _ _ => rfl)) pa_nil))))) pss_nil))))
      (pss_cons (ps_set (i := 3) sc_m_Book_joined.nd rfl (Or.inl rfl) (pe_make0 T.mk_Book (ok_m_Book_init T) (hr.mono (by decide)) (by rfl) T.g_Book T.b_m_Book_init .nil pass0))
      (pss_cons (ps_fld (pv 3) (pe_mergeT hr.units (pe_fld (pv 0) rfl) (pe_fld (pv 1) rfl)) rfl)
      (pss_one (ps_ret (pv 3)))))), ?_⟩
    obtain ⟨⟨dx1, hb1⟩, hd1⟩ := id B1
    obtain ⟨⟨dx2, hb2⟩, hd2⟩ := id B2
    refine ⟨⟨_, rfl, a, dx1, _, rfl, hb1, rfl, a, ad, es1, rfl, B1, fun bs q hq h2 => ?_⟩⟩
    have s1 := Same.new (o := .lst (bs.map V.ref)) hq
    have hq1 := upd_same (H := H) (a := q) (o := .lst (bs.map V.ref))
    generalize upd H q (.lst (bs.map V.ref)) = H1 at *
    refine ⟨q, rfl, ⟨_, SqL.of hq1⟩, for_list (xs := bs.map V.ref) (fun i σ' H' => Wd (∃ o2 : Option V, σ' = [some (.ref a), some (.ref b), o2, none] ∧ Same H1 H' ∧ ∀ (j : Nat) (p : Int × Int), j < i → (srtK es1)[j]? = some p → clashB es1 es2 p = false)) ⟨none, rfl, Same.refl _, fun j p hj => absurd hj (Nat.not_lt_zero j)⟩ ?_ ?_ ?_⟩
    · rintro i σ' H' _ ⟨o2, rfl, s2, _⟩
      exact SqL.of (s2 _ _ hq1)
    · rintro i x σ' H' hx ⟨o2, rfl, s2, no⟩
      rw [List.getElem?_map] at hx
      obtain ⟨t, ht, rfl⟩ := Option.map_eq_some_iff.mp hx
      obtain ⟨p, hp, _⟩ := h2.get ht
      have sA := s1.trans s2
      have htp : H' t = some (.tup [.int p.1, .int p.2]) := sA _ _ (h2.2 i t p ht hp)
      obtain ⟨u0, hu0, ep⟩ := mem_srtK.mp (List.mem_of_getElem? hp)
      obtain ⟨u, hu'⟩ := atE_mem hu0
      have hu : atE es1 p.1 p.2 = some u := by rw [← ep]; exact hu'
      have um := (atE_some hu).1
      have next : clashB es1 es2 p = false → ∀ H4, Same H' H4 → Wd (∃ o2 : Option V, [some (.ref a), some (.ref b), some (.ref t), none] = [some (.ref a), some (.ref b), o2, none] ∧ Same H1 H4 ∧ ∀ (j : Nat) (p : Int × Int), j < i + 1 → (srtK es1)[j]? = some p → clashB es1 es2 p = false) := fun hc H4 s4 => by
        refine ⟨_, rfl, s2.trans s4, fun j p' hj hp' => ?_⟩
        by_cases e : j < i
        · exact no j p' e hp'
        · have : j = i := by omega
          subst this
          rw [hp] at hp'
          cases hp'
          exact hc
      dsimp only [gName, List.set]
      refine ⟨_, rfl, _, rfl, ⟨b, dx2, _, rfl, sA _ _ hb2, b, bd, t, es2, p.1, p.2, rfl, B2.same sA, htp, _, rfl, _, rfl, ?_⟩⟩
      cases hv : atE es2 p.1 p.2 with
      | none =>
        refine iteF (next ?_ _ (Same.refl _))
        unfold clashB
        rw [hu, hv]
      | some v =>
        have vm := (atE_some hv).1
        refine iteT ⟨_, rfl, _, rfl, b, dx2, _, rfl, sA _ _ hb2, b, bd, t, es2, p.1, p.2, rfl, B2.same sA, htp, (fun u ev => ?_), fun ev => ?_⟩
        · rw [hv] at ev
          cases ev
          refine ⟨_, rfl, a, A.Book, dx1, _, _, rfl, sA _ _ hb1, T.cl_Book, T.n_Book_entries, rfl, _, rfl, ad, V.ref u.e, rfl, ?_, ?_⟩
          · have g := DGet.t (k := keyE p.1 p.2) (sA _ _ hd1) htp
            rw [val_kvE, hu] at g
            exact g
          · refine ne_dls (dl_ent (sA _ _ (hE2 v vm)) (hx2 v vm)) (dl_ent (sA _ _ (hE1 u um)) (hx1 u um)) (by decide) ⟨_, rfl, ?_⟩
            have hc : clashB es1 es2 p = !PyData.eqv (entD v) (entD u) := by
              unfold clashB
              rw [hu, hv]
            show if (!PyData.eqv (entD v) (entD u)) = true then _ else _
            rw [← hc]
            cases ec : clashB es1 es2 p with
            | false => exact iteF (next ec _ (Same.refl _))
            | true =>
              refine iteT ⟨_, rfl, t, _, _, _, rfl, rfl, SqT.of htp, rfl, _, rfl, t, _, _, _, rfl, rfl, SqT.of htp, rfl, (by show 2 ≤ 1000; decide), fun x hx => mk_excF (fun x H4 s4 _ h4 => k2 i p hp (fun j q hj hq => no j q hj hq) ec x H4 (sA.trans s4) h4) hx⟩
        · rw [hv] at ev
          cases ev
    · rintro σ' H' ⟨o2, rfl, s2, no⟩
      have sA := s1.trans s2
      have no2 : ∀ p ∈ srtK es1, clashB es1 es2 p = false := fun p hp => by
        obtain ⟨j, hj⟩ := List.mem_iff_getElem?.mp hp
        refine no j p ?_ hj
        rw [List.length_map, h2.1]
        exact (List.getElem?_eq_some_iff.mp hj).1
      refine fun c dc hc hdc ndc => ⟨c, dc, rfl, upd_same, fun cd hcd => ⟨rfl, ?_⟩⟩
      have u1 := same_mk2 (C := A.Book) hc hdc
      have ncc : cd ≠ c := fun e => by rw [e, upd_same] at hcd; cases hcd
      have fcd : H' cd = none := Same.none u1 hcd
      have S7 : Same H' (upd (upd (upd (upd H' dc (.own c)) c (.ins A.Book dc [])) cd (.dT [])) c (.ins A.Book dc [("entries", .ref cd)])) := Same.at_new hc (u1.trans (Same.new hcd))
      have hc7 := upd_same (H := upd (upd (upd H' dc (.own c)) c (.ins A.Book dc [])) cd (.dT [])) (a := c) (o := .ins A.Book dc [("entries", .ref cd)])
      generalize upd (upd (upd (upd H' dc (.own c)) c (.ins A.Book dc [])) cd (.dT [])) c (.ins A.Book dc [("entries", .ref cd)]) = H7 at *
      have sB := sA.trans S7
      refine fun p hp => ?_
      have sp := Same.new (o := .dT []) hp
      have pad : p ≠ ad := (ne_of_none (sB _ _ hd1) hp).symm
      have pbd : p ≠ bd := (ne_of_none (sB _ _ hd2) hp).symm
      have pc : c ≠ p := ne_of_none hc7 hp
      have m1 : mergeT [] (kvE es1) = kvE (es1.foldl putE []) := merge_kvE es1 []
      have l1 : (es1.foldl putE []).length ≤ es1.length := by
        have := fold_len es1 []
        rw [List.length_nil] at this
        omega
      refine ⟨_, rfl, a, A.Book, dx1, _, _, rfl, sp _ _ (sB _ _ hb1), T.cl_Book, T.n_Book_entries, rfl, ad, kvE es1, rfl, pad, .inl (sp _ _ (sB _ _ hd1)), ap1, upd_same, by rw [kvE_len]; exact Nat.le_trans (Nat.le_of_lt z1) (by decide), ?_⟩
      rw [upd_upd, m1]
      have sp2 := Same.new (o := .dT (kvE (es1.foldl putE []))) hp
      refine ⟨_, rfl, b, A.Book, dx2, _, _, rfl, sp2 _ _ (sB _ _ hb2), T.cl_Book, T.n_Book_entries, rfl, bd, kvE es2, rfl, pbd, .inl (sp2 _ _ (sB _ _ hd2)), ap2, upd_same, ?_, ?_⟩
      · rw [kvE_len, kvE_len]
        exact Nat.le_trans (by omega : _ ≤ 800) (by decide)
      rw [upd_upd, merge_kvE]
      refine ⟨_, rfl, c, A.Book, dc, _, rfl, by rw [upd_ne pc]; exact hc7, T.cl_Book, T.n_Book_entries, (by show 1 < 1000; decide), _, rfl, ?_⟩
      have sp3 := Same.new (o := .dT (kvE (es2.foldl putE (es1.foldl putE [])))) hp
      exact k1 no2 c p _ (Same.at_new (Same.none sA hc) (sB.trans sp3)) (Same.none sA hc) (Same.none sB hp) ⟨⟨dc, upd_same⟩, by rw [upd_ne pc.symm]; exact upd_same⟩
end

/-! ### putting an entry -/
theorem no_other {es : List En} {v : En} {d n : Int} (h : keyN (v :: es)) (hv : isE d n v = true) : ∀ u ∈ es, isE d n u = false := fun u hu => by
  unfold keyN keysE at h
  rw [List.map_cons, List.nodup_cons] at h
  cases e : isE d n u with
  | false => rfl
  | true =>
    have a := isE_iff.mp hv
    have b := isE_iff.mp e
    exact absurd (List.mem_map.mpr ⟨u, hu, by rw [a.1, a.2, b.1, b.2]⟩) h.1
theorem rep_perm {t : En} : ∀ {es : List En}, keyN es → (∃ u ∈ es, isE t.d t.n u = true) → (es.map fun u => if isE t.d t.n u = true then t else u).Perm (dropE es t.d t.n ++ [t])
  | [], _, h => by obtain ⟨u, hu, _⟩ := h; cases hu
  | v :: es, hn, h => by
    by_cases hv : isE t.d t.n v = true
    · have no := no_other hn hv
      have e1 : (es.map fun u => if isE t.d t.n u = true then t else u) = es := by
        conv => rhs; rw [← List.map_id es]
        refine List.map_congr_left fun u hu => ?_
        rw [no u hu]
        rfl
      have e2 : dropE (v :: es) t.d t.n = es := by
        unfold dropE
        rw [List.filter_cons_of_neg (by simp [hv])]
        exact List.filter_eq_self.mpr fun u hu => by rw [no u hu]; rfl
      rw [List.map_cons, if_pos hv, e1, e2]
      exact (List.perm_append_singleton t es).symm
    · have e2 : dropE (v :: es) t.d t.n = v :: dropE es t.d t.n := by
        unfold dropE
        rw [List.filter_cons_of_pos (by simpa using hv)]
      have hn' : keyN es := by
        unfold keyN keysE at hn ⊢
        rw [List.map_cons, List.nodup_cons] at hn
        exact hn.2
      obtain ⟨u, hu, hk⟩ := h
      rw [List.map_cons, if_neg hv, e2, List.cons_append]
      refine (List.perm_cons v).mpr (rep_perm hn' ⟨u, ?_, hk⟩)
      rcases List.mem_cons.mp hu with rfl | hu
      · exact absurd hk hv
      · exact hu
theorem put_perm {es : List En} {t : En} (hn : keyN es) : (putE es t).Perm (dropE es t.d t.n ++ [t]) := by
  unfold putE
  split
  · next h =>
    refine rep_perm hn ?_
    obtain ⟨u, hu⟩ := Option.isSome_iff_exists.mp h
    obtain ⟨hm, e1, e2⟩ := atE_some hu
    exact ⟨u, hm, isE_iff.mpr ⟨e1, e2⟩⟩
  · next h =>
    have : dropE es t.d t.n = es := List.filter_eq_self.mpr fun u hu => by
      have hx : atE es t.d t.n = none := by simpa using h
      have := List.find?_eq_none.mp hx u hu
      simpa using this
    rw [this]
theorem drop_key {es : List En} {d n : Int} : ∀ u ∈ dropE es d n, (u.d, u.n) ≠ (d, n) := fun u hu e => by
  have := (List.mem_filter.mp hu).2
  rw [isE_iff.mpr ⟨congrArg Prod.fst e, congrArg Prod.snd e⟩] at this
  cases this
theorem keyN_drop {es : List En} {t : En} (hn : keyN es) : keyN (dropE es t.d t.n ++ [t]) := by
  unfold keyN keysE at *
  rw [List.map_append, List.nodup_append]
  refine ⟨?_, by simp, fun a ha b hb => ?_⟩
  · exact hn.sublist ((List.filter_sublist (l := es)).map _)
  · obtain ⟨u, hu, rfl⟩ := List.mem_map.mp ha
    simp only [List.map_cons, List.map_nil, List.mem_singleton] at hb
    rw [hb]
    exact drop_key u hu
theorem keyN_perm {es l : List En} (h : l.Perm es) (hn : keyN es) : keyN l := (h.map _).nodup_iff.mpr hn
theorem keyN_put {es : List En} {t : En} (hn : keyN es) : keyN (putE es t) := keyN_perm (put_perm hn) (keyN_drop hn)
theorem units66 {k : Nat} {A : Around} (r : Room k A) : A.units + 66 < cLine := by have := r.un; omega
theorem KeptAt.same {H H' : Hp} {p : Addr} {us : List (Addr × Addr × En)} (h : KeptAt H p us) (s : Same H H') : KeptAt H' p us := ⟨s _ _ h.1, fun u hu => ⟨s _ _ (h.2 u hu).1, s _ _ (h.2 u hu).2⟩⟩
theorem dl_keptE {K : PySem.W.Frag} {H : Hp} {p : Addr} {us : List (Addr × Addr × En)} {es : List En} (h : KeptAt H p us) (hE : EntsAt H es) (hok : ∀ u ∈ es, EnOk u) (eu : us.map (fun u => u.2.2) = srtE es) : DL K H (.ref p) (.list ((srtE es).map itemD)) 3 := by
  have hm : ∀ w ∈ us, w.2.2 ∈ es := fun w hw => (srtE_perm es).mem_iff.mp (eu ▸ List.mem_map.mpr ⟨w, hw, rfl⟩)
  rw [← eu]
  refine dl_kept h (fun t ht => ?_) fun w hw => (hok _ (hm w hw)).2.1
  obtain ⟨w, hw, rfl⟩ := List.mem_map.mp ht
  exact hE _ (hm w hw)

/-! ### names of kept entries; lists that are right -/
def stepL (kd : Str) (acc : List Str) (t : En) : List Str := if t.kd = kd ∧ t.nm ∉ acc then acc ++ [t.nm] else acc
def namedL (us : List En) (kd : Str) : List Str := us.foldl (stepL kd) []
theorem stepL_len {kd : Str} {acc : List Str} {t : En} : (stepL kd acc t).length ≤ acc.length + 1 := by
  unfold stepL
  split
  · rw [List.length_append, List.length_singleton]
    exact Nat.le_refl _
  · exact Nat.le_succ _
theorem namedL_len {kd : Str} : ∀ (us : List En) {acc : List Str}, (us.foldl (stepL kd) acc).length ≤ us.length + acc.length
  | [], acc => by rw [List.length_nil, Nat.zero_add]; exact Nat.le_refl _
  | t :: us, acc => by
    have h := namedL_len (kd := kd) us (acc := stepL kd acc t)
    have h2 := stepL_len (kd := kd) (acc := acc) (t := t)
    rw [List.length_cons]
    exact Nat.le_trans h (by omega)
/-- the two agree in all but the addresses -/
def Alk (a b : En) : Prop := a.d = b.d ∧ a.n = b.n ∧ a.kd = b.kd ∧ a.nm = b.nm ∧ a.x = b.x
theorem namedL_alk {kd : Str} : ∀ {us vs : List En}, All2 Alk us vs → ∀ acc, us.foldl (stepL kd) acc = vs.foldl (stepL kd) acc
  | [], [], _, _ => rfl
  | u :: us, v :: vs, h, acc => by
    have h0 := h.2 0 u v rfl rfl
    have e : stepL kd acc u = stepL kd acc v := by
      unfold stepL
      rw [h0.2.2.1, h0.2.2.2.1]
    rw [List.foldl_cons, List.foldl_cons, e]
    exact namedL_alk ⟨by have := h.1; simpa using this, fun i x y hx hy => h.2 (i + 1) x y hx hy⟩ _
  | [], v :: vs, h, _ => absurd h.1 (by simp)
  | u :: us, [], h, _ => absurd h.1 (by simp)
theorem namedE_fold {es : List En} {kd : Str} (hn : keyN es) : ∀ {us : List En}, (∀ u ∈ us, u ∈ es) → ∀ acc, namedE es kd (us.map fun t => (t.d, t.n)) acc = us.foldl (stepL kd) acc
  | [], _, _ => rfl
  | u :: us, h, acc => by
    have e : atE es u.d u.n = some u := atE_self hn (h u List.mem_cons_self)
    have h2 := namedE_fold (kd := kd) hn (us := us) fun v hv => h v (List.mem_cons_of_mem _ hv)
    have e2 : stepE es kd acc (u.d, u.n) = stepL kd acc u := by
      unfold stepE stepL
      rw [e]
    rw [List.foldl_cons, ← h2 (stepL kd acc u), List.map_cons, ← e2]
    rfl
theorem namedE_L {es : List En} {kd : Str} (hn : keyN es) : namedE es kd (srtK es) [] = namedL (srtE es) kd := by
  rw [srtK_srtE, namedE_fold hn fun u hu => (srtE_perm es).mem_iff.mp hu]
  rfl
def spNamedL : Sp := fun vs H Q _ => ∃ (p : Addr) (us : List (Addr × Addr × En)) (kd : Str), vs = [.ref p, .str kd] ∧ KeptAt H p us ∧ EntsAt H (us.map fun u => u.2.2) ∧ us.length < 900 ∧
  ∀ (q : Addr) (H' : Hp), Same H H' → H q = none → H' q = some (.lst ((namedL (us.map fun u => u.2.2) kd).map V.str)) → Q (.ref q) H'
section
variable {P : Program} {w : World} {K : PySem.W.Frag} {mg : Str → Option Value} {base : Heap} {A : Ad}
theorem ok_l_named (T : Txt K mg A) : FnOk P w K mg base CX0 1 A.l_named A.fd_l_named P_l_named spNamedL := by
  refine T.F_l_named.ok sc_l_named (fun vs H Q E h => ?_) (fun cdv Ar outer s H vs Q E hr h => ?_)
  · obtain ⟨p, us, kd, rfl, _⟩ := h
    rfl
  · obtain ⟨p, us, kd, rfl, hK, hE, hz, k⟩ := h
    refine ⟨_, (pss_cons (ps_set (i := 2) sc_l_named.nd rfl (Or.inl rfl) (pe_lst pa_nil))
      (pss_cons (ps_g (ps_for PassesOwn.never rfl (pi_list (pv 0)) (pg_tup (n := 2) rfl (pgs_cons (pg_name (i := 3) sc_l_named.nd rfl (Or.inl rfl)) (pgs_cons (pg_name (i := 4) sc_l_named.nd rfl (Or.inl rfl)) pgs_nil))) (pss_one (ps_if (PW.pt (pw_and (pt_cmpR op_eq (pe_ix ix_tup (pv 4) pe_int (fun _ _ => rfl)) (pv 1) (nomark _)) (pw_and1 (pt_cmpR op_notIn_seq (pe_ix ix_tup (pv 4) pe_int (fun _ _ => rfl)) (pv 2) (by rfl))))) (pss_one (ps_expr (pe_bm PySem.F.plainAttrs_list PySem.F.slot_list_append PySem.F.type_list_append mt_append (pv 2) (pa_cons (pe_ix ix_tup (pv 4) pe_int (fun _ _ => rfl)) pa_nil)))) pss_nil))))
      (pss_one (ps_ret (pv 2))))), ?_⟩
    refine ⟨Nat.zero_le _, fun f hf => ?_⟩
    have s1 := Same.new (o := .lst []) hf
    have hf1 := upd_same (H := H) (a := f) (o := .lst [])
    have hKb := hK.same s1
    have hEb : EntsAt (upd H f (.lst [])) (us.map fun u => u.2.2) := hE.keep fun b xs h => s1 _ _ h
    generalize upd H f (.lst []) = Hb at *
    have nfp : p ≠ f := ne_of_none hK.1 hf
    dsimp only [gName, List.set]
    refine ⟨⟨_, rfl, p, rfl, ⟨_, SqL.of hKb.1⟩, for_list (xs := us.map fun u => V.ref u.1) (fun i σ' H' => Wd (∃ o3 o4 : Option V, σ' = [some (.ref p), some (.str kd), some (.ref f), o3, o4] ∧ H' = upd Hb f (.lst ((((us.map fun u => u.2.2).take i).foldl (stepL kd) []).map V.str)))) ⟨none, none, rfl, upd_idem hf1⟩ ?_ ?_ ?_⟩⟩
    · rintro i σ' H' _ ⟨o3, o4, rfl, rfl⟩
      exact SqL.of (by rw [upd_ne nfp]; exact hKb.1)
    · rintro i x σ' H' hx ⟨o3, o4, rfl, rfl⟩
      rw [List.getElem?_map] at hx
      obtain ⟨u, hu, rfl⟩ := Option.map_eq_some_iff.mp hx
      have um := List.mem_of_getElem? hu
      obtain ⟨h1, h2⟩ := hKb.2 u um
      have hte := hEb u.2.2 (List.mem_map.mpr ⟨u, um, rfl⟩)
      have hk : ∀ c xs, Hb c = some (.tup xs) → upd Hb f (.lst ((((us.map fun u => u.2.2).take i).foldl (stepL kd) []).map V.str)) c = some (.tup xs) := fun c xs e => by
        rw [upd_ne (ne_of e hf1 (by intro z; cases z))]
        exact e
      have hui : (us.map fun u => u.2.2)[i]? = some u.2.2 := by rw [List.getElem?_map, hu]; rfl
      have hst : (((us.map fun u => u.2.2).take (i + 1)).foldl (stepL kd) []) = stepL kd (((us.map fun u => u.2.2).take i).foldl (stepL kd) []) u.2.2 := by rw [take_more hui, List.foldl_append]; rfl
      have zl : (((us.map fun u => u.2.2).take i).foldl (stepL kd) []).length ≤ 900 := by
        have := namedL_len (kd := kd) ((us.map fun u => u.2.2).take i) (acc := [])
        rw [List.length_take, List.length_map, List.length_nil] at this
        omega
      generalize (((us.map fun u => u.2.2).take i).foldl (stepL kd) []) = acc at *
      rw [hst]
      refine ⟨u.1, _, rfl, SqT.of (hk _ _ h1), rfl, _, _, rfl, _, _, rfl, rfl, ?_⟩
      dsimp only [List.set]
      refine ⟨_, rfl, u.2.2.e, _, _, .str u.2.2.kd, rfl, rfl, SqT.of (hk _ _ hte), rfl, _, rfl, rfl, _, rfl, ?_⟩
      unfold stepL
      refine if_dec (fun e => ?_) (fun e => ⟨_, _, rfl, by rw [if_neg fun h => e (congrArg V.str h.1)]⟩)
      have ek : u.2.2.kd = kd := V.str.inj e
      refine ⟨_, rfl, u.2.2.e, _, _, .str u.2.2.nm, rfl, rfl, SqT.of (hk _ _ hte), rfl, _, rfl, f, _, rfl, .inl (SqL.of upd_same), rfl, flat_strs _, _, rfl, ?_⟩
      show if (!inV (.str u.2.2.nm) (acc.map V.str)) = true then _ else _
      rw [inV_strs]
      by_cases hm : u.2.2.nm ∈ acc
      · rw [decide_eq_true hm]
        exact iteF ⟨_, _, rfl, by rw [if_neg fun h => h.2 hm]⟩
      · rw [decide_eq_false hm]
        refine iteT ⟨_, rfl, .inl ⟨rfl, _, SqL.of upd_same⟩, _, rfl, u.2.2.e, _, _, .str u.2.2.nm, rfl, rfl, SqT.of (hk _ _ hte), rfl, f, _, _, rfl, rfl, upd_same, ?_, _, _, rfl, ?_⟩
        · rw [List.length_map]
          exact Nat.lt_of_le_of_lt zl (by decide)
        · rw [upd_upd, if_pos ⟨ek, hm⟩, List.map_append]
          rfl
    · rintro σ' H' ⟨o3, o4, rfl, rfl⟩
      refine ⟨_, rfl, k f _ (Same.at_new hf s1) hf ?_⟩
      rw [upd_same, List.length_map, List.take_of_length_le (by rw [List.length_map]; exact Nat.le_refl _)]
      rfl
end

/-! ### x in xs, x not in xs: data of any depth -/
section
open PySem.Spec PyProof.Rows
variable {X : Cx}
def rInP (K : PySem.W.Frag) (neg : Bool) : R2 := fun x y H Q => Wd (∃ d ds k, DL K H x d 50 ∧ DL K H y (.list ds) k ∧ Q (.bl (if neg then !ds.any (fun z => PyData.eqv z d) else ds.any fun z => PyData.eqv z d)) H)
theorem op_inP (hu : X.A.units + 64 < cLine) : OpR X (compareOp .In) (rInP X.K false) := by
  intro pins s σ H x y v u Q I rx ry h
  obtain ⟨d, ds, k, hd, he, q⟩ := h.ok
  obtain ⟨as, r1⟩ := Dp.reads I d x v hd.dp rx
  obtain ⟨bs, r2⟩ := Dp.reads I (.list ds) y u he.dp ry
  have hp : PyData.plainAll ds = true := by have := he.pl; unfold PyData.plain at this; exact this
  have := Nat.min_le_right (PyData.depthAll ds) d.depth
  have := hd.de
  exact SeqAt.in_list_data r2 r1 hp hd.pl (by omega) ⟨.bl _, H, I, rfl, q⟩
theorem op_notInP (hu : X.A.units + 64 < cLine) : OpR X (compareOp .NotIn) (rInP X.K true) := by
  intro pins s σ H x y v u Q I rx ry h
  obtain ⟨d, ds, k, hd, he, q⟩ := h.ok
  obtain ⟨as, r1⟩ := Dp.reads I d x v hd.dp rx
  obtain ⟨bs, r2⟩ := Dp.reads I (.list ds) y u he.dp ry
  have hp : PyData.plainAll ds = true := by have := he.pl; unfold PyData.plain at this; exact this
  have := Nat.min_le_right (PyData.depthAll ds) d.depth
  have := hd.de
  exact SeqAt.notIn_list_data r2 r1 hp hd.pl (by omega) ⟨.bl _, H, I, rfl, q⟩
end
theorem DL.up {K : PySem.W.Frag} {H : Hp} {v : V} {d : PyData} {k m : Nat} (h : DL K H v d k) (hk : k ≤ m) : DL K H v d m := ⟨h.dp, h.pl, Nat.le_trans h.de hk⟩
/-- a comprehension within a comprehension -/
theorem blkOk_to {N N' : List Str} {sc sc' scope : Scope} {own : List (Str × Nat)} (h : blkC N sc scope own = true) (hN : N' = N) (hs : sc'.names = sc.names) : BlkOk N' sc' scope own := by
  subst hN
  have k := blkOk_by h
  exact ⟨k.kind, k.uniq, k.ix, fun y hy e => by rw [hs]; exact k.free y hy e, k.own⟩
theorem dl_list2 {K : PySem.W.Frag} {H : Hp} {p : Addr} {a b : V} {da db : PyData} {k : Nat} (h : H p = some (.lst [a, b])) (ha : DL K H a da k) (hb : DL K H b db k) : DL K H (.ref p) (.list [da, db]) (k + 1) :=
  ⟨.lst (SqL.of h) (.cons ha.dp (.cons hb.dp .nil)), by unfold PyData.plain PyData.plainAll PyData.plainAll PyData.plainAll; rw [ha.pl, hb.pl]; rfl, depth_list fun x hx => by
    simp only [List.mem_cons, List.not_mem_nil, or_false] at hx
    rcases hx with rfl | rfl
    · exact ha.de
    · exact hb.de⟩

theorem range_at {α β : Type} (es : List α) (g : α → β) (z : β) : (List.range es.length).map (fun i => (es[i]?).elim z g) = es.map g := by
  refine List.ext_getElem? fun i => ?_
  rw [List.getElem?_map, List.getElem?_map]
  by_cases h : i < es.length
  · rw [List.getElem?_range h, List.getElem?_eq_getElem h]
    simp [h]
  · rw [List.getElem?_eq_none (by simpa using h), List.getElem?_eq_none (by simpa using h)]
    rfl

/-! ### _law_lists_right -/
theorem any_pairD {ps : List (Int × Int)} {p : Int × Int} : ((ps.map pairD).any fun z => PyData.eqv z (pairD p)) = decide (p ∈ ps) := by
  rw [List.any_map, Bool.eq_iff_iff, List.any_eq_true, decide_eq_true_iff]
  constructor
  · rintro ⟨y, hy, e⟩
    have e2 : PyData.eqv (pairD y) (pairD p) = true := e
    rw [eqv_pairD, decide_eq_true_iff] at e2
    exact e2 ▸ hy
  · intro h
    refine ⟨p, h, ?_⟩
    show PyData.eqv (pairD p) (pairD p) = true
    rw [eqv_pairD]
    exact decide_eq_true rfl
theorem isSome_atE {es : List En} {d n : Int} : (atE es d n).isSome = decide ((d, n) ∈ keysE es) := by
  rw [Bool.eq_iff_iff, decide_eq_true_iff]
  unfold keysE
  rw [List.mem_map]
  constructor
  · intro h
    obtain ⟨u, hu⟩ := Option.isSome_iff_exists.mp h
    obtain ⟨hm, e1, e2⟩ := atE_some hu
    exact ⟨u, hm, by rw [e1, e2]⟩
  · rintro ⟨u, hu, e⟩
    obtain ⟨t, ht⟩ := atE_mem hu
    have e1 := congrArg Prod.fst e
    have e2 := congrArg Prod.snd e
    simp only at e1 e2
    rw [← e1, ← e2, ht]
    rfl
theorem alk_keys : ∀ {us vs : List En}, All2 Alk us vs → keysE us = keysE vs
  | [], [], _ => rfl
  | u :: us, v :: vs, h => by
    have h0 := h.2 0 u v rfl rfl
    have ih := alk_keys (us := us) (vs := vs) ⟨by have := h.1; simpa using this, fun i x y hx hy => h.2 (i + 1) x y hx hy⟩
    unfold keysE at ih ⊢
    rw [List.map_cons, List.map_cons, ih, h0.1, h0.2.1]
  | [], v :: vs, h => absurd h.1 (by simp)
  | u :: us, [], h => absurd h.1 (by simp)
def spListsR (C : Addr) : Sp := fun vs H Q _ => ∃ (b bd p q : Addr) (es : List En) (us : List (Addr × Addr × En)) (bs : List Addr) (ps : List (Int × Int)), vs = [.ref b, .ref p, .ref q] ∧ BookAt C H b bd es ∧ EntsAt H es ∧ keyN es ∧ es.length < 400 ∧
  KeptAt H p us ∧ EntsAt H (us.map fun u => u.2.2) ∧ All2 Alk (us.map fun u => u.2.2) (srtE es) ∧ H q = some (.lst (bs.map V.ref)) ∧ All2 (fun b (z : Int × Int) => H b = some (.tup [.int z.1, .int z.2])) bs ps ∧ ps.length < 400 ∧ ∀ H', Same H H' → Q (.bl true) H'
section
variable {P : Program} {w : World} {K : PySem.W.Frag} {mg : Str → Option Value} {base : Heap} {A : Ad}
theorem own_len (T : Txt K mg A) : OwnM K A.Book A.m_Book_len "__len__" := ⟨T.m_Book___len__.at_, T.m_Book___len__.fn⟩
theorem ok_l_lists_right (T : Txt K mg A) : FnOk P w K mg base CX0 4 A.l_lists_right A.fd_l_lists_right P_l_lists_right (spListsR A.Book) := by
  refine T.F_l_lists_right.ok sc_l_lists_right (fun vs H Q E h => ?_) (fun cdv Ar outer s H vs Q E hr h => ?_)
  · obtain ⟨b, bd, p, q, es, us, bs, ps, rfl, _⟩ := h
    rfl
  · obtain ⟨b, bd, p, q, es, us, bs, ps, rfl, B, hE, hn, hz, hK, hKE, hA, hq, hqA, hqz, k⟩ := h
    refine ⟨_, (pss_cons (ps_if (pt_cmpR (op_neP hr.units) (pe_lst (pa_cons (pe_meth0 (pv 0) T.cl_Book T.m_Book_lots (ok_m_Book_lots T) (hr.mono (by decide)) T.b_m_Book_lots .nil pass0) (pa_cons (pe_meth0 (pv 0) T.cl_Book T.m_Book_sales (ok_m_Book_sales T) (hr.mono (by decide)) T.b_m_Book_sales .nil pass0) pa_nil))) (pe_lst (pa_cons (pe_call (ok_l_named T) (hr.mono (by decide)) (by rfl) T.g__law_named T.F_l_named.kp T.b_l_named .nil pass0 (pa_cons (pv 1) (pa_cons pe_str pa_nil))) (pa_cons (pe_call (ok_l_named T) (hr.mono (by decide)) (by rfl) T.g__law_named T.F_l_named.kp T.b_l_named .nil pass0 (pa_cons (pv 1) (pa_cons pe_str pa_nil))) pa_nil))) (nomark _)) (pss_one (ps_ret pe_bl)) pss_nil)
      (pss_cons (ps_if (PW.pt (pw_or (pt_cmpR (op_neP hr.units) (pe_meth0 (pv 0) T.cl_Book T.m_Book_late_costs (ok_m_Book_late_costs T) (hr.mono (by decide)) T.b_m_Book_late_costs .nil pass0) (pe_call (ok_l_named T) (hr.mono (by decide)) (by rfl) T.g__law_named T.F_l_named.kp T.b_l_named .nil pass0 (pa_cons (pv 1) (pa_cons pe_str pa_nil))) (nomark _)) (pw_or1 (pt_cmpR op_ne (pe_callB (call_ownLen (own_len T) (ok_m_Book_len T) (hr.mono (by decide)) T.b_m_Book_len pass0) (by rfl) T.z_len (by decide +kernel) (pa_cons (pv 0) pa_nil)) (pe_callB call_len_seq (by rfl) T.z_len (by decide +kernel) (pa_cons (pv 1) pa_nil)) (nomark _))))) (pss_one (ps_ret pe_bl)) pss_nil)
      (pss_one (ps_ret (pe_callB (cr_all rfl) (by rfl) T.z_all (by decide +kernel) (pa_cons (pe_g (pe_lcV (own := [("_law_spot", 3)]) rfl sc_l_lists_right.nd (pi_list (pv 2)) (blkOk_by (own := [("_law_spot", 3)]) (N := N_l_lists_right) (sc := defScope s_l_lists_right) (by decide +kernel)) (fun _ _ _ _ _ => (pg_name (i := 3) sc_l_lists_right.nd rfl (Or.inl rfl))) (fun _ _ _ _ _ => pts_nil) (fun _ _ _ _ _ => (pe_cmpR op_eq (pe_cmpR (op_ownIn (own_in T) (ok_m_Book_contains T) (hr.mono (by decide)) T.b_m_Book_contains pass0) (pv 3) (pv 0) (by rfl)) (pe_cmpR (op_inP hr.units) (pv 3) ((pe_g (pe_lcV (own := [("_law_item", 4)]) rfl sc_l_lists_right.nd (pi_list (pv 1)) (blkOk_to (own := [("_law_item", 4)]) (N := N_l_lists_right) (sc := { kind := .function, names := [(".0", .local), ("_law_spot", .local), ("_law_book_here", .cell), ("_law_kept_here", .cell)], isGenerator := false, isCoroutine := false }) (by decide +kernel) (by rfl) (by rfl)) (fun _ _ _ _ _ => (pg_name (i := 4) sc_l_lists_right.nd rfl (Or.inl rfl))) (fun _ _ _ _ _ => pts_nil) (fun _ _ _ _ _ => (pe_ix ix_tup (pv 4) pe_int (fun _ _ => rfl))) (fun _ _ _ _ _ => rfl) (fun _ _ _ _ _ => rfl) (fun _ _ _ _ _ => rfl)))) (by rfl)) (nomark _))) (fun _ _ _ _ _ => rfl) (fun _ _ _ _ _ => rfl) (fun _ _ _ _ _ => rfl))) pa_nil)))))), ?_⟩
    have nm : ∀ kd, namedE es kd (srtK es) [] = namedL (us.map fun u => u.2.2) kd := fun kd => by
      rw [namedE_L hn]
      exact (namedL_alk hA []).symm
    have ul : us.length = es.length := by
      have := hA.1
      rw [List.length_map, (srtE_perm es).length_eq] at this
      exact this
    obtain ⟨⟨dx, hb⟩, hd⟩ := id B
    have entK : ∀ {H'}, Same H H' → EntsAt H' (us.map fun u => u.2.2) := fun s => hKE.keep fun b xs h => s _ _ h
    have entE : ∀ {H'}, Same H H' → EntsAt H' es := fun s => hE.keep fun b xs h => s _ _ h
    refine tIf_of (p := False) (fun R ry rn => ?_) (fun _ _ z => z.elim) (fun H1 s1 _ => ?_)
    · refine ⟨_, rfl, b, dx, _, rfl, hb, rfl, b, bd, es, rfl, B, hE, by omega, fun p1 H1 s1 hp1 hv1 => ⟨_, rfl, b, dx, _, rfl, s1 _ _ hb, rfl, b, bd, es, rfl, B.same s1, entE s1, by omega, fun p2 H2 s2 hp2 hv2 => ⟨(by show 2 ≤ sizeLine; decide), fun L hL => ?_⟩⟩⟩
      have s3 := Same.new (o := .lst [V.ref p1, .ref p2]) hL
      have hL3 := upd_same (H := H2) (a := L) (o := .lst [V.ref p1, .ref p2])
      generalize upd H2 L (.lst [V.ref p1, .ref p2]) = H3 at *
      have sA := s1.trans (s2.trans s3)
      refine ⟨_, rfl, p, us, "buy", rfl, hK.same sA, entK sA, by omega, fun q1 H4 s4 hq1 hw1 => ⟨_, rfl, p, us, "sell", rfl, hK.same (sA.trans s4), entK (sA.trans s4), by omega, fun q2 H5 s5 hq2 hw2 => ⟨(by show 2 ≤ sizeLine; decide), fun M hM => ?_⟩⟩⟩
      have s6 := Same.new (o := .lst [V.ref q1, .ref q2]) hM
      have hM6 := upd_same (H := H5) (a := M) (o := .lst [V.ref q1, .ref q2])
      generalize upd H5 M (.lst [V.ref q1, .ref q2]) = H6 at *
      rw [nm] at hv1 hv2
      have s36 := s4.trans (s5.trans s6)
      refine ne_dl (dl_list2 (s36 _ _ hL3) (dl_strs ((s2.trans (s3.trans s36)) _ _ hv1)) (dl_strs ((s3.trans s36) _ _ hv2))) (dl_list2 hM6 (dl_strs ((s5.trans s6) _ _ hw1)) (dl_strs (s6 _ _ hw2))) (by decide) ⟨_, rfl, rn _ (sA.trans s36) id⟩
    · dsimp only [tNext, tSeq]
      refine tIf_of (p := False) (fun R ry rn => ?_) (fun _ _ z => z.elim) (fun H2 s2 _ => ?_)
      · refine ⟨_, rfl, b, dx, _, rfl, s1 _ _ hb, rfl, b, bd, es, rfl, B.same s1, entE s1, by omega, fun p1 H2 s2 hp1 hv1 => ?_⟩
        have sA := s1.trans s2
        refine ⟨_, rfl, p, us, "late", rfl, hK.same sA, entK sA, by omega, fun q1 H4 s4 hq1 hw1 => ?_⟩
        rw [nm] at hv1
        have sB := sA.trans s4
        refine ne_dl (dl_strs (s4 _ _ hv1)) (dl_strs hw1) (by decide) ⟨_, rfl, iteF ⟨_, rfl, b, dx, _, rfl, sB _ _ hb, ⟨b, bd, es, rfl, B.same sB, (es.length : Nat), rfl, by omega, by omega, ?_⟩⟩⟩
        refine ⟨_, rfl, p, _, rfl, .inl (SqL.of (hK.same sB).1), rfl, _, rfl, ?_⟩
        rw [List.length_map, ul, decide_eq_true rfl]
        exact rn _ (s2.trans s4) id
      · have sA := s1.trans s2
        have mem : ∀ z : Int × Int, (atE es z.1 z.2).isSome = decide (z ∈ us.map fun w => (w.2.2.d, w.2.2.n)) := fun z => by
          rw [isSome_atE]
          have e1 : (us.map fun w => (w.2.2.d, w.2.2.n)) = keysE (us.map fun u => u.2.2) := by unfold keysE; rw [List.map_map]; rfl
          rw [e1, alk_keys hA]
          have e2 : (z ∈ keysE es) = (z ∈ keysE (srtE es)) := propext (((srtE_perm es).map fun t : En => (t.d, t.n)).mem_iff).symm
          show decide (z ∈ keysE es) = _
          simp only [e2]
        refine ⟨⟨_, rfl, q, rfl, ⟨_, SqL.of (sA _ _ hq)⟩, fun D hD => lc_same (K := K) (fun _ => V.bl true) (sA _ _ hq) (by rw [List.length_map, hqA.1]; omega) hD ?_ ?_⟩⟩
        · intro i x H3 N M hx s3 hN
          rw [List.getElem?_map] at hx
          obtain ⟨t, ht, rfl⟩ := Option.map_eq_some_iff.mp hx
          obtain ⟨z, hz3, htz⟩ := hqA.get ht
          have sB := sA.trans s3
          have ht3 : H3 t = some (.tup [.int z.1, .int z.2]) := sB _ _ htz
          refine ⟨rfl, _, rfl, _, rfl, ⟨b, dx, _, rfl, sB _ _ hb, b, bd, t, es, z.1, z.2, rfl, B.same sB, ht3, _, rfl, ?_⟩⟩
          refine ⟨_, rfl, ⟨_, rfl, p, rfl, ⟨_, SqL.of (hK.same sB).1⟩, fun D2 hD2 => lc_same (K := K) (fun i => (us[i]?).elim (.int 0) fun w => V.ref w.2.1) (hK.same sB).1 (by rw [List.length_map]; omega) hD2 ?_ ?_⟩⟩
          · intro i x H4 N4 M4 hx s4 hN4
            rw [List.getElem?_map] at hx
            obtain ⟨w, hw, rfl⟩ := Option.map_eq_some_iff.mp hx
            have en : ((us[i]?).elim (.int 0) fun w => V.ref w.2.1) = .ref w.2.1 := by rw [hw]; rfl
            rw [en] at hN4
            exact ⟨rfl, _, rfl, w.1, _, _, _, rfl, rfl, SqT.of ((sB.trans s4) _ _ (hK.2 w (List.mem_of_getElem? hw)).1), rfl, hN4 _ (Same.refl _)⟩
          · intro H4 s4 hD4
            rw [List.length_map, range_at us (fun w => V.ref w.2.1) (.int 0)] at hD4
            have d1 : DL K H4 (.ref t) (pairD z) 1 := dl_pair (s4 _ _ ht3)
            have d2 : DL K H4 (.ref D2) (.list ((us.map fun w => (w.2.2.d, w.2.2.n)).map pairD)) 2 := dl_pairs (bs := us.map fun w => w.2.1) (by rw [List.map_map]; exact hD4) ⟨by rw [List.length_map, List.length_map], fun j c y hc hy => by
              rw [List.getElem?_map] at hc hy
              obtain ⟨w, hw, rfl⟩ := Option.map_eq_some_iff.mp hc
              obtain ⟨w2, hw2, rfl⟩ := Option.map_eq_some_iff.mp hy
              rw [hw] at hw2
              cases hw2
              exact (sB.trans s4) _ _ (hK.2 w (List.mem_of_getElem? hw)).2⟩
            refine ⟨_, _, _, d1.up (by decide), d2, rfl, ?_⟩
            rw [any_pairD, ← mem z]
            show N (V.bl (decide (V.bl (atE es z.1 z.2).isSome = V.bl (atE es z.1 z.2).isSome))) H4
            rw [decide_eq_true rfl]
            exact hN _ s4
        · intro H3 s3 hD3
          rw [List.length_map, hqA.1] at hD3
          refine ⟨D, (List.range ps.length).map fun _ => true, rfl, SqL.of (by rw [List.map_map]; exact hD3), ?_⟩
          have ea : ((List.range ps.length).map fun _ => true).all id = true := by
            rw [List.all_map, List.all_eq_true]
            exact fun _ _ => rfl
          rw [ea]
          exact k _ (sA.trans s3)
end

/-! ### _law_clash, _law_unlike -/
theorem srtK_sorted (es : List En) : (srtK es).Pairwise fun a b => leK a b = true := by
  rw [srtK_srtE, List.pairwise_map]
  exact (srtE_sorted es).imp fun h => h
theorem srtK_nodup {es : List En} (hn : keyN es) : (srtK es).Nodup := by
  rw [srtK_srtE]
  exact ((srtE_perm es).map fun t : En => (t.d, t.n)).nodup_iff.mpr hn
theorem first_of {es : List En} {f : Int × Int → Bool} {p : Int × Int} (hn : keyN es) (hp : p ∈ srtK es) (hmin : ∀ q ∈ srtK es, f q = true → leK p q = true) : ∃ i, (srtK es)[i]? = some p ∧ ∀ (j : Nat) (q : Int × Int), j < i → (srtK es)[j]? = some q → f q = false := by
  obtain ⟨i, hi⟩ := List.mem_iff_getElem?.mp hp
  refine ⟨i, hi, fun j q hj hq => ?_⟩
  cases e : f q with
  | false => rfl
  | true =>
    have h1 := hmin q (List.mem_of_getElem? hq) e
    obtain ⟨li, ei⟩ := List.getElem?_eq_some_iff.mp hi
    obtain ⟨lj, ej⟩ := List.getElem?_eq_some_iff.mp hq
    have h2 := (List.pairwise_iff_getElem.mp (srtK_sorted es)) j i lj li hj
    have h3 := (List.pairwise_iff_getElem.mp (srtK_nodup hn)) j i lj li hj
    rw [ei, ej] at h2 h3
    rw [leK_iff] at h1 h2
    exact (h3 (Prod.ext (by omega) (by omega))).elim
def spClash (C : Addr) : Sp := fun vs H Q _ => ∃ (a ad b bd : Addr) (es1 es2 : List En) (p : Int × Int), vs = [.ref a, .ref b] ∧ BookAt C H a ad es1 ∧ BookAt C H b bd es2 ∧ EntsAt H es1 ∧ EntsAt H es2 ∧ (∀ u ∈ es1, Pl u.x) ∧ (∀ u ∈ es2, Pl u.x) ∧ HAp (kvE es1) ∧ HAp (kvE es2) ∧ es1.length < 400 ∧ es2.length < 400 ∧ keyN es1 ∧
  p ∈ srtK es1 ∧ clashB es1 es2 p = true ∧ (∀ q ∈ srtK es1, clashB es1 es2 q = true → leK p q = true) ∧ ∀ (t : Addr) (H' : Hp), Same H H' → H t = none → H' t = some (.tup [.int p.1, .int p.2, .bl true]) → Q (.ref t) H'
section
variable {P : Program} {w : World} {K : PySem.W.Frag} {mg : Str → Option Value} {base : Heap} {A : Ad}
theorem xf_BadEntry (T : Txt K mg A) : XfC K A.BadEntry := ⟨T.xg_BadEntry, T.xk_BadEntry, T.eb_BadEntry, T.eh_BadEntry⟩
theorem excC_BadEntry (T : Txt K mg A) : ExcC K A.BadEntry := ⟨T.xg_BadEntry, T.xk_BadEntry, T.eb_BadEntry, T.eh_BadEntry, T.xa_BadEntry, T.xn_BadEntry, T.xt_BadEntry, T.xm_BadEntry⟩
theorem exm_BadEntry (T : Txt K mg A) : PySem.W.exmOne K (.ref A.BadEntry) (.ref A.BadEntry) = some true := PySem.W.exm_ref T.eb_BadEntry T.eh_BadEntry T.et_BadEntry T.es_BadEntry
theorem ok_l_clash (T : Txt K mg A) : FnOk P w K mg base CX0 10 A.l_clash A.fd_l_clash P_l_clash (spClash A.Book) := by
  refine T.F_l_clash.ok sc_l_clash (fun vs H Q E h => ?_) (fun cdv Ar outer s H vs Q E hr h => ?_)
  · obtain ⟨a, ad, b, bd, es1, es2, p, rfl, _⟩ := h
    rfl
  · obtain ⟨a, ad, b, bd, es1, es2, p, rfl, B1, B2, hE1, hE2, hx1, hx2, ap1, ap2, z1, z2, kn, hp, hc, hmin, k⟩ := h
    refine ⟨_, (pss_cons (ps_tryV (i := 2) rfl rfl sc_l_clash.nd rfl rfl ⟨by rfl, by decide, .inl T.g_BadEntry⟩ takes0 (fun W pn xe tk _ => (pss_one (ps_expr (pe_methA (pv 0) T.cl_Book T.m_Book_joined (ok_m_Book_joined T) (hr.mono (by decide)) T.b_m_Book_joined (fun σ => passAt tk σ) (pa_cons (pv 1) pa_nil))))) (fun a oe cls d pn hz hf => (pss_one (ps_ret (pe_tup (pa_cons (pe_xf (xf_BadEntry T) T.n_BadEntry_day hz hf (pv 2)) (pa_cons (pe_xf (xf_BadEntry T) T.n_BadEntry_number hz hf (pv 2)) (pa_cons (pe_callB (call_isEW hz hf) (by rfl) T.z_isinstance (by decide +kernel) (pa_cons (pv 2) (pa_cons (pe_glob (v := .ref A.CostError) (by rfl) T.g_CostError rfl) pa_nil))) pa_nil))))))) (fun _ _ _ => rfl) (fun _ _ _ _ _ => rfl))
      (pss_one (ps_ret pe_non))), ?_⟩
    obtain ⟨⟨dx, hb⟩, hd⟩ := id B1
    obtain ⟨i, hi, hbef⟩ := first_of (f := clashB es1 es2) kn hp hmin
    refine ⟨_, rfl, a, dx, _, rfl, hb, rfl, _, rfl, a, ad, b, bd, es1, es2, rfl, B1, B2, hE1, hE2, hx1, hx2, ap1, ap2, z1, z2, fun no => ?_, fun j q hj hbj hcj x H' s' hx => ?_⟩
    · rw [no p hp] at hc
      cases hc
    · have eq : q = p := by
        rcases Nat.lt_trichotomy j i with z | z | z
        · rw [hbef j q z hj] at hcj
          cases hcj
        · subst z
          rw [hi] at hj
          exact (Option.some.inj hj).symm
        · rw [hbj i p z hi] at hc
          cases hc
      subst eq
      refine ⟨true, exm_BadEntry T, fun _ ax _ => ?_, fun q => nomatch q⟩
      refine ⟨_, rfl, rfl, rfl, x, _, _, rfl, hx, rfl, _, rfl, rfl, rfl, x, _, _, rfl, hx, rfl, _, rfl, A.BadEntry, x, _, _, _, _, rfl, rfl, hx, excC_BadEntry T, rfl, fun _ r => r, T.xc_BadEntry, (by show 3 ≤ sizeLine; decide), fun t ht => ?_⟩
      exact k t _ (Same.at_new (Same.none s' ht) s') (Same.none s' ht) upd_same
end
def spUnlike : Sp := fun vs H Q _ => ∃ (g l : Addr) (u : En), vs = [.ref g, .ref u.e] ∧ Bag H g l ∧ H u.e = some (.tup [.str u.kd, .str u.nm, u.x]) ∧ EnOk u ∧
  ∀ (v : En) (H' : Hp), v.d = u.d → v.n = u.n → EnOk v → Bag H' g l → Kp g H H' → H v.e = none → v.e ≠ g → H' v.e = some (.tup [.str v.kd, .str v.nm, v.x]) → Q (.ref v.e) H'
section
variable {P : Program} {w : World} {K : PySem.W.Frag} {mg : Str → Option Value} {base : Heap} {A : Ad}
theorem ok_l_unlike (T : Txt K mg A) : FnOk P w K mg base CX0 2 A.l_unlike A.fd_l_unlike P_l_unlike spUnlike := by
  refine T.F_l_unlike.ok sc_l_unlike (fun vs H Q E h => ?_) (fun cdv Ar outer s H vs Q E hr h => ?_)
  · obtain ⟨g, l, u, rfl, _⟩ := h
    rfl
  · obtain ⟨g, l, u, rfl, B, he, hok, k⟩ := h
    refine ⟨_, (pss_cons (ps_asg (pv 1) (pg_tup (n := 3) rfl (pgs_cons (pg_name (i := 2) sc_l_unlike.nd rfl (Or.inl rfl)) (pgs_cons (pg_name (i := 3) sc_l_unlike.nd rfl (Or.inl rfl)) (pgs_cons (pg_name (i := 4) sc_l_unlike.nd rfl (Or.inl rfl)) pgs_nil)))))
      (pss_cons (ps_set (i := 5) sc_l_unlike.nd rfl (Or.inl rfl) (pe_call (ok_l_draw T) (hr.mono (by decide)) (by rfl) T.g__law_draw T.F_l_draw.kp T.b_l_draw .nil pass0 (pa_cons (pv 0) (pa_cons pe_int pa_nil))))
      (pss_cons (ps_if (pt_cmpR op_eq (pv 5) pe_int (nomark _)) (pss_one (ps_ret (pe_tup (pa_cons (pv 2) (pa_cons pe_str (pa_cons (pv 4) pa_nil)))))) pss_nil)
      (pss_cons (ps_if (pt_cmpR op_eq (pv 2) pe_str (nomark _)) (pss_one (ps_ret (pe_ix ix_list (pe_lst (pa_cons (pe_tup (pa_cons pe_str (pa_cons (pv 3) (pa_cons pe_str pa_nil)))) (pa_cons (pe_tup (pa_cons pe_str (pa_cons (pv 3) (pa_cons pe_int pa_nil)))) pa_nil))) (pe_op op_sub (pv 5) pe_int) (fun _ _ => rfl)))) pss_nil)
      (pss_cons (ps_if (pt_cmpR op_eq (pv 5) pe_int (nomark _)) (pss_one (ps_ret (pe_tup (pa_cons (pv 2) (pa_cons (pv 3) (pa_cons (pe_op op_add (pe_op op_mod (pe_callTy call_int1 (by rfl) T.z_int (by decide +kernel) (pa_cons (pv 4) pa_nil)) pe_int) pe_int) pa_nil)))))) pss_nil)
      (pss_one (ps_ret (pe_tup (pa_cons (pe_ix ix_list (pe_lst (pa_cons pe_str (pa_cons pe_str pa_nil))) (pe_callTy call_int1 (by rfl) T.z_int (by decide +kernel) (pa_cons (pe_cmpR op_eq (pv 2) pe_str (nomark _)) pa_nil)) (fun _ _ => rfl)) (pa_cons (pv 3) (pa_cons (pv 4) pa_nil))))))))))), ?_⟩
    refine ⟨_, rfl, u.e, _, rfl, SqT.of he, rfl, _, _, rfl, _, _, rfl, _, _, rfl, rfl, ?_⟩
    dsimp only [List.set]
    refine ⟨_, rfl, g, l, 3, rfl, B, by decide, by decide, fun c H1 c0 c1 B1 K1 => ?_⟩
    dsimp only [gName, List.set]
    have nm1 : nameV (.str u.nm) = true := by
      have := hok.1
      unfold entOk at this
      rw [Bool.and_eq_true] at this
      exact this.1
    have rest := hok.1
    unfold entOk at rest
    rw [nm1, Bool.true_and] at rest
    have out : ∀ (kd nm : Str) (x : V) (H2 : Hp) (p : Addr), Same H1 H2 → H2 p = none → EnOk ⟨u.d, u.n, p, kd, nm, x⟩ → Q (.ref p) (upd H2 p (.tup [.str kd, .str nm, x])) := fun kd nm x H2 p s2 hp ok => by
      have s3 := s2.trans (Same.new (o := .tup [.str kd, .str nm, x]) hp)
      have hp1 := Same.none s2 hp
      have hp0 : H p = none := by
        cases e : H p with
        | none => rfl
        | some o =>
          by_cases z : p = g
          · obtain ⟨xs, hg⟩ := B1.lst
            rw [← z, hp1] at hg
            cases hg
          · rw [K1 _ _ e z] at hp1
            cases hp1
      exact k ⟨u.d, u.n, p, kd, nm, x⟩ _ rfl rfl ok (B1.keep s3) (K1.trans (Kp.same s3)) hp0 (B1.ne hp1).1 upd_same
    refine ⟨_, rfl, rfl, _, rfl, if_int (fun e => ?_) (fun e => ?_)⟩
    · refine ⟨_, rfl, _, rfl, (by show 3 ≤ sizeLine; decide), fun p hp => out _ _ _ H1 p (Same.refl _) hp ⟨?_, hok.2.1, fun z e => (by rw [← V.str.inj e]; show ("othername" : Str).length ≤ 1000; decide), hok.2.2.2⟩⟩
      show entOk (.str u.kd) (.str "othername") u.x = true
      unfold entOk
      rw [show nameV (.str "othername") = true from by decide +kernel, Bool.true_and]
      exact rest
    dsimp only [tNext, tSeq]
    refine ⟨_, rfl, rfl, _, rfl, if_dec (fun e2 => ?_) (fun e2 => ?_)⟩
    · have ek : u.kd = "late" := V.str.inj e2
      have s1 := fun p1 (hp1 : H1 p1 = none) => Same.new (o := .tup [V.str "late", .str u.nm, .str "otherlot"]) hp1
      refine ⟨_, rfl, (by show 3 ≤ sizeLine; decide), fun p1 hp1 => ⟨_, rfl, (by show 3 ≤ sizeLine; decide), fun p2 hp2 => ⟨(by show 2 ≤ sizeLine; decide), fun L hL => ⟨_, rfl, c, 1, rfl, rfl, ?_⟩⟩⟩⟩
      have n12 : p1 ≠ p2 := ne_of_none upd_same hp2
      have hp2' : H1 p2 = none := Same.none (s1 p1 hp1) hp2
      have s2 := Same.new (o := .tup [V.str "buy", .str u.nm, .int 3]) hp2
      have s3 := Same.new (o := .lst [V.ref p1, .ref p2]) hL
      have nl1 : p1 ≠ L := ne_of_none (s2 _ _ upd_same) hL
      have nl2 : p2 ≠ L := ne_of_none upd_same hL
      have base : ∀ (kd nm : Str) (x : V) (p : Addr), H1 p = none → EnOk ⟨u.d, u.n, p, kd, nm, x⟩ → upd (upd (upd H1 p1 (.tup [V.str "late", .str u.nm, .str "otherlot"])) p2 (.tup [V.str "buy", .str u.nm, .int 3])) L (.lst [V.ref p1, .ref p2]) p = some (.tup [.str kd, .str nm, x]) → Q (.ref p) (upd (upd (upd H1 p1 (.tup [V.str "late", .str u.nm, .str "otherlot"])) p2 (.tup [V.str "buy", .str u.nm, .int 3])) L (.lst [V.ref p1, .ref p2])) := fun kd nm x p hp1 ok h => by
        have sA := ((s1 p1 ‹_›).trans s2).trans s3
        have hp0 : H p = none := by
          cases e : H p with
          | none => rfl
          | some o =>
            by_cases z : p = g
            · obtain ⟨xs, hg⟩ := B1.lst
              rw [← z, hp1] at hg
              cases hg
            · rw [K1 _ _ e z] at hp1
              cases hp1
        exact k ⟨u.d, u.n, p, kd, nm, x⟩ _ rfl rfl ok (B1.keep sA) (K1.trans (Kp.same sA)) hp0 (B1.ne hp1).1 h
      have : c = 1 ∨ c = 2 := by omega
      rcases this with rfl | rfl
      · refine ⟨L, _, _, _, rfl, rfl, SqL.of upd_same, rfl, base "late" u.nm (.str "otherlot") p1 hp1 ⟨?_, .str _, hok.2.2.1, fun z e => (by rw [← V.str.inj e]; decide)⟩ (by rw [upd_ne nl1, upd_ne n12, upd_same])⟩
        exact ent_late nm1 (by decide +kernel)
      · refine ⟨L, _, _, _, rfl, rfl, SqL.of upd_same, rfl, base "buy" u.nm (.int 3) p2 hp2' ⟨?_, .int _, hok.2.2.1, fun z e => (by cases e)⟩ (by rw [upd_ne nl2, upd_same])⟩
        exact ent_units (kd := "buy") (i := 3) (by decide +kernel) nm1 (by decide) (by decide)
    · have hk : (eqV (.str u.kd) (.str "buy") || eqV (.str u.kd) (.str "sell") || eqV (.str u.kd) (.str "back")) = true ∧ numV 1 u.x = true := by
        split at rest
        · next h => exact ⟨h, rest⟩
        · split at rest
          · next h => exact absurd (congrArg V.str (beq_iff_eq.mp h)) e2
          · cases rest
      obtain ⟨i, hi⟩ := num_int hk.2
      have hi2 := hk.2
      rw [hi] at hi2
      have hi3 : 1 ≤ i ∧ i ≤ 1000000 := by
        unfold numV at hi2
        rw [Bool.and_eq_true, decide_eq_true_iff, decide_eq_true_iff] at hi2
        exact hi2
      dsimp only [tNext, tSeq]
      refine ⟨_, rfl, rfl, _, rfl, if_int (fun e3 => ?_) (fun e3 => ?_)⟩
      · refine ⟨_, rfl, _, rfl, _, rfl, .inl ⟨i, by rw [hi], i, 1000000, rfl, rfl, (by show (0 : Int) < 1000000; decide), _, _, rfl, rfl, (by show 3 ≤ sizeLine; decide), fun p hp => ?_⟩⟩
        exact out _ _ (.int (i % 1000000 + 1)) H1 p (Same.refl _) hp ⟨ent_units hk.1 nm1 (by omega) (by omega), .int _, hok.2.2.1, fun z e => (by cases e)⟩
      · dsimp only [tNext, tSeq]
        refine ⟨(by show 2 ≤ sizeLine; decide), fun L hL => ⟨_, rfl, rfl, ?_⟩⟩
        have s1 := Same.new (o := .lst [V.str "buy", .str "sell"]) hL
        obtain ⟨j, w, hj, hw⟩ : ∃ (j : Int) (w : Str), (if decide (V.str u.kd = V.str "buy") = true then (1 : Int) else 0) = j ∧ atI [V.str "buy", .str "sell"] j = some (.str w) ∧ (eqV (.str w) (.str "buy") || eqV (.str w) (.str "sell") || eqV (.str w) (.str "back")) = true := by
          by_cases e4 : V.str u.kd = V.str "buy"
          · exact ⟨1, "sell", by rw [decide_eq_true e4]; rfl, rfl, by decide +kernel⟩
          · exact ⟨0, "buy", by rw [decide_eq_false e4]; rfl, rfl, by decide +kernel⟩
        refine .inr ⟨_, rfl, L, _, _, _, rfl, rfl, SqL.of upd_same, by rw [hj]; exact hw.1, _, rfl, _, rfl, (by show 3 ≤ sizeLine; decide), fun p hp => ?_⟩
        exact out w u.nm u.x _ p s1 hp ⟨by rw [hi]; exact ent_units hw.2 nm1 hi3.1 hi3.2, hok.2.1, hok.2.2.1, hok.2.2.2⟩
end

/-! ### joined books: plain law -/
theorem Alk.refl (u : En) : Alk u u := ⟨rfl, rfl, rfl, rfl, rfl⟩
theorem Alk.symm {u v : En} (h : Alk u v) : Alk v u := ⟨h.1.symm, h.2.1.symm, h.2.2.1.symm, h.2.2.2.1.symm, h.2.2.2.2.symm⟩
theorem Alk.trans {u v w : En} (h : Alk u v) (k : Alk v w) : Alk u w := ⟨h.1.trans k.1, h.2.1.trans k.2.1, h.2.2.1.trans k.2.2.1, h.2.2.2.1.trans k.2.2.2.1, h.2.2.2.2.trans k.2.2.2.2⟩
theorem itemD_alk {u v : En} (h : Alk u v) : itemD u = itemD v := by
  obtain ⟨h1, h2, h3, h4, h5⟩ := h
  unfold itemD entD
  rw [h1, h2, h3, h4, h5]
theorem items_alk : ∀ {us vs : List En}, All2 Alk us vs → us.map itemD = vs.map itemD
  | [], [], _ => rfl
  | u :: us, v :: vs, h => by
    rw [List.map_cons, List.map_cons, itemD_alk (h.2 0 u v rfl rfl), items_alk (us := us) (vs := vs) ⟨by have := h.1; simpa using this, fun i x y hx hy => h.2 (i + 1) x y hx hy⟩]
  | [], v :: vs, h => absurd h.1 (by simp)
  | u :: us, [], h => absurd h.1 (by simp)
/-- the same entries, at other addresses -/
def Alks (X Y : List En) : Prop := (∀ u ∈ X, ∃ v ∈ Y, Alk u v) ∧ ∀ v ∈ Y, ∃ u ∈ X, Alk u v
theorem Alks.refl (X : List En) : Alks X X := ⟨fun u hu => ⟨u, hu, .refl u⟩, fun u hu => ⟨u, hu, .refl u⟩⟩
theorem Alks.symm {X Y : List En} (h : Alks X Y) : Alks Y X := ⟨fun u hu => let ⟨v, hv, e⟩ := h.2 u hu; ⟨v, hv, e.symm⟩, fun u hu => let ⟨v, hv, e⟩ := h.1 u hu; ⟨v, hv, e.symm⟩⟩
theorem Alks.trans {X Y Z : List En} (h : Alks X Y) (k : Alks Y Z) : Alks X Z :=
  ⟨fun u hu => let ⟨v, hv, e⟩ := h.1 u hu; let ⟨w, hw, e2⟩ := k.1 v hv; ⟨w, hw, e.trans e2⟩, fun w hw => let ⟨v, hv, e⟩ := k.2 w hw; let ⟨u, hu, e2⟩ := h.2 v hv; ⟨u, hu, e2.trans e⟩⟩
theorem alks_keys {X Y : List En} (h : Alks X Y) (p : Int × Int) : p ∈ keysE X ↔ p ∈ keysE Y := by
  unfold keysE
  rw [List.mem_map, List.mem_map]
  constructor
  · rintro ⟨u, hu, rfl⟩
    obtain ⟨v, hv, e⟩ := h.1 u hu
    exact ⟨v, hv, by rw [e.1, e.2.1]⟩
  · rintro ⟨v, hv, rfl⟩
    obtain ⟨u, hu, e⟩ := h.2 v hv
    exact ⟨u, hu, by rw [e.1, e.2.1]⟩
theorem alk_srt {X Y : List En} (hX : keyN X) (hY : keyN Y) (h : Alks X Y) : All2 Alk (srtE X) (srtE Y) := by
  have kp : (keysE X).Perm (keysE Y) := (List.perm_ext_iff_of_nodup hX hY).mpr fun p => alks_keys h p
  have e : srtK X = srtK Y := by
    refine srtK_uniq (es := Y) ?_ ?_
    · exact (List.mergeSort_perm _ _).trans kp
    · rw [srtK_srtE, List.pairwise_map]
      refine (srtE_sorted X).imp fun {a b} h => ?_
      unfold leEn leK at h
      rw [Bool.not_eq_true'] at h
      exact h
  rw [srtK_srtE, srtK_srtE] at e
  have hl := congrArg List.length e
  rw [List.length_map, List.length_map] at hl
  refine ⟨hl, fun i u v hu hv => ?_⟩
  have e1 : (u.d, u.n) = (v.d, v.n) := by
    have := congrArg (fun l : List (Int × Int) => l[i]?) e
    simp only [List.getElem?_map, hu, hv, Option.map_some, Option.some.injEq] at this
    exact this
  obtain ⟨w, hw, k⟩ := h.1 u ((srtE_perm X).mem_iff.mp (List.mem_of_getElem? hu))
  have vm := (srtE_perm Y).mem_iff.mp (List.mem_of_getElem? hv)
  have : w = v := en_inj hY hw vm (by rw [← e1, k.1, k.2.1])
  exact this ▸ k
theorem keys_putE {es : List En} {t : En} {p : Int × Int} (h : p ∈ keysE es ∨ p = (t.d, t.n)) : p ∈ keysE (putE es t) := by
  unfold putE
  split
  · next hs =>
    unfold keysE
    rw [List.map_map]
    rcases h with h | h
    · obtain ⟨u, hu, rfl⟩ := List.mem_map.mp h
      refine List.mem_map.mpr ⟨u, hu, ?_⟩
      show ((if isE t.d t.n u = true then t else u).d, (if isE t.d t.n u = true then t else u).n) = (u.d, u.n)
      by_cases c : isE t.d t.n u = true
      · rw [if_pos c]
        obtain ⟨e1, e2⟩ := isE_iff.mp c
        rw [e1, e2]
      · rw [if_neg c]
    · obtain ⟨u, hu⟩ := Option.isSome_iff_exists.mp hs
      obtain ⟨hm, e1, e2⟩ := atE_some hu
      refine List.mem_map.mpr ⟨u, hm, ?_⟩
      show ((if isE t.d t.n u = true then t else u).d, (if isE t.d t.n u = true then t else u).n) = p
      rw [if_pos (isE_iff.mpr ⟨e1, e2⟩), h]
  · unfold keysE at *
    rw [List.map_append]
    rcases h with h | h
    · exact List.mem_append_left _ h
    · exact List.mem_append_right _ (by rw [h]; exact List.mem_cons_self)
theorem mem_fold {u : En} : ∀ {es acc : List En}, u ∈ es.foldl putE acc → u ∈ es ∨ u ∈ acc
  | [], acc, h => .inr h
  | t :: es, acc, h => by
    rcases mem_fold (es := es) (acc := putE acc t) h with h | h
    · exact .inl (List.mem_cons_of_mem _ h)
    · rcases mem_putE h with rfl | h
      · exact .inl List.mem_cons_self
      · exact .inr h
theorem keys_fold {p : Int × Int} : ∀ {es acc : List En}, p ∈ keysE es ∨ p ∈ keysE acc → p ∈ keysE (es.foldl putE acc)
  | [], acc, h => by
    rcases h with h | h
    · cases h
    · exact h
  | t :: es, acc, h => by
    refine keys_fold (es := es) (acc := putE acc t) ?_
    rcases h with h | h
    · rcases List.mem_cons.mp h with h | h
      · exact .inr (keys_putE (.inr h))
      · exact .inl h
    · exact .inr (keys_putE (.inl h))
theorem keyN_fold : ∀ {es acc : List En}, keyN acc → keyN (es.foldl putE acc)
  | [], _, h => h
  | t :: es, acc, h => keyN_fold (es := es) (keyN_put (t := t) h)
/-- what both books hold -/
def bothE (es1 es2 : List En) : List En := es1 ++ es2.filter fun v => decide ((v.d, v.n) ∉ keysE es1)
def NoCl (es1 es2 : List En) : Prop := ∀ u ∈ es1, ∀ v ∈ es2, (u.d, u.n) = (v.d, v.n) → Alk u v
theorem NoCl.symm {es1 es2 : List En} (h : NoCl es1 es2) : NoCl es2 es1 := fun u hu v hv e => (h v hv u hu e.symm).symm
theorem NoCl.self {es : List En} (hn : keyN es) : NoCl es es := fun u hu v hv e => by rw [en_inj hn hu hv e]; exact .refl v
theorem keyN_both {es1 es2 : List En} (h1 : keyN es1) (h2 : keyN es2) : keyN (bothE es1 es2) := by
  unfold bothE keyN keysE at *
  rw [List.map_append, List.nodup_append]
  refine ⟨h1, h2.sublist ((List.filter_sublist (l := es2)).map _), fun a ha b hb e => ?_⟩
  obtain ⟨v, hv, rfl⟩ := List.mem_map.mp hb
  have := (List.mem_filter.mp hv).2
  rw [decide_eq_true_iff] at this
  exact this (e ▸ ha)
theorem keyN_join {es1 es2 : List En} : keyN (joinE es1 es2) := keyN_fold (keyN_fold List.nodup_nil)
theorem mem_keys {es : List En} {u : En} (h : u ∈ es) : (u.d, u.n) ∈ keysE es := List.mem_map.mpr ⟨u, h, rfl⟩
theorem join_alks {es1 es2 : List En} (nc : NoCl es1 es2) (h1 : keyN es1) (h2 : keyN es2) : Alks (joinE es1 es2) (bothE es1 es2) := by
  have to : ∀ u, u ∈ es1 ∨ u ∈ es2 → ∃ v ∈ bothE es1 es2, Alk u v := fun u hu => by
    unfold bothE
    by_cases c : (u.d, u.n) ∈ keysE es1
    · rcases hu with hu | hu
      · exact ⟨u, List.mem_append_left _ hu, .refl u⟩
      · obtain ⟨w, hw, e⟩ := List.mem_map.mp c
        exact ⟨w, List.mem_append_left _ hw, (nc w hw u hu e).symm⟩
    · rcases hu with hu | hu
      · exact absurd (mem_keys hu) c
      · exact ⟨u, List.mem_append_right _ (List.mem_filter.mpr ⟨hu, decide_eq_true c⟩), .refl u⟩
  have mem : ∀ u ∈ joinE es1 es2, u ∈ es1 ∨ u ∈ es2 := fun u hu => by
    rcases mem_fold hu with h | h
    · exact .inr h
    · rcases mem_fold h with h | h
      · exact .inl h
      · cases h
  refine ⟨fun u hu => to u (mem u hu), fun v hv => ?_⟩
  have kv : (v.d, v.n) ∈ keysE (joinE es1 es2) := by
    unfold bothE at hv
    refine keys_fold ?_
    rcases List.mem_append.mp hv with h | h
    · exact .inr (keys_fold (.inl (mem_keys h)))
    · exact .inl (mem_keys (List.mem_filter.mp h).1)
  obtain ⟨u, hu, e⟩ := List.mem_map.mp kv
  obtain ⟨w, hw, k⟩ := to u (mem u hu)
  have : w = v := en_inj (keyN_both h1 h2) hw hv (by rw [← k.1, ← k.2.1]; exact e)
  exact ⟨u, hu, this ▸ k⟩
theorem both_swap {es1 es2 : List En} (nc : NoCl es1 es2) (h1 : keyN es1) (h2 : keyN es2) : Alks (bothE es2 es1) (bothE es1 es2) := by
  have one : ∀ {a b : List En}, NoCl a b → ∀ u ∈ bothE a b, ∃ v ∈ bothE b a, Alk u v := fun {a b} nc u hu => by
    unfold bothE at *
    rcases List.mem_append.mp hu with h | h
    · by_cases c : (u.d, u.n) ∈ keysE b
      · obtain ⟨w, hw, e⟩ := List.mem_map.mp c
        exact ⟨w, List.mem_append_left _ hw, nc u h w hw e.symm⟩
      · exact ⟨u, List.mem_append_right _ (List.mem_filter.mpr ⟨h, decide_eq_true c⟩), .refl u⟩
    · exact ⟨u, List.mem_append_left _ (List.mem_filter.mp h).1, .refl u⟩
  exact ⟨one nc.symm, fun v hv => let ⟨u, hu, e⟩ := one nc v hv; ⟨u, hu, e.symm⟩⟩
theorem both_self {es : List En} : bothE es es = es := by
  unfold bothE
  have : (es.filter fun v => decide ((v.d, v.n) ∉ keysE es)) = [] := List.filter_eq_nil_iff.mpr fun v hv => by
    rw [decide_eq_true_iff]
    exact fun h => h (mem_keys hv)
  rw [this, List.append_nil]
theorem join_nil {es : List En} (hn : keyN es) : joinE es [] = es := by
  unfold joinE
  rw [List.foldl_nil, fold_new es [] (by rw [List.nil_append]; exact hn), List.nil_append]
theorem join_len (es1 es2 : List En) : (joinE es1 es2).length ≤ es1.length + es2.length := by
  unfold joinE
  have a := fold_len es2 (es1.foldl putE [])
  have b := fold_len es1 []
  rw [List.length_nil] at b
  omega
/-- no clash, as joined asks it -/
theorem noclash_of {es1 es2 : List En} (hn2 : keyN es2) (hx : ∀ u ∈ es1, Pl u.x) (nc : NoCl es1 es2) : ∀ p ∈ srtK es1, clashB es1 es2 p = false := by
  intro p hp
  unfold clashB
  cases h1 : atE es1 p.1 p.2 with
  | none => rfl
  | some u =>
    cases h2 : atE es2 p.1 p.2 with
    | none => rfl
    | some v =>
      obtain ⟨m1, a1, a2⟩ := atE_some h1
      obtain ⟨m2, b1, b2⟩ := atE_some h2
      have k := nc u m1 v m2 (by rw [a1, a2, b1, b2])
      show (!PyData.eqv (entD v) (entD u)) = false
      have e : entD v = entD u := by
        unfold entD
        rw [k.2.2.1, k.2.2.2.1, k.2.2.2.2]
      rw [e]
      have hp : (entD u).plain = true := by
        have := hx u m1
        unfold entD PyData.plain PyData.plainAll PyData.plainAll PyData.plainAll
        cases hxu : u.x with
        | _ => first | rfl | (rw [hxu] at this; cases this)
      rw [SeqAt.eqv_refl_plain _ hp]
      rfl
/-- the first entry taken out -/
theorem srt_drop {J : List En} (hn : keyN J) {j0 : En} {rest : List En} (h : srtE J = j0 :: rest) : srtE (dropE J j0.d j0.n) = rest := by
  have pm : J.Perm (j0 :: rest) := h ▸ (srtE_perm J).symm
  have hs := srtE_sorted J
  rw [h, List.pairwise_cons] at hs
  have kn2 : keyN (j0 :: rest) := keyN_perm pm.symm hn
  have dp : (dropE J j0.d j0.n).Perm rest := by
    have p1 : (dropE J j0.d j0.n).Perm (dropE (j0 :: rest) j0.d j0.n) := pm.filter _
    have e1 : dropE (j0 :: rest) j0.d j0.n = rest := by
      unfold dropE
      rw [List.filter_cons_of_neg (by simp [isE_iff])]
      exact List.filter_eq_self.mpr fun u hu => by rw [no_other kn2 (isE_iff.mpr ⟨rfl, rfl⟩) u hu]; rfl
    rw [e1] at p1
    exact p1
  have kn3 : keyN (dropE J j0.d j0.n) := hn.sublist ((List.filter_sublist (l := J)).map _)
  exact (srtE_uniq kn3 dp.symm hs.2).symm

theorem names_at {ys : List Str} {i : Nat} {x : V} (h : (ys.map V.str)[i]? = some x) : ∃ n, ys[i]? = some n ∧ x = .str n := by
  rw [List.getElem?_map] at h
  cases en : ys[i]? with
  | none => rw [en] at h; cases h
  | some n => rw [en] at h; cases h; exact ⟨n, rfl, rfl⟩

/-- [h x for x in xs if f x], xs told by us; its parts keep what stands -/
theorem lc_filtM {K : PySem.W.Frag} {α : Type} {a : Addr} {us : List α} {g : TG} {tt : TT} {te : TE} {vs : List Nat} {σ : L2.St} {H1 : Hp} {D : Addr} {Qd : Hp → Prop} (fv fo : α → V) (f : α → Bool) (hl : H1 a = some (.lst (us.map fv))) (hz : us.length ≤ 1000) (hD : H1 D = none)
    (hs : ∀ (u : α) (H' : Hp) (N : VK) (M : Hp → Prop), u ∈ us → Same H1 H' → (f u = true → ∀ H4, Same H' H4 → N (fo u) H4) → (f u = false → ∀ H4, Same H' H4 → M H4) → g (fv u) (wipe σ vs) H' fun σ2 H2 => wipe σ2 vs = wipe σ vs ∧ tt σ2 H2 fun b H3 => if b = true then te σ2 H3 N else M H3)
    (hd : ∀ (H' : Hp), Same H1 H' → H' D = some (.lst ((us.filter f).map fo)) → Qd H') :
    ∃ W : Nat → Nat → Hp → Prop, (∃ m, W 0 m (upd H1 D (.lst []))) ∧ ∀ i m H, W i m H →
      ((Itl K a).stop i H ∧ Qd H) ∨ ((Itl K a).go i H ∧ ∃ Nx : Hp → Prop, (∀ H', Nx H' → ∃ m', m' < m ∧ W (i + 1) m' H') ∧ ∀ x H', (Itl K a).yld i H x H' → g x (wipe σ vs) H' fun σ2 H2 => wipe σ2 vs = wipe σ vs ∧ tt σ2 H2 fun b H3 =>
        if b = true then te σ2 H3 fun y H4 => ∃ acc, H4 D = some (.lst acc) ∧ acc.length < sizeLine ∧ Nx (upd H4 D (.lst (acc ++ [y]))) else Nx H3) := by
  refine lc_list (K := K) (a := a) (xs := us.map fv) (fun i H' => Wd (Same H1 H' ∧ H' D = some (.lst (((us.take i).filter f).map fo)))) ⟨Same.new hD, upd_same⟩ (fun i H' _ h => SqL.of (h.ok.1 _ _ hl)) ?_ ?_
  · rintro i x H' hi ⟨s, hDs⟩
    rw [List.getElem?_map] at hi
    obtain ⟨u, hu, rfl⟩ := Option.map_eq_some_iff.mp hi
    have hil := (List.getElem?_eq_some_iff.mp hu).1
    refine hs u H' _ _ (List.mem_of_getElem? hu) s (fun e H4 s4 => ⟨_, s4 _ _ hDs, ?_, Same.at_new hD (s.trans s4), ?_⟩) (fun e H4 s4 => ⟨s.trans s4, ?_⟩)
    · rw [List.length_map]
      have := List.length_filter_le f (us.take i)
      rw [List.length_take] at this
      exact Nat.lt_of_le_of_lt (by omega : _ ≤ 1000) (by decide)
    · rw [upd_same, take_more hu, List.filter_append, List.map_append, List.filter_cons_of_pos e]
      rfl
    · rw [s4 _ _ hDs, take_more hu, List.filter_append, List.map_append, List.filter_cons_of_neg (by rw [e]; decide), List.filter_nil, List.map_nil, List.append_nil]
  · rintro H' ⟨s, hDs⟩
    rw [List.length_map, List.take_length] at hDs
    exact hd H' s hDs

theorem cutV_take {xs : List V} {k : Nat} (h : k ≤ xs.length) : cutV xs none (some (k : Int)) = xs.take k := by
  unfold cutV
  rw [HT.sIx_nat, HT.sIx_none, List.drop_zero, Nat.min_eq_left h, Nat.sub_zero]
theorem cutV_drop {xs : List V} {k : Nat} (h : k ≤ xs.length) : cutV xs (some (k : Int)) none = xs.drop k := by
  unfold cutV
  rw [HT.sIx_nat, HT.sIx_none, Nat.min_eq_left h]
  exact List.take_of_length_le (by rw [List.length_drop]; exact Nat.le_refl _)

/-! ### _law_joined_right -/
theorem tNil_of {σ : L2.St} {H : Hp} {f : List V → Hp → Prop} (h : f [] H) : tNil σ H f := h
theorem sort_items {K : PySem.W.Frag} {H : Hp} {ww : List (Addr × Addr × En)} {es : List En} {q : Addr} {Q : VK} (hq : H q = some (.lst (ww.map fun w => V.ref w.1))) (KU : ∀ w ∈ ww, H w.1 = some (.tup [.ref w.2.1, .ref w.2.2.e]) ∧ H w.2.1 = some (.tup [.int w.2.2.d, .int w.2.2.n])) (PM : (ww.map fun w => w.2.2).Perm es) (kn : keyN es)
    (k : ∀ (p : Addr) (zs : List (Addr × Addr × En)), H p = none → KeptAt (upd H p (.lst (zs.map fun w => V.ref w.1))) p zs → zs.map (fun w => w.2.2) = srtE es → Q (.ref p) (upd H p (.lst (zs.map fun w => V.ref w.1)))) : rSortK K [.ref q] H Q := by
  have KN : (ww.map fun w => (w.2.2.d, w.2.2.n)).Nodup := by
    have h1 := keyN_perm PM kn
    unfold keyN keysE at h1
    rw [List.map_map] at h1
    exact h1
  have AN : (ww.map fun w => w.1).Nodup := by
    unfold List.Nodup at KN ⊢
    rw [List.pairwise_map] at KN ⊢
    refine List.Pairwise.imp_of_mem (fun {x y} hx hy hne e => hne ?_) KN
    have h1 := (KU x hx).1
    rw [e, (KU y hy).1] at h1
    have h2 : y.2.1 = x.2.1 := by
      have h3 := Option.some.inj h1
      injection h3 with h4
      injection h4 with h5 _
      exact V.ref.inj h5
    have h6 := (KU x hx).2
    rw [← h2, (KU y hy).2] at h6
    have h7 := Option.some.inj h6
    injection h7 with h8
    injection h8 with h9 h10
    injection h10 with h11 _
    rw [V.int.inj h9, V.int.inj h11]
  refine ⟨q, ww.map fun w => (w.1, (w.2.2.d, w.2.2.n)), rfl, SqL.of ?_, fun z hz => ?_, ?_, ?_, fun zs p6 np6 hperm hsorted => ?_⟩
  · rw [List.map_map, hq]
    rfl
  · obtain ⟨w, hw, rfl⟩ := List.mem_map.mp hz
    exact ⟨_, _, (KU w hw).1, (KU w hw).2⟩
  · rw [List.map_map]
    exact KN
  · rw [List.map_map]
    exact AN
  obtain ⟨zs', rfl, hperm'⟩ := perm_map_back hperm
  have s6 := Same.new (o := .lst (zs'.map fun w => V.ref w.1)) np6
  have e6 : (zs'.map fun w => (w.1, (w.2.2.d, w.2.2.n))).map (fun u => V.ref u.1) = zs'.map fun w => V.ref w.1 := by rw [List.map_map]; rfl
  rw [e6]
  refine k p6 zs' np6 ⟨upd_same, fun w hw => ?_⟩ ?_
  · have := KU w (hperm'.mem_iff.mp hw)
    exact ⟨s6 _ _ this.1, s6 _ _ this.2⟩
  · refine srtE_uniq kn ((hperm'.map _).trans PM) ?_
    rw [List.map_map, List.pairwise_map] at hsorted
    rw [List.pairwise_map]
    refine hsorted.imp fun {x y} h => ?_
    unfold leEn leK
    rw [show SrtO.lexB (y.2.2.d, y.2.2.n) (x.2.2.d, x.2.2.n) = false from h]
    rfl
theorem dl_item {K : PySem.W.Frag} {H : Hp} {a ka : Addr} {u : En} (h : H a = some (.tup [.ref ka, .ref u.e])) (h2 : H ka = some (.tup [.int u.d, .int u.n])) (hE : H u.e = some (.tup [.str u.kd, .str u.nm, u.x])) (hx : Pl u.x) : DL K H (.ref a) (itemD u) 2 := by
  have e := dl_ent (K := K) hE hx
  refine ⟨.tup (SqT.of h) (.cons (.tup (SqT.of h2) (.cons (.int _) (.cons (.int _) .nil))) (.cons e.dp .nil)), ?_, ?_⟩
  · unfold itemD PyData.plain PyData.plainAll PyData.plainAll PyData.plainAll
    unfold entD
    rw [e.pl]
    rfl
  · unfold itemD PyData.depth
    refine Nat.succ_le_succ (depthAll_le fun y hy => ?_)
    simp only [List.mem_cons, List.not_mem_nil, or_false] at hy
    rcases hy with rfl | rfl
    · exact Nat.le_of_ble_eq_true rfl
    · exact e.de
theorem no_first {X Y : List En} {F : Prop} (no : ∀ p ∈ srtK X, clashB X Y p = false) {i : Nat} {p : Int × Int} (hp : (srtK X)[i]? = some p) (hc : clashB X Y p = true) : F := by
  rw [no p (List.mem_of_getElem? hp)] at hc
  cases hc
theorem hap_nil : HAp (kvE []) := fun _ _ => List.nodup_nil
theorem join_mem {X Y : List En} {u : En} (h : u ∈ joinE X Y) : u ∈ X ∨ u ∈ Y := by
  rcases mem_fold h with h | h
  · exact .inr h
  · rcases mem_fold h with h | h
    · exact .inl h
    · cases h
/-- all but the dicts stays -/
def ND (H H' : Hp) : Prop := ∀ c o, H c = some o → (∀ kvs, o ≠ .dT kvs) → H' c = some o
theorem ND.of {H H' : Hp} (s : Same H H') : ND H H' := fun c o e _ => s c o e
theorem ND.trans {H H1 H2 : Hp} (a : ND H H1) (b : ND H1 H2) : ND H H2 := fun c o e n => b c o (a c o e n) n
theorem ND.put {H : Hp} {d : Addr} {x y : List (List L2.Key × V)} (h : H d = some (.dT x)) : ND H (upd H d (.dT y)) := fun c o e n => by
  rw [upd_ne fun z => by rw [z, h] at e; exact n _ (Option.some.inj e).symm]
  exact e
theorem ND.kept {H H' : Hp} (s : ND H H') {p : Addr} {us : List (Addr × Addr × En)} (h : KeptAt H p us) : KeptAt H' p us := ⟨s _ _ h.1 (by intro _ z; cases z), fun u hu => ⟨s _ _ (h.2 u hu).1 (by intro _ z; cases z), s _ _ (h.2 u hu).2 (by intro _ z; cases z)⟩⟩
theorem ND.ents {H H' : Hp} (s : ND H H') {es : List En} (h : EntsAt H es) : EntsAt H' es := fun t ht => s _ _ (h t ht) (by intro _ z; cases z)
theorem ND.book {H H' : Hp} (s : ND H H') {C b bd : Addr} {es : List En} (h : BookAt C H b bd es) (hd : H' bd = some (.dT (kvE es))) : BookAt C H' b bd es := ⟨h.1.elim fun dx e => ⟨dx, s _ _ e (by intro _ z; cases z)⟩, hd⟩
theorem set_late {C CE c cd : Addr} {H : Hp} {es : List En} {n : Int} {σ : L2.St} {D : Ends} {i : Nat} (hi : σ[i]? = some (some (.ref c))) (B : BookAt C H c cd es) (hz : es.length < 1000) (n0 : 0 ≤ n) (n1 : n ≤ 1000000)
    (k : ∀ (v : Addr) (H' : Hp), Same H H' → H v = none → H' v = some (.tup [.str "late", .str "cost", .str "lot"]) → D.nx σ (upd H' cd (.dT (kvE (putE es ⟨1000000, n, v, "late", "cost", .str "lot"⟩))))) :
    sOwnSet C (spSetItem C CE) (fun _ => E0) (tVar i) (tTup (tCons (tC (.int 1000000)) (tCons (tC (.int n)) tNil))) (tTup (tCons (tC (.str "late")) (tCons (tC (.str "cost")) (tCons (tC (.str "lot")) tNil)))) D σ H := by
  refine ⟨(by show 3 ≤ sizeLine; decide), fun vt hvt => ⟨_, hi, (by show 2 ≤ sizeLine; decide), fun kt hkt => ?_⟩⟩
  obtain ⟨⟨dx, hb⟩, hd⟩ := id B
  have s1 := Same.new (o := .tup [V.str "late", .str "cost", .str "lot"]) hvt
  have s2 := Same.new (o := .tup [V.int 1000000, .int n]) hkt
  have s12 := s1.trans s2
  have nm : ((numV 0 (.int 1000000)) && (numV 0 (.int n) && true)) = true := by
    show ((decide ((0 : Int) ≤ 1000000) && decide ((1000000 : Int) ≤ 1000000)) && ((decide (0 ≤ n) && decide (n ≤ 1000000)) && true)) = true
    rw [decide_eq_true n0, decide_eq_true n1]
    rfl
  refine ⟨c, dx, _, rfl, s12 _ _ hb, c, cd, kt, es, .int 1000000, .int n, .ref vt, true, rfl, B.same s12, hz, upd_same, .inl (.int _), .inl (.int _), .inl ⟨.str "late", .str "cost", .str "lot", ⟨vt, rfl, s2 _ _ upd_same, .str _, .str _, .str _, fun z e => (by rw [← V.str.inj e]; decide), fun z e => (by rw [← V.str.inj e]; decide)⟩, by decide +kernel⟩, fun d' n' e1 e2 _ Hg sg => ?_, fun e => ?_⟩
  · obtain rfl := V.int.inj e1
    obtain rfl := V.int.inj e2
    rw [put_kvE (t := ⟨1000000, n, vt, "late", "cost", .str "lot"⟩)]
    exact k vt Hg (s12.trans sg) hvt (sg _ _ (s2 _ _ upd_same))
  · rw [nm] at e
    cases e
def spJoinedR (C : Addr) : Sp := fun vs H Q _ => ∃ (a ad b bd : Addr) (es1 es2 : List En) (kp k1 k2 : Addr) (us1 us2 : List (Addr × Addr × En)) (sp : Addr) (bs : List Addr) (ps : List (Int × Int)), vs = [.ref a, .ref b, .ref kp, .ref sp] ∧
  BookAt C H a ad es1 ∧ BookAt C H b bd es2 ∧ ad ≠ bd ∧ EntsAt H es1 ∧ EntsAt H es2 ∧ (∀ u ∈ es1, EnOk u) ∧ (∀ u ∈ es2, EnOk u) ∧ keyN es1 ∧ keyN es2 ∧ HAp (kvE es1) ∧ HAp (kvE es2) ∧ es1.length ≤ 14 ∧ es2.length ≤ 14 ∧ (∀ u ∈ es1, u.d < 1000000) ∧ (∀ u ∈ es2, u.d < 1000000) ∧ NoCl es1 es2 ∧ bothE es1 es2 ≠ [] ∧
  H kp = some (.lst [.ref k1, .ref k2]) ∧ KeptAt H k1 us1 ∧ us1.map (fun u => u.2.2) = srtE es1 ∧ KeptAt H k2 us2 ∧ us2.map (fun u => u.2.2) = srtE es2 ∧ H sp = some (.lst (bs.map V.ref)) ∧ All2 (fun b (z : Int × Int) => H b = some (.tup [.int z.1, .int z.2])) bs ps ∧ ps.length < 400 ∧ ∀ H', Q (.bl true) H'
section
variable {P : Program} {w : World} {K : PySem.W.Frag} {mg : Str → Option Value} {base : Heap} {A : Ad}
theorem ok_l_joined_right (T : Txt K mg A) : FnOk P w K mg base CX0 12 A.l_joined_right A.fd_l_joined_right P_l_joined_right (spJoinedR A.Book) := by
  refine T.F_l_joined_right.ok sc_l_joined_right (fun vs H Q E h => ?_) (fun cdv Ar outer s H vs Q E hr h => ?_)
  · obtain ⟨a, ad, b, bd, es1, es2, kp, k1, k2, us1, us2, sp, bs, ps, rfl, _⟩ := h
    rfl
  · obtain ⟨a, ad, b, bd, es1, es2, kp, k1, k2, us1, us2, sp, bs, ps, rfl, B1, B2, nd, hE1, hE2, ok1, ok2, kn1, kn2, ap1, ap2, z1, z2, rg1, rg2, nc, ne, hkp, hK1, eu1, hK2, eu2, hsp, hspA, hspz, k⟩ := h
    refine ⟨_, (pss_cons (ps_set (i := 4) sc_l_joined_right.nd rfl (Or.inl rfl) (pe_callB (cr_sortedK (units66 hr)) (by rfl) T.z_sorted (by decide +kernel) (pa_cons (pe_op op_cat (pe_ix ix_list (pv 2) pe_int (fun _ _ => rfl)) (pe_g (pe_lcV (own := [("_law_item", 7)]) rfl sc_l_joined_right.nd (pi_list (pe_ix ix_list (pv 2) pe_int (fun _ _ => rfl))) (blkOk_by (own := [("_law_item", 7)]) (N := N_l_joined_right) (sc := defScope s_l_joined_right) (by decide +kernel)) (fun _ _ _ _ _ => (pg_name (i := 7) sc_l_joined_right.nd rfl (Or.inl rfl))) (fun _ _ _ _ _ => (pts_one (pt_cmpR (op_notInP hr.units) (pv 7) (pe_ix ix_list (pv 2) pe_int (fun _ _ => rfl)) (by rfl)))) (fun _ _ _ _ _ => (pv 7)) (fun _ _ _ _ _ => rfl) (fun _ _ _ _ _ => rfl) (fun _ _ _ _ _ => rfl)))) pa_nil)))
      (pss_cons (ps_g (ps_for PassesOwn.never rfl (pi_list (pe_lst (pa_cons (pe_meth (pv 0) T.cl_Book T.m_Book_joined (ok_m_Book_joined T) (hr.mono (by decide)) T.b_m_Book_joined .nil passL (pa_cons (pv 1) pa_nil)) (pa_cons (pe_meth (pv 1) T.cl_Book T.m_Book_joined (ok_m_Book_joined T) (hr.mono (by decide)) T.b_m_Book_joined .nil passL (pa_cons (pv 0) pa_nil)) (pa_cons (pe_meth (pe_meth (pv 0) T.cl_Book T.m_Book_joined (ok_m_Book_joined T) (hr.mono (by decide)) T.b_m_Book_joined .nil passL (pa_cons (pe_make0 T.mk_Book (ok_m_Book_init T) (hr.mono (by decide)) (by rfl) T.g_Book T.b_m_Book_init .nil pass0) pa_nil)) T.cl_Book T.m_Book_joined (ok_m_Book_joined T) (hr.mono (by decide)) T.b_m_Book_joined .nil passL (pa_cons (pv 1) pa_nil)) pa_nil))))) (pg_name (i := 5) sc_l_joined_right.nd rfl (Or.inl rfl)) (pss_cons (ps_if (PW.pt (pw_or (pt_not (pt_val (pe_call (ok_l_lists_right T) (hr.mono (by decide)) (by rfl) T.g__law_lists_right T.F_l_lists_right.kp T.b_l_lists_right .nil pass0 (pa_cons (pv 5) (pa_cons (pv 4) (pa_cons (pv 3) pa_nil)))))) (pw_or1 (pt_cmpR (op_neP hr.units) (pe_call (ok_l_kept T) (hr.mono (by decide)) (by rfl) T.g__law_kept T.F_l_kept.kp T.b_l_kept .nil pass0 (pa_cons (pv 5) pa_nil)) (pv 4) (nomark _))))) (pss_one (ps_ret pe_bl)) pss_nil)
      (pss_cons (ps_ownSet (E := fun _ => E0) (own_set T) T.nsq_Book (ok_m_Book_setitem T) (hr.mono (by decide)) T.b_m_Book_setitem (passAll passL) (pv 5) (pe_tup (pa_cons pe_int (pa_cons pe_int pa_nil))) (pe_tup (pa_cons pe_str (pa_cons pe_str (pa_cons pe_str pa_nil)))) rfl)
      (pss_one (ps_if (pt_cmpR (op_neP hr.units) (pe_lst (pa_cons (pe_call (ok_l_kept T) (hr.mono (by decide)) (by rfl) T.g__law_kept T.F_l_kept.kp T.b_l_kept .nil pass0 (pa_cons (pv 0) pa_nil)) (pa_cons (pe_call (ok_l_kept T) (hr.mono (by decide)) (by rfl) T.g__law_kept T.F_l_kept.kp T.b_l_kept .nil pass0 (pa_cons (pv 1) pa_nil)) pa_nil))) (pv 2) (nomark _)) (pss_one (ps_ret pe_bl)) pss_nil))))))
      (pss_cons (ps_set (i := 5) sc_l_joined_right.nd rfl (Or.inl rfl) (pe_meth (pv 0) T.cl_Book T.m_Book_joined (ok_m_Book_joined T) (hr.mono (by decide)) T.b_m_Book_joined .nil passL (pa_cons (pv 1) pa_nil)))
      (pss_cons (ps_set (i := 6) sc_l_joined_right.nd rfl (Or.inl rfl) (pe_meth (pv 0) T.cl_Book T.m_Book_joined (ok_m_Book_joined T) (hr.mono (by decide)) T.b_m_Book_joined .nil passL (pa_cons (pv 0) pa_nil)))
      (pss_cons (ps_if (pt_cmpR (op_neP hr.units) (pe_call (ok_l_kept T) (hr.mono (by decide)) (by rfl) T.g__law_kept T.F_l_kept.kp T.b_l_kept .nil pass0 (pa_cons (pv 6) pa_nil)) (pe_ix ix_list (pv 2) pe_int (fun _ _ => rfl)) (nomark _)) (pss_one (ps_ret pe_bl)) pss_nil)
      (pss_cons (ps_ownSet (E := fun _ => E0) (own_set T) T.nsq_Book (ok_m_Book_setitem T) (hr.mono (by decide)) T.b_m_Book_setitem (passAll passL) (pv 6) (pe_tup (pa_cons pe_int (pa_cons pe_int pa_nil))) (pe_tup (pa_cons pe_str (pa_cons pe_str (pa_cons pe_str pa_nil)))) rfl)
      (pss_cons (ps_ownSet (E := fun _ => E0) (own_set T) T.nsq_Book (ok_m_Book_setitem T) (hr.mono (by decide)) T.b_m_Book_setitem (passAll passL) (pv 0) (pe_tup (pa_cons pe_int (pa_cons pe_int pa_nil))) (pe_tup (pa_cons pe_str (pa_cons pe_str (pa_cons pe_str pa_nil)))) rfl)
      (pss_cons (ps_expr (pe_meth (pv 5) T.cl_Book T.m_Book_remove (ok_m_Book_remove T) (hr.mono (by decide)) T.b_m_Book_remove .nil passL (pa_cons (pe_ix ix_tup (pe_ix ix_tup (pe_ix ix_list (pv 4) pe_int (fun _ _ => rfl)) pe_int (fun _ _ => rfl)) pe_int (fun _ _ => rfl)) (pa_cons (pe_ix ix_tup (pe_ix ix_tup (pe_ix ix_list (pv 4) pe_int (fun _ _ => rfl)) pe_int (fun _ _ => rfl)) pe_int (fun _ _ => rfl)) pa_nil))))
      (pss_one (ps_ret (pe_and (pe_cmpR (op_eqP hr.units) (pe_call (ok_l_kept T) (hr.mono (by decide)) (by rfl) T.g__law_kept T.F_l_kept.kp T.b_l_kept .nil pass0 (pa_cons (pv 5) pa_nil)) (pe_slice sl_list (pv 4) (po_some pe_int) po_none) (nomark _)) (pe_and (pe_cmpR (op_eqP hr.units) (pe_call (ok_l_kept T) (hr.mono (by decide)) (by rfl) T.g__law_kept T.F_l_kept.kp T.b_l_kept .nil pass0 (pa_cons (pv 1) pa_nil)) (pe_ix ix_list (pv 2) pe_int (fun _ _ => rfl)) (nomark _)) (pe_one (pe_cmpR op_eq (pe_callB (call_ownLen (own_len T) (ok_m_Book_len T) (hr.mono (by decide)) T.b_m_Book_len pass0) (by rfl) T.z_len (by decide +kernel) (pa_cons (pv 0) pa_nil)) (pe_op op_add (pe_callB call_len_seq (by rfl) T.z_len (by decide +kernel) (pa_cons (pe_ix ix_list (pv 2) pe_int (fun _ _ => rfl)) pa_nil)) pe_int) (nomark _))))))))))))))), ?_⟩
    have uk : ∀ u ∈ es1, ∀ v ∈ es2, PyData.eqv (itemD u) (itemD v) = decide ((v.d, v.n) = (u.d, u.n)) := fun u hu v hv => by
      by_cases c : (u.d, u.n) = (v.d, v.n)
      · have e := itemD_alk (nc u hu v hv c)
        rw [e, SeqAt.eqv_refl_plain _ (by
          have := (ok2 v hv).2.1
          unfold itemD entD PyData.plain PyData.plainAll PyData.plainAll PyData.plainAll PyData.plain PyData.plainAll PyData.plainAll PyData.plainAll PyData.plainAll
          cases hxu : v.x with
          | _ => first | rfl | (rw [hxu] at this; cases this)), decide_eq_true c.symm]
      · rw [decide_eq_false fun z => c z.symm]
        have e : PyData.eqv (itemD u) (itemD v) = (PyData.eqv (pairD (u.d, u.n)) (pairD (v.d, v.n)) && PyData.eqvAll [entD u] [entD v]) := by
          unfold itemD
          simp only [PyData.eqv, PyData.eqvAll]
        rw [e, eqv_pairD, decide_eq_false c]
        rfl
    have m1 : ∀ w ∈ us1, w.2.2 ∈ es1 := fun w hw => (srtE_perm es1).mem_iff.mp (eu1 ▸ List.mem_map.mpr ⟨w, hw, rfl⟩)
    have m2 : ∀ w ∈ us2, w.2.2 ∈ es2 := fun w hw => (srtE_perm es2).mem_iff.mp (eu2 ▸ List.mem_map.mpr ⟨w, hw, rfl⟩)
    have l1 : us1.length = es1.length := by have := congrArg List.length eu1; rw [List.length_map, (srtE_perm es1).length_eq] at this; exact this
    have l2 : us2.length = es2.length := by have := congrArg List.length eu2; rw [List.length_map, (srtE_perm es2).length_eq] at this; exact this
    refine ⟨_, rfl, kp, _, 0, _, rfl, rfl, SqL.of hkp, rfl, ⟨_, rfl, kp, _, 1, _, rfl, rfl, SqL.of hkp, rfl, k2, rfl, ⟨_, SqL.of hK2.1⟩, fun D hD => lc_filtM (K := K) (us := us2) (fun w => V.ref w.1) (fun w => V.ref w.1) (fun w => decide ((w.2.2.d, w.2.2.n) ∉ keysE es1)) hK2.1 (by omega) hD ?_ ?_⟩⟩
    · intro u H' N M hu s' hN hM
      refine ⟨rfl, _, rfl, _, rfl, kp, _, 0, _, rfl, rfl, SqL.of (s' _ _ hkp), rfl, ⟨itemD u.2.2, _, 3, ?_, dl_keptE (hK1.same s') (hE1.keep fun b xs h => s' _ _ h) ok1 eu1, _, rfl, ?_⟩⟩
      · exact (dl_item (s' _ _ (hK2.2 u hu).1) (s' _ _ (hK2.2 u hu).2) (s' _ _ (hE2 _ (m2 u hu))) (ok2 _ (m2 u hu)).2.1).up (by decide)
      · have ea : ((srtE es1).map itemD).any (fun z => z.eqv (itemD u.2.2)) = decide ((u.2.2.d, u.2.2.n) ∈ keysE es1) := by
          rw [List.any_map, Bool.eq_iff_iff, List.any_eq_true, decide_eq_true_iff]
          constructor
          · rintro ⟨y, hy, e⟩
            have ym := (srtE_perm es1).mem_iff.mp hy
            have e2 : PyData.eqv (itemD y) (itemD u.2.2) = true := e
            rw [uk y ym _ (m2 u hu), decide_eq_true_iff] at e2
            rw [e2]
            exact mem_keys ym
          · intro h
            obtain ⟨y, ym, e⟩ := List.mem_map.mp h
            refine ⟨y, (srtE_perm es1).mem_iff.mpr ym, ?_⟩
            show PyData.eqv (itemD y) (itemD u.2.2) = true
            rw [uk y ym _ (m2 u hu)]
            exact decide_eq_true e.symm
        rw [if_pos rfl, ea]
        by_cases c : (u.2.2.d, u.2.2.n) ∈ keysE es1
        · rw [decide_eq_true c]
          exact iteF (hM (decide_eq_false fun z => z c) _ (Same.refl _))
        · rw [decide_eq_false c]
          exact iteT ⟨_, rfl, hN (decide_eq_true c) _ (Same.refl _)⟩
    · intro H1 s1 hD1
      refine ⟨k1, D, _, _, rfl, rfl, s1 _ _ hK1.1, hD1, ?_, fun q hq => ?_⟩
      · rw [List.length_map, List.length_map]
        have := List.length_filter_le (fun w : Addr × Addr × En => decide ((w.2.2.d, w.2.2.n) ∉ keysE es1)) us2
        exact Nat.le_trans (by omega : _ ≤ 100) (by decide)
      have s2 := Same.new (o := .lst ((us1.map fun u => V.ref u.1) ++ (us2.filter fun w => decide ((w.2.2.d, w.2.2.n) ∉ keysE es1)).map fun w => V.ref w.1)) hq
      have sA := s1.trans s2
      have EU : (us2.filter fun w => decide ((w.2.2.d, w.2.2.n) ∉ keysE es1)).map (fun w => w.2.2) = (srtE es2).filter fun v => decide ((v.d, v.n) ∉ keysE es1) := by
        rw [← eu2, List.filter_map]
        rfl
      refine tNil_of ?_
      dsimp only
      refine sort_items (ww := us1 ++ us2.filter fun w => decide ((w.2.2.d, w.2.2.n) ∉ keysE es1)) (es := bothE es1 es2) (q := q) ?_ (fun w hw => ?_) ?_ (keyN_both kn1 kn2) fun dq zs hdq hKd euz => ?_
      · rw [upd_same, List.map_append]
      · rcases List.mem_append.mp hw with hw | hw
        · exact ⟨sA _ _ (hK1.2 w hw).1, sA _ _ (hK1.2 w hw).2⟩
        · have hw' := (List.mem_filter.mp hw).1
          exact ⟨sA _ _ (hK2.2 w hw').1, sA _ _ (hK2.2 w hw').2⟩
      · rw [List.map_append, EU, eu1]
        exact (srtE_perm es1).append ((srtE_perm es2).filter _)
      have s3 := Same.new (o := .lst (zs.map fun w => V.ref w.1)) hdq
      have sB := sA.trans s3
      have B1' := B1.same sB
      have B2' := B2.same sB
      have hE1' : EntsAt _ es1 := hE1.keep fun b xs h => sB _ _ h
      have hE2' : EntsAt _ es2 := hE2.keep fun b xs h => sB _ _ h
      have hkp' := sB _ _ hkp
      have hK1' := hK1.same sB
      have hK2' := hK2.same sB
      have hsp' := sB _ _ hsp
      have hspA' := hspA.keep sB
      generalize upd (upd H1 q (.lst ((us1.map fun u => V.ref u.1) ++ (us2.filter fun w => decide ((w.2.2.d, w.2.2.n) ∉ keysE es1)).map fun w => V.ref w.1))) dq (.lst (zs.map fun w => V.ref w.1)) = H3 at *
      clear sB s3 sA s2 hq hD1 s1 hD hdq EU uk B1 B2 hE1 hE2 hkp hK1 hK2 hsp hspA
      dsimp only [gName, List.set]
      obtain ⟨⟨dxa, ha⟩, hda⟩ := id B1'
      have pl1 : ∀ u ∈ es1, Pl u.x := fun u hu => (ok1 u hu).2.1
      have pl2 : ∀ u ∈ es2, Pl u.x := fun u hu => (ok2 u hu).2.1
      have no12 := noclash_of kn2 pl1 nc
      have no21 := noclash_of kn1 pl2 nc.symm
      have no10 := noclash_of (es1 := es1) (es2 := []) List.nodup_nil pl1 (fun u _ v hv => (List.not_mem_nil hv).elim)
      obtain ⟨⟨dxb, hb⟩, hdb⟩ := id B2'
      refine ⟨⟨_, rfl, a, dxa, _, rfl, ha, rfl, _, rfl, a, ad, b, bd, es1, es2, rfl, B1', B2', hE1', hE2', pl1, pl2, ap1, ap2, by omega, by omega, fun _ c1 cd1 H4 s4 hc1 hcd1 Bc1 => ?_, fun i p hp _ hc => no_first no12 hp hc⟩⟩
      have e4 : ∀ {es}, EntsAt H3 es → EntsAt H4 es := fun h => h.keep fun b xs h => s4 _ _ h
      refine ⟨_, rfl, b, dxb, _, rfl, s4 _ _ hb, rfl, _, rfl, b, bd, a, ad, es2, es1, rfl, B2'.same s4, B1'.same s4, e4 hE2', e4 hE1', pl2, pl1, ap2, ap1, by omega, by omega, fun _ c2 cd2 H5 s5 hc2 hcd2 Bc2 => ?_, fun i p hp _ hc => no_first no21 hp hc⟩
      have s35 := s4.trans s5
      refine ⟨_, rfl, a, dxa, _, rfl, s35 _ _ ha, rfl, fun y dy hy hdy ndy => ⟨y, dy, rfl, upd_same, fun d hd => ⟨rfl, ?_⟩⟩⟩
      have u1 := same_mk2 (C := A.Book) hy hdy
      have nyd : y ≠ d := ne_of_none upd_same hd
      have S6 : Same H5 (upd (upd (upd (upd H5 dy (.own y)) y (.ins A.Book dy [])) d (.dT [])) y (.ins A.Book dy [("entries", .ref d)])) := Same.at_new hy (u1.trans (Same.new hd))
      have By : BookAt A.Book (upd (upd (upd (upd H5 dy (.own y)) y (.ins A.Book dy [])) d (.dT [])) y (.ins A.Book dy [("entries", .ref d)])) y d [] := ⟨⟨dy, upd_same⟩, by rw [upd_ne nyd.symm, upd_same]; rfl⟩
      generalize upd (upd (upd (upd H5 dy (.own y)) y (.ins A.Book dy [])) d (.dT [])) y (.ins A.Book dy [("entries", .ref d)]) = H6 at *
      have s36 := s35.trans S6
      have e6 : ∀ {es}, EntsAt H3 es → EntsAt H6 es := fun h => h.keep fun b xs h => s36 _ _ h
      refine ⟨a, ad, y, d, es1, [], rfl, B1'.same s36, By, e6 hE1', fun v hv => (List.not_mem_nil hv).elim, pl1, fun v hv => (List.not_mem_nil hv).elim, ap1, hap_nil, by omega, by decide, fun _ c0 cd0 H7 s7 hc0 hcd0 Bc0 => ?_, fun i p hp _ hc => no_first no10 hp hc⟩
      rw [join_nil kn1] at Bc0
      have s37 := s36.trans s7
      have e7 : ∀ {es}, EntsAt H3 es → EntsAt H7 es := fun h => h.keep fun b xs h => s37 _ _ h
      obtain ⟨⟨dx0, h0⟩, _⟩ := id Bc0
      refine ⟨c0, dx0, _, rfl, h0, rfl, _, rfl, c0, cd0, b, bd, es1, es2, rfl, Bc0, B2'.same s37, e7 hE1', e7 hE2', pl1, pl2, ap1, ap2, by omega, by omega, fun _ c3 cd3 H8 s8 hc3 hcd3 Bc3 => ?_, fun i p hp _ hc => no_first no12 hp hc⟩
      have s38 := s37.trans s8
      refine ⟨(by show 3 ≤ sizeLine; decide), fun L hL => ?_⟩
      have s9 := Same.new (o := .lst [V.ref c1, .ref c2, .ref c3]) hL
      have hL9 := upd_same (H := H8) (a := L) (o := .lst [V.ref c1, .ref c2, .ref c3])
      generalize upd H8 L (.lst [V.ref c1, .ref c2, .ref c3]) = H9 at *
      have s39 := s38.trans s9
      have s49 := s5.trans (S6.trans (s7.trans (s8.trans s9)))
      have s59 := S6.trans (s7.trans (s8.trans s9))
      have C1 := Bc1.same s49
      have C2 := Bc2.same s59
      have C3 := Bc3.same s9
      have n1a : cd1 ≠ ad := (ne_of_none hda hcd1).symm
      have n1b : cd1 ≠ bd := (ne_of_none hdb hcd1).symm
      have n2a : cd2 ≠ ad := (ne_of_none (s4 _ _ hda) hcd2).symm
      have n2b : cd2 ≠ bd := (ne_of_none (s4 _ _ hdb) hcd2).symm
      have n3a : cd3 ≠ ad := (ne_of_none (s37 _ _ hda) hcd3).symm
      have n3b : cd3 ≠ bd := (ne_of_none (s37 _ _ hdb) hcd3).symm
      have n12 : cd1 ≠ cd2 := ne_of_none Bc1.2 hcd2
      have n13 : cd1 ≠ cd3 := ne_of_none (s7 _ _ (S6 _ _ (s5 _ _ Bc1.2))) hcd3
      have n23 : cd2 ≠ cd3 := ne_of_none (s7 _ _ (S6 _ _ Bc2.2)) hcd3
      have A1 : BookAt A.Book H9 a ad es1 := B1'.same s39
      have A2 : BookAt A.Book H9 b bd es2 := B2'.same s39
      have E1 : EntsAt H9 es1 := hE1'.keep fun b xs h => s39 _ _ h
      have E2 : EntsAt H9 es2 := hE2'.keep fun b xs h => s39 _ _ h
      have K1 := hK1'.same s39
      have K2 := hK2'.same s39
      have KD := hKd.same s39
      have hkp9 := s39 _ _ hkp'
      have hsp9 := s39 _ _ hsp'
      have hspA9 := hspA'.keep s39
      clear s59 s49 s39 s9 s38 s37 s36 s35 s4 s5 S6 s7 s8 hL Bc1 Bc2 Bc3 Bc0 h0 hE1' hE2' hK1' hK2' hKd hkp' hsp' hspA' B1' B2' ha hb hda hdb e4 e6 e7 u1 By hd hy hdy hcd0 hc0 hcd3 hc3 hcd2 hc2 hcd1 hc1 no10 no21 nyd ndy
      have hbk : ∀ z ∈ [(c1, cd1, joinE es1 es2), (c2, cd2, joinE es2 es1), (c3, cd3, joinE es1 es2)], BookAt A.Book H9 z.1 z.2.1 z.2.2 ∧ keyN z.2.2 ∧ Alks z.2.2 (bothE es1 es2) ∧ (∀ u ∈ z.2.2, u ∈ es1 ∨ u ∈ es2) ∧ z.2.2.length < 400 ∧ z.2.1 ≠ ad ∧ z.2.1 ≠ bd := by
        have j1 := join_len es1 es2
        have j2 := join_len es2 es1
        intro z hz
        simp only [List.mem_cons, List.not_mem_nil, or_false] at hz
        rcases hz with rfl | rfl | rfl
        · exact ⟨C1, keyN_join, join_alks nc kn1 kn2, fun u hu => join_mem hu, by show (joinE es1 es2).length < 400; omega, n1a, n1b⟩
        · exact ⟨C2, keyN_join, (join_alks nc.symm kn2 kn1).trans (both_swap nc kn1 kn2), fun u hu => (join_mem hu).symm, by show (joinE es2 es1).length < 400; omega, n2a, n2b⟩
        · exact ⟨C3, keyN_join, join_alks nc kn1 kn2, fun u hu => join_mem hu, by show (joinE es1 es2).length < 400; omega, n3a, n3b⟩
      have hdist : ∀ (i j : Nat) (z y : Addr × Addr × List En), i < j → [(c1, cd1, joinE es1 es2), (c2, cd2, joinE es2 es1), (c3, cd3, joinE es1 es2)][i]? = some z → [(c1, cd1, joinE es1 es2), (c2, cd2, joinE es2 es1), (c3, cd3, joinE es1 es2)][j]? = some y → z.2.1 ≠ y.2.1 := by
        intro i j z y hij hi hj
        have lj := (List.getElem?_eq_some_iff.mp hj).1
        have : j < 3 := lj
        have : (i = 0 ∧ j = 1) ∨ (i = 0 ∧ j = 2) ∨ (i = 1 ∧ j = 2) := by omega
        rcases this with ⟨rfl, rfl⟩ | ⟨rfl, rfl⟩ | ⟨rfl, rfl⟩ <;> cases hi <;> cases hj <;> assumption
      have hLb : H9 L = some (.lst ([(c1, cd1, joinE es1 es2), (c2, cd2, joinE es2 es1), (c3, cd3, joinE es1 es2)].map fun z => V.ref z.1)) := hL9
      generalize [(c1, cd1, joinE es1 es2), (c2, cd2, joinE es2 es1), (c3, cd3, joinE es1 es2)] = bks at *
      clear C1 C2 C3 n1a n1b n2a n2b n3a n3b n12 n13 n23 hL9
      have entIn : ∀ {X : List En} {H' : Hp}, (∀ u ∈ X, u ∈ es1 ∨ u ∈ es2) → ND H9 H' → EntsAt H' X := fun hX s u hu => (hX u hu).elim (fun h => s.ents E1 u h) fun h => s.ents E2 u h
      have okIn : ∀ {X : List En}, (∀ u ∈ X, u ∈ es1 ∨ u ∈ es2) → ∀ u ∈ X, EnOk u := fun hX u hu => (hX u hu).elim (fun h => ok1 u h) fun h => ok2 u h
      have bothIn : ∀ u ∈ srtE (bothE es1 es2), u ∈ es1 ∨ u ∈ es2 := fun u hu => by
        have := (srtE_perm _).mem_iff.mp hu
        unfold bothE at this
        rcases List.mem_append.mp this with h | h
        · exact .inl h
        · exact .inr (List.mem_filter.mp h).1
      have knB := keyN_both kn1 kn2
      have dlD : ∀ {H'}, ND H9 H' → DL K H' (.ref dq) (.list ((srtE (bothE es1 es2)).map itemD)) 3 := fun s => dl_keptE (s.kept KD) (entIn (fun u hu => bothIn u ((srtE_perm _).mem_iff.mpr hu)) s) (okIn fun u hu => bothIn u ((srtE_perm _).mem_iff.mpr hu)) euz
      have cat : ∀ {H'}, ND H9 H' → H' ad = some (.dT (kvE es1)) → H' bd = some (.dT (kvE es2)) → BookAt A.Book H' a ad es1 ∧ BookAt A.Book H' b bd es2 := fun s h1 h2 => ⟨s.book A1 h1, s.book A2 h2⟩
      refine ⟨L, rfl, ⟨_, SqL.of hLb⟩, for_list (xs := bks.map fun z => V.ref z.1) (fun i σ' H' => Wd (∃ o5 : Option V, σ' = [some (.ref a), some (.ref b), some (.ref kp), some (.ref sp), some (.ref dq), o5, none, none] ∧ ND H9 H' ∧ H' ad = some (.dT (kvE es1)) ∧ H' bd = some (.dT (kvE es2)) ∧ ∀ (j : Nat) (z : Addr × Addr × List En), i ≤ j → bks[j]? = some z → H' z.2.1 = some (.dT (kvE z.2.2)))) ⟨none, rfl, ND.of (Same.refl _), A1.2, A2.2, fun j z _ hz => (hbk z (List.mem_of_getElem? hz)).1.2⟩ ?_ ?_ ?_⟩
      · rintro i σ' H' _ ⟨o5, rfl, nd', _⟩
        exact SqL.of (nd' _ _ hLb (by intro _ z; cases z))
      · rintro i x σ' H' hx ⟨o5, rfl, nd', ha', hb', hz'⟩
        rw [List.getElem?_map] at hx
        obtain ⟨⟨c, cd, J⟩, hzi, rfl⟩ := Option.map_eq_some_iff.mp hx
        obtain ⟨BJ, kJ, alJ, inJ, zJ, nJa, nJb⟩ := hbk _ (List.mem_of_getElem? hzi)
        have hcd := hz' i _ (Nat.le_refl _) hzi
        have BJ' := nd'.book BJ hcd
        dsimp only at BJ kJ alJ inJ zJ nJa nJb hcd BJ'
        have alS := alk_srt kJ knB alJ
        dsimp only [gName, List.set, tSeq]
        refine tIf_of (p := False) (fun R ry rn => ?_) (fun _ _ z => z.elim) (fun H10 s10 _ => ?_)
        · refine ⟨_, rfl, _, rfl, _, rfl, c, cd, dq, sp, J, zs, bs, ps, rfl, BJ', entIn inJ nd', kJ, zJ, nd'.kept KD, ?_, ?_, nd' _ _ hsp9 (by intro _ z; cases z), hspA9.mono fun _ _ z => nd' _ _ z (by intro _ y; cases y), hspz, fun H10 s10 => ⟨_, rfl, iteF ?_⟩⟩
          · rw [euz]
            exact entIn bothIn nd'
          · rw [euz]
            exact ⟨alS.1.symm, fun i u v hu hv => (alS.2 i v u hv hu).symm⟩
          refine ⟨_, rfl, c, cd, J, rfl, BJ'.same s10, kJ, by omega, fun p us H11 s11 hp hKp eup => ?_⟩
          have ndB := nd'.trans ((ND.of s10).trans (ND.of s11))
          have d1 := dl_keptE (K := K) hKp (entIn inJ ndB) (okIn inJ) eup
          rw [items_alk alS] at d1
          exact ⟨_, rfl, ne_dl d1 (dlD ndB) (by decide) ⟨_, rfl, rn _ (s10.trans s11) id⟩⟩
        · have ndA := nd'.trans (ND.of s10)
          dsimp only [tNext, tSeq]
          refine set_late (i := 5) (c := c) (cd := cd) (es := J) rfl (BJ'.same s10) (by omega) (by decide) (by decide) fun v H11 s11 hv hv' => ?_
          have hcd11 := s11 _ _ (s10 _ _ hcd)
          have ndC := (ndA.trans (ND.of s11)).trans (ND.put (y := kvE (putE J ⟨1000000, 7, v, "late", "cost", .str "lot"⟩)) hcd11)
          have ha11 : upd H11 cd (.dT (kvE (putE J ⟨1000000, 7, v, "late", "cost", .str "lot"⟩))) ad = some (.dT (kvE es1)) := by rw [upd_ne nJa.symm]; exact s11 _ _ (s10 _ _ ha')
          have hb11 : upd H11 cd (.dT (kvE (putE J ⟨1000000, 7, v, "late", "cost", .str "lot"⟩))) bd = some (.dT (kvE es2)) := by rw [upd_ne nJb.symm]; exact s11 _ _ (s10 _ _ hb')
          have hz11 : ∀ (j : Nat) (z : Addr × Addr × List En), i + 1 ≤ j → bks[j]? = some z → upd H11 cd (.dT (kvE (putE J ⟨1000000, 7, v, "late", "cost", .str "lot"⟩))) z.2.1 = some (.dT (kvE z.2.2)) := fun j z hj hz => by
            rw [upd_ne (hdist i j _ z (by omega) hzi hz).symm]
            exact s11 _ _ (s10 _ _ (hz' j z (by omega) hz))
          generalize upd H11 cd (.dT (kvE (putE J ⟨1000000, 7, v, "late", "cost", .str "lot"⟩))) = H12 at *
          obtain ⟨A1', A2'⟩ := cat ndC ha11 hb11
          dsimp only
          refine tIf_of (p := False) (fun R ry rn => ?_) (fun _ _ z => z.elim) (fun H13 s13 _ => ?_)
          · refine ⟨_, rfl, a, ad, es1, rfl, A1', kn1, by omega, fun p us H13 s13 hp hKp eup => ⟨_, rfl, b, bd, es2, rfl, A2'.same s13, kn2, by omega, fun p2 us' H14 s14 hp2 hKp2 eup2 => ⟨(by show 2 ≤ sizeLine; decide), fun L2 hL2 => ?_⟩⟩⟩
            have s15 := Same.new (o := .lst [V.ref p, .ref p2]) hL2
            have hL15 := upd_same (H := H14) (a := L2) (o := .lst [V.ref p, .ref p2])
            generalize upd H14 L2 (.lst [V.ref p, .ref p2]) = H15 at *
            have sE := s13.trans (s14.trans s15)
            have ndE := ndC.trans (ND.of sE)
            exact ⟨_, rfl, ne_dl (dl_list2 hL15 (dl_keptE (hKp.same (s14.trans s15)) (ndE.ents E1) ok1 eup) (dl_keptE (hKp2.same s15) (ndE.ents E2) ok2 eup2)) (dl_list2 (ndE _ _ hkp9 (by intro _ z; cases z)) (dl_keptE (ndE.kept K1) (ndE.ents E1) ok1 eu1) (dl_keptE (ndE.kept K2) (ndE.ents E2) ok2 eu2)) (by decide) ⟨_, rfl, rn _ sE id⟩⟩
          · exact ⟨_, rfl, ndC.trans (ND.of s13), s13 _ _ ha11, s13 _ _ hb11, fun j z hj hz => s13 _ _ (hz11 j z hj hz)⟩
      · rintro σ' H' ⟨o5, rfl, nd', ha', hb', _⟩
        obtain ⟨A1', A2'⟩ := cat nd' ha' hb'
        clear hLb hbk hdist A1 A2
        have no11 := noclash_of kn1 pl1 (NoCl.self kn1)
        obtain ⟨⟨dxa, ha⟩, hda⟩ := id A1'
        have e1' := nd'.ents E1
        have e2' := nd'.ents E2
        dsimp only [tSeq]
        refine ⟨_, rfl, a, dxa, _, rfl, ha, rfl, _, rfl, a, ad, b, bd, es1, es2, rfl, A1', A2', e1', e2', pl1, pl2, ap1, ap2, by omega, by omega, fun _ c4 cd4 H4 s4 hc4 hcd4 B4 => ?_, fun i p hp _ hc => no_first no12 hp hc⟩
        refine ⟨_, rfl, a, dxa, _, rfl, s4 _ _ ha, rfl, _, rfl, a, ad, a, ad, es1, es1, rfl, A1'.same s4, A1'.same s4, (ND.of s4).ents e1', (ND.of s4).ents e1', pl1, pl1, ap1, ap1, by omega, by omega, fun _ c5 cd5 H5 s5 hc5 hcd5 B5 => ?_, fun i p hp _ hc => no_first no11 hp hc⟩
        have kn5 : keyN (joinE es1 es1) := keyN_join
        have al5 : Alks (joinE es1 es1) es1 := by
          have := join_alks (NoCl.self kn1) kn1 kn1
          rw [both_self] at this
          exact this
        have in5 : ∀ u ∈ joinE es1 es1, u ∈ es1 ∨ u ∈ es2 := fun u hu => (join_mem hu).elim .inl .inl
        have len5 : (joinE es1 es1).length < 400 := Nat.lt_of_le_of_lt (join_len es1 es1) (by omega)
        have kn4 : keyN (joinE es1 es2) := keyN_join
        have al4 := join_alks nc kn1 kn2
        have in4 : ∀ u ∈ joinE es1 es2, u ∈ es1 ∨ u ∈ es2 := fun u hu => join_mem hu
        have len4 : (joinE es1 es2).length < 400 := Nat.lt_of_le_of_lt (join_len es1 es2) (by omega)
        generalize joinE es1 es1 = J5 at *
        generalize joinE es1 es2 = J4 at *
        have B4' := B4.same s5
        have n4a : cd4 ≠ ad := (ne_of_none hda hcd4).symm
        have n4b : cd4 ≠ bd := (ne_of_none A2'.2 hcd4).symm
        have n5a : cd5 ≠ ad := (ne_of_none (s4 _ _ hda) hcd5).symm
        have n5b : cd5 ≠ bd := (ne_of_none (s4 _ _ A2'.2) hcd5).symm
        have n45 : cd4 ≠ cd5 := ne_of_none B4.2 hcd5
        have s45 := s4.trans s5
        have nd5 := nd'.trans (ND.of s45)
        have A15 := A1'.same s45
        have A25 := A2'.same s45
        clear s4 s5 s45 hc4 hcd4 hc5 hcd5 B4 nd' A1' A2' ha hda ha' hb' e1' e2' no11 no12
        dsimp only [gName, List.set]
        refine tIf_of (p := False) (fun R ry rn => ?_) (fun _ _ z => z.elim) (fun H6 s6 _ => ?_)
        · refine ⟨_, rfl, c5, cd5, J5, rfl, B5, kn5, by omega, fun p us H6 s6 hp hKp eup => ?_⟩
          have ndB := nd5.trans (ND.of s6)
          have d1 := dl_keptE (K := K) hKp (entIn in5 ndB) (okIn in5) eup
          rw [items_alk (alk_srt kn5 kn1 al5)] at d1
          exact ⟨_, rfl, kp, _, 0, _, rfl, rfl, SqL.of (ndB _ _ hkp9 (by intro _ z; cases z)), rfl, ne_dl d1 (dl_keptE (ndB.kept K1) (ndB.ents E1) ok1 eu1) (by decide) ⟨_, rfl, rn _ s6 id⟩⟩
        dsimp only [tNext]
        refine set_late (i := 6) (c := c5) (cd := cd5) (es := J5) rfl (B5.same s6) (by omega) (by decide) (by decide) fun v5 H7 s7 hv5 hv5' => ?_
        have s67 := s6.trans s7
        have nd8 := (nd5.trans (ND.of s67)).trans (ND.put (y := kvE (putE J5 ⟨1000000, 9, v5, "late", "cost", .str "lot"⟩)) (s67 _ _ B5.2))
        have ha8 : upd H7 cd5 (.dT (kvE (putE J5 ⟨1000000, 9, v5, "late", "cost", .str "lot"⟩))) ad = some (.dT (kvE es1)) := by rw [upd_ne n5a.symm]; exact s67 _ _ A15.2
        have hb8 : upd H7 cd5 (.dT (kvE (putE J5 ⟨1000000, 9, v5, "late", "cost", .str "lot"⟩))) bd = some (.dT (kvE es2)) := by rw [upd_ne n5b.symm]; exact s67 _ _ A25.2
        have h48 : upd H7 cd5 (.dT (kvE (putE J5 ⟨1000000, 9, v5, "late", "cost", .str "lot"⟩))) cd4 = some (.dT (kvE J4)) := by rw [upd_ne n45]; exact s67 _ _ B4'.2
        have nd58 := (ND.of s67).trans (ND.put (y := kvE (putE J5 ⟨1000000, 9, v5, "late", "cost", .str "lot"⟩)) (s67 _ _ B5.2))
        have A18 := nd58.book A15 ha8
        have A28 := nd58.book A25 hb8
        have B48 := nd58.book B4' h48
        generalize upd H7 cd5 (.dT (kvE (putE J5 ⟨1000000, 9, v5, "late", "cost", .str "lot"⟩))) = H8 at *
        clear nd58 s67 s7 s6 B5 B4' A15 A25 nd5 hv5 hv5' al5 in5 len5 kn5
        dsimp only
        refine set_late (i := 0) (c := a) (cd := ad) (es := es1) rfl A18 (by omega) (by decide) (by decide) fun v1 H10 s10 hv1 hv1' => ?_
        have ndX := (ND.of s10).trans (ND.put (y := kvE (putE es1 ⟨1000000, 8, v1, "late", "cost", .str "lot"⟩)) (s10 _ _ A18.2))
        have nd10 := nd8.trans ndX
        have pn : putE es1 ⟨1000000, 8, v1, "late", "cost", .str "lot"⟩ = es1 ++ [⟨1000000, 8, v1, "late", "cost", .str "lot"⟩] := put_new fun u hu e => by
          have := rg1 u hu
          have e1 := congrArg Prod.fst e
          simp only at e1
          omega
        have h411 : upd H10 ad (.dT (kvE (putE es1 ⟨1000000, 8, v1, "late", "cost", .str "lot"⟩))) cd4 = some (.dT (kvE J4)) := by rw [upd_ne n4a]; exact s10 _ _ h48
        have hb11 : upd H10 ad (.dT (kvE (putE es1 ⟨1000000, 8, v1, "late", "cost", .str "lot"⟩))) bd = some (.dT (kvE es2)) := by rw [upd_ne nd.symm]; exact s10 _ _ hb8
        have A111 : BookAt A.Book (upd H10 ad (.dT (kvE (putE es1 ⟨1000000, 8, v1, "late", "cost", .str "lot"⟩)))) a ad (es1 ++ [⟨1000000, 8, v1, "late", "cost", .str "lot"⟩]) := by
          obtain ⟨⟨dxa, ha⟩, _⟩ := A18
          exact ⟨⟨dxa, ndX _ _ ha (by intro _ z; cases z)⟩, by rw [upd_same, pn]⟩
        have A211 := ndX.book A28 hb11
        have B411 := ndX.book B48 h411
        generalize upd H10 ad (.dT (kvE (putE es1 ⟨1000000, 8, v1, "late", "cost", .str "lot"⟩))) = H11 at *
        clear pn ndX s10 hv1 hv1' A18 A28 B48 nd8 ha8 hb8 h48 n5a n5b n45
        have zne : zs ≠ [] := fun z => by
          rw [z, List.map_nil] at euz
          have := (srtE_perm (bothE es1 es2)).length_eq
          rw [← euz, List.length_nil] at this
          exact ne (List.eq_nil_of_length_eq_zero this.symm)
        obtain ⟨z0, zs', rfl⟩ := List.exists_cons_of_ne_nil zne
        obtain ⟨hz1, hz2⟩ := KD.2 z0 List.mem_cons_self
        obtain ⟨⟨dx4, h4⟩, _⟩ := id B411
        have alS := alk_srt kn4 knB al4
        rw [← euz, List.map_cons] at alS
        obtain ⟨j0, J4', ej⟩ : ∃ j0 J4', srtE J4 = j0 :: J4' := by
          cases e : srtE J4 with
          | nil => rw [e] at alS; exact absurd alS.1 (by simp)
          | cons j0 J => exact ⟨j0, J, rfl⟩
        have alS' := alS
        rw [ej] at alS'
        have a0 := alS'.2 0 _ _ rfl rfl
        have sd := srt_drop kn4 ej
        rw [a0.1, a0.2.1] at sd
        have tl : All2 Alk J4' (zs'.map fun w => w.2.2) := ⟨by have := alS'.1; simpa using this, fun i x y hx hy => alS'.2 (i + 1) x y hx hy⟩
        have j0m : j0 ∈ J4 := (srtE_perm J4).mem_iff.mp (by rw [ej]; exact List.mem_cons_self)
        have there : atE J4 z0.2.2.d z0.2.2.n = some j0 := by
          rw [← a0.1, ← a0.2.1]
          exact atE_self kn4 j0m
        have KD11 := nd10.kept KD
        have at0 : atI ((z0 :: zs').map fun u => V.ref u.1) 0 = some (.ref z0.1) := atI_nat (xs := (z0 :: zs').map fun u => V.ref u.1) (j := 0) rfl
        have q1 := nd10 _ _ hz1 (by intro _ z; cases z)
        have q2 := nd10 _ _ hz2 (by intro _ z; cases z)
        dsimp only
        refine ⟨_, rfl, c4, dx4, _, rfl, h4, rfl, _, rfl, dq, _, 0, _, rfl, rfl, SqL.of KD11.1, at0, z0.1, _, 0, _, rfl, rfl, SqT.of q1, rfl, z0.2.1, _, 0, _, rfl, rfl, SqT.of q2, rfl, _, rfl, dq, _, 0, _, rfl, rfl, SqL.of KD11.1, at0, z0.1, _, 0, _, rfl, rfl, SqT.of q1, rfl, z0.2.1, _, 1, _, rfl, rfl, SqT.of q2, rfl, c4, cd4, J4, z0.2.2.d, z0.2.2.n, rfl, B411, fun _ H12 s12 => ?_, fun en => by rw [there] at en; cases en⟩
        have ndY := (ND.of s12).trans (ND.put (y := kvE (dropE J4 z0.2.2.d z0.2.2.n)) (s12 _ _ B411.2))
        have nd12 := nd10.trans ndY
        have B412 : BookAt A.Book (upd H12 cd4 (.dT (kvE (dropE J4 z0.2.2.d z0.2.2.n)))) c4 cd4 (dropE J4 z0.2.2.d z0.2.2.n) := ⟨⟨dx4, ndY _ _ h4 (by intro _ z; cases z)⟩, upd_same⟩
        have A112 := ndY.book A111 (by rw [upd_ne n4a.symm]; exact s12 _ _ A111.2)
        have A212 := ndY.book A211 (by rw [upd_ne n4b.symm]; exact s12 _ _ A211.2)
        generalize upd H12 cd4 (.dT (kvE (dropE J4 z0.2.2.d z0.2.2.n))) = H13 at *
        clear ndY s12 A111 A211 B411 h4 nd10 q1 q2 KD11 hz1 hz2
        have knd : keyN (dropE J4 z0.2.2.d z0.2.2.n) := kn4.sublist ((List.filter_sublist (l := J4)).map _)
        have ind : ∀ u ∈ dropE J4 z0.2.2.d z0.2.2.n, u ∈ es1 ∨ u ∈ es2 := fun u hu => in4 u (List.mem_filter.mp hu).1
        have lend : (dropE J4 z0.2.2.d z0.2.2.n).length < 400 := Nat.lt_of_le_of_lt (List.length_filter_le _ _) len4
        dsimp only
        refine ⟨_, rfl, c4, cd4, _, rfl, B412, knd, by omega, fun p us H14 s14 hp hKp eup => ⟨_, rfl, 1, rfl, dq, _, rfl, SqL.of ((nd12.trans (ND.of s14)).kept KD).1, fun L2 hL2 => ?_⟩⟩
        have s15 := Same.new (o := .lst (cutV ((z0 :: zs').map fun u => V.ref u.1) (some 1) none)) hL2
        have hL15 := upd_same (H := H14) (a := L2) (o := .lst (cutV ((z0 :: zs').map fun u => V.ref u.1) (some 1) none))
        have ec : cutV ((z0 :: zs').map fun u => V.ref u.1) (some 1) none = zs'.map fun u => V.ref u.1 := cutV_drop (k := 1) (by simp)
        rw [ec] at s15 hL15 ⊢
        generalize upd H14 L2 (.lst (zs'.map fun u => V.ref u.1)) = H15 at *
        have nd15 := nd12.trans (ND.of (s14.trans s15))
        have K15 : KeptAt H15 L2 zs' := ⟨hL15, fun u hu => (nd15.kept KD).2 u (List.mem_cons_of_mem _ hu)⟩
        have inz : ∀ u ∈ zs'.map fun w => w.2.2, u ∈ es1 ∨ u ∈ es2 := fun u hu => bothIn u (by rw [← euz]; exact List.mem_cons_of_mem _ hu)
        have d1 := dl_keptE (K := K) (hKp.same s15) (entIn ind nd15) (okIn ind) eup
        have d2 := dl_kept (K := K) K15 (entIn inz nd15) fun u hu => (okIn inz _ (List.mem_map.mpr ⟨u, hu, rfl⟩)).2.1
        rw [sd, items_alk tl] at d1
        refine eq_dl d1 d2 (by decide) ⟨_, rfl, iteT ?_⟩
        refine ⟨_, rfl, b, bd, es2, rfl, A212.same (s14.trans s15), kn2, by omega, fun p2 us' H16 s16 hp2 hKp2 eup2 => ?_⟩
        have nd16 := nd15.trans (ND.of s16)
        refine ⟨_, rfl, kp, _, 1, _, rfl, rfl, SqL.of (nd16 _ _ hkp9 (by intro _ z; cases z)), rfl, eq_dl (dl_keptE hKp2 (nd16.ents E2) ok2 eup2) (dl_keptE (nd16.kept K2) (nd16.ents E2) ok2 eu2) (by decide) ⟨_, rfl, iteT ?_⟩⟩
        have A116 := A112.same ((s14.trans s15).trans s16)
        obtain ⟨⟨dxa, ha⟩, _⟩ := id A116
        refine ⟨_, rfl, a, dxa, _, rfl, ha, ⟨a, ad, _, rfl, A116, ((es1 ++ [⟨1000000, 8, v1, "late", "cost", .str "lot"⟩] : List En).length : Nat), rfl, by omega, by rw [List.length_append]; show ((es1.length + 1 : Nat) : Int) < _; omega, ?_⟩⟩
        refine ⟨_, rfl, kp, _, 0, _, rfl, rfl, SqL.of (nd16 _ _ hkp9 (by intro _ z; cases z)), rfl, k1, _, rfl, .inl (SqL.of (nd16.kept K1).1), _, _, rfl, rfl, rfl, ?_⟩
        have el : V.int ((es1 ++ [⟨1000000, 8, v1, "late", "cost", .str "lot"⟩] : List En).length : Nat) = (fun i j => V.int (i + j)) ((us1.map fun u => V.ref u.1).length : Nat) 1 := by
          rw [List.length_append, List.length_map, l1]
          rfl
        show Q (V.bl (decide _)) H16
        rw [decide_eq_true el]
        exact k _
end

/-! ### min of a list of pairs -/
section
open PySem.Spec PyProof.Rows PySem.W
theorem dataLt_pairD {x y : Int × Int} : dataLt (pairD x) (pairD y) = decide (x.1 < y.1 ∨ (x.1 = y.1 ∧ x.2 < y.2)) := dataLt_ii _ _ _ _
theorem minD_pairs : ∀ (ns : List (Int × Int)) (n : Int × Int), ∃ m, minD (pairD n) (ns.map pairD) = pairD m ∧ m ∈ n :: ns ∧ ∀ y ∈ n :: ns, leK m y = true
  | [], n => ⟨n, rfl, List.mem_cons_self, fun y hy => by
      rw [List.mem_singleton] at hy
      subst hy
      rw [leK_iff]
      omega⟩
  | x :: ns, n => by
    by_cases h : x.1 < n.1 ∨ (x.1 = n.1 ∧ x.2 < n.2)
    · obtain ⟨m, e, hm, hl⟩ := minD_pairs ns x
      refine ⟨m, ?_, List.mem_cons_of_mem _ hm, fun y hy => ?_⟩
      · rw [← e]
        show (ns.map pairD).foldl _ (if dataLt (pairD x) (pairD n) = true then pairD x else pairD n) = _
        rw [dataLt_pairD, decide_eq_true h, if_pos rfl]
        rfl
      · rcases List.mem_cons.mp hy with rfl | hy
        · have h1 := hl x List.mem_cons_self
          rw [leK_iff] at h1 ⊢
          omega
        · exact hl y hy
    · obtain ⟨m, e, hm, hl⟩ := minD_pairs ns n
      refine ⟨m, ?_, ?_, fun y hy => ?_⟩
      · rw [← e]
        show (ns.map pairD).foldl _ (if dataLt (pairD x) (pairD n) = true then pairD x else pairD n) = _
        rw [dataLt_pairD, decide_eq_false h, if_neg (by decide)]
        rfl
      · rcases List.mem_cons.mp hm with rfl | hm
        · exact List.mem_cons_self
        · exact List.mem_cons_of_mem _ (List.mem_cons_of_mem _ hm)
      · rcases List.mem_cons.mp hy with rfl | hy
        · exact hl _ List.mem_cons_self
        · rcases List.mem_cons.mp hy with rfl | hy
          · have h1 := hl n List.mem_cons_self
            rw [leK_iff] at h1 ⊢
            omega
          · exact hl y (List.mem_cons_of_mem _ hy)
theorem pairD_inj {p q : Int × Int} (h : pairD p = pairD q) : p = q := by
  unfold pairD at h
  injection h with h
  injection h with h1 h2
  injection h2 with h2 _
  injection h1 with h1
  injection h2 with h2
  exact Prod.ext h1 h2
variable {X : Cx}
def rMinP (K : PySem.W.Frag) : List V → Hp → VK → Prop := fun vs H Q => Wd (∃ (a : Addr) (bs : List Addr) (n : Int × Int) (ns : List (Int × Int)), vs = [V.ref a] ∧ SqL K H a (bs.map V.ref) ∧ All2 (fun b (q : Int × Int) => H b = some (.tup [.int q.1, .int q.2])) bs (n :: ns) ∧
  ∀ (c : Addr) (m : Int × Int), m ∈ n :: ns → (∀ y ∈ n :: ns, leK m y = true) → H c = some (.tup [.int m.1, .int m.2]) → Q (.ref c) H)
theorem cr_minP (hc : X.calm = true) (hu : X.A.units + 64 < cLine) : CallR X (.builtin "min") (rMinP X.K) := by
  intro pins s σ H vs us Q I r h
  obtain ⟨a, bs, n, ns, rfl, hs, h2, q⟩ := h.ok
  obtain ⟨its, rv, hl, _⟩ := I.list hs
  rw [Vals.ref1 r]
  have hd : DpAll X.K H (bs.map V.ref) ((n :: ns).map pairD) := dpAll_pairs h2
  obtain ⟨as, ra⟩ := Dp.readsAll I _ _ _ hd rv
  obtain ⟨m, e, hm, hl2⟩ := minD_pairs ns n
  have dep : PyData.depthAll ((n :: ns).map pairD) ≤ 2 := depthAll_le fun x hx => by
    obtain ⟨y, _, rfl⟩ := List.mem_map.mp hx
    exact Nat.le_of_ble_eq_true rfl
  refine min_list_data (I.ok.hd hc) hl.isList (by simpa using ra) ⟨fun x hx y hy => ?_, fun x hx => ?_⟩ (Nat.lt_of_le_of_lt (Nat.add_le_add_left dep _) (by omega)) fun i v h' tk cs hv rd k => ?_
  · have hx' : x ∈ (n :: ns).map pairD := hx
    have hy' : y ∈ (n :: ns).map pairD := hy
    obtain ⟨x', _, rfl⟩ := List.mem_map.mp hx'
    obtain ⟨y', _, rfl⟩ := List.mem_map.mp hy'
    rfl
  · have hx' : x ∈ (n :: ns).map pairD := hx
    obtain ⟨x', _, rfl⟩ := List.mem_map.mp hx'
    exact fun z => nomatch z
  · rw [e] at rd
    have hv' : its[i]? = some v := by simpa using hv
    have li : i < (bs.map V.ref).length := by rw [rv.length]; exact (List.getElem?_eq_some_iff.mp hv').1
    rw [List.length_map] at li
    obtain ⟨c, hc'⟩ : ∃ c, bs[i]? = some c := ⟨_, List.getElem?_eq_getElem li⟩
    obtain ⟨p, hp, hcp⟩ := h2.get hc'
    have ev : v = .ref c := by
      have hb : (bs.map V.ref)[i]? = some (.ref c) := by rw [List.getElem?_map, hc']; rfl
      obtain ⟨u, hu', ru⟩ := rv.get hb
      rw [hv'] at hu'
      cases hu'
      exact ru
    subst ev
    have dc : Dp X.K H (.ref c) (pairD p) := .tup (SqT.of hcp) (.cons (.int _) (.cons (.int _) .nil))
    obtain ⟨ds, r1⟩ := Dp.reads I (pairD p) (.ref c) (.ref c) dc rfl
    have r2 := reads_keeps k r1
    have epm : pairD p = pairD m := SeqAt.plain_unique _ _ _ _ _ rfl r2 rd
    have epm2 := pairD_inj epm
    subst epm2
    exact ⟨.ref c, H, I.kept (t' := tk) k, rfl, q c p hm hl2 hcp⟩
end

theorem perm_lift {α β : Type} {f : α → β} {l1 l2 : List β} (h : l1.Perm l2) : ∀ zs : List α, zs.map f = l2 → ∃ ws : List α, ws.Perm zs ∧ ws.map f = l1 := by
  induction h with
  | nil => exact fun zs e => ⟨[], by rw [List.map_eq_nil_iff.mp e], rfl⟩
  | cons x _ ih =>
    intro zs e
    cases zs with
    | nil => cases e
    | cons z zs =>
      rw [List.map_cons, List.cons.injEq] at e
      obtain ⟨ws, p, e2⟩ := ih zs e.2
      exact ⟨z :: ws, p.cons z, by rw [List.map_cons, e.1, e2]⟩
  | swap x y l =>
    intro zs e
    match zs, e with
    | [], e => cases e
    | [a], e => cases e
    | a :: b :: zs, e =>
      rw [List.map_cons, List.map_cons, List.cons.injEq, List.cons.injEq] at e
      exact ⟨b :: a :: zs, List.Perm.swap a b zs, by rw [List.map_cons, List.map_cons, e.1, e.2.1, e.2.2]⟩
  | trans _ _ ih1 ih2 =>
    intro zs e
    obtain ⟨ws, p, e2⟩ := ih2 zs e
    obtain ⟨us, p2, e3⟩ := ih1 ws e2
    exact ⟨us, p2.trans p, e3⟩

theorem perm_all2 {α : Type} {R : Addr → α → Prop} {ys : List V} {ts : List Addr} {qs : List α} (h : All2 R ts qs) (hp : ys.Perm (ts.map V.ref)) :
    ∃ (us : List Addr) (ps : List α), ys = us.map V.ref ∧ ps.Perm qs ∧ All2 R us ps := by
  obtain ⟨ws, p, e⟩ := perm_lift (f := fun z : Addr × α => V.ref z.1) hp (ts.zip qs) (by
    have e : (ts.zip qs).map (fun z => V.ref z.1) = ((ts.zip qs).map Prod.fst).map V.ref := by rw [List.map_map]; rfl
    rw [e, List.map_fst_zip (Nat.le_of_eq h.1)])
  refine ⟨ws.map Prod.fst, ws.map Prod.snd, by rw [List.map_map]; exact e.symm, ?_, by rw [List.length_map, List.length_map], fun i t q ht hq => ?_⟩
  · have := p.map Prod.snd
    rw [List.map_snd_zip (Nat.le_of_eq h.1.symm)] at this
    exact this
  · rw [List.getElem?_map] at ht hq
    obtain ⟨z, hz, rfl⟩ := Option.map_eq_some_iff.mp ht
    obtain ⟨z2, hz2, rfl⟩ := Option.map_eq_some_iff.mp hq
    rw [hz] at hz2
    cases hz2
    obtain ⟨j, hj⟩ := List.mem_iff_getElem?.mp (p.mem_iff.mp (List.mem_of_getElem? hz))
    obtain ⟨a, b⟩ := List.getElem?_zip_eq_some.mp hj
    exact h.2 j _ _ a b

/-! ### the law -/
theorem xOk {u : En} (h : EnOk u) : (∃ i, u.x = .int i) ∨ ∃ z, u.x = .str z := by
  have e := h.1
  unfold entOk at e
  rw [Bool.and_eq_true] at e
  have e := e.2
  cases hx : u.x with
  | int i => exact .inl ⟨i, rfl⟩
  | str z => exact .inr ⟨z, rfl⟩
  | _ => rw [hx] at e; split at e <;> first | cases e | (split at e <;> cases e)
theorem eqv_ent {u v : En} (hu : EnOk u) (hv : EnOk v) : PyData.eqv (entD u) (entD v) = decide (u.kd = v.kd ∧ u.nm = v.nm ∧ u.x = v.x) := by
  have e : PyData.eqv (entD u) (entD v) = ((u.kd == v.kd) && ((u.nm == v.nm) && (PyData.eqv (pdV u.x) (pdV v.x) && true))) := by
    unfold entD
    simp only [PyData.eqv, PyData.eqvAll]
  have ex : PyData.eqv (pdV u.x) (pdV v.x) = decide (u.x = v.x) := by
    rcases xOk hu with ⟨i, hi⟩ | ⟨i, hi⟩ <;> rcases xOk hv with ⟨j, hj⟩ | ⟨j, hj⟩ <;> rw [hi, hj]
    · show PyData.eqv (.int i) (.int j) = _
      rw [Bool.eq_iff_iff, decide_eq_true_iff]
      simp [PyData.eqv]
    · show PyData.eqv (.int i) (.str j) = _
      rw [decide_eq_false (by intro z; cases z)]
      simp [PyData.eqv]
    · show PyData.eqv (.str i) (.int j) = _
      rw [decide_eq_false (by intro z; cases z)]
      simp [PyData.eqv]
    · show PyData.eqv (.str i) (.str j) = _
      rw [Bool.eq_iff_iff, decide_eq_true_iff]
      simp [PyData.eqv]
  rw [e, ex, Bool.and_true, Bool.eq_iff_iff, Bool.and_eq_true, Bool.and_eq_true, beq_iff_eq, beq_iff_eq, decide_eq_true_iff, decide_eq_true_iff]
theorem eqv_entC {u v : En} (hu : EnOk u) (hv : EnOk v) : PyData.eqv (entD u) (entD v) = PyData.eqv (entD v) (entD u) := by
  rw [eqv_ent hu hv, eqv_ent hv hu, Bool.eq_iff_iff, decide_eq_true_iff, decide_eq_true_iff]
  exact ⟨fun h => ⟨h.1.symm, h.2.1.symm, h.2.2.symm⟩, fun h => ⟨h.1.symm, h.2.1.symm, h.2.2.symm⟩⟩
theorem clashC {es1 es2 : List En} (o1 : ∀ u ∈ es1, EnOk u) (o2 : ∀ u ∈ es2, EnOk u) (p : Int × Int) : clashB es1 es2 p = clashB es2 es1 p := by
  unfold clashB
  cases h1 : atE es1 p.1 p.2 with
  | none =>
    cases h2 : atE es2 p.1 p.2 with
    | none => rfl
    | some v => rfl
  | some u =>
    cases h2 : atE es2 p.1 p.2 with
    | none => rfl
    | some v =>
      show (!PyData.eqv (entD v) (entD u)) = !PyData.eqv (entD u) (entD v)
      rw [eqv_entC (o2 v (atE_some h2).1) (o1 u (atE_some h1).1)]
theorem nocl_of {es1 es2 : List En} (k1 : keyN es1) (k2 : keyN es2) (o1 : ∀ u ∈ es1, EnOk u) (o2 : ∀ u ∈ es2, EnOk u) (h : ∀ p, clashB es1 es2 p = false) : NoCl es1 es2 := fun u hu v hv e => by
  have := h (u.d, u.n)
  unfold clashB at this
  rw [atE_self k1 hu, show atE es2 u.d u.n = some v from by
    have e1 := congrArg Prod.fst e
    have e2 := congrArg Prod.snd e
    simp only at e1 e2
    rw [e1, e2]
    exact atE_self k2 hv] at this
  have e2 : PyData.eqv (entD v) (entD u) = true := by simpa using this
  rw [eqv_ent (o2 v hv) (o1 u hu), decide_eq_true_iff] at e2
  have e1 := congrArg Prod.fst e
  have e3 := congrArg Prod.snd e
  exact ⟨e1, e3, e2.1.symm, e2.2.1.symm, e2.2.2.symm⟩
theorem clash_key {es1 es2 : List En} {p : Int × Int} (h : clashB es1 es2 p = true) : p ∈ srtK es1 ∧ p ∈ srtK es2 := by
  unfold clashB at h
  cases h1 : atE es1 p.1 p.2 with
  | none => rw [h1] at h; cases h
  | some u =>
    cases h2 : atE es2 p.1 p.2 with
    | none => rw [h1, h2] at h; cases h
    | some v =>
      obtain ⟨m1, a1, a2⟩ := atE_some h1
      obtain ⟨m2, b1, b2⟩ := atE_some h2
      exact ⟨mem_srtK.mpr ⟨u, m1, by rw [a1, a2]⟩, mem_srtK.mpr ⟨v, m2, by rw [b1, b2]⟩⟩
theorem near_of {es : List En} (h : ∀ u ∈ es, 0 ≤ u.d ∧ 0 ≤ u.n ∧ u.d ≤ 1000 ∧ u.n ≤ 1000) : Near es :=
  ⟨fun u hu => ⟨(h u hu).1, by have := h u hu; omega⟩, fun u hu => ⟨(h u hu).2.1, by have := h u hu; omega⟩, fun u hu v hv => by have := h u hu; have := h v hv; omega⟩
theorem keys_put_eq {es : List En} {t : En} (h : (t.d, t.n) ∈ keysE es) (p : Int × Int) : p ∈ keysE (putE es t) ↔ p ∈ keysE es := by
  constructor
  · intro hp
    obtain ⟨u, hu, rfl⟩ := List.mem_map.mp hp
    rcases mem_putE hu with rfl | hu
    · exact h
    · exact mem_keys hu
  · exact fun hp => keys_putE (.inl hp)
theorem atE_put {es : List En} (kn : keyN es) (t : En) (d n : Int) : atE (putE es t) d n = if (d, n) = (t.d, t.n) then some t else atE es d n := by
  have k2 := keyN_put (t := t) kn
  by_cases c : (d, n) = (t.d, t.n)
  · rw [if_pos c]
    have e1 := congrArg Prod.fst c
    have e2 := congrArg Prod.snd c
    simp only at e1 e2
    rw [e1, e2]
    refine atE_self k2 ?_
    have : (t.d, t.n) ∈ keysE (putE es t) := keys_putE (.inr rfl)
    obtain ⟨u, hu, eu⟩ := List.mem_map.mp this
    rcases mem_putE hu with rfl | hm
    · exact hu
    · unfold putE at hu ⊢
      have hs : (atE es t.d t.n).isSome = true := by
        rw [isSome_atE, decide_eq_true_iff, ← eu]
        exact mem_keys hm
      rw [if_pos hs]
      refine List.mem_map.mpr ⟨u, hm, ?_⟩
      rw [if_pos (isE_iff.mpr ⟨congrArg Prod.fst eu, congrArg Prod.snd eu⟩)]
  · rw [if_neg c]
    have key : ∀ u : En, u.d = d → u.n = n → (u ∈ putE es t ↔ u ∈ es) := fun u e1 e2 => by
      have nk : isE t.d t.n u = false := by
        cases e : isE t.d t.n u with
        | false => rfl
        | true =>
          obtain ⟨a, b⟩ := isE_iff.mp e
          exact (c (by rw [← e1, ← e2, a, b])).elim
      have nt : u ≠ t := fun z => c (by rw [← e1, ← e2, z])
      unfold putE
      split
      · constructor
        · intro h
          obtain ⟨w, hw, e⟩ := List.mem_map.mp h
          by_cases q : isE t.d t.n w = true
          · rw [if_pos q] at e
            exact (nt e.symm).elim
          · rw [if_neg q] at e
            exact e ▸ hw
        · intro h
          exact List.mem_map.mpr ⟨u, h, by rw [nk]; rfl⟩
      · constructor
        · intro h
          rcases List.mem_append.mp h with h | h
          · exact h
          · exact (nt (List.mem_singleton.mp h)).elim
        · exact List.mem_append_left _
    cases h1 : atE (putE es t) d n with
    | none =>
      cases h2 : atE es d n with
      | none => rfl
      | some u =>
        obtain ⟨m, e1, e2⟩ := atE_some h2
        have := atE_self k2 ((key u e1 e2).mpr m)
        rw [e1, e2, h1] at this
        cases this
    | some u =>
      obtain ⟨m, e1, e2⟩ := atE_some h1
      have := atE_self kn ((key u e1 e2).mp m)
      rw [e1, e2] at this
      exact this.symm

/-- all but what stands in L stays -/
def KX (L : List Addr) (H H' : Hp) : Prop := ∀ c o, H c = some o → c ∉ L → H' c = some o
theorem KX.refl {L : List Addr} {H : Hp} : KX L H H := fun _ _ e _ => e
theorem KX.trans {L : List Addr} {H H1 H2 : Hp} (a : KX L H H1) (b : KX L H1 H2) : KX L H H2 := fun c o e n => b c o (a c o e n) n
theorem KX.same {L : List Addr} {H H' : Hp} (s : Same H H') : KX L H H' := fun c o e _ => s c o e
theorem KX.kp {L : List Addr} {g : Addr} {H H' : Hp} (hg : g ∈ L) (k : Kp g H H') : KX L H H' := fun c o e n => k c o e fun z => n (z ▸ hg)
theorem KX.put {L : List Addr} {d : Addr} {H : Hp} {o : HO} (hd : d ∈ L) : KX L H (upd H d o) := fun c o' e n => by
  rw [upd_ne fun z => n (by rw [z]; exact hd)]
  exact e
/-! ### the clashes made -/
structure Cl33 (g l bd cl : Addr) (L : List Addr) (H0 H : Hp) (e0 e1 eo : List En) (cs : List Addr) (ps : List (Int × Int)) (i : Nat) : Prop where
  bag : Bag H g l
  kx : KX L H0 H
  hbd : H bd = some (.dT (kvE eo))
  ent : EntsAt H eo
  ok : ∀ u ∈ eo, EnOk u
  kn : keyN eo
  rg : ∀ u ∈ eo, 0 ≤ u.d ∧ 0 ≤ u.n ∧ u.d ≤ 1000 ∧ u.n ≤ 1000
  len : eo.length = e1.length
  keys : ∀ p, p ∈ keysE eo ↔ p ∈ keysE e1
  hcl : H cl = some (.lst (cs.map V.ref))
  prs : All2 (fun b (q : Int × Int) => H b = some (.tup [.int q.1, .int q.2])) cs ps
  lps : ps.length ≤ i
  sp : ∀ p, p ∈ ps ↔ (p ∈ keysE (e0.take i) ∧ clashB e0 eo p = true)
  un : ∀ p, p ∉ keysE (e0.take i) → atE eo p.1 p.2 = atE e1 p.1 p.2
theorem Cl33.move {g l bd cl : Addr} {L : List Addr} {H0 H H' : Hp} {e0 e1 eo : List En} {cs : List Addr} {ps : List (Int × Int)} {i : Nat} (h : Cl33 g l bd cl L H0 H e0 e1 eo cs ps i) (hg : g ∈ L) (nb : bd ≠ g) (nc : cl ≠ g) (b : Bag H' g l) (k : Kp g H H') : Cl33 g l bd cl L H0 H' e0 e1 eo cs ps i := by
  obtain ⟨xs, hgl⟩ := h.bag.lst
  exact ⟨b, h.kx.trans (KX.kp hg k), k _ _ h.hbd nb, fun t ht => k _ _ (h.ent t ht) (ne_of (h.ent t ht) hgl (by intro z; cases z)), h.ok, h.kn, h.rg, h.len, h.keys, k _ _ h.hcl nc, h.prs.mono fun _ _ z => k _ _ z (ne_of z hgl (by intro y; cases y)), h.lps, h.sp, h.un⟩
theorem Cl33.same {g l bd cl : Addr} {L : List Addr} {H0 H H' : Hp} {e0 e1 eo : List En} {cs : List Addr} {ps : List (Int × Int)} {i : Nat} (h : Cl33 g l bd cl L H0 H e0 e1 eo cs ps i) (hg : g ∈ L) (nb : bd ≠ g) (nc : cl ≠ g) (s : Same H H') : Cl33 g l bd cl L H0 H' e0 e1 eo cs ps i := h.move hg nb nc (h.bag.keep s) (Kp.same s)
theorem keys_take {e0 : List En} {i : Nat} {u : En} (hu : e0[i]? = some u) (p : Int × Int) : p ∈ keysE (e0.take (i + 1)) ↔ p ∈ keysE (e0.take i) ∨ p = (u.d, u.n) := by
  rw [take_more hu]
  unfold keysE
  rw [List.map_append, List.mem_append]
  exact ⟨fun h => h.elim .inl fun h => .inr (List.mem_singleton.mp h), fun h => h.elim .inl fun h => .inr (List.mem_singleton.mpr h)⟩
theorem key_fresh {e0 : List En} (kn : keyN e0) {i : Nat} {u : En} (hu : e0[i]? = some u) : (u.d, u.n) ∉ keysE (e0.take i) := fun h => by
  obtain ⟨v, hv, e⟩ := List.mem_map.mp h
  obtain ⟨j, hj⟩ := List.mem_iff_getElem?.mp hv
  have hji : j < i := by
    have := (List.getElem?_eq_some_iff.mp hj).1
    rw [List.length_take] at this
    omega
  rw [List.getElem?_take, if_pos hji] at hj
  have h1 : (keysE e0)[i]? = some (u.d, u.n) := by unfold keysE; rw [List.getElem?_map, hu]; rfl
  have h2 : (keysE e0)[j]? = some (u.d, u.n) := by unfold keysE; rw [List.getElem?_map, hj]; exact congrArg some e
  have := (List.getElem?_inj (List.getElem?_eq_some_iff.mp h1).1 kn).mp (h1.trans h2.symm)
  omega
theorem clash_at {e0 eo eo' : List En} {p : Int × Int} (h : atE eo' p.1 p.2 = atE eo p.1 p.2) : clashB e0 eo' p = clashB e0 eo p := by
  unfold clashB
  rw [h]
theorem cl_step {e0 e1 eo eo' : List En} {ps ps' : List (Int × Int)} {i : Nat} {u : En} (kn0 : keyN e0) (hu : e0[i]? = some u) (sp : ∀ p, p ∈ ps ↔ (p ∈ keysE (e0.take i) ∧ clashB e0 eo p = true)) (un : ∀ p, p ∉ keysE (e0.take i) → atE eo p.1 p.2 = atE e1 p.1 p.2)
    (at' : ∀ p : Int × Int, p ≠ (u.d, u.n) → atE eo' p.1 p.2 = atE eo p.1 p.2) (mem' : ∀ p, p ≠ (u.d, u.n) → (p ∈ ps' ↔ p ∈ ps)) (self : (u.d, u.n) ∈ ps' ↔ clashB e0 eo' (u.d, u.n) = true) :
    (∀ p, p ∈ ps' ↔ (p ∈ keysE (e0.take (i + 1)) ∧ clashB e0 eo' p = true)) ∧ ∀ p, p ∉ keysE (e0.take (i + 1)) → atE eo' p.1 p.2 = atE e1 p.1 p.2 := by
  refine ⟨fun p => ?_, fun p hp => ?_⟩
  · rw [keys_take hu]
    by_cases c : p = (u.d, u.n)
    · rw [c, self]
      exact ⟨fun h => ⟨.inr rfl, h⟩, fun h => h.2⟩
    · rw [mem' p c, sp p, clash_at (at' p c)]
      exact ⟨fun h => ⟨.inl h.1, h.2⟩, fun h => ⟨h.1.elim id fun z => (c z).elim, h.2⟩⟩
  · rw [keys_take hu] at hp
    have c : p ≠ (u.d, u.n) := fun z => hp (.inr z)
    rw [at' p c, un p fun z => hp (.inl z)]
theorem len_put_at {es : List En} {t : En} (h : (t.d, t.n) ∈ keysE es) : (putE es t).length = es.length := by
  unfold putE
  have : (atE es t.d t.n).isSome = true := by rw [isSome_atE]; exact decide_eq_true h
  rw [if_pos this, List.length_map]
/-- both sides from one list: no clash at first -/
theorem clash_none {es e0 e1 : List En} (kn : keyN es) (m0 : ∀ u ∈ e0, u ∈ es) (m1 : ∀ u ∈ e1, u ∈ es) (ok : ∀ u ∈ es, EnOk u) (p : Int × Int) : clashB e0 e1 p = false := by
  unfold clashB
  cases h1 : atE e0 p.1 p.2 with
  | none => rfl
  | some u =>
    cases h2 : atE e1 p.1 p.2 with
    | none => rfl
    | some v =>
      obtain ⟨a1, b1, c1⟩ := atE_some h1
      obtain ⟨a2, b2, c2⟩ := atE_some h2
      have : u = v := en_inj kn (m0 u a1) (m1 v a2) (by rw [b1, c1, b2, c2])
      subst this
      show (!PyData.eqv (entD u) (entD u)) = false
      rw [eqv_ent (ok u (m0 u a1)) (ok u (m0 u a1)), decide_eq_true ⟨rfl, rfl, rfl⟩]
      rfl
theorem Cl33.stay {g l bd cl : Addr} {L : List Addr} {H0 H : Hp} {es e0 e1 eo : List En} {cs : List Addr} {ps : List (Int × Int)} {i : Nat} {u : En} (h : Cl33 g l bd cl L H0 H e0 e1 eo cs ps i) (kn : keyN es) (m0 : ∀ u ∈ e0, u ∈ es) (m1 : ∀ u ∈ e1, u ∈ es) (ok : ∀ u ∈ es, EnOk u) (kn0 : keyN e0) (hu : e0[i]? = some u) : Cl33 g l bd cl L H0 H e0 e1 eo cs ps (i + 1) := by
  have fr := key_fresh kn0 hu
  obtain ⟨a, b⟩ := cl_step (eo' := eo) (ps' := ps) kn0 hu h.sp h.un (fun _ _ => rfl) (fun _ _ => Iff.rfl) ⟨fun z => (fr ((h.sp _).mp z).1).elim, fun z => by
    rw [clash_at (h.un _ fr), clash_none kn m0 m1 ok] at z
    cases z⟩
  exact ⟨h.bag, h.kx, h.hbd, h.ent, h.ok, h.kn, h.rg, h.len, h.keys, h.hcl, h.prs, Nat.le_succ_of_le h.lps, a, b⟩
/-- an entry put, at a key that both have -/
theorem Cl33.putv {g l bd cl : Addr} {L : List Addr} {H0 H : Hp} {e0 e1 eo : List En} {cs : List Addr} {ps : List (Int × Int)} {i : Nat} {u v : En} (h : Cl33 g l bd cl L H0 H e0 e1 eo cs ps i) (kn0 : keyN e0) (hu : e0[i]? = some u) (hb : bd ∈ L) (nbg : bd ≠ g ∧ bd ≠ l) (nlb : cl ≠ bd) (hd : v.d = u.d) (hn : v.n = u.n) (okv : EnOk v) (rgu : 0 ≤ u.d ∧ 0 ≤ u.n ∧ u.d ≤ 1000 ∧ u.n ≤ 1000) (hv : H v.e = some (.tup [.str v.kd, .str v.nm, v.x])) (hin : (u.d, u.n) ∈ keysE eo)
    (hc : clashB e0 (putE eo v) (u.d, u.n) = false) : Cl33 g l bd cl L H0 (upd H bd (.dT (kvE (putE eo v)))) e0 e1 (putE eo v) cs ps (i + 1) := by
  have fr := key_fresh kn0 hu
  have hin' : (v.d, v.n) ∈ keysE eo := by rw [hd, hn]; exact hin
  obtain ⟨a, b⟩ := cl_step (eo' := putE eo v) (ps' := ps) kn0 hu h.sp h.un (fun p np => by rw [atE_put h.kn, if_neg (by rw [hd, hn]; exact np)]) (fun _ _ => Iff.rfl) ⟨fun z => (fr ((h.sp _).mp z).1).elim, fun z => by
    rw [hc] at z
    cases z⟩
  refine ⟨h.bag.put nbg, h.kx.trans (KX.put hb), upd_same, fun t ht => ?_, fun t ht => (mem_putE ht).elim (fun e => e ▸ okv) (h.ok t), keyN_put h.kn, fun t ht => (mem_putE ht).elim (fun e => by rw [e, hd, hn]; exact rgu) (h.rg t), by rw [len_put_at hin']; exact h.len, fun p => (keys_put_eq hin' p).trans (h.keys p), by rw [upd_ne nlb]; exact h.hcl, h.prs.mono fun c _ z => by rw [upd_ne (ne_of z h.hbd (by intro y; cases y))]; exact z, Nat.le_succ_of_le h.lps, a, b⟩
  rcases mem_putE ht with rfl | ht
  · rw [upd_ne (ne_of hv h.hbd (by intro y; cases y))]
    exact hv
  · have := h.ent t ht
    rw [upd_ne (ne_of this h.hbd (by intro y; cases y))]
    exact this
/-- and the clash kept -/
theorem Cl33.putc {g l bd cl : Addr} {L : List Addr} {H0 H : Hp} {e0 e1 eo : List En} {cs : List Addr} {ps : List (Int × Int)} {i : Nat} {u v : En} {kt : Addr} (h : Cl33 g l bd cl L H0 H e0 e1 eo cs ps i) (kn0 : keyN e0) (hu : e0[i]? = some u) (hb : bd ∈ L) (hl : cl ∈ L) (nbg : bd ≠ g ∧ bd ≠ l) (nlg : cl ≠ g ∧ cl ≠ l) (nlb : cl ≠ bd) (hd : v.d = u.d) (hn : v.n = u.n) (okv : EnOk v) (rgu : 0 ≤ u.d ∧ 0 ≤ u.n ∧ u.d ≤ 1000 ∧ u.n ≤ 1000) (hv : H v.e = some (.tup [.str v.kd, .str v.nm, v.x])) (hin : (u.d, u.n) ∈ keysE eo)
    (hc : clashB e0 (putE eo v) (u.d, u.n) = true) {H2 : Hp} (s2 : Same (upd H bd (.dT (kvE (putE eo v)))) H2) (hkt : H2 kt = some (.tup [.int u.d, .int u.n])) : Cl33 g l bd cl L H0 (upd H2 cl (.lst ((cs ++ [kt]).map V.ref))) e0 e1 (putE eo v) (cs ++ [kt]) (ps ++ [(u.d, u.n)]) (i + 1) := by
  have fr := key_fresh kn0 hu
  have hin' : (v.d, v.n) ∈ keysE eo := by rw [hd, hn]; exact hin
  obtain ⟨a, b⟩ := cl_step (eo' := putE eo v) (ps' := ps ++ [(u.d, u.n)]) kn0 hu h.sp h.un (fun p np => by rw [atE_put h.kn, if_neg (by rw [hd, hn]; exact np)]) (fun p np => by
    rw [List.mem_append, List.mem_singleton]
    exact ⟨fun z => z.elim id fun z => (np z).elim, .inl⟩) ⟨fun _ => hc, fun _ => List.mem_append_right _ List.mem_cons_self⟩
  have hcl2 := s2 _ _ (by rw [upd_ne nlb]; exact h.hcl)
  have tup : ∀ c xs, H c = some (.tup xs) → upd H2 cl (.lst ((cs ++ [kt]).map V.ref)) c = some (.tup xs) := fun c xs e => by
    have e2 := s2 c _ (by rw [upd_ne (ne_of e h.hbd (by intro y; cases y))]; exact e)
    rw [upd_ne (ne_of e2 hcl2 (by intro y; cases y))]
    exact e2
  have lc := h.prs.1
  refine ⟨((h.bag.put nbg).keep s2).put nlg, ((h.kx.trans (KX.put hb)).trans (KX.same s2)).trans (KX.put hl), by rw [upd_ne nlb.symm]; exact s2 _ _ upd_same, fun t ht => ?_, fun t ht => (mem_putE ht).elim (fun e => e ▸ okv) (h.ok t), keyN_put h.kn, fun t ht => (mem_putE ht).elim (fun e => by rw [e, hd, hn]; exact rgu) (h.rg t), by rw [len_put_at hin']; exact h.len, fun p => (keys_put_eq hin' p).trans (h.keys p), upd_same, ⟨by rw [List.length_append, List.length_append, lc]; rfl, fun j c q hc hq => ?_⟩, by rw [List.length_append]; exact Nat.succ_le_succ h.lps, a, b⟩
  · rcases mem_putE ht with rfl | ht
    · exact tup _ _ hv
    · exact tup _ _ (h.ent t ht)
  · rw [List.getElem?_append] at hc hq
    rw [← lc] at hq
    split at hc
    · next lt =>
      rw [if_pos lt] at hq
      exact tup _ _ (h.prs.2 j c q hc hq)
    · next lt =>
      rw [if_neg lt] at hq
      cases hj : j - cs.length with
      | zero =>
        rw [hj] at hc hq
        cases hc
        cases hq
        rw [upd_ne (ne_of hkt hcl2 (by intro y; cases y))]
        exact hkt
      | succ m =>
        rw [hj] at hc
        cases hc
theorem both_ne {e0 e1 eo : List En} (h : ∃ u, u ∈ e0 ∨ u ∈ e1) (hl : eo.length = e1.length) : bothE e0 eo ≠ [] := by
  intro e
  unfold bothE at e
  obtain ⟨a, b⟩ := List.append_eq_nil_iff.mp e
  subst a
  obtain ⟨u, hu | hu⟩ := h
  · cases hu
  · have z : eo = [] := by
      cases eo with
      | nil => rfl
      | cons v vs =>
        have := List.filter_eq_nil_iff.mp b v List.mem_cons_self
        exact (this (decide_eq_true fun z => by cases z)).elim
    rw [z] at hl
    have := List.length_pos_of_mem hu
    rw [List.length_nil] at hl
    omega

section
variable {P : Program} {w : World} {K : PySem.W.Frag} {mg : Str → Option Value} {base : Heap} {A : Ad}
theorem ok_f_law (T : Txt K mg A) : FnOk P w K mg base CX0 14 A.f_law A.fd_f_law P_f_law (spLaw K) := by
  refine T.F_f_law.ok sc_f_law (fun vs H Q E h => ?_) (fun cdv Ar outer s H vs Q E hr h => ?_)
  · obtain ⟨a, ns, rfl, _⟩ := h
    rfl
  · obtain ⟨a, ns, rfl, hS, hlen, k⟩ := h
    refine ⟨_, (pss_cons (ps_set (i := 1) sc_f_law.nd rfl (Or.inl rfl) (pe_call (ok_l_bag T) (hr.mono (by decide)) (by rfl) T.g__law_bag T.F_l_bag.kp T.b_l_bag .nil pass0 (pa_cons (pv 0) pa_nil)))
      (pss_cons (ps_set (i := 2) sc_f_law.nd rfl (Or.inl rfl) (pe_call (ok_l_entries T) (hr.mono (by decide)) (by rfl) T.g__law_entries T.F_l_entries.kp T.b_l_entries .nil pass0 (pa_cons (pv 1) (pa_cons pe_int pa_nil))))
      (pss_cons (ps_set (i := 3) sc_f_law.nd rfl (Or.inl rfl) (pe_lst (pa_cons (pe_lst pa_nil) (pa_cons (pe_lst pa_nil) pa_nil))))
      (pss_cons (ps_g (ps_for PassesOwn.never rfl (pi_list (pe_call (ok_l_mixed T) (hr.mono (by decide)) (by rfl) T.g__law_mixed T.F_l_mixed.kp T.b_l_mixed .nil pass0 (pa_cons (pv 1) (pa_cons (pv 2) pa_nil)))) (pg_name (i := 4) sc_f_law.nd rfl (Or.inl rfl)) (pss_cons (ps_set (i := 5) sc_f_law.nd rfl (Or.inl rfl) (pe_call (ok_l_draw T) (hr.mono (by decide)) (by rfl) T.g__law_draw T.F_l_draw.kp T.b_l_draw .nil pass0 (pa_cons (pv 1) (pa_cons pe_int pa_nil))))
      (pss_g (Evl.pss_cut (ps_if (pt_cmpR op_ne (pv 5) pe_int (nomark _)) (pss_one (ps_expr (pe_bm PySem.F.plainAttrs_list PySem.F.slot_list_append PySem.F.type_list_append mt_append (pe_ix ix_list (pv 3) pe_int (fun _ _ => rfl)) (pa_cons (pv 4) pa_nil)))) pss_nil)
      (pss_one (ps_if (pt_cmpR op_ne (pv 5) pe_int (nomark _)) (pss_one (ps_expr (pe_bm PySem.F.plainAttrs_list PySem.F.slot_list_append PySem.F.type_list_append mt_append (pe_ix ix_list (pv 3) pe_int (fun _ _ => rfl)) (pa_cons (pv 4) pa_nil)))) pss_nil)))))))
      (pss_cons (ps_set (i := 6) sc_f_law.nd rfl (Or.inl rfl) (pe_call (ok_l_book T) (hr.mono (by decide)) (by rfl) T.g__law_book T.F_l_book.kp T.b_l_book .nil pass0 (pa_cons (pe_ix ix_list (pv 3) pe_int (fun _ _ => rfl)) pa_nil)))
      (pss_cons (ps_set (i := 7) sc_f_law.nd rfl (Or.inl rfl) (pe_call (ok_l_book T) (hr.mono (by decide)) (by rfl) T.g__law_book T.F_l_book.kp T.b_l_book .nil pass0 (pa_cons (pe_ix ix_list (pv 3) pe_int (fun _ _ => rfl)) pa_nil)))
      (pss_cons (ps_set (i := 8) sc_f_law.nd rfl (Or.inl rfl) (pe_lst pa_nil))
      (pss_g (Evl.pss_cut (ps_if (pt_cmpR op_eq (pe_call (ok_l_draw T) (hr.mono (by decide)) (by rfl) T.g__law_draw T.F_l_draw.kp T.b_l_draw .nil pass0 (pa_cons (pv 1) (pa_cons pe_int pa_nil))) pe_int (nomark _)) (pss_one (ps_g (ps_for PassesOwn.never rfl (pi_list (pe_ix ix_list (pv 3) pe_int (fun _ _ => rfl))) (pg_tup (n := 3) rfl (pgs_cons (pg_name (i := 9) sc_f_law.nd rfl (Or.inl rfl)) (pgs_cons (pg_name (i := 10) sc_f_law.nd rfl (Or.inl rfl)) (pgs_cons (pg_name (i := 11) sc_f_law.nd rfl (Or.inl rfl)) pgs_nil)))) (pss_one (ps_if (PW.pt (pw_and (pt_cmpR (op_ownIn (own_in T) (ok_m_Book_contains T) (hr.mono (by decide)) T.b_m_Book_contains pass0) (pe_tup (pa_cons (pv 9) (pa_cons (pv 10) pa_nil))) (pv 7) (by rfl)) (pw_and1 (pt_cmpR op_eq (pe_call (ok_l_draw T) (hr.mono (by decide)) (by rfl) T.g__law_draw T.F_l_draw.kp T.b_l_draw .nil pass0 (pa_cons (pv 1) (pa_cons pe_int pa_nil))) pe_int (nomark _))))) (pss_cons (ps_ownSet (E := fun _ => E0) (own_set T) T.nsq_Book (ok_m_Book_setitem T) (hr.mono (by decide)) T.b_m_Book_setitem (passAll passL) (pv 7) (pe_tup (pa_cons (pv 9) (pa_cons (pv 10) pa_nil))) (pe_call (ok_l_unlike T) (hr.mono (by decide)) (by rfl) T.g__law_unlike T.F_l_unlike.kp T.b_l_unlike .nil pass0 (pa_cons (pv 1) (pa_cons (pv 11) pa_nil))) rfl)
      (pss_one (ps_if (pt_cmpR (op_neP hr.units) (pe_ownIx (E := fun _ => E0) (own_get T) T.fgi_Book (ok_m_Book_getitem T) (hr.mono (by decide)) T.b_m_Book_getitem (passAll passL) (pv 7) (pe_tup (pa_cons (pv 9) (pa_cons (pv 10) pa_nil)))) (pv 11) (nomark _)) (pss_one (ps_expr (pe_bm PySem.F.plainAttrs_list PySem.F.slot_list_append PySem.F.type_list_append mt_append (pv 8) (pa_cons (pe_tup (pa_cons (pv 9) (pa_cons (pv 10) pa_nil))) pa_nil)))) pss_nil))) pss_nil))))) pss_nil)
      (pss_cons (ps_set (i := 12) sc_f_law.nd rfl (Or.inl rfl) (pe_lst (pa_cons (pe_call (ok_l_kept T) (hr.mono (by decide)) (by rfl) T.g__law_kept T.F_l_kept.kp T.b_l_kept .nil pass0 (pa_cons (pv 6) pa_nil)) (pa_cons (pe_call (ok_l_kept T) (hr.mono (by decide)) (by rfl) T.g__law_kept T.F_l_kept.kp T.b_l_kept .nil pass0 (pa_cons (pv 7) pa_nil)) pa_nil))))
      (pss_cons (ps_if (pt_cmpR (op_neNil hr.units) (pv 8) (pe_lst pa_nil) (nomark _)) (pss_cons (ps_set (i := 13) sc_f_law.nd rfl (Or.inl rfl) (pe_tup (pa_cons (pe_ix ix_tup (pe_callB (cr_minP rfl hr.units) (by rfl) T.z_min (by decide +kernel) (pa_cons (pv 8) pa_nil)) pe_int (fun _ _ => rfl)) (pa_cons (pe_ix ix_tup (pe_callB (cr_minP rfl hr.units) (by rfl) T.z_min (by decide +kernel) (pa_cons (pv 8) pa_nil)) pe_int (fun _ _ => rfl)) (pa_cons pe_bl pa_nil)))))
      (pss_cons (ps_if (PW.pt (pw_or (pt_cmpR (op_neP hr.units) (pe_call (ok_l_clash T) (hr.mono (by decide)) (by rfl) T.g__law_clash T.F_l_clash.kp T.b_l_clash .nil pass0 (pa_cons (pv 6) (pa_cons (pv 7) pa_nil))) (pv 13) (nomark _)) (pw_or1 (pt_cmpR (op_neP hr.units) (pe_call (ok_l_clash T) (hr.mono (by decide)) (by rfl) T.g__law_clash T.F_l_clash.kp T.b_l_clash .nil pass0 (pa_cons (pv 7) (pa_cons (pv 6) pa_nil))) (pv 13) (nomark _))))) (pss_one (ps_ret pe_bl)) pss_nil)
      (pss_one (ps_ret (pe_cmpR (op_eqP hr.units) (pe_lst (pa_cons (pe_call (ok_l_kept T) (hr.mono (by decide)) (by rfl) T.g__law_kept T.F_l_kept.kp T.b_l_kept .nil pass0 (pa_cons (pv 6) pa_nil)) (pa_cons (pe_call (ok_l_kept T) (hr.mono (by decide)) (by rfl) T.g__law_kept T.F_l_kept.kp T.b_l_kept .nil pass0 (pa_cons (pv 7) pa_nil)) pa_nil))) (pv 12) (nomark _)))))) pss_nil)
      (pss_one (ps_ret (pe_call (ok_l_joined_right T) (hr.mono (by decide)) (by rfl) T.g__law_joined_right T.F_l_joined_right.kp T.b_l_joined_right .nil pass0 (pa_cons (pv 6) (pa_cons (pv 7) (pa_cons (pv 12) (pa_cons (pe_g (pe_lcV (own := [("_law_item", 4)]) rfl sc_f_law.nd (pi_list (pv 2)) (blkOk_by (own := [("_law_item", 4)]) (N := N_f_law) (sc := defScope s_f_law) (by decide +kernel)) (fun _ _ _ _ _ => (pg_name (i := 4) sc_f_law.nd rfl (Or.inl rfl))) (fun _ _ _ _ _ => pts_nil) (fun _ _ _ _ _ => (pe_tup (pa_cons (pe_ix ix_tup (pv 4) pe_int (fun _ _ => rfl)) (pa_cons (pe_ix ix_tup (pv 4) pe_int (fun _ _ => rfl)) pa_nil)))) (fun _ _ _ _ _ => rfl) (fun _ _ _ _ _ => rfl) (fun _ _ _ _ _ => rfl))) pa_nil)))))))))))))))))), ?_⟩
    walk_at "go"
    intro g l H1 s1 hg hl B1
    refine ⟨_, rfl, g, l, 10, rfl, B1, by decide, by decide, fun eq ts es H2 heq heq' A2 E2 ok2 rg2 pw2 ne2 le2 B2 K2 => ?_⟩
    have neg : eq ≠ g := by
      obtain ⟨xs, hg1⟩ := B1.lst
      exact (ne_of_none hg1 heq).symm
    refine ⟨Nat.zero_le _, fun S0 hS0 => ⟨Nat.zero_le _, fun S1 hS1 => ⟨(by show 2 ≤ sizeLine; decide), fun SD hSD => ?_⟩⟩⟩
    have t1 := Same.new (o := .lst []) hS0
    have t2 := Same.new (o := .lst []) hS1
    have t3 := Same.new (o := .lst [V.ref S0, .ref S1]) hSD
    have n01 : S0 ≠ S1 := ne_of_none upd_same hS1
    have h0 := t3 _ _ (t2 _ _ (upd_same (H := H2) (a := S0) (o := .lst [])))
    have h1 := t3 _ _ (upd_same (H := upd H2 S0 (.lst [])) (a := S1) (o := .lst []))
    have hD := upd_same (H := upd (upd H2 S0 (.lst [])) S1 (.lst [])) (a := SD) (o := .lst [V.ref S0, .ref S1])
    have n0D : S0 ≠ SD := ne_of_none (t2 _ _ upd_same) hSD
    have n1D : S1 ≠ SD := ne_of_none upd_same hSD
    have t13 := t1.trans (t2.trans t3)
    have B5 := B2.keep t13
    have heq5 := t13 _ _ heq'
    have A5 := A2.mono fun _ _ z => (t13 _ _ z : Tri _ _ _)
    have E5 := E2.keep fun b xs h => t13 _ _ h
    have n0g := (B2.ne hS0).1
    have n0l := (B2.ne hS0).2
    have n1l := ((B2.keep t1).ne hS1).2
    have n1g := ((B2.keep t1).ne hS1).1
    have nDg := ((B2.keep (t1.trans t2)).ne hSD).1
    have ne0 : eq ≠ S0 := ne_of_none heq' hS0
    have ne1 : eq ≠ S1 := ne_of_none (t1 _ _ heq') hS1
    generalize upd (upd (upd H2 S0 (.lst [])) S1 (.lst [])) SD (.lst [V.ref S0, .ref S1]) = H5 at *
    clear t13 t3 t2 t1 hSD hS1 hS0 B2 heq' A2 E2 heq K2
    have tl : ts.length ≤ 10 := by rw [A5.1]; omega
    dsimp only [gName, List.set]
    refine ⟨⟨_, rfl, _, rfl, g, l, eq, ts.map V.ref, rfl, B5, heq5, by rw [List.length_map]; omega, fun mq ys H6 perm hmq hmq' B6 K6 => ?_⟩⟩
    obtain ⟨xsg, hg5⟩ := B5.lst
    obtain ⟨us2, es2, rfl, pe, A6⟩ := perm_all2 (A5.mono fun _ _ z => (K6 _ _ z (ne_of z hg5 (by intro y; cases y)) : Tri H6 _ _)) perm
    have A6' : All2 (Tri H6) ts es := A5.mono fun _ _ z => K6 _ _ z (ne_of z hg5 (by intro y; cases y))
    have E6 : EntsAt H6 es := fun v hv => K6 _ _ (E5 v hv) (ne_of (E5 v hv) hg5 (by intro y; cases y))
    have heq6 := K6 _ _ heq5 neg
    have h06 := K6 _ _ h0 n0g
    have h16 := K6 _ _ h1 n1g
    have hD6 := K6 _ _ hD nDg
    have nm0 : mq ≠ S0 := (ne_of_none h0 hmq).symm
    have nm1 : mq ≠ S1 := (ne_of_none h1 hmq).symm
    have nmg : mq ≠ g := (ne_of_none hg5 hmq).symm
    have kn : keyN es := inc_nodup pw2
    have kn2 : keyN es2 := keyN_perm pe kn
    have el : es2.length ≤ 10 := by rw [pe.length_eq]; omega
    have ul : us2.length = es2.length := A6.1
    clear K6 hmq perm A5 E5 heq5 h0 h1 hD B5 hg5 B1 s1
    have tk : ∀ {H'}, KX [g, S0, S1] H6 H' → ∀ c xs, H6 c = some (.tup xs) → H' c = some (.tup xs) := fun kx c xs e => kx _ _ e (by
      obtain ⟨xsg, hg6⟩ := B6.lst
      simp only [List.mem_cons, List.not_mem_nil, or_false, not_or]
      exact ⟨ne_of e hg6 (by intro y; cases y), ne_of e h06 (by intro y; cases y), ne_of e h16 (by intro y; cases y)⟩)
    have notin : ∀ c, c ≠ g → c ≠ S0 → c ≠ S1 → c ∉ [g, S0, S1] := fun c h1 h2 h3 => by
      simp only [List.mem_cons, List.not_mem_nil, or_false, not_or]
      exact ⟨h1, h2, h3⟩
    refine ⟨mq, rfl, ⟨_, SqL.of hmq'⟩, for_list (xs := us2.map V.ref) (fun i σ' H' => Wd (∃ (o4 o5 : Option V) (as0 as1 : List Addr) (e0 e1 : List En), σ' = [some (.ref a), some (.ref g), some (.ref eq), some (.ref SD), o4, o5, none, none, none, none, none, none, none, none] ∧ Bag H' g l ∧ KX [g, S0, S1] H6 H' ∧ H' S0 = some (.lst (as0.map V.ref)) ∧ H' S1 = some (.lst (as1.map V.ref)) ∧ All2 (Tri H6) as0 e0 ∧ All2 (Tri H6) as1 e1 ∧ e0.Sublist (es2.take i) ∧ e1.Sublist (es2.take i) ∧ ∀ u ∈ es2.take i, u ∈ e0 ∨ u ∈ e1)) ⟨none, none, [], [], [], [], rfl, B6, KX.refl, h06, h16, ⟨rfl, fun _ _ _ z => by cases z⟩, ⟨rfl, fun _ _ _ z => by cases z⟩, List.nil_sublist _, List.nil_sublist _, fun u hu => by rw [List.take_zero] at hu; cases hu⟩ ?_ ?_ ?_⟩
    · rintro i σ' H' _ ⟨o4, o5, as0, as1, e0, e1, rfl, B', kx, _⟩
      exact SqL.of (kx _ _ hmq' (notin _ nmg nm0 nm1))
    · rintro i x σ' H' hx ⟨o4, o5, as0, as1, e0, e1, rfl, B', kx, hs0, hs1, a0, a1, sb0, sb1, cov⟩
      rw [List.getElem?_map] at hx
      obtain ⟨t, ht, rfl⟩ := Option.map_eq_some_iff.mp hx
      obtain ⟨u, hu, htu⟩ := A6.get ht
      have hil := (List.getElem?_eq_some_iff.mp hu).1
      have tm := take_more hu
      have z0 : as0.length ≤ 10 := by
        have := sb0.length_le
        rw [List.length_take] at this
        rw [a0.1]
        omega
      have z1 : as1.length ≤ 10 := by
        have := sb1.length_le
        rw [List.length_take] at this
        rw [a1.1]
        omega
      have snoc : ∀ {as : List Addr} {e : List En}, All2 (Tri H6) as e → All2 (Tri H6) (as ++ [t]) (e ++ [u]) := fun {as e} h => ⟨by rw [List.length_append, List.length_append, h.1]; rfl, fun j x y hx hy => by
        rw [List.getElem?_append] at hx hy
        rw [← h.1] at hy
        split at hx
        · next lt =>
          rw [if_pos lt] at hy
          exact h.2 j x y hx hy
        · next lt =>
          rw [if_neg lt] at hy
          cases hj : j - as.length with
          | zero =>
            rw [hj] at hx hy
            cases hx
            cases hy
            exact htu
          | succ m =>
            rw [hj] at hx
            cases hx⟩
      dsimp only [gName, List.set, tSeq]
      refine ⟨_, rfl, g, l, 3, rfl, B', by decide, by decide, fun c H7 c0 c1 B7 K7 => ?_⟩
      have kx7 := kx.trans (KX.kp (L := [g, S0, S1]) List.mem_cons_self K7)
      have hs07 := K7 _ _ hs0 n0g
      have hs17 := K7 _ _ hs1 n1g
      clear K7 hs0 hs1 kx B'
      dsimp only [gName, List.set]
      refine ⟨⟨fun σ'' H'' => Wd (∃ (as0' : List Addr) (e0' : List En), σ'' = [some (.ref a), some (.ref g), some (.ref eq), some (.ref SD), some (.ref t), some (.int c), none, none, none, none, none, none, none, none] ∧ Bag H'' g l ∧ KX [g, S0, S1] H6 H'' ∧ H'' S0 = some (.lst (as0'.map V.ref)) ∧ H'' S1 = some (.lst (as1.map V.ref)) ∧ All2 (Tri H6) as0' e0' ∧ e0'.Sublist (es2.take (i + 1)) ∧ (∀ v ∈ e0, v ∈ e0') ∧ (c ≠ 1 → u ∈ e0')), ?_, ?_⟩⟩
      · refine ⟨_, rfl, rfl, _, rfl, if_intN (fun nc => ?_) (fun ec => ?_)⟩
        · refine ⟨_, rfl, SD, _, 0, _, rfl, rfl, SqL.of (kx7 _ _ hD6 (notin _ nDg n0D.symm n1D.symm)), rfl, .inl ⟨rfl, _, SqL.of hs07⟩, _, rfl, S0, _, _, rfl, rfl, hs07, by rw [List.length_map]; exact Nat.lt_of_le_of_lt z0 (by decide), ?_⟩
          refine ⟨as0 ++ [t], e0 ++ [u], rfl, B7.put ⟨n0g, n0l⟩, kx7.trans (KX.put (by simp)), by rw [upd_same, List.map_append]; rfl, by rw [upd_ne n01.symm]; exact hs17, snoc a0, by rw [tm]; exact sb0.append (List.Sublist.refl _), fun v hv => List.mem_append_left _ hv, fun _ => List.mem_append_right _ List.mem_cons_self⟩
        · exact ⟨as0, e0, rfl, B7, kx7, hs07, hs17, a0, by rw [tm]; exact sb0.trans (List.sublist_append_left _ _), fun v hv => hv, fun n => (n ec).elim⟩
      · rintro σ'' H'' ⟨as0', e0', rfl, B8, kx8, h08, h18, a0', sb0', mo, yes⟩
        refine ⟨_, rfl, rfl, _, rfl, if_intN (fun nc => ?_) (fun ec => ?_)⟩
        · refine ⟨_, rfl, SD, _, 1, _, rfl, rfl, SqL.of (kx8 _ _ hD6 (notin _ nDg n0D.symm n1D.symm)), rfl, .inl ⟨rfl, _, SqL.of h18⟩, _, rfl, S1, _, _, rfl, rfl, h18, by rw [List.length_map]; exact Nat.lt_of_le_of_lt z1 (by decide), ?_⟩
          refine ⟨_, _, as0', as1 ++ [t], e0', e1 ++ [u], rfl, B8.put ⟨n1g, n1l⟩, kx8.trans (KX.put (by simp)), by rw [upd_ne n01]; exact h08, by rw [upd_same, List.map_append]; rfl, a0', snoc a1, sb0', by rw [tm]; exact sb1.append (List.Sublist.refl _), fun v hv => ?_⟩
          · rw [tm] at hv
            rcases List.mem_append.mp hv with hv | hv
            · exact (cov v hv).elim (fun h => .inl (mo v h)) fun h => .inr (List.mem_append_left _ h)
            · exact .inr (List.mem_append_right _ hv)
        · refine ⟨_, _, as0', as1, e0', e1, rfl, B8, kx8, h08, h18, a0', a1, sb0', by rw [tm]; exact sb1.trans (List.sublist_append_left _ _), fun v hv => ?_⟩
          rw [tm] at hv
          rcases List.mem_append.mp hv with hv | hv
          · exact (cov v hv).elim (fun h => .inl (mo v h)) .inr
          · rw [List.mem_singleton.mp hv]
            exact .inl (yes (by omega))
    · rintro σ' H' ⟨o4, o5, as0, as1, e0, e1, rfl, B', kx, hs0, hs1, a0, a1, sb0, sb1, cov⟩
      rw [List.length_map, ul, List.take_of_length_le (Nat.le_refl _)] at sb0 sb1 cov
      have m0 : ∀ u ∈ e0, u ∈ es := fun u hu => pe.mem_iff.mp (sb0.subset hu)
      have m1 : ∀ u ∈ e1, u ∈ es := fun u hu => pe.mem_iff.mp (sb1.subset hu)
      have kn0 : keyN e0 := kn2.sublist (sb0.map _)
      have kn1 : keyN e1 := kn2.sublist (sb1.map _)
      have z0 : e0.length ≤ 10 := Nat.le_trans sb0.length_le el
      have z1 : e1.length ≤ 10 := Nat.le_trans sb1.length_le el
      have some1 : ∃ u, u ∈ e0 ∨ u ∈ e1 := by
        obtain ⟨u, hu⟩ := List.exists_mem_of_ne_nil _ ne2
        exact ⟨u, cov u (pe.mem_iff.mpr hu)⟩
      have tk' := tk kx
      have a0' : All2 (Tri H') as0 e0 := a0.mono fun _ _ z => tk' _ _ z
      have a1' : All2 (Tri H') as1 e1 := a1.mono fun _ _ z => tk' _ _ z
      have Ees : EntsAt H' es := fun u hu => tk' _ _ (E6 u hu)
      have A6k : All2 (Tri H') ts es := A6'.mono fun _ _ z => tk' _ _ z
      have heqk := kx _ _ heq6 (notin _ neg ne0 ne1)
      have hDk := kx _ _ hD6 (notin _ nDg n0D.symm n1D.symm)
      clear cov sb0 sb1 tk' tk kx a0 a1 A6 A6' E6 heq6 hD6 h06 h16 hmq' B6 notin
      dsimp only [tSeq]
      refine ⟨_, rfl, SD, _, 0, _, rfl, rfl, SqL.of hDk, rfl, S0, as0, e0, rfl, hs0, a0', fun u hu => Ees u (m0 u hu), fun u hu => ok2 u (m0 u hu), fun u hu => ⟨(rg2 u (m0 u hu)).1, (rg2 u (m0 u hu)).2.1, by have := rg2 u (m0 u hu); omega, by have := rg2 u (m0 u hu); omega⟩, by omega, fun oa od H8 s8 hoa hod BA => ?_⟩
      rw [fold_new e0 [] (by rw [List.nil_append]; exact kn0), List.nil_append] at BA
      refine ⟨_, rfl, SD, _, 1, _, rfl, rfl, SqL.of (s8 _ _ hDk), rfl, S1, as1, e1, rfl, s8 _ _ hs1, a1'.mono fun _ _ z => s8 _ _ z, fun u hu => s8 _ _ (Ees u (m1 u hu)), fun u hu => ok2 u (m1 u hu), fun u hu => ⟨(rg2 u (m1 u hu)).1, (rg2 u (m1 u hu)).2.1, by have := rg2 u (m1 u hu); omega, by have := rg2 u (m1 u hu); omega⟩, by omega, fun ob bd H9 s9 hob hbd BB => ?_⟩
      rw [fold_new e1 [] (by rw [List.nil_append]; exact kn1), List.nil_append] at BB
      refine ⟨Nat.zero_le _, fun cl hcl => ?_⟩
      have s10 := Same.new (o := .lst []) hcl
      have hcl10 := upd_same (H := H9) (a := cl) (o := .lst [])
      have s810 := s8.trans (s9.trans s10)
      have BA10 := BA.same (s9.trans s10)
      have BB10 := BB.same s10
      have noa : oa ≠ bd := ne_of_none BA.1.choose_spec hbd
      have nod : od ≠ bd := ne_of_none BA.2 hbd
      have B10 := B'.keep s810
      have E10 : EntsAt _ es := fun u hu => s810 _ _ (Ees u hu)
      have A10 : All2 (Tri _) ts es := A6k.mono fun _ _ z => s810 _ _ z
      have a010 : All2 (Tri _) as0 e0 := a0'.mono fun _ _ z => s810 _ _ z
      have heq10 := s810 _ _ heqk
      have hD10 := s810 _ _ hDk
      have h010 := s810 _ _ hs0
      have nlg := ((B'.keep (s8.trans s9)).ne hcl)
      have nbg := ((B'.keep s8).ne hbd)
      have nlb : cl ≠ bd := (ne_of_none BB.2 hcl).symm
      have nq : eq ≠ bd ∧ eq ≠ cl := ⟨ne_of_none (s8 _ _ heqk) hbd, ne_of_none ((s8.trans s9) _ _ heqk) hcl⟩
      have n0' : S0 ≠ bd ∧ S0 ≠ cl := ⟨ne_of_none (s8 _ _ hs0) hbd, ne_of_none ((s8.trans s9) _ _ hs0) hcl⟩
      have nA : oa ≠ cl ∧ od ≠ cl := ⟨ne_of_none (s9 _ _ BA.1.choose_spec) hcl, ne_of_none (s9 _ _ BA.2) hcl⟩
      have nBo : ob ≠ cl := ne_of_none BB.1.choose_spec hcl
      generalize upd H9 cl (.lst []) = H10 at *
      clear s810 s10 s9 s8 hcl hbd hob hod hoa BA BB a0' a1' Ees A6k heqk hDk hs0 hs1 B'
      dsimp only [gName, List.set, tSeq]
      obtain ⟨⟨dxa, hoa10⟩, hod10⟩ := id BA10
      obtain ⟨⟨dxb, hob10⟩, hbd10⟩ := id BB10
      have gL : g ∈ [g, bd, cl] := List.mem_cons_self
      have notin : ∀ c, c ≠ g → c ≠ bd → c ≠ cl → c ∉ [g, bd, cl] := fun c h1 h2 h3 => by
        simp only [List.mem_cons, List.not_mem_nil, or_false, not_or]
        exact ⟨h1, h2, h3⟩
      have tk : ∀ {H'}, KX [g, bd, cl] H10 H' → ∀ c xs, H10 c = some (.tup xs) → H' c = some (.tup xs) := fun kx c xs e => kx _ _ e (by
        obtain ⟨xsg, hg10⟩ := B10.lst
        exact notin _ (ne_of e hg10 (by intro y; cases y)) (ne_of e hbd10 (by intro y; cases y)) (ne_of e hcl10 (by intro y; cases y)))
      have rgX : ∀ {e : List En}, (∀ u ∈ e, u ∈ es) → ∀ u ∈ e, 0 ≤ u.d ∧ 0 ≤ u.n ∧ u.d ≤ 1000 ∧ u.n ≤ 1000 := fun m u hu => by
        have := rg2 u (m u hu)
        omega
      have st0 : Cl33 g l bd cl [g, bd, cl] H10 H10 e0 e1 e1 [] [] 0 := ⟨B10, KX.refl, hbd10, fun u hu => E10 u (m1 u hu), fun u hu => ok2 u (m1 u hu), kn1, rgX m1, rfl, fun _ => Iff.rfl, hcl10, ⟨rfl, fun _ _ _ z => by cases z⟩, Nat.zero_le _, fun p => by rw [List.take_zero]; exact ⟨fun z => (by cases z), fun z => (by cases z.1)⟩, fun p _ => rfl⟩
      refine ⟨⟨fun σ' H' => Wd (∃ (o4 o5 o9 o10 o11 : Option V) (eo : List En) (cs : List Addr) (ps : List (Int × Int)), σ' = [some (.ref a), some (.ref g), some (.ref eq), some (.ref SD), o4, o5, some (.ref oa), some (.ref ob), some (.ref cl), o9, o10, o11, none, none] ∧ Cl33 g l bd cl [g, bd, cl] H10 H' e0 e1 eo cs ps e0.length), ?_, ?_⟩⟩
      · refine ⟨_, rfl, g, l, 2, rfl, B10, by decide, by decide, fun c H11 c0 c1 B11 K11 => ⟨rfl, _, rfl, if_int (fun e => ?_) (fun e => ?_)⟩⟩
        · have h0 := st0.move gL nbg.1 nlg.1 B11 K11
          have hD11 := K11 _ _ hD10 nDg
          have h011 := K11 _ _ h010 n0g
          refine ⟨_, rfl, SD, _, 0, _, rfl, rfl, SqL.of hD11, rfl, S0, rfl, ⟨_, SqL.of h011⟩, for_list (xs := as0.map V.ref) (fun i σ' H' => Wd (∃ (o9 o10 o11 : Option V) (eo : List En) (cs : List Addr) (ps : List (Int × Int)), σ' = [some (.ref a), some (.ref g), some (.ref eq), some (.ref SD), _, _, some (.ref oa), some (.ref ob), some (.ref cl), o9, o10, o11, none, none] ∧ Cl33 g l bd cl [g, bd, cl] H10 H' e0 e1 eo cs ps i)) ⟨none, none, none, e1, [], [], rfl, h0⟩ ?_ ?_ ?_⟩
          · rintro i σ' H' _ ⟨o9, o10, o11, eo, cs, ps, rfl, h⟩
            exact SqL.of (h.kx _ _ h010 (notin _ n0g n0'.1 n0'.2))
          · rintro i x σ' H' hx ⟨o9, o10, o11, eo, cs, ps, rfl, h⟩
            rw [List.getElem?_map] at hx
            obtain ⟨t, ht, rfl⟩ := Option.map_eq_some_iff.mp hx
            obtain ⟨u, hu, htu⟩ := a010.get ht
            have hum := List.mem_of_getElem? hu
            have hil := (List.getElem?_eq_some_iff.mp hu).1
            have ht1 : H' t = some (.tup [.int u.d, .int u.n, .ref u.e]) := tk h.kx _ _ htu
            have rgu := rgX m0 u hum
            refine ⟨t, _, rfl, SqT.of ht1, rfl, _, _, rfl, _, _, rfl, _, _, rfl, rfl, ?_⟩
            dsimp only [gName, List.set]
            have hob' := h.kx _ _ hob10 (notin _ (ne_of hob10 B10.lst.choose_spec (by intro y; cases y)) (ne_of hob10 hbd10 (by intro y; cases y)) nBo)
            have lz : eo.length < 1000 := by
              have := h.len
              omega
            refine ⟨_, rfl, _, rfl, (by show 2 ≤ sizeLine; decide), fun r1 hr1 => ⟨_, rfl, ⟨ob, dxb, _, rfl, Same.new hr1 _ _ hob', ob, bd, r1, eo, u.d, u.n, rfl, ⟨⟨dxb, Same.new hr1 _ _ hob'⟩, Same.new hr1 _ _ h.hbd⟩, upd_same, _, rfl, _, rfl, ?_⟩⟩⟩
            have hA := h.same gL nbg.1 nlg.1 (Same.new (o := .tup [V.int u.d, .int u.n]) hr1)
            generalize upd H' r1 (.tup [V.int u.d, .int u.n]) = HA at *
            rw [isSome_atE]
            by_cases hin : (u.d, u.n) ∈ keysE eo
            · rw [decide_eq_true hin]
              refine iteT ⟨_, rfl, g, l, 2, rfl, hA.bag, by decide, by decide, fun c1 HB c10 c11 BB KB => ⟨rfl, _, rfl, if_int (fun e => ?_) (fun e => ?_)⟩⟩
              · have hB := hA.move gL nbg.1 nlg.1 BB KB
                clear hA
                have obf : ∀ {H'}, KX [g, bd, cl] H10 H' → H' ob = some (.ins A.Book dxb [("entries", .ref bd)]) := fun kx => kx _ _ hob10 (notin _ (ne_of hob10 B10.lst.choose_spec (by intro y; cases y)) (ne_of hob10 hbd10 (by intro y; cases y)) nBo)
                have okE : H10 u.e = some (.tup [.str u.kd, .str u.nm, u.x]) := E10 u (m0 u hum)
                have oku := ok2 u (m0 u hum)
                refine ⟨_, rfl, _, rfl, g, l, u, rfl, hB.bag, tk hB.kx _ _ okE, oku, fun v HC vd vn okv BC KC v0 vg hve => ?_⟩
                have hC := hB.move gL nbg.1 nlg.1 BC KC
                clear hB BC KC v0
                obtain ⟨ok1v, ok2v, ok3v, ok4v⟩ := id okv
                refine ⟨_, rfl, _, rfl, _, rfl, (by show 2 ≤ sizeLine; decide), fun kt hkt => ?_⟩
                have hD := hC.same gL nbg.1 nlg.1 (Same.new (o := .tup [V.int u.d, .int u.n]) hkt)
                have hveD := Same.new (o := .tup [V.int u.d, .int u.n]) hkt _ _ hve
                have hktD := upd_same (H := HC) (a := kt) (o := .tup [V.int u.d, .int u.n])
                generalize upd HC kt (.tup [V.int u.d, .int u.n]) = HD at *
                clear hC hve hkt
                refine ⟨ob, dxb, _, rfl, obf hD.kx, ob, bd, kt, eo, .int u.d, .int u.n, .ref v.e, true, rfl, ⟨⟨dxb, obf hD.kx⟩, hD.hbd⟩, lz, hktD, .inl (.int _), .inl (.int _), .inl ⟨.str v.kd, .str v.nm, v.x, ⟨v.e, rfl, hveD, .str _, .str _, ok2v, ok3v, ok4v⟩, ok1v.symm⟩, fun d' n' ed en _ Hg sg => ?_, fun e => ?_⟩
                · obtain rfl := V.int.inj ed
                  obtain rfl := V.int.inj en
                  have hG := hD.same gL nbg.1 nlg.1 sg
                  have hvG := sg _ _ hveD
                  have ep : putK (kvE eo) (keyE u.d u.n) (.ref v.e) = kvE (putE eo v) := by
                    rw [← vd, ← vn]
                    exact put_kvE
                  rw [ep]
                  have uG : upd Hg bd (.dT (kvE (putE eo v))) u.e = some (.tup [.str u.kd, .str u.nm, u.x]) := by
                    have := tk hG.kx _ _ okE
                    rw [upd_ne (ne_of this hG.hbd (by intro y; cases y))]
                    exact this
                  have vG : upd Hg bd (.dT (kvE (putE eo v))) v.e = some (.tup [.str v.kd, .str v.nm, v.x]) := by
                    rw [upd_ne (ne_of hvG hG.hbd (by intro y; cases y))]
                    exact hvG
                  have bG : upd Hg bd (.dT (kvE (putE eo v))) ob = some (.ins A.Book dxb [("entries", .ref bd)]) := by
                    rw [upd_ne (ne_of hob10 hbd10 (by intro y; cases y))]
                    exact obf hG.kx
                  have av : atE (putE eo v) u.d u.n = some v := by
                    rw [atE_put h.kn, if_pos (by rw [vd, vn])]
                  have hc : clashB e0 (putE eo v) (u.d, u.n) = !PyData.eqv (entD v) (entD u) := by
                    unfold clashB
                    rw [atE_self kn0 hum, av]
                  refine ⟨_, rfl, _, rfl, _, rfl, (by show 2 ≤ sizeLine; decide), fun k2 hk2 => ?_⟩
                  have s2 := Same.new (o := .tup [V.int u.d, .int u.n]) hk2
                  refine ⟨ob, dxb, _, rfl, s2 _ _ bG, ob, bd, k2, putE eo v, u.d, u.n, rfl, ⟨⟨dxb, s2 _ _ bG⟩, s2 _ _ upd_same⟩, upd_same, fun w hw => ?_, fun ew => ?_⟩
                  · rw [av] at hw
                    cases hw
                    refine ⟨_, rfl, ne_dls (dl_ent (s2 _ _ vG) ok2v) (dl_ent (s2 _ _ uG) oku.2.1) (by decide) ⟨_, rfl, ?_⟩⟩
                    show if (!PyData.eqv (entD v) (entD u)) = true then _ else _
                    rw [← hc]
                    cases ec : clashB e0 (putE eo v) (u.d, u.n) with
                    | false =>
                      refine iteF ⟨_, _, _, _, _, _, rfl, (hG.putv kn0 hu (by simp) nbg nlb vd vn okv rgu hvG hin ec).same gL nbg.1 nlg.1 s2⟩
                    | true =>
                      have lc := h.prs.1
                      have lp := h.lps
                      have hclG := s2 _ _ (by rw [upd_ne nlb]; exact hG.hcl : upd Hg bd (.dT (kvE (putE eo v))) cl = some (.lst (cs.map V.ref)))
                      refine iteT ⟨_, rfl, .inl ⟨rfl, _, SqL.of hclG⟩, _, rfl, _, rfl, (by show 2 ≤ sizeLine; decide), fun k3 hk3 => ?_⟩
                      have s3 := s2.trans (Same.new (o := .tup [V.int u.d, .int u.n]) hk3)
                      refine ⟨cl, _, _, rfl, rfl, s3 _ _ (by rw [upd_ne nlb]; exact hG.hcl), by rw [List.length_map]; exact Nat.lt_of_le_of_lt (by omega : cs.length ≤ 10) (by decide), ?_⟩
                      have fin := hG.putc kn0 hu (by simp) (by simp) nbg nlg nlb vd vn okv rgu hvG hin ec s3 upd_same
                      rw [List.map_append] at fin
                      exact ⟨_, _, _, _, _, _, rfl, fin⟩
                  · rw [av] at ew
                    cases ew
                · have en : (numV 0 (.int u.d) && (numV 0 (.int u.n) && true)) = true := by
                    show ((decide (0 ≤ u.d) && decide (u.d ≤ 1000000)) && ((decide (0 ≤ u.n) && decide (u.n ≤ 1000000)) && true)) = true
                    rw [decide_eq_true rgu.1, decide_eq_true (by omega : u.d ≤ 1000000), decide_eq_true rgu.2.1, decide_eq_true (by omega : u.n ≤ 1000000)]
                    rfl
                  rw [en] at e
                  cases e
              · exact ⟨_, _, _, _, _, _, rfl, (hA.move gL nbg.1 nlg.1 BB KB).stay kn m0 m1 ok2 kn0 hu⟩
            · rw [decide_eq_false hin]
              exact iteF (iteF ⟨_, _, _, _, _, _, rfl, hA.stay kn m0 m1 ok2 kn0 hu⟩)
          · rintro σ' H' ⟨o9, o10, o11, eo, cs, ps, rfl, h⟩
            rw [List.length_map, a010.1] at h
            exact ⟨_, _, _, _, _, eo, cs, ps, rfl, h⟩
        · have h := st0.move gL nbg.1 nlg.1 B11 K11
          refine ⟨_, _, _, _, _, e1, [], [], rfl, h.bag, h.kx, h.hbd, h.ent, h.ok, h.kn, h.rg, h.len, h.keys, h.hcl, h.prs, Nat.zero_le _, fun p => ⟨fun z => (by cases z), fun z => ?_⟩, fun p _ => rfl⟩
          rw [clash_none kn m0 m1 ok2 p] at z
          cases z.2
      · rintro σ' H' ⟨o4, o5, o9, o10, o11, eo, cs, ps, rfl, h⟩
        have hg10 := B10.lst.choose_spec
        have hoa' := h.kx _ _ hoa10 (notin _ (ne_of hoa10 hg10 (by intro y; cases y)) noa nA.1)
        have hod' := h.kx _ _ hod10 (notin _ (ne_of hod10 hg10 (by intro y; cases y)) nod nA.2)
        have hob' := h.kx _ _ hob10 (notin _ (ne_of hob10 hg10 (by intro y; cases y)) (ne_of hob10 hbd10 (by intro y; cases y)) nBo)
        have heq' := h.kx _ _ heq10 (notin _ neg nq.1 nq.2)
        have BA' : BookAt A.Book H' oa od e0 := ⟨⟨dxa, hoa'⟩, hod'⟩
        have BB' : BookAt A.Book H' ob bd eo := ⟨⟨dxb, hob'⟩, h.hbd⟩
        have hl := h.len
        refine ⟨_, rfl, oa, od, e0, rfl, BA', kn0, by omega, fun kp1 us1 H11 s11 hkp1 KA eu1 => ⟨_, rfl, ob, bd, eo, rfl, BB'.same s11, h.kn, by omega, fun kp2 us2 H12 s12 hkp2 KB eu2 => ⟨(by show 2 ≤ sizeLine; decide), fun kl hkl => ?_⟩⟩⟩
        have s13 := Same.new (o := .lst [V.ref kp1, .ref kp2]) hkl
        have sA := s11.trans (s12.trans s13)
        have KA13 := KA.same (s12.trans s13)
        have KB13 := KB.same s13
        have hkl13 := upd_same (H := H12) (a := kl) (o := .lst [V.ref kp1, .ref kp2])
        generalize upd H12 kl (.lst [V.ref kp1, .ref kp2]) = H13 at *
        have BA13 := BA'.same sA
        have BB13 := BB'.same sA
        have E013 : EntsAt H13 e0 := fun u hu => sA _ _ (tk h.kx _ _ (E10 u (m0 u hu)))
        have Eo13 : EntsAt H13 eo := fun u hu => sA _ _ (h.ent u hu)
        have A13 : All2 (Tri H13) ts es := A10.mono fun _ _ z => sA _ _ (tk h.kx _ _ z)
        have heq13 := sA _ _ heq'
        have cl13 := sA _ _ h.hcl
        have pr13 := h.prs.keep sA
        have ok0 : ∀ u ∈ e0, EnOk u := fun u hu => ok2 u (m0 u hu)
        have hp0 : HAp (kvE e0) := hap_kvE kn0 (near_of (rgX m0))
        have hp1 : HAp (kvE eo) := hap_kvE h.kn (near_of h.rg)
        have sp : ∀ p, p ∈ ps ↔ clashB e0 eo p = true := fun p => by
          rw [h.sp p, List.take_of_length_le (Nat.le_refl _)]
          refine ⟨fun z => z.2, fun z => ⟨?_, z⟩⟩
          obtain ⟨u, hu, e⟩ := mem_srtK.mp (clash_key z).1
          exact e ▸ mem_keys hu
        obtain ⟨okO, knO, keysO, lc⟩ := And.intro h.ok (And.intro h.kn (And.intro h.keys h.prs.1))
        have rgO := h.rg
        clear h sA s13 s11 s12 hkl hkp1 hkp2 KA KB BA' BB' BA10 BB10 A10 a010 st0 heq' hoa' hod' hob' hoa10 hod10 hob10 hbd10 heq10 hD10 h010 hg10 E10 hcl10
        dsimp only [gName, List.set]
        cases ps with
        | nil =>
          obtain rfl : cs = [] := List.length_eq_zero_iff.mp lc
          refine ⟨_, rfl, Nat.zero_le _, fun kk hkk => ⟨⟨cl, kk, [], rfl, rfl, SqL.of (Same.new hkk _ _ cl13), SqL.of upd_same, _, rfl, ?_⟩⟩⟩
          refine iteF ?_
          have sB := Same.new (o := .lst []) hkk
          generalize upd H13 kk (.lst []) = H14 at *
          clear hkk
          have nc : NoCl e0 eo := nocl_of kn0 knO ok0 okO fun p => by
            cases e : clashB e0 eo p with
            | false => rfl
            | true => cases (sp p).mpr e
          have hne := both_ne (e0 := e0) some1 hl
          have heq14 := sB _ _ heq13
          have tl : ts.length ≤ 10 := by rw [A13.1]; omega
          dsimp only [tNext, tSeq]
          refine ⟨_, rfl, _, rfl, _, rfl, _, rfl, eq, rfl, ⟨_, SqL.of heq14⟩, fun D hD => lc_sameP (K := K) (fun i y H => ∃ t u, es[i]? = some u ∧ y = .ref t ∧ H t = some (.tup [.int u.d, .int u.n])) heq14 (by rw [List.length_map]; omega) hD ?_ ?_ ?_⟩
          · rintro i y H1 H2 acc hD1 k1 ⟨t, u, hu, rfl, ht⟩
            exact ⟨t, u, hu, rfl, k1 _ _ ht (ne_of ht hD1 (by intro z; cases z))⟩
          · intro i y H6 N M hi s6 hN
            rw [List.getElem?_map] at hi
            obtain ⟨t, hti, rfl⟩ := Option.map_eq_some_iff.mp hi
            obtain ⟨u, hu, htu⟩ := A13.get hti
            have htp : H6 t = some (.tup [.int u.d, .int u.n, .ref u.e]) := s6 _ _ (sB _ _ htu)
            refine ⟨rfl, _, rfl, t, _, _, _, rfl, rfl, SqT.of htp, rfl, _, rfl, t, _, _, _, rfl, rfl, SqT.of htp, rfl, (by show 2 ≤ sizeLine; decide), fun v hv => hN _ _ (Same.new hv) ⟨v, u, hu, rfl, upd_same⟩⟩
          · intro ys H6 s6 yl hR hD6
            obtain ⟨us, rfl, A6⟩ : ∃ us : List Addr, ys = us.map V.ref ∧ All2 (fun b (z : Int × Int) => H6 b = some (.tup [.int z.1, .int z.2])) us (es.map fun u => (u.d, u.n)) := by
              refine ⟨ys.map fun v => match v with | .ref a => a | _ => 0, ?_, by rw [List.length_map, yl, List.length_map, List.length_map, A13.1], fun i u p hu hp => ?_⟩
              · rw [List.map_map]
                refine (List.map_id ys).symm.trans (List.map_congr_left fun y hy => ?_)
                obtain ⟨i, hi⟩ := List.mem_iff_getElem?.mp hy
                obtain ⟨t, _, _, rfl, _⟩ := hR i y hi
                rfl
              · rw [List.getElem?_map] at hu hp
                obtain ⟨y, hy, e⟩ := Option.map_eq_some_iff.mp hu
                obtain ⟨u2, hu2, e2⟩ := Option.map_eq_some_iff.mp hp
                obtain ⟨t, u3, hu3, rfl, htp⟩ := hR i y hy
                rw [hu2] at hu3
                cases hu3
                rw [← e, ← e2]
                exact htp
            have sC := sB.trans s6
            exact ⟨oa, od, ob, bd, e0, eo, kl, kp1, kp2, us1, us2, D, us, es.map fun u => (u.d, u.n), rfl, BA13.same sC, BB13.same sC, nod, E013.keep fun b xs h => sC _ _ h, Eo13.keep fun b xs h => sC _ _ h, ok0, okO, kn0, knO, hp0, hp1, by omega, by omega, fun u hu => by have := rgX m0 u hu; omega, fun u hu => by have := rgO u hu; omega, nc, hne, sC _ _ hkl13, KA13.same sC, eu1, KB13.same sC, eu2, hD6, A6, by rw [List.length_map]; omega, fun H' => k H'⟩
        | cons n ns =>
          have ncs : (cs.map V.ref).isEmpty = false := by
            cases cs with
            | nil => cases lc
            | cons c cs => rfl
          refine ⟨_, rfl, Nat.zero_le _, fun kk hkk => ⟨⟨cl, kk, _, rfl, rfl, SqL.of (Same.new hkk _ _ cl13), SqL.of upd_same, _, rfl, ?_⟩⟩⟩
          rw [ncs]
          refine iteT ?_
          have sB := Same.new (o := .lst []) hkk
          generalize upd H13 kk (.lst []) = H14 at *
          clear hkk
          have cl14 := sB _ _ cl13
          have pr14 := pr13.keep sB
          have pick : ∀ {m : Int × Int}, m ∈ n :: ns → (∀ y ∈ n :: ns, leK m y = true) → m ∈ srtK e0 ∧ m ∈ srtK eo ∧ clashB e0 eo m = true ∧ clashB eo e0 m = true ∧ (∀ q ∈ srtK e0, clashB e0 eo q = true → leK m q = true) ∧ ∀ q ∈ srtK eo, clashB eo e0 q = true → leK m q = true := fun {m} hm hmin => by
            have c1 := (sp m).mp hm
            have c2 := (clashC ok0 okO m).symm.trans c1
            exact ⟨(clash_key c1).1, (clash_key c1).2, c1, c2, fun q _ hq => hmin q ((sp q).mpr hq), fun q _ hq => hmin q ((sp q).mpr ((clashC ok0 okO q).trans hq))⟩
          refine ⟨_, rfl, ⟨cl, cs, n, ns, rfl, SqL.of cl14, pr14, fun c1 mA hmA hlA hc1 => ⟨c1, _, _, _, rfl, rfl, SqT.of hc1, rfl, ?_⟩⟩⟩
          refine ⟨_, rfl, ⟨cl, cs, n, ns, rfl, SqL.of cl14, pr14, fun c2 mB hmB hlB hc2 => ⟨c2, _, _, _, rfl, rfl, SqT.of hc2, rfl, (by show 3 ≤ sizeLine; decide), fun du hdu => ?_⟩⟩⟩
          have emm : mA = mB := by
            have h1 := hlA _ hmB
            have h2 := hlB _ hmA
            rw [leK_iff] at h1 h2
            exact Prod.ext (by omega) (by omega)
          subst emm
          obtain ⟨p1, p2, p3, p4, p5, p6⟩ := pick hmA hlA
          have sC := Same.new (o := .tup [V.int mA.1, .int mA.2, .bl true]) hdu
          have hduC := upd_same (H := H14) (a := du) (o := .tup [V.int mA.1, .int mA.2, .bl true])
          generalize upd H14 du (.tup [V.int mA.1, .int mA.2, .bl true]) = H15 at *
          have sD := sB.trans sC
          have bA := BA13.same sD
          have bB := BB13.same sD
          have EA := E013.keep fun b xs h => sD _ _ h
          have EB := Eo13.keep fun b xs h => sD _ _ h
          have K1 := KA13.same sD
          have K2 := KB13.same sD
          have hkl15 := sD _ _ hkl13
          clear sD sC sB hdu hc1 hc2 BA13 BB13 E013 Eo13 KA13 KB13 hkl13 pr13 pr14 cl13 cl14 A13 heq13
          have dT : ∀ {H : Hp} {t : Addr}, H t = some (.tup [.int mA.1, .int mA.2, .bl true]) → DL K H (.ref t) (.tuple [.int mA.1, .int mA.2, .bool true]) 1 := fun h => ⟨.tup (SqT.of h) (.cons (.int _) (.cons (.int _) (.cons (.bl _) .nil))), rfl, Nat.le_of_ble_eq_true rfl⟩
          dsimp only [gName, List.set, tSeq]
          refine ⟨_, rfl, _, rfl, oa, od, ob, bd, e0, eo, mA, rfl, bA, bB, EA, EB, fun u hu => (ok0 u hu).2.1, fun u hu => (okO u hu).2.1, hp0, hp1, by omega, by omega, kn0, p1, p3, p5, fun t1 H16 s16 ht1 ht1' => ⟨_, rfl, ne_dl (dT ht1') (dT (s16 _ _ hduC)) (by decide) ⟨_, rfl, iteF ?_⟩⟩⟩
          have sE := s16
          refine ⟨_, rfl, _, rfl, ob, bd, oa, od, eo, e0, mA, rfl, bB.same s16, bA.same s16, EB.keep fun b xs h => s16 _ _ h, EA.keep fun b xs h => s16 _ _ h, fun u hu => (okO u hu).2.1, fun u hu => (ok0 u hu).2.1, hp1, hp0, by omega, by omega, knO, p2, p4, p6, fun t2 H17 s17 ht2 ht2' => ⟨_, rfl, ne_dl (dT ht2') (dT ((s16.trans s17) _ _ hduC)) (by decide) ⟨_, rfl, iteF ?_⟩⟩⟩
          have sF := s16.trans s17
          dsimp only [tNext]
          refine ⟨_, rfl, oa, od, e0, rfl, bA.same sF, kn0, by omega, fun q1 vs1 H18 s18 hq1 KC ev1 => ⟨_, rfl, ob, bd, eo, rfl, bB.same (sF.trans s18), knO, by omega, fun q2 vs2 H19 s19 hq2 KD ev2 => ⟨(by show 2 ≤ sizeLine; decide), fun ql hql => ?_⟩⟩⟩
          have s20 := Same.new (o := .lst [V.ref q1, .ref q2]) hql
          have s18' := s19.trans s20
          have sG := (sF.trans s18).trans s18'
          have EA2 := EA.keep fun b xs h => sG _ _ h
          have EB2 := EB.keep fun b xs h => sG _ _ h
          exact ⟨_, rfl, eq_dl (dl_list2 upd_same (dl_keptE (KC.same s18') EA2 ok0 ev1) (dl_keptE (KD.same s20) EB2 okO ev2)) (dl_list2 (sG _ _ hkl15) (dl_keptE (K1.same sG) EA2 ok0 eu1) (dl_keptE (K2.same sG) EB2 okO eu2)) (by decide) (k _)⟩
end

theorem all_mk {l : PySem.W.OpenLaw} {w : World} {K : PySem.W.Frag} {h : Heap} {mg : Str → Option Value} {fa a_CostError a_BadEntry a_NoEntry a_Book a_m_BadEntry_init a_m_NoEntry_init a_f_is_name a_f_is_number a_f_is_entry a_m_Book_init a_m_Book_iter a_m_Book_contains a_m_Book_len a_m_Book_getitem a_m_Book_setitem a_m_Book_remove a_m_Book_places a_m_Book_named a_m_Book_lots a_m_Book_sales a_m_Book_late_costs a_m_Book_joined a_l_bag a_l_draw a_l_names a_l_pick a_l_mixed a_l_next a_l_entries a_l_book a_l_kept a_l_named a_l_lists_right a_l_clash a_l_unlike a_l_joined_right a_f_law : Addr} (X : K.In h) (G : h.Ns mainGlobals mg) (hfa : mg "law" = some (.ref fa))
    {od_m_BadEntry_init : Option Addr} {an_m_BadEntry_init : Option Addr} {sl_m_BadEntry_init : Array (Option Value)} {oc_m_BadEntry_init : Value} {kV_m_BadEntry_init : Value} {dc_m_BadEntry_init : Value} {pm_m_BadEntry_init : Value} {cd_m_BadEntry_init : Value} {ct_m_BadEntry_init : Value} {od_m_NoEntry_init : Option Addr} {an_m_NoEntry_init : Option Addr} {sl_m_NoEntry_init : Array (Option Value)} {oc_m_NoEntry_init : Value} {kV_m_NoEntry_init : Value} {dc_m_NoEntry_init : Value} {pm_m_NoEntry_init : Value} {cd_m_NoEntry_init : Value} {ct_m_NoEntry_init : Value} {od_f_is_name : Option Addr} {an_f_is_name : Option Addr} {sl_f_is_name : Array (Option Value)} {oc_f_is_name : Value} {kV_f_is_name : Value} {dc_f_is_name : Value} {pm_f_is_name : Value} {cd_f_is_name : Value} {ct_f_is_name : Value} {od_f_is_number : Option Addr} {an_f_is_number : Option Addr} {sl_f_is_number : Array (Option Value)} {oc_f_is_number : Value} {kV_f_is_number : Value} {dc_f_is_number : Value} {pm_f_is_number : Value} {cd_f_is_number : Value} {ct_f_is_number : Value} {od_f_is_entry : Option Addr} {an_f_is_entry : Option Addr} {sl_f_is_entry : Array (Option Value)} {oc_f_is_entry : Value} {kV_f_is_entry : Value} {dc_f_is_entry : Value} {pm_f_is_entry : Value} {cd_f_is_entry : Value} {ct_f_is_entry : Value} {od_m_Book_init : Option Addr} {an_m_Book_init : Option Addr} {sl_m_Book_init : Array (Option Value)} {oc_m_Book_init : Value} {kV_m_Book_init : Value} {dc_m_Book_init : Value} {pm_m_Book_init : Value} {cd_m_Book_init : Value} {ct_m_Book_init : Value} {od_m_Book_iter : Option Addr} {an_m_Book_iter : Option Addr} {sl_m_Book_iter : Array (Option Value)} {oc_m_Book_iter : Value} {kV_m_Book_iter : Value} {dc_m_Book_iter : Value} {pm_m_Book_iter : Value} {cd_m_Book_iter : Value} {ct_m_Book_iter : Value} {od_m_Book_contains : Option Addr} {an_m_Book_contains : Option Addr} {sl_m_Book_contains : Array (Option Value)} {oc_m_Book_contains : Value} {kV_m_Book_contains : Value} {dc_m_Book_contains : Value} {pm_m_Book_contains : Value} {cd_m_Book_contains : Value} {ct_m_Book_contains : Value} {od_m_Book_len : Option Addr} {an_m_Book_len : Option Addr} {sl_m_Book_len : Array (Option Value)} {oc_m_Book_len : Value} {kV_m_Book_len : Value} {dc_m_Book_len : Value} {pm_m_Book_len : Value} {cd_m_Book_len : Value} {ct_m_Book_len : Value} {od_m_Book_getitem : Option Addr} {an_m_Book_getitem : Option Addr} {sl_m_Book_getitem : Array (Option Value)} {oc_m_Book_getitem : Value} {kV_m_Book_getitem : Value} {dc_m_Book_getitem : Value} {pm_m_Book_getitem : Value} {cd_m_Book_getitem : Value} {ct_m_Book_getitem : Value} {od_m_Book_setitem : Option Addr} {an_m_Book_setitem : Option Addr} {sl_m_Book_setitem : Array (Option Value)} {oc_m_Book_setitem : Value} {kV_m_Book_setitem : Value} {dc_m_Book_setitem : Value} {pm_m_Book_setitem : Value} {cd_m_Book_setitem : Value} {ct_m_Book_setitem : Value} {od_m_Book_remove : Option Addr} {an_m_Book_remove : Option Addr} {sl_m_Book_remove : Array (Option Value)} {oc_m_Book_remove : Value} {kV_m_Book_remove : Value} {dc_m_Book_remove : Value} {pm_m_Book_remove : Value} {cd_m_Book_remove : Value} {ct_m_Book_remove : Value} {od_m_Book_places : Option Addr} {an_m_Book_places : Option Addr} {sl_m_Book_places : Array (Option Value)} {oc_m_Book_places : Value} {kV_m_Book_places : Value} {dc_m_Book_places : Value} {pm_m_Book_places : Value} {cd_m_Book_places : Value} {ct_m_Book_places : Value} {od_m_Book_named : Option Addr} {an_m_Book_named : Option Addr} {sl_m_Book_named : Array (Option Value)} {oc_m_Book_named : Value} {kV_m_Book_named : Value} {dc_m_Book_named : Value} {pm_m_Book_named : Value} {cd_m_Book_named : Value} {ct_m_Book_named : Value} {od_m_Book_lots : Option Addr} {an_m_Book_lots : Option Addr} {sl_m_Book_lots : Array (Option Value)} {oc_m_Book_lots : Value} {kV_m_Book_lots : Value} {dc_m_Book_lots : Value} {pm_m_Book_lots : Value} {cd_m_Book_lots : Value} {ct_m_Book_lots : Value} {od_m_Book_sales : Option Addr} {an_m_Book_sales : Option Addr} {sl_m_Book_sales : Array (Option Value)} {oc_m_Book_sales : Value} {kV_m_Book_sales : Value} {dc_m_Book_sales : Value} {pm_m_Book_sales : Value} {cd_m_Book_sales : Value} {ct_m_Book_sales : Value} {od_m_Book_late_costs : Option Addr} {an_m_Book_late_costs : Option Addr} {sl_m_Book_late_costs : Array (Option Value)} {oc_m_Book_late_costs : Value} {kV_m_Book_late_costs : Value} {dc_m_Book_late_costs : Value} {pm_m_Book_late_costs : Value} {cd_m_Book_late_costs : Value} {ct_m_Book_late_costs : Value} {od_m_Book_joined : Option Addr} {an_m_Book_joined : Option Addr} {sl_m_Book_joined : Array (Option Value)} {oc_m_Book_joined : Value} {kV_m_Book_joined : Value} {dc_m_Book_joined : Value} {pm_m_Book_joined : Value} {cd_m_Book_joined : Value} {ct_m_Book_joined : Value} {od_l_bag : Option Addr} {an_l_bag : Option Addr} {sl_l_bag : Array (Option Value)} {oc_l_bag : Value} {kV_l_bag : Value} {dc_l_bag : Value} {pm_l_bag : Value} {cd_l_bag : Value} {ct_l_bag : Value} {od_l_draw : Option Addr} {an_l_draw : Option Addr} {sl_l_draw : Array (Option Value)} {oc_l_draw : Value} {kV_l_draw : Value} {dc_l_draw : Value} {pm_l_draw : Value} {cd_l_draw : Value} {ct_l_draw : Value} {od_l_names : Option Addr} {an_l_names : Option Addr} {sl_l_names : Array (Option Value)} {oc_l_names : Value} {kV_l_names : Value} {dc_l_names : Value} {pm_l_names : Value} {cd_l_names : Value} {ct_l_names : Value} {od_l_pick : Option Addr} {an_l_pick : Option Addr} {sl_l_pick : Array (Option Value)} {oc_l_pick : Value} {kV_l_pick : Value} {dc_l_pick : Value} {pm_l_pick : Value} {cd_l_pick : Value} {ct_l_pick : Value} {od_l_mixed : Option Addr} {an_l_mixed : Option Addr} {sl_l_mixed : Array (Option Value)} {oc_l_mixed : Value} {kV_l_mixed : Value} {dc_l_mixed : Value} {pm_l_mixed : Value} {cd_l_mixed : Value} {ct_l_mixed : Value} {od_l_next : Option Addr} {an_l_next : Option Addr} {sl_l_next : Array (Option Value)} {oc_l_next : Value} {kV_l_next : Value} {dc_l_next : Value} {pm_l_next : Value} {cd_l_next : Value} {ct_l_next : Value} {od_l_entries : Option Addr} {an_l_entries : Option Addr} {sl_l_entries : Array (Option Value)} {oc_l_entries : Value} {kV_l_entries : Value} {dc_l_entries : Value} {pm_l_entries : Value} {cd_l_entries : Value} {ct_l_entries : Value} {od_l_book : Option Addr} {an_l_book : Option Addr} {sl_l_book : Array (Option Value)} {oc_l_book : Value} {kV_l_book : Value} {dc_l_book : Value} {pm_l_book : Value} {cd_l_book : Value} {ct_l_book : Value} {od_l_kept : Option Addr} {an_l_kept : Option Addr} {sl_l_kept : Array (Option Value)} {oc_l_kept : Value} {kV_l_kept : Value} {dc_l_kept : Value} {pm_l_kept : Value} {cd_l_kept : Value} {ct_l_kept : Value} {od_l_named : Option Addr} {an_l_named : Option Addr} {sl_l_named : Array (Option Value)} {oc_l_named : Value} {kV_l_named : Value} {dc_l_named : Value} {pm_l_named : Value} {cd_l_named : Value} {ct_l_named : Value} {od_l_lists_right : Option Addr} {an_l_lists_right : Option Addr} {sl_l_lists_right : Array (Option Value)} {oc_l_lists_right : Value} {kV_l_lists_right : Value} {dc_l_lists_right : Value} {pm_l_lists_right : Value} {cd_l_lists_right : Value} {ct_l_lists_right : Value} {od_l_clash : Option Addr} {an_l_clash : Option Addr} {sl_l_clash : Array (Option Value)} {oc_l_clash : Value} {kV_l_clash : Value} {dc_l_clash : Value} {pm_l_clash : Value} {cd_l_clash : Value} {ct_l_clash : Value} {od_l_unlike : Option Addr} {an_l_unlike : Option Addr} {sl_l_unlike : Array (Option Value)} {oc_l_unlike : Value} {kV_l_unlike : Value} {dc_l_unlike : Value} {pm_l_unlike : Value} {cd_l_unlike : Value} {ct_l_unlike : Value} {od_l_joined_right : Option Addr} {an_l_joined_right : Option Addr} {sl_l_joined_right : Array (Option Value)} {oc_l_joined_right : Value} {kV_l_joined_right : Value} {dc_l_joined_right : Value} {pm_l_joined_right : Value} {cd_l_joined_right : Value} {ct_l_joined_right : Value} {od_f_law : Option Addr} {an_f_law : Option Addr} {sl_f_law : Array (Option Value)} {oc_f_law : Value} {kV_f_law : Value} {dc_f_law : Value} {pm_f_law : Value} {cd_f_law : Value} {ct_f_law : Value} {xnm_BadEntry : Str} {xq_BadEntry : Str} {xN_BadEntry : Addr} {xbs_BadEntry : List Value} {xbm_BadEntry : List Value} {xsn_BadEntry : List Str} {xsub_BadEntry : List Value} {xab_BadEntry : Bool} {xcol_BadEntry : Option Bool} {xdd_BadEntry : Option Addr} {xk0_BadEntry : Option Value} {xk1_BadEntry : Option Value} {xk2_BadEntry : Option Value} {xk3_BadEntry : Option Value} {xk5_BadEntry : Option Value} {xnm_NoEntry : Str} {xq_NoEntry : Str} {xN_NoEntry : Addr} {xbs_NoEntry : List Value} {xbm_NoEntry : List Value} {xsn_NoEntry : List Str} {xsub_NoEntry : List Value} {xab_NoEntry : Bool} {xcol_NoEntry : Option Bool} {xdd_NoEntry : Option Addr} {xk0_NoEntry : Option Value} {xk1_NoEntry : Option Value} {xk2_NoEntry : Option Value} {xk3_NoEntry : Option Value} {xk5_NoEntry : Option Value} {gt_LETTERS : Tok} {gt_LONGEST : Tok} {gt_MOST : Tok}
    (pz_TypeError : PySem.W.nsIn K mainGlobals "TypeError" = some none)
    (pz_abs : PySem.W.nsIn K mainGlobals "abs" = some none)
    (pz_all : PySem.W.nsIn K mainGlobals "all" = some none)
    (pz_bool : PySem.W.nsIn K mainGlobals "bool" = some none)
    (pz_int : PySem.W.nsIn K mainGlobals "int" = some none)
    (pz_isinstance : PySem.W.nsIn K mainGlobals "isinstance" = some none)
    (pz_len : PySem.W.nsIn K mainGlobals "len" = some none)
    (pz_list : PySem.W.nsIn K mainGlobals "list" = some none)
    (pz_min : PySem.W.nsIn K mainGlobals "min" = some none)
    (pz_range : PySem.W.nsIn K mainGlobals "range" = some none)
    (pz_sorted : PySem.W.nsIn K mainGlobals "sorted" = some none)
    (pz_str : PySem.W.nsIn K mainGlobals "str" = some none)
    (pz_tuple : PySem.W.nsIn K mainGlobals "tuple" = some none)
    (pg_CostError : PySem.W.nsIn K mainGlobals "CostError" = some (some (.ref a_CostError)))
    (pek_CostError : PySem.W.keepIn K (.ref a_CostError) = true)
    (peb_CostError : PySem.W.subIn K (.ref a_CostError) (.type "BaseException") = some true)
    (pet_CostError : PySem.W.typeIn K (.ref a_CostError) = some (.type "type"))
    (peh_CostError : PySem.W.hasDictIn K a_CostError = true)
    (peic_CostError : PySem.W.isClsIn K a_CostError = true)
    (pes_CostError : PySem.W.subIn K (.ref a_CostError) (.ref a_CostError) = some true)
    (pxg_CostError : PySem.W.findIn K (.ref a_CostError) "__getattribute__" = some (some (.builtin "BaseException.__getattribute__")))
    (pxk_CostError : PySem.W.findIn K (.ref a_CostError) "__getattr__" = some none)
    (pxa_CostError : PySem.W.findIn K (.ref a_CostError) "__class__" = some (some (.builtin "object.__class__")))
    (pxn_CostError : PySem.W.specialIn K (.builtin "object.__class__") "__get__" = some (some (.builtin "getset_descriptor.__get__")))
    (pxt_CostError : PySem.W.takesIn K (.builtin "object.__class__") = some true)
    (pxm_CostError : PySem.W.mroIn K a_CostError (.type "object") = some true)
    (prd_CostError : PySem.W.readsIn K a_CostError (.type "type") = true)
    (pcg_CostError : PySem.W.specialIn K (.ref a_CostError) "__getattribute__" = some (some (.builtin "type.__getattribute__")))
    (pvi_CostError : PySem.W.findCls K (.ref a_CostError) (.type "type") "__init__" = some (.val (.builtin "ValueError.__init__")))
    (pg_BadEntry : PySem.W.nsIn K mainGlobals "BadEntry" = some (some (.ref a_BadEntry)))
    (pek_BadEntry : PySem.W.keepIn K (.ref a_BadEntry) = true)
    (peb_BadEntry : PySem.W.subIn K (.ref a_BadEntry) (.type "BaseException") = some true)
    (pet_BadEntry : PySem.W.typeIn K (.ref a_BadEntry) = some (.type "type"))
    (peh_BadEntry : PySem.W.hasDictIn K a_BadEntry = true)
    (peic_BadEntry : PySem.W.isClsIn K a_BadEntry = true)
    (pes_BadEntry : PySem.W.subIn K (.ref a_BadEntry) (.ref a_BadEntry) = some true)
    (pxg_BadEntry : PySem.W.findIn K (.ref a_BadEntry) "__getattribute__" = some (some (.builtin "BaseException.__getattribute__")))
    (pxk_BadEntry : PySem.W.findIn K (.ref a_BadEntry) "__getattr__" = some none)
    (pxa_BadEntry : PySem.W.findIn K (.ref a_BadEntry) "__class__" = some (some (.builtin "object.__class__")))
    (pxn_BadEntry : PySem.W.specialIn K (.builtin "object.__class__") "__get__" = some (some (.builtin "getset_descriptor.__get__")))
    (pxt_BadEntry : PySem.W.takesIn K (.builtin "object.__class__") = some true)
    (pxm_BadEntry : PySem.W.mroIn K a_BadEntry (.type "object") = some true)
    (pxc_BadEntry : PySem.W.kitOne K (.ref a_BadEntry) (.ref a_CostError) = some true)
    (pn_BadEntry_day : PySem.W.findIn K (.ref a_BadEntry) "day" = some none)
    (pn_BadEntry_number : PySem.W.findIn K (.ref a_BadEntry) "number" = some none)
    (poi_BadEntry : PySem.W.findIn K (.ref a_BadEntry) "__init__" = some (some (.ref a_m_BadEntry_init)))
    (pot_BadEntry : PySem.W.typeIn K (.ref a_m_BadEntry_init) = some (.type "function"))
    (pol_BadEntry : K.lookup a_BadEntry = some (excClassObj xnm_BadEntry xq_BadEntry a_BadEntry xN_BadEntry xbs_BadEntry xbm_BadEntry true xsn_BadEntry xsub_BadEntry xab_BadEntry xcol_BadEntry xdd_BadEntry xk0_BadEntry xk1_BadEntry xk2_BadEntry xk3_BadEntry xk5_BadEntry "ValueError.__new__"))
    (pov_BadEntry : PySem.HandSPX.refsVE xbm_BadEntry = true)
    (posa_BadEntry : PySem.W.findIn K (.ref a_BadEntry) "__setattr__" = some (some (.builtin "object.__setattr__")))
    (pg_NoEntry : PySem.W.nsIn K mainGlobals "NoEntry" = some (some (.ref a_NoEntry)))
    (pek_NoEntry : PySem.W.keepIn K (.ref a_NoEntry) = true)
    (peb_NoEntry : PySem.W.subIn K (.ref a_NoEntry) (.type "BaseException") = some true)
    (pet_NoEntry : PySem.W.typeIn K (.ref a_NoEntry) = some (.type "type"))
    (peh_NoEntry : PySem.W.hasDictIn K a_NoEntry = true)
    (peic_NoEntry : PySem.W.isClsIn K a_NoEntry = true)
    (pes_NoEntry : PySem.W.subIn K (.ref a_NoEntry) (.ref a_NoEntry) = some true)
    (pxg_NoEntry : PySem.W.findIn K (.ref a_NoEntry) "__getattribute__" = some (some (.builtin "BaseException.__getattribute__")))
    (pxk_NoEntry : PySem.W.findIn K (.ref a_NoEntry) "__getattr__" = some none)
    (pxa_NoEntry : PySem.W.findIn K (.ref a_NoEntry) "__class__" = some (some (.builtin "object.__class__")))
    (pxn_NoEntry : PySem.W.specialIn K (.builtin "object.__class__") "__get__" = some (some (.builtin "getset_descriptor.__get__")))
    (pxt_NoEntry : PySem.W.takesIn K (.builtin "object.__class__") = some true)
    (pxm_NoEntry : PySem.W.mroIn K a_NoEntry (.type "object") = some true)
    (pn_NoEntry_day : PySem.W.findIn K (.ref a_NoEntry) "day" = some none)
    (pn_NoEntry_number : PySem.W.findIn K (.ref a_NoEntry) "number" = some none)
    (poi_NoEntry : PySem.W.findIn K (.ref a_NoEntry) "__init__" = some (some (.ref a_m_NoEntry_init)))
    (pot_NoEntry : PySem.W.typeIn K (.ref a_m_NoEntry_init) = some (.type "function"))
    (pol_NoEntry : K.lookup a_NoEntry = some (excClassObj xnm_NoEntry xq_NoEntry a_NoEntry xN_NoEntry xbs_NoEntry xbm_NoEntry true xsn_NoEntry xsub_NoEntry xab_NoEntry xcol_NoEntry xdd_NoEntry xk0_NoEntry xk1_NoEntry xk2_NoEntry xk3_NoEntry xk5_NoEntry "ValueError.__new__"))
    (pov_NoEntry : PySem.HandSPX.refsVE xbm_NoEntry = true)
    (posa_NoEntry : PySem.W.findIn K (.ref a_NoEntry) "__setattr__" = some (some (.builtin "object.__setattr__")))
    (pg_Book : PySem.W.nsIn K mainGlobals "Book" = some (some (.ref a_Book)))
    (ppg_Book : PySem.W.plainGet K a_Book Str.empty = true)
    (phd_Book : PySem.W.hasDictIn K a_Book = true)
    (ppo_Book : PySem.W.plainOver K a_Book = true)
    (psa_Book : PySem.W.findIn K (.ref a_Book) "__setattr__" = some (some (.builtin "object.__setattr__")))
    (pn_Book_entries : NoAttr K a_Book "entries")
    (pma_Book : PySem.W.makesIn K a_Book = true)
    (pmi_Book : PySem.W.findIn K (.ref a_Book) "__init__" = some (some (.ref a_m_Book_init)))
    (pmf_Book : PySem.W.isFn K (.ref a_m_Book_init) = true)
    (pmc_Book : PySem.W.keepIn K (.ref a_Book) = true)
    (pmt_m_Book_iter : PySem.W.findIn K (.ref a_Book) "__iter__" = some (some (.ref a_m_Book_iter)))
    (pmn_m_Book_iter : PySem.W.isFn K (.ref a_m_Book_iter) = true)
    (pmk_m_Book_iter : PySem.W.keepIn K (.ref a_m_Book_iter) = true)
    (pmt_m_Book_contains : PySem.W.findIn K (.ref a_Book) "__contains__" = some (some (.ref a_m_Book_contains)))
    (pmn_m_Book_contains : PySem.W.isFn K (.ref a_m_Book_contains) = true)
    (pmk_m_Book_contains : PySem.W.keepIn K (.ref a_m_Book_contains) = true)
    (pmt_m_Book_len : PySem.W.findIn K (.ref a_Book) "__len__" = some (some (.ref a_m_Book_len)))
    (pmn_m_Book_len : PySem.W.isFn K (.ref a_m_Book_len) = true)
    (pmk_m_Book_len : PySem.W.keepIn K (.ref a_m_Book_len) = true)
    (pmt_m_Book_getitem : PySem.W.findIn K (.ref a_Book) "__getitem__" = some (some (.ref a_m_Book_getitem)))
    (pmn_m_Book_getitem : PySem.W.isFn K (.ref a_m_Book_getitem) = true)
    (pmk_m_Book_getitem : PySem.W.keepIn K (.ref a_m_Book_getitem) = true)
    (pmt_m_Book_setitem : PySem.W.findIn K (.ref a_Book) "__setitem__" = some (some (.ref a_m_Book_setitem)))
    (pmn_m_Book_setitem : PySem.W.isFn K (.ref a_m_Book_setitem) = true)
    (pmk_m_Book_setitem : PySem.W.keepIn K (.ref a_m_Book_setitem) = true)
    (pmt_m_Book_remove : PySem.W.findIn K (.ref a_Book) "remove" = some (some (.ref a_m_Book_remove)))
    (pmn_m_Book_remove : PySem.W.isFn K (.ref a_m_Book_remove) = true)
    (pmk_m_Book_remove : PySem.W.keepIn K (.ref a_m_Book_remove) = true)
    (pmt_m_Book_places : PySem.W.findIn K (.ref a_Book) "places" = some (some (.ref a_m_Book_places)))
    (pmn_m_Book_places : PySem.W.isFn K (.ref a_m_Book_places) = true)
    (pmk_m_Book_places : PySem.W.keepIn K (.ref a_m_Book_places) = true)
    (pmt_m_Book_named : PySem.W.findIn K (.ref a_Book) "named" = some (some (.ref a_m_Book_named)))
    (pmn_m_Book_named : PySem.W.isFn K (.ref a_m_Book_named) = true)
    (pmk_m_Book_named : PySem.W.keepIn K (.ref a_m_Book_named) = true)
    (pmt_m_Book_lots : PySem.W.findIn K (.ref a_Book) "lots" = some (some (.ref a_m_Book_lots)))
    (pmn_m_Book_lots : PySem.W.isFn K (.ref a_m_Book_lots) = true)
    (pmk_m_Book_lots : PySem.W.keepIn K (.ref a_m_Book_lots) = true)
    (pmt_m_Book_sales : PySem.W.findIn K (.ref a_Book) "sales" = some (some (.ref a_m_Book_sales)))
    (pmn_m_Book_sales : PySem.W.isFn K (.ref a_m_Book_sales) = true)
    (pmk_m_Book_sales : PySem.W.keepIn K (.ref a_m_Book_sales) = true)
    (pmt_m_Book_late_costs : PySem.W.findIn K (.ref a_Book) "late_costs" = some (some (.ref a_m_Book_late_costs)))
    (pmn_m_Book_late_costs : PySem.W.isFn K (.ref a_m_Book_late_costs) = true)
    (pmk_m_Book_late_costs : PySem.W.keepIn K (.ref a_m_Book_late_costs) = true)
    (pmt_m_Book_joined : PySem.W.findIn K (.ref a_Book) "joined" = some (some (.ref a_m_Book_joined)))
    (pmn_m_Book_joined : PySem.W.isFn K (.ref a_m_Book_joined) = true)
    (pmk_m_Book_joined : PySem.W.keepIn K (.ref a_m_Book_joined) = true)
    (pfgi_Book : PySem.W.fnIn K a_m_Book_getitem = true)
    (pnsq_Book : PySem.W.noSeq K a_Book = true)
    (pg_LETTERS : PySem.W.nsIn K mainGlobals "LETTERS" = some (some (.str "abcdefghijklmnopqrstuvwxyz" gt_LETTERS)))
    (pg_LONGEST : PySem.W.nsIn K mainGlobals "LONGEST" = some (some (.int 12 gt_LONGEST)))
    (pg_MOST : PySem.W.nsIn K mainGlobals "MOST" = some (some (.int 1000000 gt_MOST)))
    (pe_m_BadEntry_init : PySem.W.findIn K (.ref a_BadEntry) "__init__" = some (some (.ref a_m_BadEntry_init)))
    (pl_m_BadEntry_init : K.lookup a_m_BadEntry_init = some ⟨oc_m_BadEntry_init, od_m_BadEntry_init, .func (PySem.W.fnOf "__init__" "BadEntry.__init__" (defArgs s_m_BadEntry_init) (defBody s_m_BadEntry_init) (defScope s_m_BadEntry_init) .none kV_m_BadEntry_init dc_m_BadEntry_init pm_m_BadEntry_init an_m_BadEntry_init cd_m_BadEntry_init ct_m_BadEntry_init), sl_m_BadEntry_init⟩)
    (pc_m_BadEntry_init : PySem.W.codeIn K cd_m_BadEntry_init "BadEntry.__init__" = true)
    (pq_m_BadEntry_init : PySem.W.keepIn K (.ref a_m_BadEntry_init) = true)
    (pe_m_NoEntry_init : PySem.W.findIn K (.ref a_NoEntry) "__init__" = some (some (.ref a_m_NoEntry_init)))
    (pl_m_NoEntry_init : K.lookup a_m_NoEntry_init = some ⟨oc_m_NoEntry_init, od_m_NoEntry_init, .func (PySem.W.fnOf "__init__" "NoEntry.__init__" (defArgs s_m_NoEntry_init) (defBody s_m_NoEntry_init) (defScope s_m_NoEntry_init) .none kV_m_NoEntry_init dc_m_NoEntry_init pm_m_NoEntry_init an_m_NoEntry_init cd_m_NoEntry_init ct_m_NoEntry_init), sl_m_NoEntry_init⟩)
    (pc_m_NoEntry_init : PySem.W.codeIn K cd_m_NoEntry_init "NoEntry.__init__" = true)
    (pq_m_NoEntry_init : PySem.W.keepIn K (.ref a_m_NoEntry_init) = true)
    (pa_f_is_name : PySem.W.nsIn K mainGlobals "is_name" = some (some (.ref a_f_is_name)))
    (pl_f_is_name : K.lookup a_f_is_name = some ⟨oc_f_is_name, od_f_is_name, .func (PySem.W.fnOf "is_name" "is_name" (defArgs s_f_is_name) (defBody s_f_is_name) (defScope s_f_is_name) .none kV_f_is_name dc_f_is_name pm_f_is_name an_f_is_name cd_f_is_name ct_f_is_name), sl_f_is_name⟩)
    (pc_f_is_name : PySem.W.codeIn K cd_f_is_name "is_name" = true)
    (pq_f_is_name : PySem.W.keepIn K (.ref a_f_is_name) = true)
    (pa_f_is_number : PySem.W.nsIn K mainGlobals "is_number" = some (some (.ref a_f_is_number)))
    (pl_f_is_number : K.lookup a_f_is_number = some ⟨oc_f_is_number, od_f_is_number, .func (PySem.W.fnOf "is_number" "is_number" (defArgs s_f_is_number) (defBody s_f_is_number) (defScope s_f_is_number) .none kV_f_is_number dc_f_is_number pm_f_is_number an_f_is_number cd_f_is_number ct_f_is_number), sl_f_is_number⟩)
    (pc_f_is_number : PySem.W.codeIn K cd_f_is_number "is_number" = true)
    (pq_f_is_number : PySem.W.keepIn K (.ref a_f_is_number) = true)
    (pa_f_is_entry : PySem.W.nsIn K mainGlobals "is_entry" = some (some (.ref a_f_is_entry)))
    (pl_f_is_entry : K.lookup a_f_is_entry = some ⟨oc_f_is_entry, od_f_is_entry, .func (PySem.W.fnOf "is_entry" "is_entry" (defArgs s_f_is_entry) (defBody s_f_is_entry) (defScope s_f_is_entry) .none kV_f_is_entry dc_f_is_entry pm_f_is_entry an_f_is_entry cd_f_is_entry ct_f_is_entry), sl_f_is_entry⟩)
    (pc_f_is_entry : PySem.W.codeIn K cd_f_is_entry "is_entry" = true)
    (pq_f_is_entry : PySem.W.keepIn K (.ref a_f_is_entry) = true)
    (pl_m_Book_init : K.lookup a_m_Book_init = some ⟨oc_m_Book_init, od_m_Book_init, .func (PySem.W.fnOf "__init__" "Book.__init__" (defArgs s_m_Book_init) (defBody s_m_Book_init) (defScope s_m_Book_init) .none kV_m_Book_init dc_m_Book_init pm_m_Book_init an_m_Book_init cd_m_Book_init ct_m_Book_init), sl_m_Book_init⟩)
    (pc_m_Book_init : PySem.W.codeIn K cd_m_Book_init "Book.__init__" = true)
    (pq_m_Book_init : PySem.W.keepIn K (.ref a_m_Book_init) = true)
    (pl_m_Book_iter : K.lookup a_m_Book_iter = some ⟨oc_m_Book_iter, od_m_Book_iter, .func (PySem.W.fnOf "__iter__" "Book.__iter__" (defArgs s_m_Book_iter) (defBody s_m_Book_iter) (defScope s_m_Book_iter) .none kV_m_Book_iter dc_m_Book_iter pm_m_Book_iter an_m_Book_iter cd_m_Book_iter ct_m_Book_iter), sl_m_Book_iter⟩)
    (pc_m_Book_iter : PySem.W.codeIn K cd_m_Book_iter "Book.__iter__" = true)
    (pq_m_Book_iter : PySem.W.keepIn K (.ref a_m_Book_iter) = true)
    (pl_m_Book_contains : K.lookup a_m_Book_contains = some ⟨oc_m_Book_contains, od_m_Book_contains, .func (PySem.W.fnOf "__contains__" "Book.__contains__" (defArgs s_m_Book_contains) (defBody s_m_Book_contains) (defScope s_m_Book_contains) .none kV_m_Book_contains dc_m_Book_contains pm_m_Book_contains an_m_Book_contains cd_m_Book_contains ct_m_Book_contains), sl_m_Book_contains⟩)
    (pc_m_Book_contains : PySem.W.codeIn K cd_m_Book_contains "Book.__contains__" = true)
    (pq_m_Book_contains : PySem.W.keepIn K (.ref a_m_Book_contains) = true)
    (pl_m_Book_len : K.lookup a_m_Book_len = some ⟨oc_m_Book_len, od_m_Book_len, .func (PySem.W.fnOf "__len__" "Book.__len__" (defArgs s_m_Book_len) (defBody s_m_Book_len) (defScope s_m_Book_len) .none kV_m_Book_len dc_m_Book_len pm_m_Book_len an_m_Book_len cd_m_Book_len ct_m_Book_len), sl_m_Book_len⟩)
    (pc_m_Book_len : PySem.W.codeIn K cd_m_Book_len "Book.__len__" = true)
    (pq_m_Book_len : PySem.W.keepIn K (.ref a_m_Book_len) = true)
    (pl_m_Book_getitem : K.lookup a_m_Book_getitem = some ⟨oc_m_Book_getitem, od_m_Book_getitem, .func (PySem.W.fnOf "__getitem__" "Book.__getitem__" (defArgs s_m_Book_getitem) (defBody s_m_Book_getitem) (defScope s_m_Book_getitem) .none kV_m_Book_getitem dc_m_Book_getitem pm_m_Book_getitem an_m_Book_getitem cd_m_Book_getitem ct_m_Book_getitem), sl_m_Book_getitem⟩)
    (pc_m_Book_getitem : PySem.W.codeIn K cd_m_Book_getitem "Book.__getitem__" = true)
    (pq_m_Book_getitem : PySem.W.keepIn K (.ref a_m_Book_getitem) = true)
    (pl_m_Book_setitem : K.lookup a_m_Book_setitem = some ⟨oc_m_Book_setitem, od_m_Book_setitem, .func (PySem.W.fnOf "__setitem__" "Book.__setitem__" (defArgs s_m_Book_setitem) (defBody s_m_Book_setitem) (defScope s_m_Book_setitem) .none kV_m_Book_setitem dc_m_Book_setitem pm_m_Book_setitem an_m_Book_setitem cd_m_Book_setitem ct_m_Book_setitem), sl_m_Book_setitem⟩)
    (pc_m_Book_setitem : PySem.W.codeIn K cd_m_Book_setitem "Book.__setitem__" = true)
    (pq_m_Book_setitem : PySem.W.keepIn K (.ref a_m_Book_setitem) = true)
    (pl_m_Book_remove : K.lookup a_m_Book_remove = some ⟨oc_m_Book_remove, od_m_Book_remove, .func (PySem.W.fnOf "remove" "Book.remove" (defArgs s_m_Book_remove) (defBody s_m_Book_remove) (defScope s_m_Book_remove) .none kV_m_Book_remove dc_m_Book_remove pm_m_Book_remove an_m_Book_remove cd_m_Book_remove ct_m_Book_remove), sl_m_Book_remove⟩)
    (pc_m_Book_remove : PySem.W.codeIn K cd_m_Book_remove "Book.remove" = true)
    (pq_m_Book_remove : PySem.W.keepIn K (.ref a_m_Book_remove) = true)
    (pl_m_Book_places : K.lookup a_m_Book_places = some ⟨oc_m_Book_places, od_m_Book_places, .func (PySem.W.fnOf "places" "Book.places" (defArgs s_m_Book_places) (defBody s_m_Book_places) (defScope s_m_Book_places) .none kV_m_Book_places dc_m_Book_places pm_m_Book_places an_m_Book_places cd_m_Book_places ct_m_Book_places), sl_m_Book_places⟩)
    (pc_m_Book_places : PySem.W.codeIn K cd_m_Book_places "Book.places" = true)
    (pq_m_Book_places : PySem.W.keepIn K (.ref a_m_Book_places) = true)
    (pl_m_Book_named : K.lookup a_m_Book_named = some ⟨oc_m_Book_named, od_m_Book_named, .func (PySem.W.fnOf "named" "Book.named" (defArgs s_m_Book_named) (defBody s_m_Book_named) (defScope s_m_Book_named) .none kV_m_Book_named dc_m_Book_named pm_m_Book_named an_m_Book_named cd_m_Book_named ct_m_Book_named), sl_m_Book_named⟩)
    (pc_m_Book_named : PySem.W.codeIn K cd_m_Book_named "Book.named" = true)
    (pq_m_Book_named : PySem.W.keepIn K (.ref a_m_Book_named) = true)
    (pl_m_Book_lots : K.lookup a_m_Book_lots = some ⟨oc_m_Book_lots, od_m_Book_lots, .func (PySem.W.fnOf "lots" "Book.lots" (defArgs s_m_Book_lots) (defBody s_m_Book_lots) (defScope s_m_Book_lots) .none kV_m_Book_lots dc_m_Book_lots pm_m_Book_lots an_m_Book_lots cd_m_Book_lots ct_m_Book_lots), sl_m_Book_lots⟩)
    (pc_m_Book_lots : PySem.W.codeIn K cd_m_Book_lots "Book.lots" = true)
    (pq_m_Book_lots : PySem.W.keepIn K (.ref a_m_Book_lots) = true)
    (pl_m_Book_sales : K.lookup a_m_Book_sales = some ⟨oc_m_Book_sales, od_m_Book_sales, .func (PySem.W.fnOf "sales" "Book.sales" (defArgs s_m_Book_sales) (defBody s_m_Book_sales) (defScope s_m_Book_sales) .none kV_m_Book_sales dc_m_Book_sales pm_m_Book_sales an_m_Book_sales cd_m_Book_sales ct_m_Book_sales), sl_m_Book_sales⟩)
    (pc_m_Book_sales : PySem.W.codeIn K cd_m_Book_sales "Book.sales" = true)
    (pq_m_Book_sales : PySem.W.keepIn K (.ref a_m_Book_sales) = true)
    (pl_m_Book_late_costs : K.lookup a_m_Book_late_costs = some ⟨oc_m_Book_late_costs, od_m_Book_late_costs, .func (PySem.W.fnOf "late_costs" "Book.late_costs" (defArgs s_m_Book_late_costs) (defBody s_m_Book_late_costs) (defScope s_m_Book_late_costs) .none kV_m_Book_late_costs dc_m_Book_late_costs pm_m_Book_late_costs an_m_Book_late_costs cd_m_Book_late_costs ct_m_Book_late_costs), sl_m_Book_late_costs⟩)
    (pc_m_Book_late_costs : PySem.W.codeIn K cd_m_Book_late_costs "Book.late_costs" = true)
    (pq_m_Book_late_costs : PySem.W.keepIn K (.ref a_m_Book_late_costs) = true)
    (pl_m_Book_joined : K.lookup a_m_Book_joined = some ⟨oc_m_Book_joined, od_m_Book_joined, .func (PySem.W.fnOf "joined" "Book.joined" (defArgs s_m_Book_joined) (defBody s_m_Book_joined) (defScope s_m_Book_joined) .none kV_m_Book_joined dc_m_Book_joined pm_m_Book_joined an_m_Book_joined cd_m_Book_joined ct_m_Book_joined), sl_m_Book_joined⟩)
    (pc_m_Book_joined : PySem.W.codeIn K cd_m_Book_joined "Book.joined" = true)
    (pq_m_Book_joined : PySem.W.keepIn K (.ref a_m_Book_joined) = true)
    (pa_l_bag : PySem.W.nsIn K mainGlobals "_law_bag" = some (some (.ref a_l_bag)))
    (pl_l_bag : K.lookup a_l_bag = some ⟨oc_l_bag, od_l_bag, .func (PySem.W.fnOf "_law_bag" "_law_bag" (defArgs s_l_bag) (defBody s_l_bag) (defScope s_l_bag) .none kV_l_bag dc_l_bag pm_l_bag an_l_bag cd_l_bag ct_l_bag), sl_l_bag⟩)
    (pc_l_bag : PySem.W.codeIn K cd_l_bag "_law_bag" = true)
    (pq_l_bag : PySem.W.keepIn K (.ref a_l_bag) = true)
    (pa_l_draw : PySem.W.nsIn K mainGlobals "_law_draw" = some (some (.ref a_l_draw)))
    (pl_l_draw : K.lookup a_l_draw = some ⟨oc_l_draw, od_l_draw, .func (PySem.W.fnOf "_law_draw" "_law_draw" (defArgs s_l_draw) (defBody s_l_draw) (defScope s_l_draw) .none kV_l_draw dc_l_draw pm_l_draw an_l_draw cd_l_draw ct_l_draw), sl_l_draw⟩)
    (pc_l_draw : PySem.W.codeIn K cd_l_draw "_law_draw" = true)
    (pq_l_draw : PySem.W.keepIn K (.ref a_l_draw) = true)
    (pa_l_names : PySem.W.nsIn K mainGlobals "_law_names" = some (some (.ref a_l_names)))
    (pl_l_names : K.lookup a_l_names = some ⟨oc_l_names, od_l_names, .func (PySem.W.fnOf "_law_names" "_law_names" (defArgs s_l_names) (defBody s_l_names) (defScope s_l_names) .none kV_l_names dc_l_names pm_l_names an_l_names cd_l_names ct_l_names), sl_l_names⟩)
    (pc_l_names : PySem.W.codeIn K cd_l_names "_law_names" = true)
    (pq_l_names : PySem.W.keepIn K (.ref a_l_names) = true)
    (pa_l_pick : PySem.W.nsIn K mainGlobals "_law_pick" = some (some (.ref a_l_pick)))
    (pl_l_pick : K.lookup a_l_pick = some ⟨oc_l_pick, od_l_pick, .func (PySem.W.fnOf "_law_pick" "_law_pick" (defArgs s_l_pick) (defBody s_l_pick) (defScope s_l_pick) .none kV_l_pick dc_l_pick pm_l_pick an_l_pick cd_l_pick ct_l_pick), sl_l_pick⟩)
    (pc_l_pick : PySem.W.codeIn K cd_l_pick "_law_pick" = true)
    (pq_l_pick : PySem.W.keepIn K (.ref a_l_pick) = true)
    (pa_l_mixed : PySem.W.nsIn K mainGlobals "_law_mixed" = some (some (.ref a_l_mixed)))
    (pl_l_mixed : K.lookup a_l_mixed = some ⟨oc_l_mixed, od_l_mixed, .func (PySem.W.fnOf "_law_mixed" "_law_mixed" (defArgs s_l_mixed) (defBody s_l_mixed) (defScope s_l_mixed) .none kV_l_mixed dc_l_mixed pm_l_mixed an_l_mixed cd_l_mixed ct_l_mixed), sl_l_mixed⟩)
    (pc_l_mixed : PySem.W.codeIn K cd_l_mixed "_law_mixed" = true)
    (pq_l_mixed : PySem.W.keepIn K (.ref a_l_mixed) = true)
    (pa_l_next : PySem.W.nsIn K mainGlobals "_law_next" = some (some (.ref a_l_next)))
    (pl_l_next : K.lookup a_l_next = some ⟨oc_l_next, od_l_next, .func (PySem.W.fnOf "_law_next" "_law_next" (defArgs s_l_next) (defBody s_l_next) (defScope s_l_next) .none kV_l_next dc_l_next pm_l_next an_l_next cd_l_next ct_l_next), sl_l_next⟩)
    (pc_l_next : PySem.W.codeIn K cd_l_next "_law_next" = true)
    (pq_l_next : PySem.W.keepIn K (.ref a_l_next) = true)
    (pa_l_entries : PySem.W.nsIn K mainGlobals "_law_entries" = some (some (.ref a_l_entries)))
    (pl_l_entries : K.lookup a_l_entries = some ⟨oc_l_entries, od_l_entries, .func (PySem.W.fnOf "_law_entries" "_law_entries" (defArgs s_l_entries) (defBody s_l_entries) (defScope s_l_entries) .none kV_l_entries dc_l_entries pm_l_entries an_l_entries cd_l_entries ct_l_entries), sl_l_entries⟩)
    (pc_l_entries : PySem.W.codeIn K cd_l_entries "_law_entries" = true)
    (pq_l_entries : PySem.W.keepIn K (.ref a_l_entries) = true)
    (pa_l_book : PySem.W.nsIn K mainGlobals "_law_book" = some (some (.ref a_l_book)))
    (pl_l_book : K.lookup a_l_book = some ⟨oc_l_book, od_l_book, .func (PySem.W.fnOf "_law_book" "_law_book" (defArgs s_l_book) (defBody s_l_book) (defScope s_l_book) .none kV_l_book dc_l_book pm_l_book an_l_book cd_l_book ct_l_book), sl_l_book⟩)
    (pc_l_book : PySem.W.codeIn K cd_l_book "_law_book" = true)
    (pq_l_book : PySem.W.keepIn K (.ref a_l_book) = true)
    (pa_l_kept : PySem.W.nsIn K mainGlobals "_law_kept" = some (some (.ref a_l_kept)))
    (pl_l_kept : K.lookup a_l_kept = some ⟨oc_l_kept, od_l_kept, .func (PySem.W.fnOf "_law_kept" "_law_kept" (defArgs s_l_kept) (defBody s_l_kept) (defScope s_l_kept) .none kV_l_kept dc_l_kept pm_l_kept an_l_kept cd_l_kept ct_l_kept), sl_l_kept⟩)
    (pc_l_kept : PySem.W.codeIn K cd_l_kept "_law_kept" = true)
    (pq_l_kept : PySem.W.keepIn K (.ref a_l_kept) = true)
    (pa_l_named : PySem.W.nsIn K mainGlobals "_law_named" = some (some (.ref a_l_named)))
    (pl_l_named : K.lookup a_l_named = some ⟨oc_l_named, od_l_named, .func (PySem.W.fnOf "_law_named" "_law_named" (defArgs s_l_named) (defBody s_l_named) (defScope s_l_named) .none kV_l_named dc_l_named pm_l_named an_l_named cd_l_named ct_l_named), sl_l_named⟩)
    (pc_l_named : PySem.W.codeIn K cd_l_named "_law_named" = true)
    (pq_l_named : PySem.W.keepIn K (.ref a_l_named) = true)
    (pa_l_lists_right : PySem.W.nsIn K mainGlobals "_law_lists_right" = some (some (.ref a_l_lists_right)))
    (pl_l_lists_right : K.lookup a_l_lists_right = some ⟨oc_l_lists_right, od_l_lists_right, .func (PySem.W.fnOf "_law_lists_right" "_law_lists_right" (defArgs s_l_lists_right) (defBody s_l_lists_right) (defScope s_l_lists_right) .none kV_l_lists_right dc_l_lists_right pm_l_lists_right an_l_lists_right cd_l_lists_right ct_l_lists_right), sl_l_lists_right⟩)
    (pc_l_lists_right : PySem.W.codeIn K cd_l_lists_right "_law_lists_right" = true)
    (pq_l_lists_right : PySem.W.keepIn K (.ref a_l_lists_right) = true)
    (pa_l_clash : PySem.W.nsIn K mainGlobals "_law_clash" = some (some (.ref a_l_clash)))
    (pl_l_clash : K.lookup a_l_clash = some ⟨oc_l_clash, od_l_clash, .func (PySem.W.fnOf "_law_clash" "_law_clash" (defArgs s_l_clash) (defBody s_l_clash) (defScope s_l_clash) .none kV_l_clash dc_l_clash pm_l_clash an_l_clash cd_l_clash ct_l_clash), sl_l_clash⟩)
    (pc_l_clash : PySem.W.codeIn K cd_l_clash "_law_clash" = true)
    (pq_l_clash : PySem.W.keepIn K (.ref a_l_clash) = true)
    (pa_l_unlike : PySem.W.nsIn K mainGlobals "_law_unlike" = some (some (.ref a_l_unlike)))
    (pl_l_unlike : K.lookup a_l_unlike = some ⟨oc_l_unlike, od_l_unlike, .func (PySem.W.fnOf "_law_unlike" "_law_unlike" (defArgs s_l_unlike) (defBody s_l_unlike) (defScope s_l_unlike) .none kV_l_unlike dc_l_unlike pm_l_unlike an_l_unlike cd_l_unlike ct_l_unlike), sl_l_unlike⟩)
    (pc_l_unlike : PySem.W.codeIn K cd_l_unlike "_law_unlike" = true)
    (pq_l_unlike : PySem.W.keepIn K (.ref a_l_unlike) = true)
    (pa_l_joined_right : PySem.W.nsIn K mainGlobals "_law_joined_right" = some (some (.ref a_l_joined_right)))
    (pl_l_joined_right : K.lookup a_l_joined_right = some ⟨oc_l_joined_right, od_l_joined_right, .func (PySem.W.fnOf "_law_joined_right" "_law_joined_right" (defArgs s_l_joined_right) (defBody s_l_joined_right) (defScope s_l_joined_right) .none kV_l_joined_right dc_l_joined_right pm_l_joined_right an_l_joined_right cd_l_joined_right ct_l_joined_right), sl_l_joined_right⟩)
    (pc_l_joined_right : PySem.W.codeIn K cd_l_joined_right "_law_joined_right" = true)
    (pq_l_joined_right : PySem.W.keepIn K (.ref a_l_joined_right) = true)
    (pa_f_law : PySem.W.nsIn K mainGlobals "law" = some (some (.ref a_f_law)))
    (pl_f_law : K.lookup a_f_law = some ⟨oc_f_law, od_f_law, .func (PySem.W.fnOf "law" "law" (defArgs s_f_law) (defBody s_f_law) (defScope s_f_law) .none kV_f_law dc_f_law pm_f_law an_f_law cd_f_law ct_f_law), sl_f_law⟩)
    (pc_f_law : PySem.W.codeIn K cd_f_law "law" = true)
    (pq_f_law : PySem.W.keepIn K (.ref a_f_law) = true) :
    ∃ fd : FuncData, (∀ (s : Shared) (v : Value), BindsTo s fd ⟨[v], []⟩ [("_law_script", v)]) ∧ ∀ base : Heap, K.In base → base.Ns mainGlobals mg → FnOk l.prog w K mg base CX0 14 fa fd P_f_law (spLaw K) := by
  have e := hfa.symm.trans (PySem.W.mg_of X G pa_f_law)
  cases e
  have F_m_BadEntry_init := fun_mk (st := s_m_BadEntry_init) pl_m_BadEntry_init pc_m_BadEntry_init pq_m_BadEntry_init
  have b_m_BadEntry_init := F_m_BadEntry_init.binds (ps := P_m_BadEntry_init) fun _ _ _ _ _ _ us hl => match us, hl with | [_, _, _], _ => rfl
  have F_m_NoEntry_init := fun_mk (st := s_m_NoEntry_init) pl_m_NoEntry_init pc_m_NoEntry_init pq_m_NoEntry_init
  have b_m_NoEntry_init := F_m_NoEntry_init.binds (ps := P_m_NoEntry_init) fun _ _ _ _ _ _ us hl => match us, hl with | [_, _, _], _ => rfl
  have F_f_is_name := fun_mk (st := s_f_is_name) pl_f_is_name pc_f_is_name pq_f_is_name
  have b_f_is_name := F_f_is_name.binds (ps := P_f_is_name) fun _ _ _ _ _ _ us hl => match us, hl with | [_], _ => rfl
  have F_f_is_number := fun_mk (st := s_f_is_number) pl_f_is_number pc_f_is_number pq_f_is_number
  have b_f_is_number := F_f_is_number.binds (ps := P_f_is_number) fun _ _ _ _ _ _ us hl => match us, hl with | [_, _], _ => rfl
  have F_f_is_entry := fun_mk (st := s_f_is_entry) pl_f_is_entry pc_f_is_entry pq_f_is_entry
  have b_f_is_entry := F_f_is_entry.binds (ps := P_f_is_entry) fun _ _ _ _ _ _ us hl => match us, hl with | [_], _ => rfl
  have F_m_Book_init := fun_mk (st := s_m_Book_init) pl_m_Book_init pc_m_Book_init pq_m_Book_init
  have b_m_Book_init := F_m_Book_init.binds (ps := P_m_Book_init) fun _ _ _ _ _ _ us hl => match us, hl with | [_], _ => rfl
  have F_m_Book_iter := fun_mk (st := s_m_Book_iter) pl_m_Book_iter pc_m_Book_iter pq_m_Book_iter
  have b_m_Book_iter := F_m_Book_iter.binds (ps := P_m_Book_iter) fun _ _ _ _ _ _ us hl => match us, hl with | [_], _ => rfl
  have F_m_Book_contains := fun_mk (st := s_m_Book_contains) pl_m_Book_contains pc_m_Book_contains pq_m_Book_contains
  have b_m_Book_contains := F_m_Book_contains.binds (ps := P_m_Book_contains) fun _ _ _ _ _ _ us hl => match us, hl with | [_, _], _ => rfl
  have F_m_Book_len := fun_mk (st := s_m_Book_len) pl_m_Book_len pc_m_Book_len pq_m_Book_len
  have b_m_Book_len := F_m_Book_len.binds (ps := P_m_Book_len) fun _ _ _ _ _ _ us hl => match us, hl with | [_], _ => rfl
  have F_m_Book_getitem := fun_mk (st := s_m_Book_getitem) pl_m_Book_getitem pc_m_Book_getitem pq_m_Book_getitem
  have b_m_Book_getitem := F_m_Book_getitem.binds (ps := P_m_Book_getitem) fun _ _ _ _ _ _ us hl => match us, hl with | [_, _], _ => rfl
  have F_m_Book_setitem := fun_mk (st := s_m_Book_setitem) pl_m_Book_setitem pc_m_Book_setitem pq_m_Book_setitem
  have b_m_Book_setitem := F_m_Book_setitem.binds (ps := P_m_Book_setitem) fun _ _ _ _ _ _ us hl => match us, hl with | [_, _, _], _ => rfl
  have F_m_Book_remove := fun_mk (st := s_m_Book_remove) pl_m_Book_remove pc_m_Book_remove pq_m_Book_remove
  have b_m_Book_remove := F_m_Book_remove.binds (ps := P_m_Book_remove) fun _ _ _ _ _ _ us hl => match us, hl with | [_, _, _], _ => rfl
  have F_m_Book_places := fun_mk (st := s_m_Book_places) pl_m_Book_places pc_m_Book_places pq_m_Book_places
  have b_m_Book_places := F_m_Book_places.binds (ps := P_m_Book_places) fun _ _ _ _ _ _ us hl => match us, hl with | [_], _ => rfl
  have F_m_Book_named := fun_mk (st := s_m_Book_named) pl_m_Book_named pc_m_Book_named pq_m_Book_named
  have b_m_Book_named := F_m_Book_named.binds (ps := P_m_Book_named) fun _ _ _ _ _ _ us hl => match us, hl with | [_, _], _ => rfl
  have F_m_Book_lots := fun_mk (st := s_m_Book_lots) pl_m_Book_lots pc_m_Book_lots pq_m_Book_lots
  have b_m_Book_lots := F_m_Book_lots.binds (ps := P_m_Book_lots) fun _ _ _ _ _ _ us hl => match us, hl with | [_], _ => rfl
  have F_m_Book_sales := fun_mk (st := s_m_Book_sales) pl_m_Book_sales pc_m_Book_sales pq_m_Book_sales
  have b_m_Book_sales := F_m_Book_sales.binds (ps := P_m_Book_sales) fun _ _ _ _ _ _ us hl => match us, hl with | [_], _ => rfl
  have F_m_Book_late_costs := fun_mk (st := s_m_Book_late_costs) pl_m_Book_late_costs pc_m_Book_late_costs pq_m_Book_late_costs
  have b_m_Book_late_costs := F_m_Book_late_costs.binds (ps := P_m_Book_late_costs) fun _ _ _ _ _ _ us hl => match us, hl with | [_], _ => rfl
  have F_m_Book_joined := fun_mk (st := s_m_Book_joined) pl_m_Book_joined pc_m_Book_joined pq_m_Book_joined
  have b_m_Book_joined := F_m_Book_joined.binds (ps := P_m_Book_joined) fun _ _ _ _ _ _ us hl => match us, hl with | [_, _], _ => rfl
  have F_l_bag := fun_mk (st := s_l_bag) pl_l_bag pc_l_bag pq_l_bag
  have b_l_bag := F_l_bag.binds (ps := P_l_bag) fun _ _ _ _ _ _ us hl => match us, hl with | [_], _ => rfl
  have F_l_draw := fun_mk (st := s_l_draw) pl_l_draw pc_l_draw pq_l_draw
  have b_l_draw := F_l_draw.binds (ps := P_l_draw) fun _ _ _ _ _ _ us hl => match us, hl with | [_, _], _ => rfl
  have F_l_names := fun_mk (st := s_l_names) pl_l_names pc_l_names pq_l_names
  have b_l_names := F_l_names.binds (ps := P_l_names) fun _ _ _ _ _ _ us hl => match us, hl with | [_, _, _], _ => rfl
  have F_l_pick := fun_mk (st := s_l_pick) pl_l_pick pc_l_pick pq_l_pick
  have b_l_pick := F_l_pick.binds (ps := P_l_pick) fun _ _ _ _ _ _ us hl => match us, hl with | [_, _], _ => rfl
  have F_l_mixed := fun_mk (st := s_l_mixed) pl_l_mixed pc_l_mixed pq_l_mixed
  have b_l_mixed := F_l_mixed.binds (ps := P_l_mixed) fun _ _ _ _ _ _ us hl => match us, hl with | [_, _], _ => rfl
  have F_l_next := fun_mk (st := s_l_next) pl_l_next pc_l_next pq_l_next
  have b_l_next := F_l_next.binds (ps := P_l_next) fun _ _ _ _ _ _ us hl => match us, hl with | [_, _], _ => rfl
  have F_l_entries := fun_mk (st := s_l_entries) pl_l_entries pc_l_entries pq_l_entries
  have b_l_entries := F_l_entries.binds (ps := P_l_entries) fun _ _ _ _ _ _ us hl => match us, hl with | [_, _], _ => rfl
  have F_l_book := fun_mk (st := s_l_book) pl_l_book pc_l_book pq_l_book
  have b_l_book := F_l_book.binds (ps := P_l_book) fun _ _ _ _ _ _ us hl => match us, hl with | [_], _ => rfl
  have F_l_kept := fun_mk (st := s_l_kept) pl_l_kept pc_l_kept pq_l_kept
  have b_l_kept := F_l_kept.binds (ps := P_l_kept) fun _ _ _ _ _ _ us hl => match us, hl with | [_], _ => rfl
  have F_l_named := fun_mk (st := s_l_named) pl_l_named pc_l_named pq_l_named
  have b_l_named := F_l_named.binds (ps := P_l_named) fun _ _ _ _ _ _ us hl => match us, hl with | [_, _], _ => rfl
  have F_l_lists_right := fun_mk (st := s_l_lists_right) pl_l_lists_right pc_l_lists_right pq_l_lists_right
  have b_l_lists_right := F_l_lists_right.binds (ps := P_l_lists_right) fun _ _ _ _ _ _ us hl => match us, hl with | [_, _, _], _ => rfl
  have F_l_clash := fun_mk (st := s_l_clash) pl_l_clash pc_l_clash pq_l_clash
  have b_l_clash := F_l_clash.binds (ps := P_l_clash) fun _ _ _ _ _ _ us hl => match us, hl with | [_, _], _ => rfl
  have F_l_unlike := fun_mk (st := s_l_unlike) pl_l_unlike pc_l_unlike pq_l_unlike
  have b_l_unlike := F_l_unlike.binds (ps := P_l_unlike) fun _ _ _ _ _ _ us hl => match us, hl with | [_, _], _ => rfl
  have F_l_joined_right := fun_mk (st := s_l_joined_right) pl_l_joined_right pc_l_joined_right pq_l_joined_right
  have b_l_joined_right := F_l_joined_right.binds (ps := P_l_joined_right) fun _ _ _ _ _ _ us hl => match us, hl with | [_, _, _, _], _ => rfl
  have F_f_law := fun_mk (st := s_f_law) pl_f_law pc_f_law pq_f_law
  have b_f_law := F_f_law.binds (ps := P_f_law) fun _ _ _ _ _ _ us hl => match us, hl with | [_], _ => rfl
  have T : Txt K mg ⟨a_CostError, a_BadEntry, a_NoEntry, a_Book, a_m_BadEntry_init, (PySem.W.fnOf "__init__" "BadEntry.__init__" (defArgs s_m_BadEntry_init) (defBody s_m_BadEntry_init) (defScope s_m_BadEntry_init) .none kV_m_BadEntry_init dc_m_BadEntry_init pm_m_BadEntry_init an_m_BadEntry_init cd_m_BadEntry_init ct_m_BadEntry_init), a_m_NoEntry_init, (PySem.W.fnOf "__init__" "NoEntry.__init__" (defArgs s_m_NoEntry_init) (defBody s_m_NoEntry_init) (defScope s_m_NoEntry_init) .none kV_m_NoEntry_init dc_m_NoEntry_init pm_m_NoEntry_init an_m_NoEntry_init cd_m_NoEntry_init ct_m_NoEntry_init), a_f_is_name, (PySem.W.fnOf "is_name" "is_name" (defArgs s_f_is_name) (defBody s_f_is_name) (defScope s_f_is_name) .none kV_f_is_name dc_f_is_name pm_f_is_name an_f_is_name cd_f_is_name ct_f_is_name), a_f_is_number, (PySem.W.fnOf "is_number" "is_number" (defArgs s_f_is_number) (defBody s_f_is_number) (defScope s_f_is_number) .none kV_f_is_number dc_f_is_number pm_f_is_number an_f_is_number cd_f_is_number ct_f_is_number), a_f_is_entry, (PySem.W.fnOf "is_entry" "is_entry" (defArgs s_f_is_entry) (defBody s_f_is_entry) (defScope s_f_is_entry) .none kV_f_is_entry dc_f_is_entry pm_f_is_entry an_f_is_entry cd_f_is_entry ct_f_is_entry), a_m_Book_init, (PySem.W.fnOf "__init__" "Book.__init__" (defArgs s_m_Book_init) (defBody s_m_Book_init) (defScope s_m_Book_init) .none kV_m_Book_init dc_m_Book_init pm_m_Book_init an_m_Book_init cd_m_Book_init ct_m_Book_init), a_m_Book_iter, (PySem.W.fnOf "__iter__" "Book.__iter__" (defArgs s_m_Book_iter) (defBody s_m_Book_iter) (defScope s_m_Book_iter) .none kV_m_Book_iter dc_m_Book_iter pm_m_Book_iter an_m_Book_iter cd_m_Book_iter ct_m_Book_iter), a_m_Book_contains, (PySem.W.fnOf "__contains__" "Book.__contains__" (defArgs s_m_Book_contains) (defBody s_m_Book_contains) (defScope s_m_Book_contains) .none kV_m_Book_contains dc_m_Book_contains pm_m_Book_contains an_m_Book_contains cd_m_Book_contains ct_m_Book_contains), a_m_Book_len, (PySem.W.fnOf "__len__" "Book.__len__" (defArgs s_m_Book_len) (defBody s_m_Book_len) (defScope s_m_Book_len) .none kV_m_Book_len dc_m_Book_len pm_m_Book_len an_m_Book_len cd_m_Book_len ct_m_Book_len), a_m_Book_getitem, (PySem.W.fnOf "__getitem__" "Book.__getitem__" (defArgs s_m_Book_getitem) (defBody s_m_Book_getitem) (defScope s_m_Book_getitem) .none kV_m_Book_getitem dc_m_Book_getitem pm_m_Book_getitem an_m_Book_getitem cd_m_Book_getitem ct_m_Book_getitem), a_m_Book_setitem, (PySem.W.fnOf "__setitem__" "Book.__setitem__" (defArgs s_m_Book_setitem) (defBody s_m_Book_setitem) (defScope s_m_Book_setitem) .none kV_m_Book_setitem dc_m_Book_setitem pm_m_Book_setitem an_m_Book_setitem cd_m_Book_setitem ct_m_Book_setitem), a_m_Book_remove, (PySem.W.fnOf "remove" "Book.remove" (defArgs s_m_Book_remove) (defBody s_m_Book_remove) (defScope s_m_Book_remove) .none kV_m_Book_remove dc_m_Book_remove pm_m_Book_remove an_m_Book_remove cd_m_Book_remove ct_m_Book_remove), a_m_Book_places, (PySem.W.fnOf "places" "Book.places" (defArgs s_m_Book_places) (defBody s_m_Book_places) (defScope s_m_Book_places) .none kV_m_Book_places dc_m_Book_places pm_m_Book_places an_m_Book_places cd_m_Book_places ct_m_Book_places), a_m_Book_named, (PySem.W.fnOf "named" "Book.named" (defArgs s_m_Book_named) (defBody s_m_Book_named) (defScope s_m_Book_named) .none kV_m_Book_named dc_m_Book_named pm_m_Book_named an_m_Book_named cd_m_Book_named ct_m_Book_named), a_m_Book_lots, (PySem.W.fnOf "lots" "Book.lots" (defArgs s_m_Book_lots) (defBody s_m_Book_lots) (defScope s_m_Book_lots) .none kV_m_Book_lots dc_m_Book_lots pm_m_Book_lots an_m_Book_lots cd_m_Book_lots ct_m_Book_lots), a_m_Book_sales, (PySem.W.fnOf "sales" "Book.sales" (defArgs s_m_Book_sales) (defBody s_m_Book_sales) (defScope s_m_Book_sales) .none kV_m_Book_sales dc_m_Book_sales pm_m_Book_sales an_m_Book_sales cd_m_Book_sales ct_m_Book_sales), a_m_Book_late_costs, (PySem.W.fnOf "late_costs" "Book.late_costs" (defArgs s_m_Book_late_costs) (defBody s_m_Book_late_costs) (defScope s_m_Book_late_costs) .none kV_m_Book_late_costs dc_m_Book_late_costs pm_m_Book_late_costs an_m_Book_late_costs cd_m_Book_late_costs ct_m_Book_late_costs), a_m_Book_joined, (PySem.W.fnOf "joined" "Book.joined" (defArgs s_m_Book_joined) (defBody s_m_Book_joined) (defScope s_m_Book_joined) .none kV_m_Book_joined dc_m_Book_joined pm_m_Book_joined an_m_Book_joined cd_m_Book_joined ct_m_Book_joined), a_l_bag, (PySem.W.fnOf "_law_bag" "_law_bag" (defArgs s_l_bag) (defBody s_l_bag) (defScope s_l_bag) .none kV_l_bag dc_l_bag pm_l_bag an_l_bag cd_l_bag ct_l_bag), a_l_draw, (PySem.W.fnOf "_law_draw" "_law_draw" (defArgs s_l_draw) (defBody s_l_draw) (defScope s_l_draw) .none kV_l_draw dc_l_draw pm_l_draw an_l_draw cd_l_draw ct_l_draw), a_l_names, (PySem.W.fnOf "_law_names" "_law_names" (defArgs s_l_names) (defBody s_l_names) (defScope s_l_names) .none kV_l_names dc_l_names pm_l_names an_l_names cd_l_names ct_l_names), a_l_pick, (PySem.W.fnOf "_law_pick" "_law_pick" (defArgs s_l_pick) (defBody s_l_pick) (defScope s_l_pick) .none kV_l_pick dc_l_pick pm_l_pick an_l_pick cd_l_pick ct_l_pick), a_l_mixed, (PySem.W.fnOf "_law_mixed" "_law_mixed" (defArgs s_l_mixed) (defBody s_l_mixed) (defScope s_l_mixed) .none kV_l_mixed dc_l_mixed pm_l_mixed an_l_mixed cd_l_mixed ct_l_mixed), a_l_next, (PySem.W.fnOf "_law_next" "_law_next" (defArgs s_l_next) (defBody s_l_next) (defScope s_l_next) .none kV_l_next dc_l_next pm_l_next an_l_next cd_l_next ct_l_next), a_l_entries, (PySem.W.fnOf "_law_entries" "_law_entries" (defArgs s_l_entries) (defBody s_l_entries) (defScope s_l_entries) .none kV_l_entries dc_l_entries pm_l_entries an_l_entries cd_l_entries ct_l_entries), a_l_book, (PySem.W.fnOf "_law_book" "_law_book" (defArgs s_l_book) (defBody s_l_book) (defScope s_l_book) .none kV_l_book dc_l_book pm_l_book an_l_book cd_l_book ct_l_book), a_l_kept, (PySem.W.fnOf "_law_kept" "_law_kept" (defArgs s_l_kept) (defBody s_l_kept) (defScope s_l_kept) .none kV_l_kept dc_l_kept pm_l_kept an_l_kept cd_l_kept ct_l_kept), a_l_named, (PySem.W.fnOf "_law_named" "_law_named" (defArgs s_l_named) (defBody s_l_named) (defScope s_l_named) .none kV_l_named dc_l_named pm_l_named an_l_named cd_l_named ct_l_named), a_l_lists_right, (PySem.W.fnOf "_law_lists_right" "_law_lists_right" (defArgs s_l_lists_right) (defBody s_l_lists_right) (defScope s_l_lists_right) .none kV_l_lists_right dc_l_lists_right pm_l_lists_right an_l_lists_right cd_l_lists_right ct_l_lists_right), a_l_clash, (PySem.W.fnOf "_law_clash" "_law_clash" (defArgs s_l_clash) (defBody s_l_clash) (defScope s_l_clash) .none kV_l_clash dc_l_clash pm_l_clash an_l_clash cd_l_clash ct_l_clash), a_l_unlike, (PySem.W.fnOf "_law_unlike" "_law_unlike" (defArgs s_l_unlike) (defBody s_l_unlike) (defScope s_l_unlike) .none kV_l_unlike dc_l_unlike pm_l_unlike an_l_unlike cd_l_unlike ct_l_unlike), a_l_joined_right, (PySem.W.fnOf "_law_joined_right" "_law_joined_right" (defArgs s_l_joined_right) (defBody s_l_joined_right) (defScope s_l_joined_right) .none kV_l_joined_right dc_l_joined_right pm_l_joined_right an_l_joined_right cd_l_joined_right ct_l_joined_right), fa, (PySem.W.fnOf "law" "law" (defArgs s_f_law) (defBody s_f_law) (defScope s_f_law) .none kV_f_law dc_f_law pm_f_law an_f_law cd_f_law ct_f_law)⟩ := {
    z_TypeError := PySem.W.mg_none_of X G pz_TypeError,
    z_abs := PySem.W.mg_none_of X G pz_abs,
    z_all := PySem.W.mg_none_of X G pz_all,
    z_bool := PySem.W.mg_none_of X G pz_bool,
    z_int := PySem.W.mg_none_of X G pz_int,
    z_isinstance := PySem.W.mg_none_of X G pz_isinstance,
    z_len := PySem.W.mg_none_of X G pz_len,
    z_list := PySem.W.mg_none_of X G pz_list,
    z_min := PySem.W.mg_none_of X G pz_min,
    z_range := PySem.W.mg_none_of X G pz_range,
    z_sorted := PySem.W.mg_none_of X G pz_sorted,
    z_str := PySem.W.mg_none_of X G pz_str,
    z_tuple := PySem.W.mg_none_of X G pz_tuple,
    g_CostError := PySem.W.mg_of X G pg_CostError,
    ek_CostError := pek_CostError,
    eb_CostError := peb_CostError,
    et_CostError := pet_CostError,
    eh_CostError := peh_CostError,
    eic_CostError := peic_CostError,
    es_CostError := pes_CostError,
    xg_CostError := pxg_CostError,
    xk_CostError := pxk_CostError,
    xa_CostError := pxa_CostError,
    xn_CostError := pxn_CostError,
    xt_CostError := pxt_CostError,
    xm_CostError := pxm_CostError,
    rd_CostError := prd_CostError,
    cg_CostError := pcg_CostError,
    vi_CostError := pvi_CostError,
    g_BadEntry := PySem.W.mg_of X G pg_BadEntry,
    ek_BadEntry := pek_BadEntry,
    eb_BadEntry := peb_BadEntry,
    et_BadEntry := pet_BadEntry,
    eh_BadEntry := peh_BadEntry,
    eic_BadEntry := peic_BadEntry,
    es_BadEntry := pes_BadEntry,
    xg_BadEntry := pxg_BadEntry,
    xk_BadEntry := pxk_BadEntry,
    xa_BadEntry := pxa_BadEntry,
    xn_BadEntry := pxn_BadEntry,
    xt_BadEntry := pxt_BadEntry,
    xm_BadEntry := pxm_BadEntry,
    xc_BadEntry := pxc_BadEntry,
    n_BadEntry_day := pn_BadEntry_day,
    n_BadEntry_number := pn_BadEntry_number,
    oi_BadEntry := poi_BadEntry,
    ot_BadEntry := pot_BadEntry,
    ox_BadEntry := ⟨⟨_, _, _, _, _, _, _, _, _, _, _, _, _, _, _, pol_BadEntry, pov_BadEntry⟩, posa_BadEntry, peb_BadEntry, pet_BadEntry, pek_BadEntry⟩,
    g_NoEntry := PySem.W.mg_of X G pg_NoEntry,
    ek_NoEntry := pek_NoEntry,
    eb_NoEntry := peb_NoEntry,
    et_NoEntry := pet_NoEntry,
    eh_NoEntry := peh_NoEntry,
    eic_NoEntry := peic_NoEntry,
    es_NoEntry := pes_NoEntry,
    xg_NoEntry := pxg_NoEntry,
    xk_NoEntry := pxk_NoEntry,
    xa_NoEntry := pxa_NoEntry,
    xn_NoEntry := pxn_NoEntry,
    xt_NoEntry := pxt_NoEntry,
    xm_NoEntry := pxm_NoEntry,
    n_NoEntry_day := pn_NoEntry_day,
    n_NoEntry_number := pn_NoEntry_number,
    oi_NoEntry := poi_NoEntry,
    ot_NoEntry := pot_NoEntry,
    ox_NoEntry := ⟨⟨_, _, _, _, _, _, _, _, _, _, _, _, _, _, _, pol_NoEntry, pov_NoEntry⟩, posa_NoEntry, peb_NoEntry, pet_NoEntry, pek_NoEntry⟩,
    g_Book := PySem.W.mg_of X G pg_Book,
    cl_Book := ⟨ppg_Book, phd_Book, ppo_Book, psa_Book⟩,
    n_Book_entries := pn_Book_entries,
    mk_Book := ⟨pma_Book, pmi_Book, pmf_Book, pmc_Book⟩,
    m_Book___iter__ := ⟨pmt_m_Book_iter, pmn_m_Book_iter, pmk_m_Book_iter⟩,
    m_Book___contains__ := ⟨pmt_m_Book_contains, pmn_m_Book_contains, pmk_m_Book_contains⟩,
    m_Book___len__ := ⟨pmt_m_Book_len, pmn_m_Book_len, pmk_m_Book_len⟩,
    m_Book___getitem__ := ⟨pmt_m_Book_getitem, pmn_m_Book_getitem, pmk_m_Book_getitem⟩,
    m_Book___setitem__ := ⟨pmt_m_Book_setitem, pmn_m_Book_setitem, pmk_m_Book_setitem⟩,
    m_Book_remove := ⟨pmt_m_Book_remove, pmn_m_Book_remove, pmk_m_Book_remove⟩,
    m_Book_places := ⟨pmt_m_Book_places, pmn_m_Book_places, pmk_m_Book_places⟩,
    m_Book_named := ⟨pmt_m_Book_named, pmn_m_Book_named, pmk_m_Book_named⟩,
    m_Book_lots := ⟨pmt_m_Book_lots, pmn_m_Book_lots, pmk_m_Book_lots⟩,
    m_Book_sales := ⟨pmt_m_Book_sales, pmn_m_Book_sales, pmk_m_Book_sales⟩,
    m_Book_late_costs := ⟨pmt_m_Book_late_costs, pmn_m_Book_late_costs, pmk_m_Book_late_costs⟩,
    m_Book_joined := ⟨pmt_m_Book_joined, pmn_m_Book_joined, pmk_m_Book_joined⟩,
    fgi_Book := pfgi_Book,
    nsq_Book := pnsq_Book,
    g_LETTERS := ⟨_, PySem.W.mg_of X G pg_LETTERS⟩,
    g_LONGEST := ⟨_, PySem.W.mg_of X G pg_LONGEST⟩,
    g_MOST := ⟨_, PySem.W.mg_of X G pg_MOST⟩,
    F_m_BadEntry_init := F_m_BadEntry_init,
    b_m_BadEntry_init := b_m_BadEntry_init,
    F_m_NoEntry_init := F_m_NoEntry_init,
    b_m_NoEntry_init := b_m_NoEntry_init,
    F_f_is_name := F_f_is_name,
    b_f_is_name := b_f_is_name,
    g_is_name := PySem.W.mg_of X G pa_f_is_name,
    F_f_is_number := F_f_is_number,
    b_f_is_number := b_f_is_number,
    g_is_number := PySem.W.mg_of X G pa_f_is_number,
    F_f_is_entry := F_f_is_entry,
    b_f_is_entry := b_f_is_entry,
    g_is_entry := PySem.W.mg_of X G pa_f_is_entry,
    F_m_Book_init := F_m_Book_init,
    b_m_Book_init := b_m_Book_init,
    F_m_Book_iter := F_m_Book_iter,
    b_m_Book_iter := b_m_Book_iter,
    F_m_Book_contains := F_m_Book_contains,
    b_m_Book_contains := b_m_Book_contains,
    F_m_Book_len := F_m_Book_len,
    b_m_Book_len := b_m_Book_len,
    F_m_Book_getitem := F_m_Book_getitem,
    b_m_Book_getitem := b_m_Book_getitem,
    F_m_Book_setitem := F_m_Book_setitem,
    b_m_Book_setitem := b_m_Book_setitem,
    F_m_Book_remove := F_m_Book_remove,
    b_m_Book_remove := b_m_Book_remove,
    F_m_Book_places := F_m_Book_places,
    b_m_Book_places := b_m_Book_places,
    F_m_Book_named := F_m_Book_named,
    b_m_Book_named := b_m_Book_named,
    F_m_Book_lots := F_m_Book_lots,
    b_m_Book_lots := b_m_Book_lots,
    F_m_Book_sales := F_m_Book_sales,
    b_m_Book_sales := b_m_Book_sales,
    F_m_Book_late_costs := F_m_Book_late_costs,
    b_m_Book_late_costs := b_m_Book_late_costs,
    F_m_Book_joined := F_m_Book_joined,
    b_m_Book_joined := b_m_Book_joined,
    F_l_bag := F_l_bag,
    b_l_bag := b_l_bag,
    g__law_bag := PySem.W.mg_of X G pa_l_bag,
    F_l_draw := F_l_draw,
    b_l_draw := b_l_draw,
    g__law_draw := PySem.W.mg_of X G pa_l_draw,
    F_l_names := F_l_names,
    b_l_names := b_l_names,
    g__law_names := PySem.W.mg_of X G pa_l_names,
    F_l_pick := F_l_pick,
    b_l_pick := b_l_pick,
    g__law_pick := PySem.W.mg_of X G pa_l_pick,
    F_l_mixed := F_l_mixed,
    b_l_mixed := b_l_mixed,
    g__law_mixed := PySem.W.mg_of X G pa_l_mixed,
    F_l_next := F_l_next,
    b_l_next := b_l_next,
    g__law_next := PySem.W.mg_of X G pa_l_next,
    F_l_entries := F_l_entries,
    b_l_entries := b_l_entries,
    g__law_entries := PySem.W.mg_of X G pa_l_entries,
    F_l_book := F_l_book,
    b_l_book := b_l_book,
    g__law_book := PySem.W.mg_of X G pa_l_book,
    F_l_kept := F_l_kept,
    b_l_kept := b_l_kept,
    g__law_kept := PySem.W.mg_of X G pa_l_kept,
    F_l_named := F_l_named,
    b_l_named := b_l_named,
    g__law_named := PySem.W.mg_of X G pa_l_named,
    F_l_lists_right := F_l_lists_right,
    b_l_lists_right := b_l_lists_right,
    g__law_lists_right := PySem.W.mg_of X G pa_l_lists_right,
    F_l_clash := F_l_clash,
    b_l_clash := b_l_clash,
    g__law_clash := PySem.W.mg_of X G pa_l_clash,
    F_l_unlike := F_l_unlike,
    b_l_unlike := b_l_unlike,
    g__law_unlike := PySem.W.mg_of X G pa_l_unlike,
    F_l_joined_right := F_l_joined_right,
    b_l_joined_right := b_l_joined_right,
    g__law_joined_right := PySem.W.mg_of X G pa_l_joined_right,
    F_f_law := F_f_law,
    b_f_law := b_f_law,
    g_law := PySem.W.mg_of X G pa_f_law }
  exact ⟨_, fun s v => .of_eq rfl, fun base _ _ => ok_f_law T⟩
theorem walk {l : PySem.W.OpenLaw} {q : Program} {loose : List Str} {XP : (Str → Option Value) → Heap → Prop} {YP : World → Heap → Prop} {d : DefRec} {K : Params → PySem.W.Frag} (hn : l.most = some 63) (hdf : d.params.defaults = [])
    (hY : ∀ (w : World) (h : Heap), YP w h → (K w.params).In h)
    (F : ∀ (w : World) (mg : Str → Option Value) (fa : Addr) (h : Heap), (K w.params).In h → h.Ns mainGlobals mg → mg d.name = some (.ref fa) →
      ∃ fd : FuncData, (∀ (s : Shared) (u : Value), BindsTo s fd ⟨[u], []⟩ [("_law_script", u)]) ∧ ∀ base : Heap, (K w.params).In base → base.Ns mainGlobals mg → FnOk l.prog w (K w.params) mg base CX0 14 fa fd ["_law_script"] (spLaw (K w.params))) :
    PySem.W.WalkO q loose XP YP l.row.toRowW d [] (fun f vs => PySem.call f vs) :=
  L2.walk_of (n := 63) (k := 14) (x := "_law_script") (CX := fun _ => CX0) (sp := fun w => spLaw (K w.params)) hn (by decide) hdf ⟨rfl, by decide, by decide⟩ hY F (fun _ _ a ns hl _ hS => ⟨a, ns, rfl, hS, hl, fun _ => rfl⟩) fun _ _ _ _ _ z => z
end Lot
open PySem PySem.W PyProof.Rows
set_option maxRecDepth 100000 in
set_option maxHeartbeats 0 in
theorem PySem.Challenge.cw_lotcosts_k33_books_joined_holds : PySem.Challenge.rw_lotcosts_k33_books_joined.Holds := by
  w_on; o_law; k_head; (case hw => w_witness2)
  k_fill
  refine Lot.walk (l := PySem.Challenge.rw_lotcosts_k33_books_joined) rfl rfl (fun w h Y => PySem.W.kIn_of Y) ?F
  case F =>
    intro w mg fa h KX G hmg
    refine' Lot.all_mk KX G hmg ?pz_TypeError ?pz_abs ?pz_all ?pz_bool ?pz_int ?pz_isinstance ?pz_len ?pz_list ?pz_min ?pz_range ?pz_sorted ?pz_str ?pz_tuple ?pg_CostError ?pek_CostError ?peb_CostError ?pet_CostError ?peh_CostError ?peic_CostError ?pes_CostError ?pxg_CostError ?pxk_CostError ?pxa_CostError ?pxn_CostError ?pxt_CostError ?pxm_CostError ?prd_CostError ?pcg_CostError ?pvi_CostError ?pg_BadEntry ?pek_BadEntry ?peb_BadEntry ?pet_BadEntry ?peh_BadEntry ?peic_BadEntry ?pes_BadEntry ?pxg_BadEntry ?pxk_BadEntry ?pxa_BadEntry ?pxn_BadEntry ?pxt_BadEntry ?pxm_BadEntry ?pxc_BadEntry ?pn_BadEntry_day ?pn_BadEntry_number ?poi_BadEntry ?pot_BadEntry ?pol_BadEntry ?pov_BadEntry ?posa_BadEntry ?pg_NoEntry ?pek_NoEntry ?peb_NoEntry ?pet_NoEntry ?peh_NoEntry ?peic_NoEntry ?pes_NoEntry ?pxg_NoEntry ?pxk_NoEntry ?pxa_NoEntry ?pxn_NoEntry ?pxt_NoEntry ?pxm_NoEntry ?pn_NoEntry_day ?pn_NoEntry_number ?poi_NoEntry ?pot_NoEntry ?pol_NoEntry ?pov_NoEntry ?posa_NoEntry ?pg_Book ?ppg_Book ?phd_Book ?ppo_Book ?psa_Book ?pn_Book_entries ?pma_Book ?pmi_Book ?pmf_Book ?pmc_Book ?pmt_m_Book_iter ?pmn_m_Book_iter ?pmk_m_Book_iter ?pmt_m_Book_contains ?pmn_m_Book_contains ?pmk_m_Book_contains ?pmt_m_Book_len ?pmn_m_Book_len ?pmk_m_Book_len ?pmt_m_Book_getitem ?pmn_m_Book_getitem ?pmk_m_Book_getitem ?pmt_m_Book_setitem ?pmn_m_Book_setitem ?pmk_m_Book_setitem ?pmt_m_Book_remove ?pmn_m_Book_remove ?pmk_m_Book_remove ?pmt_m_Book_places ?pmn_m_Book_places ?pmk_m_Book_places ?pmt_m_Book_named ?pmn_m_Book_named ?pmk_m_Book_named ?pmt_m_Book_lots ?pmn_m_Book_lots ?pmk_m_Book_lots ?pmt_m_Book_sales ?pmn_m_Book_sales ?pmk_m_Book_sales ?pmt_m_Book_late_costs ?pmn_m_Book_late_costs ?pmk_m_Book_late_costs ?pmt_m_Book_joined ?pmn_m_Book_joined ?pmk_m_Book_joined ?pfgi_Book ?pnsq_Book ?pg_LETTERS ?pg_LONGEST ?pg_MOST ?pe_m_BadEntry_init ?pl_m_BadEntry_init ?pc_m_BadEntry_init ?pq_m_BadEntry_init ?pe_m_NoEntry_init ?pl_m_NoEntry_init ?pc_m_NoEntry_init ?pq_m_NoEntry_init ?pa_f_is_name ?pl_f_is_name ?pc_f_is_name ?pq_f_is_name ?pa_f_is_number ?pl_f_is_number ?pc_f_is_number ?pq_f_is_number ?pa_f_is_entry ?pl_f_is_entry ?pc_f_is_entry ?pq_f_is_entry ?pl_m_Book_init ?pc_m_Book_init ?pq_m_Book_init ?pl_m_Book_iter ?pc_m_Book_iter ?pq_m_Book_iter ?pl_m_Book_contains ?pc_m_Book_contains ?pq_m_Book_contains ?pl_m_Book_len ?pc_m_Book_len ?pq_m_Book_len ?pl_m_Book_getitem ?pc_m_Book_getitem ?pq_m_Book_getitem ?pl_m_Book_setitem ?pc_m_Book_setitem ?pq_m_Book_setitem ?pl_m_Book_remove ?pc_m_Book_remove ?pq_m_Book_remove ?pl_m_Book_places ?pc_m_Book_places ?pq_m_Book_places ?pl_m_Book_named ?pc_m_Book_named ?pq_m_Book_named ?pl_m_Book_lots ?pc_m_Book_lots ?pq_m_Book_lots ?pl_m_Book_sales ?pc_m_Book_sales ?pq_m_Book_sales ?pl_m_Book_late_costs ?pc_m_Book_late_costs ?pq_m_Book_late_costs ?pl_m_Book_joined ?pc_m_Book_joined ?pq_m_Book_joined ?pa_l_bag ?pl_l_bag ?pc_l_bag ?pq_l_bag ?pa_l_draw ?pl_l_draw ?pc_l_draw ?pq_l_draw ?pa_l_names ?pl_l_names ?pc_l_names ?pq_l_names ?pa_l_pick ?pl_l_pick ?pc_l_pick ?pq_l_pick ?pa_l_mixed ?pl_l_mixed ?pc_l_mixed ?pq_l_mixed ?pa_l_next ?pl_l_next ?pc_l_next ?pq_l_next ?pa_l_entries ?pl_l_entries ?pc_l_entries ?pq_l_entries ?pa_l_book ?pl_l_book ?pc_l_book ?pq_l_book ?pa_l_kept ?pl_l_kept ?pc_l_kept ?pq_l_kept ?pa_l_named ?pl_l_named ?pc_l_named ?pq_l_named ?pa_l_lists_right ?pl_l_lists_right ?pc_l_lists_right ?pq_l_lists_right ?pa_l_clash ?pl_l_clash ?pc_l_clash ?pq_l_clash ?pa_l_unlike ?pl_l_unlike ?pc_l_unlike ?pq_l_unlike ?pa_l_joined_right ?pl_l_joined_right ?pc_l_joined_right ?pq_l_joined_right ?pa_f_law ?pl_f_law ?pc_f_law ?pq_f_law
    (case pz_TypeError => first | k_is | rfl)
    (case pz_abs => first | k_is | rfl)
    (case pz_all => first | k_is | rfl)
    (case pz_bool => first | k_is | rfl)
    (case pz_int => first | k_is | rfl)
    (case pz_isinstance => first | k_is | rfl)
    (case pz_len => first | k_is | rfl)
    (case pz_list => first | k_is | rfl)
    (case pz_min => first | k_is | rfl)
    (case pz_range => first | k_is | rfl)
    (case pz_sorted => first | k_is | rfl)
    (case pz_str => first | k_is | rfl)
    (case pz_tuple => first | k_is | rfl)
    (case pg_CostError => first | k_is | rfl)
    (case pek_CostError => first | k_is | rfl)
    (case peb_CostError => first | k_is | rfl)
    (case pet_CostError => first | k_is | rfl)
    (case peh_CostError => first | k_is | rfl)
    (case peic_CostError => first | k_is | rfl)
    (case pes_CostError => first | k_is | rfl)
    (case pxg_CostError => first | k_is | rfl)
    (case pxk_CostError => first | k_is | rfl)
    (case pxa_CostError => first | k_is | rfl)
    (case pxn_CostError => first | k_is | rfl)
    (case pxt_CostError => first | k_is | rfl)
    (case pxm_CostError => first | k_is | rfl)
    (case prd_CostError => first | k_is | rfl)
    (case pcg_CostError => first | k_is | rfl)
    (case pvi_CostError => first | k_is | rfl)
    (case pg_BadEntry => first | k_is | rfl)
    (case pek_BadEntry => first | k_is | rfl)
    (case peb_BadEntry => first | k_is | rfl)
    (case pet_BadEntry => first | k_is | rfl)
    (case peh_BadEntry => first | k_is | rfl)
    (case peic_BadEntry => first | k_is | rfl)
    (case pes_BadEntry => first | k_is | rfl)
    (case pxg_BadEntry => first | k_is | rfl)
    (case pxk_BadEntry => first | k_is | rfl)
    (case pxa_BadEntry => first | k_is | rfl)
    (case pxn_BadEntry => first | k_is | rfl)
    (case pxt_BadEntry => first | k_is | rfl)
    (case pxm_BadEntry => first | k_is | rfl)
    (case pxc_BadEntry => first | k_is | rfl)
    (case pn_BadEntry_day => first | k_is | rfl)
    (case pn_BadEntry_number => first | k_is | rfl)
    (case poi_BadEntry => first | k_is | rfl)
    (case pot_BadEntry => first | k_is | rfl)
    (case pol_BadEntry => first | k_is | rfl)
    (case pov_BadEntry => first | k_is | rfl)
    (case posa_BadEntry => first | k_is | rfl)
    (case pg_NoEntry => first | k_is | rfl)
    (case pek_NoEntry => first | k_is | rfl)
    (case peb_NoEntry => first | k_is | rfl)
    (case pet_NoEntry => first | k_is | rfl)
    (case peh_NoEntry => first | k_is | rfl)
    (case peic_NoEntry => first | k_is | rfl)
    (case pes_NoEntry => first | k_is | rfl)
    (case pxg_NoEntry => first | k_is | rfl)
    (case pxk_NoEntry => first | k_is | rfl)
    (case pxa_NoEntry => first | k_is | rfl)
    (case pxn_NoEntry => first | k_is | rfl)
    (case pxt_NoEntry => first | k_is | rfl)
    (case pxm_NoEntry => first | k_is | rfl)
    (case pn_NoEntry_day => first | k_is | rfl)
    (case pn_NoEntry_number => first | k_is | rfl)
    (case poi_NoEntry => first | k_is | rfl)
    (case pot_NoEntry => first | k_is | rfl)
    (case pol_NoEntry => first | k_is | rfl)
    (case pov_NoEntry => first | k_is | rfl)
    (case posa_NoEntry => first | k_is | rfl)
    (case pg_Book => first | k_is | rfl)
    (case ppg_Book => first | k_is | rfl)
    (case phd_Book => first | k_is | rfl)
    (case ppo_Book => first | k_is | rfl)
    (case psa_Book => first | k_is | rfl)
    (case pn_Book_entries => first | k_is | rfl)
    (case pma_Book => first | k_is | rfl)
    (case pmi_Book => first | k_is | rfl)
    (case pmf_Book => first | k_is | rfl)
    (case pmc_Book => first | k_is | rfl)
    (case pmt_m_Book_iter => first | k_is | rfl)
    (case pmn_m_Book_iter => first | k_is | rfl)
    (case pmk_m_Book_iter => first | k_is | rfl)
    (case pmt_m_Book_contains => first | k_is | rfl)
    (case pmn_m_Book_contains => first | k_is | rfl)
    (case pmk_m_Book_contains => first | k_is | rfl)
    (case pmt_m_Book_len => first | k_is | rfl)
    (case pmn_m_Book_len => first | k_is | rfl)
    (case pmk_m_Book_len => first | k_is | rfl)
    (case pmt_m_Book_getitem => first | k_is | rfl)
    (case pmn_m_Book_getitem => first | k_is | rfl)
    (case pmk_m_Book_getitem => first | k_is | rfl)
    (case pmt_m_Book_setitem => first | k_is | rfl)
    (case pmn_m_Book_setitem => first | k_is | rfl)
    (case pmk_m_Book_setitem => first | k_is | rfl)
    (case pmt_m_Book_remove => first | k_is | rfl)
    (case pmn_m_Book_remove => first | k_is | rfl)
    (case pmk_m_Book_remove => first | k_is | rfl)
    (case pmt_m_Book_places => first | k_is | rfl)
    (case pmn_m_Book_places => first | k_is | rfl)
    (case pmk_m_Book_places => first | k_is | rfl)
    (case pmt_m_Book_named => first | k_is | rfl)
    (case pmn_m_Book_named => first | k_is | rfl)
    (case pmk_m_Book_named => first | k_is | rfl)
    (case pmt_m_Book_lots => first | k_is | rfl)
    (case pmn_m_Book_lots => first | k_is | rfl)
    (case pmk_m_Book_lots => first | k_is | rfl)
    (case pmt_m_Book_sales => first | k_is | rfl)
    (case pmn_m_Book_sales => first | k_is | rfl)
    (case pmk_m_Book_sales => first | k_is | rfl)
    (case pmt_m_Book_late_costs => first | k_is | rfl)
    (case pmn_m_Book_late_costs => first | k_is | rfl)
    (case pmk_m_Book_late_costs => first | k_is | rfl)
    (case pmt_m_Book_joined => first | k_is | rfl)
    (case pmn_m_Book_joined => first | k_is | rfl)
    (case pmk_m_Book_joined => first | k_is | rfl)
    (case pfgi_Book => first | k_is | rfl)
    (case pnsq_Book => first | k_is | rfl)
    (case pg_LETTERS => first | k_is | rfl)
    (case pg_LONGEST => first | k_is | rfl)
    (case pg_MOST => first | k_is | rfl)
    (case pe_m_BadEntry_init => first | k_is | rfl)
    (case pl_m_BadEntry_init => first | k_is | rfl)
    (case pc_m_BadEntry_init => first | k_is | rfl)
    (case pq_m_BadEntry_init => first | k_is | rfl)
    (case pe_m_NoEntry_init => first | k_is | rfl)
    (case pl_m_NoEntry_init => first | k_is | rfl)
    (case pc_m_NoEntry_init => first | k_is | rfl)
    (case pq_m_NoEntry_init => first | k_is | rfl)
    (case pa_f_is_name => first | k_is | rfl)
    (case pl_f_is_name => first | k_is | rfl)
    (case pc_f_is_name => first | k_is | rfl)
    (case pq_f_is_name => first | k_is | rfl)
    (case pa_f_is_number => first | k_is | rfl)
    (case pl_f_is_number => first | k_is | rfl)
    (case pc_f_is_number => first | k_is | rfl)
    (case pq_f_is_number => first | k_is | rfl)
    (case pa_f_is_entry => first | k_is | rfl)
    (case pl_f_is_entry => first | k_is | rfl)
    (case pc_f_is_entry => first | k_is | rfl)
    (case pq_f_is_entry => first | k_is | rfl)
    (case pl_m_Book_init => first | k_is | rfl)
    (case pc_m_Book_init => first | k_is | rfl)
    (case pq_m_Book_init => first | k_is | rfl)
    (case pl_m_Book_iter => first | k_is | rfl)
    (case pc_m_Book_iter => first | k_is | rfl)
    (case pq_m_Book_iter => first | k_is | rfl)
    (case pl_m_Book_contains => first | k_is | rfl)
    (case pc_m_Book_contains => first | k_is | rfl)
    (case pq_m_Book_contains => first | k_is | rfl)
    (case pl_m_Book_len => first | k_is | rfl)
    (case pc_m_Book_len => first | k_is | rfl)
    (case pq_m_Book_len => first | k_is | rfl)
    (case pl_m_Book_getitem => first | k_is | rfl)
    (case pc_m_Book_getitem => first | k_is | rfl)
    (case pq_m_Book_getitem => first | k_is | rfl)
    (case pl_m_Book_setitem => first | k_is | rfl)
    (case pc_m_Book_setitem => first | k_is | rfl)
    (case pq_m_Book_setitem => first | k_is | rfl)
    (case pl_m_Book_remove => first | k_is | rfl)
    (case pc_m_Book_remove => first | k_is | rfl)
    (case pq_m_Book_remove => first | k_is | rfl)
    (case pl_m_Book_places => first | k_is | rfl)
    (case pc_m_Book_places => first | k_is | rfl)
    (case pq_m_Book_places => first | k_is | rfl)
    (case pl_m_Book_named => first | k_is | rfl)
    (case pc_m_Book_named => first | k_is | rfl)
    (case pq_m_Book_named => first | k_is | rfl)
    (case pl_m_Book_lots => first | k_is | rfl)
    (case pc_m_Book_lots => first | k_is | rfl)
    (case pq_m_Book_lots => first | k_is | rfl)
    (case pl_m_Book_sales => first | k_is | rfl)
    (case pc_m_Book_sales => first | k_is | rfl)
    (case pq_m_Book_sales => first | k_is | rfl)
    (case pl_m_Book_late_costs => first | k_is | rfl)
    (case pc_m_Book_late_costs => first | k_is | rfl)
    (case pq_m_Book_late_costs => first | k_is | rfl)
    (case pl_m_Book_joined => first | k_is | rfl)
    (case pc_m_Book_joined => first | k_is | rfl)
    (case pq_m_Book_joined => first | k_is | rfl)
    (case pa_l_bag => first | k_is | rfl)
    (case pl_l_bag => first | k_is | rfl)
    (case pc_l_bag => first | k_is | rfl)
    (case pq_l_bag => first | k_is | rfl)
    (case pa_l_draw => first | k_is | rfl)
    (case pl_l_draw => first | k_is | rfl)
    (case pc_l_draw => first | k_is | rfl)
    (case pq_l_draw => first | k_is | rfl)
    (case pa_l_names => first | k_is | rfl)
    (case pl_l_names => first | k_is | rfl)
    (case pc_l_names => first | k_is | rfl)
    (case pq_l_names => first | k_is | rfl)
    (case pa_l_pick => first | k_is | rfl)
    (case pl_l_pick => first | k_is | rfl)
    (case pc_l_pick => first | k_is | rfl)
    (case pq_l_pick => first | k_is | rfl)
    (case pa_l_mixed => first | k_is | rfl)
    (case pl_l_mixed => first | k_is | rfl)
    (case pc_l_mixed => first | k_is | rfl)
    (case pq_l_mixed => first | k_is | rfl)
    (case pa_l_next => first | k_is | rfl)
    (case pl_l_next => first | k_is | rfl)
    (case pc_l_next => first | k_is | rfl)
    (case pq_l_next => first | k_is | rfl)
    (case pa_l_entries => first | k_is | rfl)
    (case pl_l_entries => first | k_is | rfl)
    (case pc_l_entries => first | k_is | rfl)
    (case pq_l_entries => first | k_is | rfl)
    (case pa_l_book => first | k_is | rfl)
    (case pl_l_book => first | k_is | rfl)
    (case pc_l_book => first | k_is | rfl)
    (case pq_l_book => first | k_is | rfl)
    (case pa_l_kept => first | k_is | rfl)
    (case pl_l_kept => first | k_is | rfl)
    (case pc_l_kept => first | k_is | rfl)
    (case pq_l_kept => first | k_is | rfl)
    (case pa_l_named => first | k_is | rfl)
    (case pl_l_named => first | k_is | rfl)
    (case pc_l_named => first | k_is | rfl)
    (case pq_l_named => first | k_is | rfl)
    (case pa_l_lists_right => first | k_is | rfl)
    (case pl_l_lists_right => first | k_is | rfl)
    (case pc_l_lists_right => first | k_is | rfl)
    (case pq_l_lists_right => first | k_is | rfl)
    (case pa_l_clash => first | k_is | rfl)
    (case pl_l_clash => first | k_is | rfl)
    (case pc_l_clash => first | k_is | rfl)
    (case pq_l_clash => first | k_is | rfl)
    (case pa_l_unlike => first | k_is | rfl)
    (case pl_l_unlike => first | k_is | rfl)
    (case pc_l_unlike => first | k_is | rfl)
    (case pq_l_unlike => first | k_is | rfl)
    (case pa_l_joined_right => first | k_is | rfl)
    (case pl_l_joined_right => first | k_is | rfl)
    (case pc_l_joined_right => first | k_is | rfl)
    (case pq_l_joined_right => first | k_is | rfl)
    (case pa_f_law => first | k_is | rfl)
    (case pl_f_law => first | k_is | rfl)
    (case pc_f_law => first | k_is | rfl)
    (case pq_f_law => first | k_is | rfl)
#print axioms PySem.Challenge.cw_lotcosts_k33_books_joined_holds

