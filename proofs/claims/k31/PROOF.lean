import PyProof.Rows.All
import Wide.All
import OpenK.AllK
import Wide.FinOn
import HandS.ForMost
import HandS.ForExc
import HandS.Flow
import HandS.Evl
import HandS.Style
import KE.KOpsOwn
import HandS.ClsMeth
import HandS.OwnEq
import HandS.IsInst
import HandS.ExcIs
import HandS.ExcInit
import HandS.ExcField
import HandS.ExcValue
import HandS.MakeKwOnly
import KE.KExcIs
import KE.DataEq
import HandS.Wide
import HandS.Codes
import HandS.Text
import HandS.Defaults
import HandS.DictTup
import HandS.TupLen
import HandS.SortRule
import HandS.Conv
import HandS.Walk
import HandS.CallLocal
import PySem.Challenge.RW_lotcosts_k31_book_of_entries
set_option Elab.async false
set_option linter.all false
set_option pp.maxSteps 400
set_option maxRecDepth 100000
set_option maxHeartbeats 4000000
namespace Lot
open PySem L2
/-! ### steps -/
local macro_rules | `(tactic| walk_at "ne") => `(tactic| first
  | with_reducible assumption
  | (apply Ne.symm; with_reducible assumption)
  | exact ne_of_none (by with_reducible assumption) (by with_reducible assumption)
  | exact (ne_of_none (by with_reducible assumption) (by with_reducible assumption)).symm)
local macro_rules | `(tactic| walk_at "at") => `(tactic| first
  | with_reducible assumption
  | exact upd_same
  | (refine Eq.trans (upd_ne (by walk_at "ne")) ?_; walk_at "at"))
local macro_rules | `(tactic| walk_at "num") => `(tactic| first
  | decide
  | omega
  | (dsimp only; first | decide | omega))
local macro_rules | `(tactic| walk_at "fact") => `(tactic| first
  | with_reducible assumption
  | exact rfl
  | walk_at "at"
  | exact SqL.of (by walk_at "at")
  | exact SqT.of (by walk_at "at")
  | exact .inl (SqL.of (by walk_at "at"))
  | exact .inr (SqT.of (by walk_at "at"))
  | exact .inl ⟨rfl, _, SqL.of (by walk_at "at")⟩
  | exact Or.inl ⟨by walk_at "num", by walk_at "num"⟩
  | exact Or.inr ⟨by walk_at "num", by walk_at "num"⟩
  | exact ⟨by walk_at "num", by walk_at "num"⟩
  | exact ⟨by walk_at "num", by walk_at "num", by walk_at "num"⟩
  | exact wide_div (b := 9000) (by omega) (by assumption) (by decide) (by decide)
  | exact Nat.le_of_ble_eq_true rfl
  | assumption
  | walk_at "num")
local macro_rules | `(tactic| walk_at "go") => `(tactic| repeat (first
  | apply Exists.intro
  | refine And.intro (by walk_at "fact") ?_
  | refine Or.inl ⟨_, rfl, ?_⟩
  | refine Or.inr ⟨_, rfl, ?_⟩
  | refine iteT ?_
  | refine iteF ?_))
def top (i : Nat) : Stmt := PySem.Challenge.pw_lotcosts_k31_book_of_entries.main.body.getD i (.Pass ⟨0, 0, 0, 0⟩)
abbrev s_m_BadEntry_init : Stmt := inClass (top 3) 0
abbrev N_m_BadEntry_init : List Str := ["self", "day", "number"]
abbrev P_m_BadEntry_init : List Str := ["self", "day", "number"]
theorem sc_m_BadEntry_init : FnScope N_m_BadEntry_init P_m_BadEntry_init (defScope s_m_BadEntry_init) := ⟨rfl, rfl, rfl, by decide +kernel, rfl, by decide +kernel, by decide +kernel⟩
abbrev s_m_NoEntry_init : Stmt := inClass (top 4) 0
abbrev N_m_NoEntry_init : List Str := ["self", "day", "number"]
abbrev P_m_NoEntry_init : List Str := ["self", "day", "number"]
theorem sc_m_NoEntry_init : FnScope N_m_NoEntry_init P_m_NoEntry_init (defScope s_m_NoEntry_init) := ⟨rfl, rfl, rfl, by decide +kernel, rfl, by decide +kernel, by decide +kernel⟩
abbrev s_f_is_name : Stmt := top 9
abbrev N_f_is_name : List Str := ["name", "letter"]
abbrev P_f_is_name : List Str := ["name"]
theorem sc_f_is_name : FnScope N_f_is_name P_f_is_name (defScope s_f_is_name) := ⟨rfl, rfl, rfl, by decide +kernel, rfl, by decide +kernel, by decide +kernel⟩
abbrev s_f_is_number : Stmt := top 10
abbrev N_f_is_number : List Str := ["value", "least"]
abbrev P_f_is_number : List Str := ["value", "least"]
theorem sc_f_is_number : FnScope N_f_is_number P_f_is_number (defScope s_f_is_number) := ⟨rfl, rfl, rfl, by decide +kernel, rfl, by decide +kernel, by decide +kernel⟩
abbrev s_f_is_entry : Stmt := top 11
abbrev N_f_is_entry : List Str := ["entry", "units", "lot"]
abbrev P_f_is_entry : List Str := ["entry"]
theorem sc_f_is_entry : FnScope N_f_is_entry P_f_is_entry (defScope s_f_is_entry) := ⟨rfl, rfl, rfl, by decide +kernel, rfl, by decide +kernel, by decide +kernel⟩
abbrev s_m_Book_init : Stmt := inClass (top 12) 0
abbrev N_m_Book_init : List Str := ["self"]
abbrev P_m_Book_init : List Str := ["self"]
theorem sc_m_Book_init : FnScope N_m_Book_init P_m_Book_init (defScope s_m_Book_init) := ⟨rfl, rfl, rfl, by decide +kernel, rfl, by decide +kernel, by decide +kernel⟩
abbrev s_m_Book_iter : Stmt := inClass (top 12) 1
abbrev N_m_Book_iter : List Str := ["self"]
abbrev P_m_Book_iter : List Str := ["self"]
theorem sc_m_Book_iter : FnScope N_m_Book_iter P_m_Book_iter (defScope s_m_Book_iter) := ⟨rfl, rfl, rfl, by decide +kernel, rfl, by decide +kernel, by decide +kernel⟩
abbrev s_m_Book_contains : Stmt := inClass (top 12) 2
abbrev N_m_Book_contains : List Str := ["self", "place"]
abbrev P_m_Book_contains : List Str := ["self", "place"]
theorem sc_m_Book_contains : FnScope N_m_Book_contains P_m_Book_contains (defScope s_m_Book_contains) := ⟨rfl, rfl, rfl, by decide +kernel, rfl, by decide +kernel, by decide +kernel⟩
abbrev s_m_Book_len : Stmt := inClass (top 12) 3
abbrev N_m_Book_len : List Str := ["self"]
abbrev P_m_Book_len : List Str := ["self"]
theorem sc_m_Book_len : FnScope N_m_Book_len P_m_Book_len (defScope s_m_Book_len) := ⟨rfl, rfl, rfl, by decide +kernel, rfl, by decide +kernel, by decide +kernel⟩
abbrev s_m_Book_getitem : Stmt := inClass (top 12) 4
abbrev N_m_Book_getitem : List Str := ["self", "place", "day", "number"]
abbrev P_m_Book_getitem : List Str := ["self", "place"]
theorem sc_m_Book_getitem : FnScope N_m_Book_getitem P_m_Book_getitem (defScope s_m_Book_getitem) := ⟨rfl, rfl, rfl, by decide +kernel, rfl, by decide +kernel, by decide +kernel⟩
abbrev s_m_Book_setitem : Stmt := inClass (top 12) 5
abbrev N_m_Book_setitem : List Str := ["self", "place", "entry", "day", "number"]
abbrev P_m_Book_setitem : List Str := ["self", "place", "entry"]
theorem sc_m_Book_setitem : FnScope N_m_Book_setitem P_m_Book_setitem (defScope s_m_Book_setitem) := ⟨rfl, rfl, rfl, by decide +kernel, rfl, by decide +kernel, by decide +kernel⟩
abbrev s_m_Book_remove : Stmt := inClass (top 12) 6
abbrev N_m_Book_remove : List Str := ["self", "day", "number"]
abbrev P_m_Book_remove : List Str := ["self", "day", "number"]
theorem sc_m_Book_remove : FnScope N_m_Book_remove P_m_Book_remove (defScope s_m_Book_remove) := ⟨rfl, rfl, rfl, by decide +kernel, rfl, by decide +kernel, by decide +kernel⟩
abbrev s_m_Book_places : Stmt := inClass (top 12) 7
abbrev N_m_Book_places : List Str := ["self"]
abbrev P_m_Book_places : List Str := ["self"]
theorem sc_m_Book_places : FnScope N_m_Book_places P_m_Book_places (defScope s_m_Book_places) := ⟨rfl, rfl, rfl, by decide +kernel, rfl, by decide +kernel, by decide +kernel⟩
abbrev s_m_Book_named : Stmt := inClass (top 12) 8
abbrev N_m_Book_named : List Str := ["self", "kind", "found", "place", "entry"]
abbrev P_m_Book_named : List Str := ["self", "kind"]
theorem sc_m_Book_named : FnScope N_m_Book_named P_m_Book_named (defScope s_m_Book_named) := ⟨rfl, rfl, rfl, by decide +kernel, rfl, by decide +kernel, by decide +kernel⟩
abbrev s_m_Book_lots : Stmt := inClass (top 12) 9
abbrev N_m_Book_lots : List Str := ["self"]
abbrev P_m_Book_lots : List Str := ["self"]
theorem sc_m_Book_lots : FnScope N_m_Book_lots P_m_Book_lots (defScope s_m_Book_lots) := ⟨rfl, rfl, rfl, by decide +kernel, rfl, by decide +kernel, by decide +kernel⟩
abbrev s_m_Book_sales : Stmt := inClass (top 12) 10
abbrev N_m_Book_sales : List Str := ["self"]
abbrev P_m_Book_sales : List Str := ["self"]
theorem sc_m_Book_sales : FnScope N_m_Book_sales P_m_Book_sales (defScope s_m_Book_sales) := ⟨rfl, rfl, rfl, by decide +kernel, rfl, by decide +kernel, by decide +kernel⟩
abbrev s_m_Book_late_costs : Stmt := inClass (top 12) 11
abbrev N_m_Book_late_costs : List Str := ["self"]
abbrev P_m_Book_late_costs : List Str := ["self"]
theorem sc_m_Book_late_costs : FnScope N_m_Book_late_costs P_m_Book_late_costs (defScope s_m_Book_late_costs) := ⟨rfl, rfl, rfl, by decide +kernel, rfl, by decide +kernel, by decide +kernel⟩
abbrev s_l_bag : Stmt := top 14
abbrev N_l_bag : List Str := ["_law_script"]
abbrev P_l_bag : List Str := ["_law_script"]
theorem sc_l_bag : FnScope N_l_bag P_l_bag (defScope s_l_bag) := ⟨rfl, rfl, rfl, by decide +kernel, rfl, by decide +kernel, by decide +kernel⟩
abbrev s_l_draw : Stmt := top 15
abbrev N_l_draw : List Str := ["_law_bag_here", "_law_size", "_law_cell", "_law_digit", "_law_mixed"]
abbrev P_l_draw : List Str := ["_law_bag_here", "_law_size"]
theorem sc_l_draw : FnScope N_l_draw P_l_draw (defScope s_l_draw) := ⟨rfl, rfl, rfl, by decide +kernel, rfl, by decide +kernel, by decide +kernel⟩
abbrev s_l_names : Stmt := top 16
abbrev N_l_names : List Str := ["_law_bag_here", "_law_count", "_law_words", "_law_letters", "_law_size", "_law_stem", "_law_where", "_law_shift", "_law_longer", "_law_names_here", "_law_k", "_law_name", "_law_spot", "_law_word"]
abbrev P_l_names : List Str := ["_law_bag_here", "_law_count", "_law_words"]
theorem sc_l_names : FnScope N_l_names P_l_names (defScope s_l_names) := ⟨rfl, rfl, rfl, by decide +kernel, rfl, by decide +kernel, by decide +kernel⟩
abbrev s_l_pick : Stmt := top 17
abbrev N_l_pick : List Str := ["_law_bag_here", "_law_items"]
abbrev P_l_pick : List Str := ["_law_bag_here", "_law_items"]
theorem sc_l_pick : FnScope N_l_pick P_l_pick (defScope s_l_pick) := ⟨rfl, rfl, rfl, by decide +kernel, rfl, by decide +kernel, by decide +kernel⟩
abbrev s_l_drawn_entry : Stmt := top 18
abbrev N_l_drawn_entry : List Str := ["_law_bag_here", "_law_names_here", "_law_kind", "_law_name"]
abbrev P_l_drawn_entry : List Str := ["_law_bag_here", "_law_names_here"]
theorem sc_l_drawn_entry : FnScope N_l_drawn_entry P_l_drawn_entry (defScope s_l_drawn_entry) := ⟨rfl, rfl, rfl, by decide +kernel, rfl, by decide +kernel, by decide +kernel⟩
abbrev s_l_drawn_spot : Stmt := top 19
abbrev N_l_drawn_spot : List Str := ["_law_bag_here", "_law_day"]
abbrev P_l_drawn_spot : List Str := ["_law_bag_here"]
theorem sc_l_drawn_spot : FnScope N_l_drawn_spot P_l_drawn_spot (defScope s_l_drawn_spot) := ⟨rfl, rfl, rfl, by decide +kernel, rfl, by decide +kernel, by decide +kernel⟩
abbrev s_l_named : Stmt := top 20
abbrev N_l_named : List Str := ["_law_entries", "_law_kind", "_law_found", "_law_spot"]
abbrev P_l_named : List Str := ["_law_entries", "_law_kind"]
theorem sc_l_named : FnScope N_l_named P_l_named (defScope s_l_named) := ⟨rfl, rfl, rfl, by decide +kernel, rfl, by decide +kernel, by decide +kernel⟩
abbrev s_l_missing : Stmt := top 21
abbrev N_l_missing : List Str := ["_law_book", "_law_spot", "_law_deed", "_law_told", "e"]
abbrev P_l_missing : List Str := ["_law_book", "_law_spot", "_law_deed"]
theorem sc_l_missing : FnScope N_l_missing P_l_missing (defScope s_l_missing) := ⟨rfl, rfl, rfl, by decide +kernel, rfl, by decide +kernel, by decide +kernel⟩
abbrev s_l_looks : Stmt := top 22
abbrev N_l_looks : List Str := ["_law_book", "_law_spot"]
abbrev P_l_looks : List Str := ["_law_book", "_law_spot"]
theorem sc_l_looks : FnScope N_l_looks P_l_looks (defScope s_l_looks) := ⟨rfl, rfl, rfl, by decide +kernel, rfl, by decide +kernel, by decide +kernel⟩
abbrev s_l_takes_out : Stmt := top 23
abbrev N_l_takes_out : List Str := ["_law_book", "_law_spot"]
abbrev P_l_takes_out : List Str := ["_law_book", "_law_spot"]
theorem sc_l_takes_out : FnScope N_l_takes_out P_l_takes_out (defScope s_l_takes_out) := ⟨rfl, rfl, rfl, by decide +kernel, rfl, by decide +kernel, by decide +kernel⟩
abbrev s_l_book_right : Stmt := top 24
abbrev N_l_book_right : List Str := ["_law_book", "_law_entries", "_law_spots", "_law_told", "_law_item", "_law_spot"]
abbrev P_l_book_right : List Str := ["_law_book", "_law_entries", "_law_spots"]
theorem sc_l_book_right : FnScope N_l_book_right P_l_book_right (defScope s_l_book_right) := ⟨rfl, rfl, rfl, by decide +kernel, rfl, by decide +kernel, by decide +kernel⟩
abbrev s_f_law : Stmt := top 25
abbrev N_f_law : List Str := ["_law_script", "_law_bag_here", "_law_names_here", "_law_spots", "_law_book", "_law_entries", "_law_k", "_law_spot", "_law_entry"]
abbrev P_f_law : List Str := ["_law_script"]
theorem sc_f_law : FnScope N_f_law P_f_law (defScope s_f_law) := ⟨rfl, rfl, rfl, by decide +kernel, rfl, by decide +kernel, by decide +kernel⟩
/-- no __iop__ in the class's chain -/
def noI (K : PySem.W.Frag) (C : Addr) (nm : String) : Bool := (PySem.W.clsIn K C).any fun cd => cd.mro.all fun c => PySem.W.findIn K c (dunderI nm) == some none
/-- C.m is a staticmethod: its record at p, its def at g -/
structure SMet (K : PySem.W.Frag) (C : Addr) (m : Str) (p g : Addr) : Prop where
  rd : PySem.W.readsIn K C (.type "type") = true
  ga : PySem.W.specialIn K (.ref C) "__getattribute__" = some (some (.builtin "type.__getattribute__"))
  at_ : PySem.W.findCls K (.ref C) (.type "type") m = some (.get (.builtin "staticmethod.__get__") (.ref p) .none (.ref C))
  rc : ∃ rest, PySem.W.recIn K p "staticmethod" = some (.ref g :: rest)
  kp : PySem.W.keepIn K (.ref g) = true
/-- each of the classes cs is itself alone among them, and under CE and ValueError -/
def kitAll (K : PySem.W.Frag) (cs : List Addr) (CE : Addr) : Bool := cs.all fun C => cs.count C == 1 && (cs.all fun D => PySem.W.kitOne K (.ref C) (.ref D) == some (C == D)) && PySem.W.kitOne K (.ref C) (.ref CE) == some true && PySem.W.kitOne K (.ref C) (.type "ValueError") == some true
structure Ad where
  CostError : Addr
  BadEntry : Addr
  NoEntry : Addr
  Book : Addr
  m_BadEntry_init : Addr
  fd_m_BadEntry_init : FuncData
  m_NoEntry_init : Addr
  fd_m_NoEntry_init : FuncData
  f_is_name : Addr
  fd_f_is_name : FuncData
  f_is_number : Addr
  fd_f_is_number : FuncData
  f_is_entry : Addr
  fd_f_is_entry : FuncData
  m_Book_init : Addr
  fd_m_Book_init : FuncData
  m_Book_iter : Addr
  fd_m_Book_iter : FuncData
  m_Book_contains : Addr
  fd_m_Book_contains : FuncData
  m_Book_len : Addr
  fd_m_Book_len : FuncData
  m_Book_getitem : Addr
  fd_m_Book_getitem : FuncData
  m_Book_setitem : Addr
  fd_m_Book_setitem : FuncData
  m_Book_remove : Addr
  fd_m_Book_remove : FuncData
  m_Book_places : Addr
  fd_m_Book_places : FuncData
  m_Book_named : Addr
  fd_m_Book_named : FuncData
  m_Book_lots : Addr
  fd_m_Book_lots : FuncData
  m_Book_sales : Addr
  fd_m_Book_sales : FuncData
  m_Book_late_costs : Addr
  fd_m_Book_late_costs : FuncData
  l_bag : Addr
  fd_l_bag : FuncData
  l_draw : Addr
  fd_l_draw : FuncData
  l_names : Addr
  fd_l_names : FuncData
  l_pick : Addr
  fd_l_pick : FuncData
  l_drawn_entry : Addr
  fd_l_drawn_entry : FuncData
  l_drawn_spot : Addr
  fd_l_drawn_spot : FuncData
  l_named : Addr
  fd_l_named : FuncData
  l_missing : Addr
  fd_l_missing : FuncData
  l_looks : Addr
  fd_l_looks : FuncData
  l_takes_out : Addr
  fd_l_takes_out : FuncData
  l_book_right : Addr
  fd_l_book_right : FuncData
  f_law : Addr
  fd_f_law : FuncData
structure Txt (K : PySem.W.Frag) (mg : Str → Option Value) (A : Ad) : Prop where
  z_TypeError : mg "TypeError" = none
  z_abs : mg "abs" = none
  z_all : mg "all" = none
  z_bool : mg "bool" = none
  z_int : mg "int" = none
  z_isinstance : mg "isinstance" = none
  z_len : mg "len" = none
  z_list : mg "list" = none
  z_range : mg "range" = none
  z_sorted : mg "sorted" = none
  z_str : mg "str" = none
  z_tuple : mg "tuple" = none
  g_CostError : mg "CostError" = some (.ref A.CostError)
  ek_CostError : PySem.W.keepIn K (.ref A.CostError) = true
  eb_CostError : PySem.W.subIn K (.ref A.CostError) (.type "BaseException") = some true
  et_CostError : PySem.W.typeIn K (.ref A.CostError) = some (.type "type")
  eh_CostError : PySem.W.hasDictIn K A.CostError = true
  eic_CostError : PySem.W.isClsIn K A.CostError = true
  es_CostError : PySem.W.subIn K (.ref A.CostError) (.ref A.CostError) = some true
  xg_CostError : PySem.W.findIn K (.ref A.CostError) "__getattribute__" = some (some (.builtin "BaseException.__getattribute__"))
  xk_CostError : PySem.W.findIn K (.ref A.CostError) "__getattr__" = some none
  xa_CostError : PySem.W.findIn K (.ref A.CostError) "__class__" = some (some (.builtin "object.__class__"))
  xn_CostError : PySem.W.specialIn K (.builtin "object.__class__") "__get__" = some (some (.builtin "getset_descriptor.__get__"))
  xt_CostError : PySem.W.takesIn K (.builtin "object.__class__") = some true
  xm_CostError : PySem.W.mroIn K A.CostError (.type "object") = some true
  rd_CostError : PySem.W.readsIn K A.CostError (.type "type") = true
  cg_CostError : PySem.W.specialIn K (.ref A.CostError) "__getattribute__" = some (some (.builtin "type.__getattribute__"))
  vi_CostError : PySem.W.findCls K (.ref A.CostError) (.type "type") "__init__" = some (.val (.builtin "ValueError.__init__"))
  g_BadEntry : mg "BadEntry" = some (.ref A.BadEntry)
  ek_BadEntry : PySem.W.keepIn K (.ref A.BadEntry) = true
  eb_BadEntry : PySem.W.subIn K (.ref A.BadEntry) (.type "BaseException") = some true
  et_BadEntry : PySem.W.typeIn K (.ref A.BadEntry) = some (.type "type")
  eh_BadEntry : PySem.W.hasDictIn K A.BadEntry = true
  eic_BadEntry : PySem.W.isClsIn K A.BadEntry = true
  es_BadEntry : PySem.W.subIn K (.ref A.BadEntry) (.ref A.BadEntry) = some true
  xg_BadEntry : PySem.W.findIn K (.ref A.BadEntry) "__getattribute__" = some (some (.builtin "BaseException.__getattribute__"))
  xk_BadEntry : PySem.W.findIn K (.ref A.BadEntry) "__getattr__" = some none
  xa_BadEntry : PySem.W.findIn K (.ref A.BadEntry) "__class__" = some (some (.builtin "object.__class__"))
  xn_BadEntry : PySem.W.specialIn K (.builtin "object.__class__") "__get__" = some (some (.builtin "getset_descriptor.__get__"))
  xt_BadEntry : PySem.W.takesIn K (.builtin "object.__class__") = some true
  xm_BadEntry : PySem.W.mroIn K A.BadEntry (.type "object") = some true
  n_BadEntry_day : PySem.W.findIn K (.ref A.BadEntry) "day" = some none
  n_BadEntry_number : PySem.W.findIn K (.ref A.BadEntry) "number" = some none
  oi_BadEntry : PySem.W.findIn K (.ref A.BadEntry) "__init__" = some (some (.ref A.m_BadEntry_init))
  ot_BadEntry : PySem.W.typeIn K (.ref A.m_BadEntry_init) = some (.type "function")
  ox_BadEntry : OexC K A.BadEntry
  g_NoEntry : mg "NoEntry" = some (.ref A.NoEntry)
  ek_NoEntry : PySem.W.keepIn K (.ref A.NoEntry) = true
  eb_NoEntry : PySem.W.subIn K (.ref A.NoEntry) (.type "BaseException") = some true
  et_NoEntry : PySem.W.typeIn K (.ref A.NoEntry) = some (.type "type")
  eh_NoEntry : PySem.W.hasDictIn K A.NoEntry = true
  eic_NoEntry : PySem.W.isClsIn K A.NoEntry = true
  es_NoEntry : PySem.W.subIn K (.ref A.NoEntry) (.ref A.NoEntry) = some true
  xg_NoEntry : PySem.W.findIn K (.ref A.NoEntry) "__getattribute__" = some (some (.builtin "BaseException.__getattribute__"))
  xk_NoEntry : PySem.W.findIn K (.ref A.NoEntry) "__getattr__" = some none
  xa_NoEntry : PySem.W.findIn K (.ref A.NoEntry) "__class__" = some (some (.builtin "object.__class__"))
  xn_NoEntry : PySem.W.specialIn K (.builtin "object.__class__") "__get__" = some (some (.builtin "getset_descriptor.__get__"))
  xt_NoEntry : PySem.W.takesIn K (.builtin "object.__class__") = some true
  xm_NoEntry : PySem.W.mroIn K A.NoEntry (.type "object") = some true
  xc_NoEntry : PySem.W.kitOne K (.ref A.NoEntry) (.ref A.CostError) = some true
  n_NoEntry_day : PySem.W.findIn K (.ref A.NoEntry) "day" = some none
  n_NoEntry_number : PySem.W.findIn K (.ref A.NoEntry) "number" = some none
  oi_NoEntry : PySem.W.findIn K (.ref A.NoEntry) "__init__" = some (some (.ref A.m_NoEntry_init))
  ot_NoEntry : PySem.W.typeIn K (.ref A.m_NoEntry_init) = some (.type "function")
  ox_NoEntry : OexC K A.NoEntry
  g_Book : mg "Book" = some (.ref A.Book)
  cl_Book : Cls K A.Book
  n_Book_entries : NoAttr K A.Book "entries"
  mk_Book : Mk K A.Book A.m_Book_init
  m_Book___iter__ : Meth K A.Book "__iter__" A.m_Book_iter
  m_Book___contains__ : Meth K A.Book "__contains__" A.m_Book_contains
  m_Book___len__ : Meth K A.Book "__len__" A.m_Book_len
  m_Book___getitem__ : Meth K A.Book "__getitem__" A.m_Book_getitem
  m_Book___setitem__ : Meth K A.Book "__setitem__" A.m_Book_setitem
  m_Book_remove : Meth K A.Book "remove" A.m_Book_remove
  m_Book_places : Meth K A.Book "places" A.m_Book_places
  m_Book_named : Meth K A.Book "named" A.m_Book_named
  m_Book_lots : Meth K A.Book "lots" A.m_Book_lots
  m_Book_sales : Meth K A.Book "sales" A.m_Book_sales
  m_Book_late_costs : Meth K A.Book "late_costs" A.m_Book_late_costs
  fgi_Book : PySem.W.fnIn K A.m_Book_getitem = true
  nsq_Book : PySem.W.noSeq K A.Book = true
  g_LETTERS : ∃ t, mg "LETTERS" = some (.str "abcdefghijklmnopqrstuvwxyz" t)
  g_LONGEST : ∃ t, mg "LONGEST" = some (.int 12 t)
  g_MOST : ∃ t, mg "MOST" = some (.int 1000000 t)
  F_m_BadEntry_init : Fun K "__init__" "BadEntry.__init__" s_m_BadEntry_init A.m_BadEntry_init A.fd_m_BadEntry_init
  b_m_BadEntry_init : Binds K A.fd_m_BadEntry_init P_m_BadEntry_init []
  F_m_NoEntry_init : Fun K "__init__" "NoEntry.__init__" s_m_NoEntry_init A.m_NoEntry_init A.fd_m_NoEntry_init
  b_m_NoEntry_init : Binds K A.fd_m_NoEntry_init P_m_NoEntry_init []
  F_f_is_name : Fun K "is_name" "is_name" s_f_is_name A.f_is_name A.fd_f_is_name
  b_f_is_name : Binds K A.fd_f_is_name P_f_is_name []
  g_is_name : mg "is_name" = some (.ref A.f_is_name)
  F_f_is_number : Fun K "is_number" "is_number" s_f_is_number A.f_is_number A.fd_f_is_number
  b_f_is_number : Binds K A.fd_f_is_number P_f_is_number []
  g_is_number : mg "is_number" = some (.ref A.f_is_number)
  F_f_is_entry : Fun K "is_entry" "is_entry" s_f_is_entry A.f_is_entry A.fd_f_is_entry
  b_f_is_entry : Binds K A.fd_f_is_entry P_f_is_entry []
  g_is_entry : mg "is_entry" = some (.ref A.f_is_entry)
  F_m_Book_init : Fun K "__init__" "Book.__init__" s_m_Book_init A.m_Book_init A.fd_m_Book_init
  b_m_Book_init : Binds K A.fd_m_Book_init P_m_Book_init []
  F_m_Book_iter : Fun K "__iter__" "Book.__iter__" s_m_Book_iter A.m_Book_iter A.fd_m_Book_iter
  b_m_Book_iter : Binds K A.fd_m_Book_iter P_m_Book_iter []
  F_m_Book_contains : Fun K "__contains__" "Book.__contains__" s_m_Book_contains A.m_Book_contains A.fd_m_Book_contains
  b_m_Book_contains : Binds K A.fd_m_Book_contains P_m_Book_contains []
  F_m_Book_len : Fun K "__len__" "Book.__len__" s_m_Book_len A.m_Book_len A.fd_m_Book_len
  b_m_Book_len : Binds K A.fd_m_Book_len P_m_Book_len []
  F_m_Book_getitem : Fun K "__getitem__" "Book.__getitem__" s_m_Book_getitem A.m_Book_getitem A.fd_m_Book_getitem
  b_m_Book_getitem : Binds K A.fd_m_Book_getitem P_m_Book_getitem []
  F_m_Book_setitem : Fun K "__setitem__" "Book.__setitem__" s_m_Book_setitem A.m_Book_setitem A.fd_m_Book_setitem
  b_m_Book_setitem : Binds K A.fd_m_Book_setitem P_m_Book_setitem []
  F_m_Book_remove : Fun K "remove" "Book.remove" s_m_Book_remove A.m_Book_remove A.fd_m_Book_remove
  b_m_Book_remove : Binds K A.fd_m_Book_remove P_m_Book_remove []
  F_m_Book_places : Fun K "places" "Book.places" s_m_Book_places A.m_Book_places A.fd_m_Book_places
  b_m_Book_places : Binds K A.fd_m_Book_places P_m_Book_places []
  F_m_Book_named : Fun K "named" "Book.named" s_m_Book_named A.m_Book_named A.fd_m_Book_named
  b_m_Book_named : Binds K A.fd_m_Book_named P_m_Book_named []
  F_m_Book_lots : Fun K "lots" "Book.lots" s_m_Book_lots A.m_Book_lots A.fd_m_Book_lots
  b_m_Book_lots : Binds K A.fd_m_Book_lots P_m_Book_lots []
  F_m_Book_sales : Fun K "sales" "Book.sales" s_m_Book_sales A.m_Book_sales A.fd_m_Book_sales
  b_m_Book_sales : Binds K A.fd_m_Book_sales P_m_Book_sales []
  F_m_Book_late_costs : Fun K "late_costs" "Book.late_costs" s_m_Book_late_costs A.m_Book_late_costs A.fd_m_Book_late_costs
  b_m_Book_late_costs : Binds K A.fd_m_Book_late_costs P_m_Book_late_costs []
  F_l_bag : Fun K "_law_bag" "_law_bag" s_l_bag A.l_bag A.fd_l_bag
  b_l_bag : Binds K A.fd_l_bag P_l_bag []
  g__law_bag : mg "_law_bag" = some (.ref A.l_bag)
  F_l_draw : Fun K "_law_draw" "_law_draw" s_l_draw A.l_draw A.fd_l_draw
  b_l_draw : Binds K A.fd_l_draw P_l_draw []
  g__law_draw : mg "_law_draw" = some (.ref A.l_draw)
  F_l_names : Fun K "_law_names" "_law_names" s_l_names A.l_names A.fd_l_names
  b_l_names : Binds K A.fd_l_names P_l_names []
  g__law_names : mg "_law_names" = some (.ref A.l_names)
  F_l_pick : Fun K "_law_pick" "_law_pick" s_l_pick A.l_pick A.fd_l_pick
  b_l_pick : Binds K A.fd_l_pick P_l_pick []
  g__law_pick : mg "_law_pick" = some (.ref A.l_pick)
  F_l_drawn_entry : Fun K "_law_drawn_entry" "_law_drawn_entry" s_l_drawn_entry A.l_drawn_entry A.fd_l_drawn_entry
  b_l_drawn_entry : Binds K A.fd_l_drawn_entry P_l_drawn_entry []
  g__law_drawn_entry : mg "_law_drawn_entry" = some (.ref A.l_drawn_entry)
  F_l_drawn_spot : Fun K "_law_drawn_spot" "_law_drawn_spot" s_l_drawn_spot A.l_drawn_spot A.fd_l_drawn_spot
  b_l_drawn_spot : Binds K A.fd_l_drawn_spot P_l_drawn_spot []
  g__law_drawn_spot : mg "_law_drawn_spot" = some (.ref A.l_drawn_spot)
  F_l_named : Fun K "_law_named" "_law_named" s_l_named A.l_named A.fd_l_named
  b_l_named : Binds K A.fd_l_named P_l_named []
  g__law_named : mg "_law_named" = some (.ref A.l_named)
  F_l_missing : Fun K "_law_missing" "_law_missing" s_l_missing A.l_missing A.fd_l_missing
  b_l_missing : Binds K A.fd_l_missing P_l_missing []
  g__law_missing : mg "_law_missing" = some (.ref A.l_missing)
  F_l_looks : Fun K "_law_looks" "_law_looks" s_l_looks A.l_looks A.fd_l_looks
  b_l_looks : Binds K A.fd_l_looks P_l_looks []
  g__law_looks : mg "_law_looks" = some (.ref A.l_looks)
  F_l_takes_out : Fun K "_law_takes_out" "_law_takes_out" s_l_takes_out A.l_takes_out A.fd_l_takes_out
  b_l_takes_out : Binds K A.fd_l_takes_out P_l_takes_out []
  g__law_takes_out : mg "_law_takes_out" = some (.ref A.l_takes_out)
  F_l_book_right : Fun K "_law_book_right" "_law_book_right" s_l_book_right A.l_book_right A.fd_l_book_right
  b_l_book_right : Binds K A.fd_l_book_right P_l_book_right []
  g__law_book_right : mg "_law_book_right" = some (.ref A.l_book_right)
  F_f_law : Fun K "law" "law" s_f_law A.f_law A.fd_f_law
  b_f_law : Binds K A.fd_f_law P_f_law []
  g_law : mg "law" = some (.ref A.f_law)
/-- a word that the steps don't open -/
structure Wd (p : Prop) : Prop where
  ok : p
section
variable {X : Cx}
def tG (t : TS) : TS := fun D σ H => Wd (t D σ H)
def tGE (t : TE) : TE := fun σ H Q => Wd (t σ H Q)
theorem ps_g {st : Stmt} {t : TS} (h : PS X st t) : PS X st (tG t) := ⟨fun pins s σ H D I hw => h.run pins s σ H D I hw.ok⟩
theorem pss_g {st : List Stmt} {t : TS} (h : PSs X st t) : PSs X st (tG t) := ⟨fun pins s σ H D I hw => h.run pins s σ H D I hw.ok⟩
theorem pe_g {e : Expr} {t : TE} (h : PE X e t) : PE X e (tGE t) := ⟨fun pins s σ H Q I hw => h.run pins s σ H Q I hw.ok⟩
end
theorem if_int {i j : Int} {A B : Prop} (h1 : i = j → A) (h2 : i ≠ j → B) : if decide (V.int i = V.int j) = true then A else B := by
  by_cases e : i = j
  · rw [if_pos (decide_eq_true (congrArg V.int e))]
    exact h1 e
  · rw [if_neg fun z => e (V.int.inj (of_decide_eq_true z))]
    exact h2 e
theorem if_intN {i j : Int} {A B : Prop} (h1 : i ≠ j → A) (h2 : i = j → B) : if (!decide (V.int i = V.int j)) = true then A else B := by
  by_cases e : i = j
  · rw [decide_eq_true (congrArg V.int e)]
    exact iteF (h2 e)
  · rw [decide_eq_false fun z => e (V.int.inj z)]
    exact iteT (h1 e)
theorem if_dec {p A B : Prop} [Decidable p] (h1 : p → A) (h2 : ¬ p → B) : if decide p = true then A else B := by
  by_cases e : p
  · rw [if_pos (decide_eq_true e)]
    exact h1 e
  · rw [if_neg fun z => e (of_decide_eq_true z)]
    exact h2 e
theorem ifT {p A B : Prop} [Decidable p] (hp : p) (h : A) : if decide p = true then A else B := by
  rw [if_pos (decide_eq_true hp)]
  exact h
theorem ifF {p A B : Prop} [Decidable p] (hp : ¬ p) (h : B) : if decide p = true then A else B := by
  rw [if_neg fun z => hp (of_decide_eq_true z)]
  exact h
theorem ifNT {p A B : Prop} [Decidable p] (hp : p) (h : B) : if (!decide p) = true then A else B := by
  rw [decide_eq_true hp]
  exact iteF h
theorem ifNF {p A B : Prop} [Decidable p] (hp : ¬ p) (h : A) : if (!decide p) = true then A else B := by
  rw [decide_eq_false hp]
  exact iteT h
theorem if_bl {b : Bool} {A B : Prop} (h1 : b = true → A) (h2 : b = false → B) : if b = true then A else B := by
  cases b with
  | true => exact h1 rfl
  | false => exact iteF (h2 rfl)
/-- all but what stands at g is kept -/
def Kp (g : Addr) (H H' : Hp) : Prop := ∀ b o, H b = some o → b ≠ g → H' b = some o
theorem Kp.refl (g : Addr) (H : Hp) : Kp g H H := fun _ _ h _ => h
theorem Kp.trans {g : Addr} {H H1 H2 : Hp} (a : Kp g H H1) (b : Kp g H1 H2) : Kp g H H2 := fun c o h n => b c o (a c o h n) n
theorem Kp.up {g : Addr} {H H' : Hp} {o : HO} (k : Kp g H H') : Kp g H (upd H' g o) := fun b u e n => by
  rw [upd_ne n]
  exact k b u e n

/-! ### the bag of draws -/
structure Bag (H : Hp) (g l : Addr) : Prop where
  ex : ∃ (i r s c : Int) (ns : List Int), H g = some (.lst [.ref l, .int i, .int r, .int s, .int c]) ∧ H l = some (.lst (ns.map V.int)) ∧ 0 ≤ i
def spDraw : Sp := fun vs H Q _ => ∃ (g l : Addr) (z : Int), vs = [.ref g, .int z] ∧ Bag H g l ∧ 0 < z ∧ z.natAbs < 2 ^ 9000 ∧
  ∀ (n : Int) (H' : Hp), 0 ≤ n → n < z → Bag H' g l → Kp g H H' → Q (.int n) H'
theorem at_ints {ns : List Int} {i : Int} (h0 : 0 ≤ i) (h1 : i < (ns.length : Int)) : ∃ n, atI (ns.map V.int) i = some (.int n) := by
  obtain ⟨j, rfl⟩ := Int.eq_ofNat_of_zero_le h0
  have hj : j < ns.length := by omega
  exact ⟨ns[j], atI_nat (by rw [List.getElem?_map, List.getElem?_eq_getElem hj]; rfl)⟩
theorem cmul_r {i j : Int} (h : -(2 ^ 64) < j ∧ j < 2 ^ 64) : CMul i j := .inr h
theorem cmul_l {i j : Int} (h : -(2 ^ 64) < i ∧ i < 2 ^ 64) : CMul i j := .inl h
theorem cpow_of {i j : Int} (h1 : 0 ≤ j ∧ j ≤ 1000000) (h2 : -(2 ^ 63) < i ∧ i < 2 ^ 63) : CPow i j := ⟨h1.1, h1.2, by omega⟩
section
variable {P : Program} {w : World} {K : PySem.W.Frag} {mg : Str → Option Value} {base : Heap} {A : Ad}
theorem ok_l_draw (T : Txt K mg A) : FnOk P w K mg base CX0 1 A.l_draw A.fd_l_draw P_l_draw spDraw := by
  refine T.F_l_draw.ok sc_l_draw (fun vs H Q E h => ?_) (fun cdv Ar outer s H vs Q E hr h => ?_)
  · obtain ⟨g, l, z, rfl, _⟩ := h
    rfl
  · obtain ⟨g, l, z, rfl, ⟨i, r, sd, c, ns, hg, hl, hi⟩, hz, hz2, k⟩ := h
    have nlg : l ≠ g := ne_of hl hg (by intro q; cases ns <;> cases q)
    refine ⟨_, (pss_cons (ps_asg (pe_op op_add (pe_ix ix_list (pv 0) pe_int (fun _ _ => rfl)) pe_int) (pg_sub (pv 0) pe_int set_list))
      (pss_g (Evl.pss_cut (ps_if (PW.pt (pw_and (pt_cmpR op_eq (pe_ix ix_list (pv 0) pe_int (fun _ _ => rfl)) pe_int (nomark _)) (pw_and1 (pt_cmpR op_lt (pe_ix ix_list (pv 0) pe_int (fun _ _ => rfl)) (pe_callB call_len_seq (by rfl) T.z_len (by decide +kernel) (pa_cons (pe_ix ix_list (pv 0) pe_int (fun _ _ => rfl)) pa_nil)) (nomark _))))) (pss_cons (ps_set (i := 2) sc_l_draw.nd rfl (Or.inl rfl) (pe_ix ix_list (pe_ix ix_list (pv 0) pe_int (fun _ _ => rfl)) (pe_ix ix_list (pv 0) pe_int (fun _ _ => rfl)) (fun _ _ => rfl)))
      (pss_cons (ps_asg (pe_op op_add (pe_ix ix_list (pv 0) pe_int (fun _ _ => rfl)) pe_int) (pg_sub (pv 0) pe_int set_list))
      (pss_cons (ps_asg (pe_op op_mul (pe_op op_add (pe_op op_mul pe_int (pe_callB call_abs (by rfl) T.z_abs (by decide +kernel) (pa_cons (pv 2) pa_nil))) (pe_callTy call_int1 (by rfl) T.z_int (by decide +kernel) (pa_cons (pe_cmpR op_lt (pv 2) pe_int (nomark _)) pa_nil))) (pe_callTy call_int1 (by rfl) T.z_int (by decide +kernel) (pa_cons (pe_cmpR op_ge (pe_callB call_abs (by rfl) T.z_abs (by decide +kernel) (pa_cons (pv 2) pa_nil)) (pe_op op_pow pe_int pe_int) (nomark _)) pa_nil))) (pg_sub (pv 0) pe_int set_list))
      (pss_one (ps_asg (pe_op op_mod (pe_callTy call_int1 (by rfl) T.z_int (by decide +kernel) (pa_cons (pe_op op_add (pe_op op_add (pe_op op_mul (pe_ix ix_list (pv 0) pe_int (fun _ _ => rfl)) pe_int) (pe_op op_mul (pv 2) pe_int)) pe_int) pa_nil)) pe_int) (pg_sub (pv 0) pe_int set_list)))))) pss_nil)
      (pss_cons (ps_set (i := 3) sc_l_draw.nd rfl (Or.inl rfl) (pe_op op_mod (pe_callTy call_int1 (by rfl) T.z_int (by decide +kernel) (pa_cons (pe_ix ix_list (pv 0) pe_int (fun _ _ => rfl)) pa_nil)) (pv 1)))
      (pss_cons (ps_if (pt_cmpR op_gt (pe_ix ix_list (pv 0) pe_int (fun _ _ => rfl)) pe_int (nomark _)) (pss_cons (ps_asg (pe_op op_fdivW (pe_ix ix_list (pv 0) pe_int (fun _ _ => rfl)) (pv 1)) (pg_sub (pv 0) pe_int set_list))
      (pss_one (ps_ret (pv 3)))) pss_nil)
      (pss_cons (ps_set (i := 4) sc_l_draw.nd rfl (Or.inl rfl) (pe_op op_mod (pe_callTy call_int1 (by rfl) T.z_int (by decide +kernel) (pa_cons (pe_op op_add (pe_ix ix_list (pv 0) pe_int (fun _ _ => rfl)) (pe_op op_mul (pe_ix ix_list (pv 0) pe_int (fun _ _ => rfl)) pe_int)) pa_nil)) pe_int))
      (pss_cons (ps_set (i := 4) sc_l_draw.nd rfl (Or.inl rfl) (pe_op op_mod (pe_callTy call_int1 (by rfl) T.z_int (by decide +kernel) (pa_cons (pe_op op_add (pe_op op_add (pe_op op_pow (pv 4) pe_int) (pe_op op_mul (pe_ix ix_list (pv 0) pe_int (fun _ _ => rfl)) pe_int)) pe_int) pa_nil)) pe_int))
      (pss_one (ps_ret (pe_op op_mod (pe_op op_fdiv (pe_op op_mod (pe_callTy call_int1 (by rfl) T.z_int (by decide +kernel) (pa_cons (pe_op op_pow (pv 4) pe_int) pa_nil)) pe_int) pe_int) (pv 1))))))))))), ?_⟩
    refine ⟨_, rfl, g, _, _, _, rfl, rfl, SqL.of hg, rfl, _, _, rfl, rfl, _, rfl, g, _, _, _, rfl, rfl, hg, rfl, ?_⟩
    refine ⟨⟨fun σ' H' => Wd (∃ (i r s c : Int) (v : Option V), σ' = [some (.ref g), some (.int z), v, none, none] ∧ 0 ≤ i ∧ H' g = some (.lst [.ref l, .int i, .int r, .int s, .int c]) ∧ H' l = some (.lst (ns.map V.int)) ∧ Kp g H H'), ?_, ?_⟩⟩
    · walk_at "go"
      refine if_int (fun e0 => ?_) (fun e0 => ?_)
      · walk_at "go"
        refine if_dec (fun e1 => ?_) (fun e1 => ?_)
        · obtain ⟨n, hn⟩ := at_ints (ns := ns) hi (by simpa using e1)
          walk_at "go"
          exact ⟨i + 1, _, _, c + 1, _, rfl, by omega, upd_same, by walk_at "at", (((Kp.refl g H).up.up.up.up))⟩
        · exact ⟨i, r, sd, c + 1, none, rfl, hi, upd_same, by walk_at "at", (Kp.refl g H).up⟩
      · refine iteF ?_
        exact ⟨i, r, sd, c + 1, none, rfl, hi, upd_same, by walk_at "at", (Kp.refl g H).up⟩
    · rintro σ' H' ⟨i, r, s, c, v, rfl, hi, hg, hl, kp⟩
      walk_at "go"
      refine if_dec (fun e1 => ?_) (fun e1 => ?_)
      · walk_at "go"
        exact k _ _ (Int.emod_nonneg _ (by omega)) (Int.emod_lt_of_pos _ hz) ⟨i, _, s, c, ns, upd_same, by walk_at "at", hi⟩ kp.up
      · walk_at "go"
        exact k _ _ (Int.emod_nonneg _ (by omega)) (Int.emod_lt_of_pos _ hz) ⟨i, r, s, c, ns, hg, hl, hi⟩ kp
end

/-! ### calls in the body of a try: what they raise is wished for at the slots as they stand -/
section
open PySem.Spec PyProof.Rows
variable {X : Cx} {CX : CXT} {k : Nat} {f C : Addr} {fd : FuncData} {ps : List Str} {sp : Sp} {dvs : List V} {ds : List Value} {E : L2.St → XK} {x m : Str} {p pos apos : Pos} {e o : Expr} {es : List Expr} {ta : TE} {t : TA}
theorem run_mkS {pins : List (Addr × Obj)} {σ : L2.St} {H : Hp} {s : Shared} {Q : VK} {us : List Value} {vs : List V} (M : Mk X.K C f) (F : FnOk X.prog X.w X.K X.mg X.base CX k f fd ps sp)
    (hr : Room (k + 1) X.A) (hb : Binds X.K fd ps ds) (hd : Vals dvs ds) (hx : PassesAt CX X σ (E σ)) (I : Inv X pins σ H s) (r : Vals vs us)
    (h : ∀ x dx, H x = none → H dx = none → dx ≠ x → sp (.ref x :: (vs ++ dvs)) (upd (upd H dx (.own x)) x (.ins C dx [])) (fun v H2 => v = .non ∧ Q (.ref x) H2) (E σ)) :
    wpAny (model X.prog X.w) X.A (call (.ref C) us) (EP X pins σ Q) X.xe s := by
  have a1 := h (s.heap.objs.size + 1) s.heap.objs.size (I.hok.fresh (Nat.le_succ _)) (I.hok.fresh (Nat.le_refl _)) (Nat.ne_of_lt (Nat.lt_succ_self _))
  have J := Inv.made (C := C) I
  have a2 : Vals (V.ref (s.heap.objs.size + 1) :: (vs ++ dvs)) (Value.ref (s.heap.objs.size + 1) :: (us ++ ds)) := .cons rfl (r.append hd)
  have a3 : (Value.ref (s.heap.objs.size + 1) :: us ++ ds).length = ps.length := by
    have z := a2.length
    rw [F.len _ _ _ _ a1] at z
    exact z.symm
  refine wpAny_call (make_map (f := f) I.kIn M.makes M.init (beq_iff_eq.mp M.fn) (codeAny_mono (F.run _ X.stack _ _ ⟨Value.ref (s.heap.objs.size + 1) :: us, []⟩
    (Value.ref (s.heap.objs.size + 1) :: (us ++ ds)) _ _ (E σ) (hr.make C us []) (J.env0.make C us []) (hb _ (Value.ref (s.heap.objs.size + 1) :: us) J.kIn a3) a2 a1) fun r s' z => ?_))
  cases r with
  | error u => exact hx pins _ _ u s' J z
  | ok fl =>
    cases fl with
    | ret u =>
      obtain ⟨v, H', J3, rv, ev, q3⟩ := J.after z
      subst ev
      exact ⟨rv, V.ref (s.heap.objs.size + 1), H', J3, rfl, q3⟩
    | next => exact z.elim
    | brk => exact z.elim
    | cont => exact z.elim
def tMakeS (C : Addr) (sp : Sp) (dvs : List V) (E : L2.St → XK) (t : TA) : TE := fun σ H Q => t σ H fun vs H1 => ∀ x dx, H1 x = none → H1 dx = none → dx ≠ x →
  sp (.ref x :: (vs ++ dvs)) (upd (upd H1 dx (.own x)) x (.ins C dx [])) (fun v H2 => v = .non ∧ Q (.ref x) H2) (E σ)
theorem pe_makeS (M : Mk X.K C f) (F : FnOk X.prog X.w X.K X.mg X.base CX k f fd ps sp) (hr : Room (k + 1) X.A) (hg : Gl X x) (hm : X.mg x = some (.ref C)) (hb : Binds X.K fd ps ds) (hd : Vals dvs ds) (hx : ∀ σ, PassesAt CX X σ (E σ))
    (ha : PA X (e :: es) t) (hdb : (x == ("__debug__" : Str)) = false := by decide) (he : starEach (e :: es) X.env = (false, eval e X.env) :: starEach es X.env := by rfl)
    (hpl : (backTo pos (starEach es X.env)).any (·.1) = false := by rfl) : PE X (.Call (.Name x p) (e :: es) [] pos) (tMakeS C sp dvs E t) := ⟨fun pins s σ H Q I h =>
  wpAny_Call_Name_kw (ld_glob I hg hm (PySem.W.callWith_K (h₀ := X.base) I.ok.mod.kin M.kp (thn (ha.run pos pins s σ H _ I h) fun us s1 ⟨vs, H1, I1, r, q⟩ => ⟨I1.kIn, run_mkS M F hr hb hd (hx σ) I1 r q⟩) he hpl) hdb)⟩
def tMethS (C : Addr) (m : Str) (sp : Sp) (E : L2.St → XK) (ta : TE) (t : TA) : TE := fun σ H Q => ta σ H fun x H1 => ∃ a dx fs, x = .ref a ∧ H1 a = some (.ins C dx fs) ∧ fs.lookup m = none ∧
  t σ H1 fun vs H2 => sp (.ref a :: vs) H2 Q (E σ)
theorem pe_methA {pl : Sem Bool} (he : PE X o ta) (c : Cls X.K C) (hm : Meth X.K C m f) (F : FnOk X.prog X.w X.K X.mg X.base CX k f fd ps sp) (hr : Room k X.A) (hb : Binds X.K fd ps []) (hx : ∀ σ, PassesAt CX X σ (E σ)) (ha : PA X (e :: es) t)
    (hst : starEach (e :: es) X.env = (false, eval e X.env) :: starEach es X.env := by rfl) (hpl : (backTo pos (starEach es X.env)).any (·.1) = false := by rfl)
    (ht : eval (.Call (.Attribute o m apos) (e :: es) [] pos) X.env = (eval o X.env >>= fun ov => standAt apos.atName >>= fun _ => holding [ov] (getMethod ov m pl) >>= fun (f, first) =>
      callWith pos f first (backTo pos (starEach (e :: es) X.env)) (backToKw pos (keywordEach [] X.env))) := by rfl) :
    PE X (.Call (.Attribute o m apos) (e :: es) [] pos) (tMethS C m sp E ta t) := by
  refine ⟨fun pins s σ H Q I h => ?_⟩
  refine PySem.W.methodCall_KW (pl := pl) (thn (he.run pins s σ H _ I h) fun u s1 ⟨x, H1, I1, rx, a, dx, fs, ex, ea, l, q⟩ => ?_) ht
  cases ex
  obtain rfl : u = Value.ref a := rx
  exact getmeth_ok I1 ea c hm l (PySem.W.callWith_K (first := [.ref a]) (h₀ := X.base) I.ok.mod.kin hm.kp (thn (ha.run pos pins s1 σ H1 _ I1 q) fun us s2 ⟨vs, H2, I2, r, q2⟩ =>
    ⟨I2.kIn, run_fnS (E := E) (us := .ref a :: us) (vs := .ref a :: vs) F hr hb (hx σ) I2 (.cons rfl r) q2⟩) hst hpl)

def oe0 : Obj := { cls := .none, data := .fields #[] }
variable {n : Str} {c : Value} {i : Nat} {body suite : List Stmt} {b0 : Stmt} {np pos' : Pos} {Wout : WX}
  {tb : WX → List (Addr × Obj) → (Value → Shared → Prop) → TS} {ts : Addr → Obj → Value → Option Addr → List (Addr × Obj) → TS}
/-- try: .. except x as n: .., the readings of the body and of the suite free of what they can't hang on (both shown by rfl) -/
theorem ps_tryV (hs : X.stack = X.env :: X.outer) (hf : X.env.frame = some X.env.locals) (hN : X.N.Nodup) (hi : X.N[i]? = some n) (hln : X.env.kindOf n = some .local) (hc : Names X x c) (tk : Takes X Wout)
    (hb : ∀ (W : WX) (pn : List (Addr × Obj)) (xe : Value → Shared → Prop), Takes (X.tr pn xe) W → PassesOwn (model X.prog X.w) X.A X.env xe → PSs (X.tr pn xe) body (tb W pn xe))
    (hsu : ∀ (a : Addr) (oe : Obj) (cls : Value) (d : Option Addr) (pn : List (Addr × Obj)), Zc cls d oe → (∃ vs, oe.data = .fields vs) → PSs (X.suite a ((a, oe) :: pn)) (b0 :: suite) (ts a oe cls d pn))
    (e1 : ∀ W pn xe, tb W pn xe = tb W [] (fun _ _ => False)) (e2 : ∀ a oe cls d pn, ts a oe cls d pn = ts a oe0 cls d []) :
    PS X (.Try body [.ExceptHandler (some (.Name x np)) (some n) (b0 :: suite) pos'] [] [] pos) (fun D σ H => tb (wAs X.K c i (fun a cls d => ts a oe0 cls d []) Wout D) [] (fun _ _ => False) D σ H) :=
  ps_try_as (tb := fun W => tb W [] (fun _ _ => False)) (ts := fun a cls d => ts a oe0 cls d []) hs hf hN hi hln hc tk (fun W pn xe k po => by rw [← e1 W pn xe]; exact hb W pn xe k po)
    (fun a oe cls d pn z f => by rw [← e2 a oe cls d pn]; exact hsu a oe cls d pn z f)
/-- isinstance(e, C) of the error that the suite holds, one without a dict of its own -/
def rIsEV (K : PySem.W.Frag) (cls : Value) (d : Option Addr) (a : Addr) : List V → Hp → VK → Prop := fun xs H Q => ∃ (D : Addr) (c : V) (cv : Value) (b : Bool), cls = .ref D ∧ d = none ∧ ExcC K D ∧ xs = [.ref a, c] ∧ (∀ u, RelV c u → u = cv) ∧ PySem.W.kitOne K (.ref D) cv = some b ∧ Q (.bl b) H
theorem call_isEV {a : Addr} {oe : Obj} {cls : Value} {d : Option Addr} {pn : List (Addr × Obj)} (hz : Zc cls d oe) (hf : ∃ vs, oe.data = .fields vs) : CallR (X.suite a ((a, oe) :: pn)) (.builtin "isinstance") (rIsEV X.K cls d a) := by
  intro pins s σ H xs us Q I r h
  obtain ⟨D, c, cv, b, rfl, rfl, C, h⟩ := h
  exact call_isE C hz hf pins s σ H xs us Q I r ⟨c, cv, b, h⟩
end
/-! ### list comprehensions: the readings of their parts free of what they can't hang on -/
section
open PySem.Spec PyProof.Rows
variable {X : Cx} {elt tg iter : Expr} {ifs : List Expr} {scope : Scope} {own : List (Str × Nat)} {pos spos py : Pos} {wi : TI} {i : Nat} {y : Str}
abbrev Bk (α : Type) := Shared → Hp → Addr → List (Str × Addr) → List Addr → α
abbrev Bk.at0 {α : Type} (f : Bk α) (X : Cx) : α := f X.s_0 X.H_0 0 [] []
variable {g : Bk TG} {tt : Bk TT} {te : Bk TE}
theorem pe_lcV (hc : X.calm = true) (hN : X.N.Nodup) (hi : PI X tg iter wi) (ok : BlkOk X.N X.env.scope scope own)
    (hg : ∀ s H C cl fp, PG (X.blk s H scope (compEnvC scope cl C X.env) fp) tg (g s H C cl fp)) (ht : ∀ s H C cl fp, PTs (X.blk s H scope (compEnvC scope cl C X.env) fp) ifs (tt s H C cl fp))
    (he : ∀ s H C cl fp, PE (X.blk s H scope (compEnvC scope cl C X.env) fp) elt (te s H C cl fp)) (e1 : ∀ s H C cl fp, g s H C cl fp = g.at0 X) (e2 : ∀ s H C cl fp, tt s H C cl fp = tt.at0 X)
    (e3 : ∀ s H C cl fp, te s H C cl fp = te.at0 X) (hs : ∀ x, foldedSetIterable iter X.env x = pure x := by intro _; rfl) :
    PE X (.ListComp elt [⟨tg, iter, ifs, 0⟩] scope pos) (tLc wi (g.at0 X) (tt.at0 X) (te.at0 X) (own.map (·.2))) :=
  pe_lc hc hN hi ok (fun s H C cl fp => by rw [← e1 s H C cl fp]; exact hg s H C cl fp) (fun s H C cl fp => by rw [← e2 s H C cl fp]; exact ht s H C cl fp) (fun s H C cl fp => by rw [← e3 s H C cl fp]; exact he s H C cl fp) hs
theorem ps_setLcV (hc : X.calm = true) (hN : X.N.Nodup) (hy : X.N[i]? = some y) (hyl : X.env.scope.names.lookup y = some .local)
    (hsw : swapsWith (.ListComp elt [⟨tg, iter, ifs, 0⟩] scope pos) (some (.Name y py)) spos.line X.env = pure true) (hi : PI X tg iter wi) (ok : BlkOk X.N X.env.scope scope own)
    (hg : ∀ s H C cl fp, PG (X.blk s H scope (compEnvC scope cl C X.env) fp) tg (g s H C cl fp)) (ht : ∀ s H C cl fp, PTs (X.blk s H scope (compEnvC scope cl C X.env) fp) ifs (tt s H C cl fp))
    (he : ∀ s H C cl fp, PE (X.blk s H scope (compEnvC scope cl C X.env) fp) elt (te s H C cl fp)) (e1 : ∀ s H C cl fp, g s H C cl fp = g.at0 X) (e2 : ∀ s H C cl fp, tt s H C cl fp = tt.at0 X)
    (e3 : ∀ s H C cl fp, te s H C cl fp = te.at0 X) (hs : ∀ x, foldedSetIterable iter X.env x = pure x := by intro _; rfl) :
    PS X (.Assign [.Name y py] (.ListComp elt [⟨tg, iter, ifs, 0⟩] scope pos) spos) (tAsg (tLc wi (g.at0 X) (tt.at0 X) (te.at0 X) (own.map (·.2))) (gName i)) :=
  ps_setLc hc hN hy hyl hsw hi ok (fun s H C cl fp => by rw [← e1 s H C cl fp]; exact hg s H C cl fp) (fun s H C cl fp => by rw [← e2 s H C cl fp]; exact ht s H C cl fp) (fun s H C cl fp => by rw [← e3 s H C cl fp]; exact he s H C cl fp) hs
end

/-! ### errors of own classes with fields -/
section
open PySem.Spec PyProof.Rows
variable {X : Cx} {CX : CXT} {k n : Nat} {f C CE : Addr} {fd : FuncData} {ps ks : List Str} {sp : Sp} {ds : List Value} {dvs : List V} {x : Str} {p p1 p2 pos : Pos} {e : Expr} {es : List Expr} {kws : List Keyword} {ta t tk : TA} {te : TE}
/-- B.__init__(self, ..), B an own class that has it from ValueError -/
theorem pe_ceinit {pl : Sem Bool} (hg : Gl X x) (hm : X.mg x = some (.ref CE)) (rd : PySem.W.readsIn X.K CE (.type "type") = true) (ga : PySem.W.specialIn X.K (.ref CE) "__getattribute__" = some (some (.builtin "type.__getattribute__")))
    (vV : PySem.W.findCls X.K (.ref CE) (.type "type") "__init__" = some (.val (.builtin "ValueError.__init__"))) (ha : PA X (e :: es) ta) (hdb : (x == ("__debug__" : Str)) = false := by decide)
    (hc : eval (.Call (.Attribute (.Name x p1) "__init__" p2) (e :: es) [] pos) X.env = (eval (.Name x p1) X.env >>= fun ov => standAt p2.atName >>= fun _ => holding [ov] (getMethod ov "__init__" pl) >>= fun (f, first) =>
      callWith pos f first (backTo pos (starEach (e :: es) X.env)) (backToKw pos (keywordEach [] X.env))) := by rfl)
    (he : starEach (e :: es) X.env = (false, eval e X.env) :: starEach es X.env := by rfl) (hpl : (backTo pos (starEach es X.env)).any (·.1) = false := by rfl) :
    PE X (.Call (.Attribute (.Name x p1) "__init__" p2) (e :: es) [] pos) (tVeI X.K ta) := by
  refine ⟨fun pins s σ H Q I h => ?_⟩
  refine PySem.W.methodCall_KW (ld_glob I hg hm ?_ hdb) hc
  refine PySem.W.method_cls I.kIn ga (PySem.W.cls_value I.kIn rd vV (by decide +kernel) ?_)
  refine callWith_method1 (first := []) (id := "ValueError.__init__") (thn (ha.run pos pins _ σ H _ (I.tok _) h) fun us s1 z => ?_) he hpl
  obtain ⟨vs, H1, J, r1, a, C, ws, rfl, hl, T, ea, q⟩ := z
  obtain ⟨u0, ur, rfl, ra, rr⟩ : ∃ u0 ur, us = u0 :: ur ∧ RelV (.ref a) u0 ∧ Vals ws ur := by
    cases r1 with
    | cons a1 b1 => exact ⟨_, _, rfl, a1, b1⟩
  obtain rfl : u0 = Value.ref a := ra
  exact oinit_ok T J ea (by rw [← rr.length, sizeLine_eq]; omega) fun s' J' => ⟨.non, H1, J', rfl, q⟩
/-- isinstance(e, C) of the error that the suite holds, one with a dict of its own -/
def rIsEW (K : PySem.W.Frag) (cls : Value) (d : Option Addr) (a : Addr) : List V → Hp → VK → Prop := fun xs H Q => ∃ (D dd : Addr) (fs : List (Str × V)) (c : V) (cv : Value) (b : Bool), cls = .ref D ∧ d = some dd ∧ H dd = some (.xd fs) ∧ ExcC K D ∧ xs = [.ref a, c] ∧
  (∀ u, RelV c u → u = cv) ∧ PySem.W.kitOne K (.ref D) cv = some b ∧ Q (.bl b) H
theorem call_isEW {a : Addr} {oe : Obj} {cls : Value} {d : Option Addr} {pn : List (Addr × Obj)} (hz : Zc cls d oe) (hf : ∃ vs, oe.data = .fields vs) : CallR (X.suite a ((a, oe) :: pn)) (.builtin "isinstance") (rIsEW X.K cls d a) := by
  intro pins s σ H xs us Q I r h
  obtain ⟨D, dd, fs, c, cv, b, rfl, rfl, hd, Z, rfl, hcv, hk, q⟩ := h
  obtain ⟨u1, u2, rfl, r1, r2⟩ : ∃ u1 u2, us = [u1, u2] ∧ RelV (.ref a) u1 ∧ RelV c u2 := by
    cases r with
    | cons a1 b1 =>
      cases b1 with
      | cons a2 b2 =>
        cases b2
        exact ⟨_, _, rfl, a1, a2⟩
  obtain rfl : u1 = Value.ref a := r1
  obtain rfl := hcv _ r2
  obtain ⟨hget, _⟩ := I.pin (a, oe) (List.mem_append_left _ List.mem_cons_self)
  obtain ⟨vs, hv⟩ := hf
  obtain ⟨mA, hns, _⟩ := (show ObjOk X.prog X.w H s.heap dd (.xd fs) from I.hok dd _ hd)
  obtain ⟨od, ho, _⟩ := lookIn_ns hns
  have J : PySem.W.InstAt s.heap a oe D (some od) := ⟨hget, hz.1, by unfold PySem.W.notCls; rw [hv] <;> rfl, by rw [hz.2]; exact ho⟩
  obtain ⟨cd, hcd, _⟩ := PySem.W.any_some Z.hd
  exact PySem.W.kia_one (PySem.W.kitx_exc (by rw [hcd]; rfl) Z.hg Z.hk Z.hs Z.ha Z.hn Z.ht Z.hm) I.kIn J hk (fun z => nomatch z) fun tk => ⟨.bl b, H, I.kept (t' := tk) fun _ _ z => z, rfl, q⟩
/-- C(.., k = v, ..) in the body of a try -/
def tMakeKS (C : Addr) (n m : Nat) (sp : Sp) (gV : List V → List V → List V) (E : L2.St → XK) (t tk : TA) : TE := fun σ H Q => t σ H fun vs H1 => tk σ H1 fun zs H2 => vs.length = n ∧ zs.length = m ∧ ∀ x dx, H2 x = none → H2 dx = none → dx ≠ x →
  sp (gV (.ref x :: vs) zs) (upd (upd H2 dx (.own x)) x (.ins C dx [])) (fun v H3 => v = .non ∧ Q (.ref x) H3) (E σ)
theorem pe_makeKS {g : List Value → List Value → List Value} {gV : List V → List V → List V} {E : L2.St → XK} (M : Mk X.K C f) (F : FnOk X.prog X.w X.K X.mg X.base CX k f fd ps sp) (hr : Room (k + 1) X.A) (hg : Gl X x) (hm : X.mg x = some (.ref C)) (hb : KBn X.K fd ps (n + 1) ks g gV)
    (hx : ∀ σ, PassesAt CX X σ (E σ)) (ha : PA X (e :: es) t) (hkw : PK X kws tk)
    (hall : (backToKw pos (keywordEach kws X.env)).all (·.1.isSome) = true := by rfl) (hks : (backToKw pos (keywordEach kws X.env)).filterMap (·.1) = ks := by rfl) (hdb : (x == ("__debug__" : Str)) = false := by decide)
    (he : starEach (e :: es) X.env = (false, eval e X.env) :: starEach es X.env := by rfl) (hpl : ((backTo pos (starEach (e :: es) X.env)).any (·.1) || (backToKw pos (keywordEach kws X.env)).any (·.1.isNone)) = false := by rfl) :
    PE X (.Call (.Name x p) (e :: es) kws pos) (tMakeKS C n ks.length sp gV E t tk) := by
  refine ⟨fun pins s σ H Q I h => wpAny_Call_Name_kw (ld_glob I hg hm (PySem.W.callWith_KW (h₀ := X.base) I.ok.mod.kin M.kp hall (thn (ha.run pos pins s σ H _ I h) fun us s1 z => ?_) hpl he) hdb)⟩
  obtain ⟨vs, H1, I1, r, q⟩ := z
  refine thn (hkw.run pos pins s1 σ H1 _ I1 q) fun ws s2 z => ?_
  obtain ⟨zs, H2, I2, rz, l1, l2, q2⟩ := z
  refine ⟨I2.kIn, ?_⟩
  rw [hks]
  have a1 := q2 (s2.heap.objs.size + 1) s2.heap.objs.size (I2.hok.fresh (Nat.le_succ _)) (I2.hok.fresh (Nat.le_refl _)) (Nat.ne_of_lt (Nat.lt_succ_self _))
  have J := Inv.made (C := C) I2
  have r1 : Vals (V.ref (s2.heap.objs.size + 1) :: vs) (Value.ref (s2.heap.objs.size + 1) :: us) := .cons rfl r
  refine wpAny_call (make_map (f := f) I2.kIn M.makes M.init (beq_iff_eq.mp M.fn) (codeAny_mono (F.run _ X.stack _ _ ⟨Value.ref (s2.heap.objs.size + 1) :: us, ks.zip ws⟩ (g (Value.ref (s2.heap.objs.size + 1) :: us) ws) _ _ (E σ) (hr.make C us (ks.zip ws))
    (J.env0.make C us (ks.zip ws)) (hb.to _ (Value.ref (s2.heap.objs.size + 1) :: us) ws J.kIn (by rw [List.length_cons, ← r.length, l1]) (rz.length.symm.trans l2)) (hb.rel r1 rz) a1) fun o s' z => ?_))
  cases o with
  | error u => exact hx σ pins _ _ u s' J z
  | ok fl =>
    cases fl with
    | ret u =>
      obtain ⟨v, H', J3, rv, ev, q3⟩ := J.after z
      subst ev
      exact ⟨rv, V.ref (s2.heap.objs.size + 1), H', J3, rfl, q3⟩
    | next => exact z.elim
    | brk => exact z.elim
    | cont => exact z.elim
end
/-- C.__init__(self, v): the error gets its dict with one field -/
def spExc1 (C : Addr) (f : Str) : Sp := fun vs H Q _ => ∃ (a : Addr) (v : V), vs = [.ref a, v] ∧ H a = some (exo a C none) ∧ ∀ d, H d = none → d ≠ a → Q .non (upd (upd H d (exd d [(f, v)])) a (exo a C (some d)))

/-! ### lists side by side -/
section
variable {α β : Type} {R S : α → β → Prop} {xs us : List α} {ys vs : List β} {x : α} {y : β} {i : Nat}
def All2 (R : α → β → Prop) (xs : List α) (ys : List β) : Prop := xs.length = ys.length ∧ ∀ (i : Nat) x y, xs[i]? = some x → ys[i]? = some y → R x y
theorem All2.nil : All2 R [] [] := ⟨rfl, fun i x y h => by simp at h⟩
theorem All2.mono (h : All2 R xs ys) (k : ∀ x y, R x y → S x y) : All2 S xs ys := ⟨h.1, fun i x y a b => k _ _ (h.2 i x y a b)⟩
theorem All2.cons (h : R x y) (k : All2 R xs ys) : All2 R (x :: xs) (y :: ys) := ⟨by rw [List.length_cons, List.length_cons, k.1], fun i a b ha hb => by
  cases i with
  | zero => simp at ha hb; subst ha; subst hb; exact h
  | succ i => simp at ha hb; exact k.2 i a b ha hb⟩
theorem All2.one (h : R x y) : All2 R [x] [y] := .cons h .nil
theorem All2.app (h : All2 R xs ys) (k : All2 R us vs) : All2 R (xs ++ us) (ys ++ vs) := ⟨by rw [List.length_append, List.length_append, h.1, k.1], fun i a b ha hb => by
  by_cases hi : i < xs.length
  · rw [List.getElem?_append_left hi] at ha
    rw [List.getElem?_append_left (by rw [← h.1]; exact hi)] at hb
    exact h.2 i a b ha hb
  · rw [List.getElem?_append_right (by omega)] at ha
    rw [List.getElem?_append_right (by rw [← h.1]; omega), ← h.1] at hb
    exact k.2 _ a b ha hb⟩
theorem All2.take (h : All2 R xs ys) (n : Nat) : All2 R (xs.take n) (ys.take n) := ⟨by rw [List.length_take, List.length_take, h.1], fun i a b ha hb => by
  rw [List.getElem?_take] at ha hb
  by_cases hi : i < n
  · rw [if_pos hi] at ha hb
    exact h.2 i a b ha hb
  · rw [if_neg hi] at ha
    cases ha⟩
theorem All2.drop (h : All2 R xs ys) (n : Nat) : All2 R (xs.drop n) (ys.drop n) := ⟨by rw [List.length_drop, List.length_drop, h.1], fun i a b ha hb => by
  rw [List.getElem?_drop] at ha hb
  exact h.2 _ a b ha hb⟩
theorem All2.get (h : All2 R xs ys) (hi : xs[i]? = some x) : ∃ y, ys[i]? = some y ∧ R x y := by
  have hl : i < ys.length := by
    rw [← h.1]
    exact (List.getElem?_eq_some_iff.mp hi).1
  have e : ys[i]? = some ys[i] := List.getElem?_eq_getElem hl
  exact ⟨_, e, h.2 i _ _ hi e⟩
theorem take_more {α : Type} {ys : List α} {y : α} {i : Nat} (h : ys[i]? = some y) : ys.take (i + 1) = ys.take i ++ [y] := by
  rw [List.take_add_one, h]
  rfl
end
section
open PySem.Spec PyProof.Rows
variable {X : Cx}
/-- one operator, two ways to read it -/
theorem op_mix {f : Value → Value → Sem Value} {r1 r2 : R2} (h1 : OpR X f r1) (h2 : OpR X f r2) : OpR X f (fun x y H Q => Wd (r1 x y H Q ∨ r2 x y H Q)) := by
  intro pins s σ H x y v u Q I rx ry h
  rcases h.ok with h | h
  · exact h1 pins s σ H x y v u Q I rx ry h
  · exact h2 pins s σ H x y v u Q I rx ry h
theorem vals_same {A : Around} {s : Shared} {xs : List V} (hx : ∀ x ∈ xs, flatB x = true ∨ ∃ a, x = .ref a) : ∀ {us ws : List Value}, Vals xs us → Vals xs ws → ∀ j (h1 : j < us.length) (h2 : j < ws.length), SeqAt.EqAt A s us[j] ws[j] true := by
  induction xs with
  | nil =>
    intro us ws r1 r2 j h1 h2
    cases r1
    exact absurd h1 (Nat.not_lt_zero j)
  | cons x xs ih =>
    intro us ws r1 r2 j h1 h2
    cases r1 with
    | cons a1 b1 =>
      cases r2 with
      | cons a2 b2 =>
        cases j with
        | zero =>
          rcases hx x List.mem_cons_self with f | ⟨a, rfl⟩
          · exact eqAt_same a1 a2 f
          · cases a1
            cases a2
            exact SeqAt.EqAt.same _
        | succ j => exact ih (fun y hy => hx y (List.mem_cons_of_mem _ hy)) b1 b2 j (Nat.lt_of_succ_lt_succ h1) (Nat.lt_of_succ_lt_succ h2)
/-- a != b, two lists of the same items -/
theorem op_neL (hu : X.A.units + 64 < cLine) : OpR X (compareOp .NotEq) (fun x y H Q => Wd (∃ (a b : Addr) (xs : List V), x = .ref a ∧ y = .ref b ∧ SqL X.K H a xs ∧ SqL X.K H b xs ∧ (∀ x ∈ xs, flatB x = true ∨ ∃ a, x = .ref a) ∧ Q (.bl false) H)) := by
  intro pins s σ H x y v u Q I rx ry h
  obtain ⟨a, b, xs, rfl, rfl, ha, hb, hx, q⟩ := h.ok
  cases rx
  cases ry
  obtain ⟨us, r1, p1, _⟩ := I.list ha
  obtain ⟨ws, r2, p2, _⟩ := I.list hb
  have hsz : us.toArray.size = ws.toArray.size := by
    rw [List.size_toArray, List.size_toArray, ← r1.length, ← r2.length]
  have k := SeqAt.RcNeAt.lists (A := X.A) (e := fun _ => true) p1.isList p2.isList hsz (by omega) (fun j h1 h2 => by
    have k := vals_same (A := X.A.in1) (s := s) hx r1 r2 j (by simpa using h1) (by simpa using h2)
    simpa using k)
  refine k X.prog X.w _ _ ?_
  rw [show ((List.range us.toArray.size).all fun _ => true) = true from List.all_eq_true.mpr fun _ _ => rfl]
  exact ⟨.bl false, H, I, rfl, q⟩
/-- a != b, two tuples of the same items -/
theorem op_neT (hu : X.A.units + 64 < cLine) : OpR X (compareOp .NotEq) (fun x y H Q => Wd (∃ (a b : Addr) (xs : List V), x = .ref a ∧ y = .ref b ∧ SqT X.K H a xs ∧ SqT X.K H b xs ∧ (∀ x ∈ xs, flatB x = true ∨ ∃ a, x = .ref a) ∧ Q (.bl false) H)) := by
  intro pins s σ H x y v u Q I rx ry h
  obtain ⟨a, b, xs, rfl, rfl, ha, hb, hx, q⟩ := h.ok
  cases rx
  cases ry
  obtain ⟨us, r1, p1, _⟩ := I.tuple ha
  obtain ⟨ws, r2, p2, _⟩ := I.tuple hb
  have hsz : us.toArray.size = ws.toArray.size := by
    rw [List.size_toArray, List.size_toArray, ← r1.length, ← r2.length]
  have k := SeqAt.RcNeAt.tuples (A := X.A) (e := fun _ => true) p1 p2 (by omega) (fun j h1 h2 => by
    have k := vals_same (A := X.A.in1) (s := s) hx r1 r2 j (by simpa using h1) (by simpa using h2)
    simpa using k)
  refine k X.prog X.w _ _ ?_
  refine ⟨.bl false, H, I, ?_, q⟩
  show Value.bool _ = Value.bool false
  simp [hsz]
end

/-! ### == and != of data of any depth, texts of any signs -/
section
open PySem.Spec PyProof.Rows
variable {X : Cx}
def rEqP (K : PySem.W.Frag) : R2 := fun x y H Q => Wd (∃ d e, Dp K H x d ∧ Dp K H y e ∧ d.plain = true ∧ e.plain = true ∧ d.depth ≤ 64 ∧ Q (.bl (PyData.eqv d e)) H)
def rNeP (K : PySem.W.Frag) : R2 := fun x y H Q => Wd (∃ d e, Dp K H x d ∧ Dp K H y e ∧ d.plain = true ∧ e.plain = true ∧ d.depth ≤ 64 ∧ Q (.bl (!PyData.eqv d e)) H)
theorem op_eqP (hu : X.A.units + 64 < cLine) : OpR X (compareOp .Eq) (rEqP X.K) := by
  intro pins s σ H x y v u Q I rx ry h
  obtain ⟨d, e, hd, he, sd, se, dp, q⟩ := h.ok
  obtain ⟨as, r1⟩ := Dp.reads I d x v hd rx
  obtain ⟨bs, r2⟩ := Dp.reads I e y u he ry
  have := Nat.min_le_left d.depth e.depth
  exact SeqAt.eq_plain r1 r2 sd se (by omega) ⟨.bl _, H, I, rfl, q⟩
theorem op_neP (hu : X.A.units + 64 < cLine) : OpR X (compareOp .NotEq) (rNeP X.K) := by
  intro pins s σ H x y v u Q I rx ry h
  obtain ⟨d, e, hd, he, sd, se, dp, q⟩ := h.ok
  obtain ⟨as, r1⟩ := Dp.reads I d x v hd rx
  obtain ⟨bs, r2⟩ := Dp.reads I e y u he ry
  have := Nat.min_le_left d.depth e.depth
  exact SeqAt.ne_plain r1 r2 sd se (by omega) ⟨.bl _, H, I, rfl, q⟩
theorem eqP_same {K : PySem.W.Frag} {x y : V} {H : Hp} {Q : VK} {d : PyData} (hx : Dp K H x d) (hy : Dp K H y d) (hp : d.plain = true) (hd : d.depth ≤ 64) (h : Q (.bl true) H) : rEqP K x y H Q :=
  ⟨d, d, hx, hy, hp, hp, hd, by rw [SeqAt.eqv_refl_plain d hp]; exact h⟩
theorem neP_same {K : PySem.W.Frag} {x y : V} {H : Hp} {Q : VK} {d : PyData} (hx : Dp K H x d) (hy : Dp K H y d) (hp : d.plain = true) (hd : d.depth ≤ 64) (h : Q (.bl false) H) : rNeP K x y H Q :=
  ⟨d, d, hx, hy, hp, hp, hd, by rw [SeqAt.eqv_refl_plain d hp]; exact h⟩
end

/-! ### operators that an own class defines -/
section
open PySem.W PySem.Calls PyProof.Rows
variable {prog : Program} {w : World} {A : Around} {E : Value → Shared → Prop} {s : Shared} {K : PySem.W.Frag} {x y C f r : Addr} {ox oy : Obj} {od : Option Obj} {nm : String}
/-- a op b, two instances of one class -/
theorem b1_same {b : Value} {Q : Value → Shared → Prop} (X : K.In s.heap) (I : InstAt s.heap x ox C od) (hb : Looks (model prog w) s.heap (typeOf b) (.ref C)) (hc : selfFirst K C = true)
    (hs : findIn K (.ref C) (PySem.dunder nm) = some (some (.ref f))) (hf : isFn K (.ref f) = true) (h : wpAny (model prog w) A (call (.ref f) [.ref x, b]) (PySem.W.CmpBack Q) E s) :
    wpAny (model prog w) A (binaryOp1 nm (.ref x) b) (fun o s' => ∃ v, o = some v ∧ Q v s') E s := by
  obtain ⟨cd, rest, hcd, hm⟩ := ksp_first hc
  have one := ksp_try X I hs hf h
  unfold binaryOp1
  refine wpAny_bind (I.type.here (wpAny_bind (hb.here (wpAny_bind ((fills_K X hcd hm hs).here ?_)))))
  simp only [beq_self_eq_true, if_true]
  refine wpAny_bind (wpAny_pure ?_)
  simp only [Bool.and_false, Bool.false_eq_true, if_false, Bool.false_and]
  refine wpAny_bind (wpAny_pure ?_)
  simp only [Bool.false_eq_true, if_false]
  refine wpAny_bind (wpAny_mono one (fun o s' ho => ?_) fun _ _ e => e)
  obtain ⟨v, rfl, hq⟩ := ho
  exact wpAny_pure ⟨v, rfl, hq⟩
/-- a op n, n an int -/
theorem b1_int {i : Int} {t : Tok} {fo ro rc : Option Value} {Q : Value → Shared → Prop} (X : K.In s.heap) (I : InstAt s.heap x ox C od) (hc : selfFirst K C = true)
    (hs : findIn K (.ref C) (PySem.dunder nm) = some (some (.ref f))) (hf : isFn K (.ref f) = true) (hr : findIn K (.ref C) (dunderR nm) = some rc) (hp : rc = none ∨ ∃ g : Addr, rc = some (.ref g))
    (h1 : findIn K (.type "int") (PySem.dunder nm) = some fo) (h2 : findIn K (.type "int") (dunderR nm) = some ro) (hsub : subIn K (.type "int") (.ref C) = some false)
    (h : wpAny (model prog w) A (call (.ref f) [.ref x, .int i t]) (PySem.W.CmpBack Q) E s) : wpAny (model prog w) A (binaryOp1 nm (.ref x) (.int i t)) (fun o s' => ∃ v, o = some v ∧ Q v s') E s := by
  obtain ⟨cd, rest, hcd, hm⟩ := ksp_first hc
  have one := ksp_try X I hs hf h
  obtain ⟨hh, g, d, tt, os⟩ := s
  have L1 : Looks (model prog w) hh (typeOf (.ref x)) (.ref C) := I.type
  have L2 : Looks (model prog w) hh (typeOf (.int i t)) (.type "int") := Looks.of_pure rfl
  have L3 : Looks (model prog w) hh (fillsNumberSlot (.ref C) nm) true := fills_K X hcd hm hs
  have L4 : Looks (model prog w) hh (fillsNumberSlot (.type "int") nm) ((fo.isSome && !isSeqSlot fo) || (ro.isSome && !isSeqSlot ro)) := ksp_fillsT X h1 h2
  have L5 : Looks (model prog w) hh (isSubtype (.type "int") (.ref C)) false := looks_subIn X hsub
  have L6 : Looks (model prog w) hh (numberSlotInPython (.ref C) nm) true := ksp_inPy X hs hr hp
  have L7 : Looks (model prog w) hh (numberSlotInPython (.type "int") nm) false := Looks.of_pure rfl
  have L8 : Looks (model prog w) hh (typeLookup (.type "int") (dunderR nm)) ro := looks_findIn X h2
  generalize ((fo.isSome && !isSeqSlot fo) || (ro.isSome && !isSeqSlot ro)) = right at L4
  have hne : (Value.ref C == Value.type "int") = false := Bool.eq_false_iff.mpr fun q => by cases beq_iff_eq.mp q
  unfold binaryOp1
  refine wpAny_bind (L1.at (wpAny_bind (L2.at (wpAny_bind (L3.at ?_)))))
  simp only [hne, Bool.false_eq_true, if_false]
  cases right with
  | false =>
    ksp_lk
    refine wpAny_mono one (fun o s' ho => ?_) fun _ _ e => e
    obtain ⟨v, rfl, hq⟩ := ho
    ksp_lk
    exact ⟨v, rfl, hq⟩
  | true =>
    ksp_lk
    refine wpAny_mono one (fun o s' ho => ?_) fun _ _ e => e
    obtain ⟨v, rfl, hq⟩ := ho
    ksp_lk
    exact ⟨v, rfl, hq⟩
/-- n op a, n an int: int's own way declines, the reflected one serves -/
theorem b1_rint {i : Int} {t : Tok} {id : String} {bi : Builtin} {Q : Value → Shared → Prop} (X : K.In s.heap) (I : InstAt s.heap y oy C od) (hc : selfFirst K C = true)
    (hs : findIn K (.ref C) (PySem.dunder nm) = some (some (.ref f))) (hr : findIn K (.ref C) (dunderR nm) = some (some (.ref r))) (hf : isFn K (.ref r) = true)
    (hfi : fillsNumberSlot (.type "int") nm = pure true) (hsub : subIn K (.ref C) (.type "int") = some false) (slot : Slot "int" (PySem.dunder nm) id) (entry : entryFor table id = some bi)
    (args : argsOk id ⟨[.int i t, .ref y], []⟩) (dec : wpAny (model prog w) A.in1 (bi ⟨[.int i t, .ref y], []⟩) (fun fin s' => fin = .done (.ret .notImplemented) ∧ s' = s) E s)
    (h : wpAny (model prog w) A (call (.ref r) [.ref y, .int i t]) (PySem.W.CmpBack Q) E s) : wpAny (model prog w) A (binaryOp1 nm (.int i t) (.ref y)) (fun o s' => ∃ v, o = some v ∧ Q v s') E s := by
  obtain ⟨cd, rest, hcd, hm⟩ := ksp_first hc
  have one := ksp_try X I hr hf h
  have two : wpAny (model prog w) A (call (.builtin id) [.int i t, .ref y]) (fun v s' => v = .notImplemented ∧ s' = s) E s :=
    wpAny_call_entry slot rfl entry (wpAny_mono dec (fun fin s' z => ⟨_, z.1, rfl, z.2⟩) fun _ _ e => e) args
  obtain ⟨hh, g, d, tt, os⟩ := s
  have L1 : Looks (model prog w) hh (typeOf (.ref y)) (.ref C) := I.type
  have L2 : Looks (model prog w) hh (typeOf (.int i t)) (.type "int") := Looks.of_pure rfl
  have L3 : Looks (model prog w) hh (fillsNumberSlot (.ref C) nm) true := fills_K X hcd hm hs
  have L4 : Looks (model prog w) hh (fillsNumberSlot (.type "int") nm) true := Looks.of_pure hfi
  have L5 : Looks (model prog w) hh (isSubtype (.ref C) (.type "int")) false := looks_subIn X hsub
  have L7 : Looks (model prog w) hh (numberSlotInPython (.type "int") nm) false := Looks.of_pure rfl
  have hne : (Value.type "int" == Value.ref C) = false := Bool.eq_false_iff.mpr fun q => by cases beq_iff_eq.mp q
  unfold binaryOp1
  refine wpAny_bind (L2.at (wpAny_bind (L1.at (wpAny_bind (L4.at ?_)))))
  simp only [hne, Bool.false_eq_true, if_false]
  ksp_lk
  refine wpAny_tryMethod_declines (s := ⟨hh, g, d, tt, os⟩) (T := "int") rfl slot (wpAny_mono two (fun v s' z => ⟨z.1, ?_⟩) fun _ _ e => e)
  obtain ⟨_, rfl⟩ := z
  ksp_lk
  refine wpAny_mono one (fun o s' ho => ?_) fun _ _ e => e
  obtain ⟨v, rfl, hq⟩ := ho
  ksp_lk
  exact ⟨v, rfl, hq⟩
/-- int's own way with an instance declines -/
theorem int_declines {i : Int} {t : Tok} {dx : Addr} {name : String} {g : Int → Int → Sem Fin} (hy : s.heap.get? y = some (instObj C dx)) :
    wpAny (model prog w) A (Builtin.Int.intBinary name g false ⟨[.int i t, .ref y], []⟩) (fun fin s' => fin = .done (.ret .notImplemented) ∧ s' = s) E s := by
  obtain ⟨hh, gg, d, tt, os⟩ := s
  wp_walk using wpAny_load hy
  exact ⟨rfl, rfl⟩
theorem fillsI_no {M : Model} {h : Heap} {add : Bool} (X : K.In h) (hn : noI K C nm = true) : Looks M h (fillsInplaceSlot (.ref C) nm add) false := by
  obtain ⟨cd, hcd, hall⟩ := any_some hn
  intro A Q E s k q
  have Lm : Looks M h (mroOf (.ref C)) cd.mro := (looks_clsIn X hcd).andThen (f := fun cd => pure cd.mro) .now
  unfold fillsInplaceSlot
  refine wpAny_bind (Lm A _ E s k ?_)
  have X' : K.In s.heap := X.keeps k
  generalize cd.mro = l at hall
  induction l with
  | nil => exact wpAny_pure q
  | cons c l ih =>
    rw [List.all_cons, Bool.and_eq_true] at hall
    rw [List.anyM_cons]
    refine wpAny_bind (wpAny_bind ((looks_findIn X' (beq_iff_eq.mp hall.1)).here ?_))
    refine wpAny_pure ?_
    exact ih hall.2
end
section
open PySem.Spec PyProof.Rows
variable {X : Cx} {CX : CXT} {k : Nat} {f r C : Addr} {fd : FuncData} {ps : List Str} {sp : Sp} {E : XK} {nm : String} {op : Operator}
/-- what the written part says of a class with __op__ (f) and __rop__ (r) -/
structure OwnOp (K : PySem.W.Frag) (C f r : Addr) (nm : String) : Prop where
  hc : PySem.W.selfFirst K C = true
  hs : PySem.W.findIn K (.ref C) (PySem.dunder nm) = some (some (.ref f))
  hf : PySem.W.isFn K (.ref f) = true
  hr : PySem.W.findIn K (.ref C) (dunderR nm) = some (some (.ref r))
  hg : PySem.W.isFn K (.ref r) = true
  h1 : ∃ fo, PySem.W.findIn K (.type "int") (PySem.dunder nm) = some fo
  h2 : ∃ ro, PySem.W.findIn K (.type "int") (dunderR nm) = some ro
  sub : PySem.W.subIn K (.type "int") (.ref C) = some false
  sub2 : PySem.W.subIn K (.ref C) (.type "int") = some false
theorem back_of {pins : List (Addr × Obj)} {σ : L2.St} {Q : VK} {u : Value} {s : Shared} (h : EP X pins σ Q u s) : PySem.W.CmpBack (EP X pins σ Q) u s := by
  obtain ⟨v, H', I, rv, q⟩ := h
  have h : EP X pins σ Q u s := ⟨v, H', I, rv, q⟩
  cases v with
  | non => cases rv; exact h
  | bl b => cases rv; exact h
  | int i => obtain ⟨t, rfl⟩ := rv; exact h
  | str i => obtain ⟨t, rfl⟩ := rv; exact h
  | byt i => obtain ⟨t, rfl⟩ := rv; exact h
  | flt i => obtain ⟨t, rfl⟩ := rv; exact h
  | ref a => cases rv; exact h
  | ty n => cases rv; exact h
/-- a op b: the operand's own method -/
def rOwn (C : Addr) (sp : Sp) (E : XK) : R2 := fun x y H Q => Wd (∃ a dx fs, x = .ref a ∧ H a = some (.ins C dx fs) ∧ ((∃ i, y = .int i) ∨ ∃ b dy gs, y = .ref b ∧ H b = some (.ins C dy gs)) ∧ sp [x, y] H Q E)
theorem own1 (O : OwnOp X.K C f r nm) (F : FnOk X.prog X.w X.K X.mg X.base CX k f fd ps sp) (hrm : Room k X.A) (hb : Binds X.K fd ps []) (hx : Passes CX X E) {pins : List (Addr × Obj)} {s : Shared} {σ : L2.St} {H : Hp} {x y : V} {v u : Value} {Q : VK}
    (I : Inv X pins σ H s) (rx : RelV x v) (ry : RelV y u) (h : rOwn C sp E x y H Q) : wpAny (model X.prog X.w) X.A (binaryOp1 nm v u) (fun o s' => ∃ z, o = some z ∧ EP X pins σ Q z s') X.xe s := by
  obtain ⟨a, dx, fs, rfl, ha, hy, h⟩ := h.ok
  obtain rfl : v = Value.ref a := rx
  obtain ⟨mA, O1, _⟩ := ins_get I.hok ha
  obtain ⟨od, J, _⟩ := O1.look
  have fin : wpAny (model X.prog X.w) X.A (call (.ref f) [.ref a, u]) (PySem.W.CmpBack (EP X pins σ Q)) X.xe s :=
    thn (run_fn (us := [.ref a, u]) (vs := [.ref a, y]) F hrm hb .nil hx I (.cons rfl (.cons ry .nil)) h) fun _ _ z => back_of z
  rcases hy with ⟨i, rfl⟩ | ⟨b, dy, gs, rfl, hb2⟩
  · obtain ⟨t, rfl⟩ := ry
    obtain ⟨fo, h1⟩ := O.h1
    obtain ⟨ro, h2⟩ := O.h2
    exact b1_int I.kIn J O.hc O.hs O.hf O.hr (.inr ⟨r, rfl⟩) h1 h2 O.sub fin
  · obtain rfl : u = Value.ref b := ry
    obtain ⟨mB, O2, _⟩ := ins_get I.hok hb2
    obtain ⟨od2, J2, _⟩ := O2.look
    exact b1_same I.kIn J J2.type O.hc O.hs O.hf fin
theorem op_own (hop : op.info.2 = nm) (O : OwnOp X.K C f r nm) (F : FnOk X.prog X.w X.K X.mg X.base CX k f fd ps sp) (hrm : Room k X.A) (hb : Binds X.K fd ps []) (hx : Passes CX X E) : OpR X (binaryOp op) (rOwn C sp E) := by
  intro pins s σ H x y v u Q I rx ry h
  have one := own1 O F hrm hb hx I rx ry h
  rcases hi : op.info with ⟨sym, nm'⟩
  rw [hi] at hop
  cases hop
  simp only [binaryOp, hi]
  refine wpAny_holding (wpAny_bind (wpAny_mono one (fun o s' ho => ?_) fun _ _ e => e))
  obtain ⟨z, rfl, q⟩ := ho
  exact wpAny_pure q
theorem iop_own (hop : op.info.2 = nm) (O : OwnOp X.K C f r nm) (hn : noI X.K C nm = true) (F : FnOk X.prog X.w X.K X.mg X.base CX k f fd ps sp) (hrm : Room k X.A) (hb : Binds X.K fd ps []) (hx : Passes CX X E) : PIp X op (rOwn C sp E) := by
  intro pins s σ H x y v u Q I rx ry h
  have one := own1 O F hrm hb hx I rx ry h
  obtain ⟨a, dx, fs, rfl, ha, hy, h⟩ := h.ok
  obtain rfl : v = Value.ref a := rx
  obtain ⟨mA, O1, _⟩ := ins_get I.hok ha
  obtain ⟨od, J, _⟩ := O1.look
  subst hop
  unfold inplaceOp
  refine wpAny_holding (wpAny_bind (J.type.here (wpAny_bind ((fillsI_no I.kIn hn).here ?_))))
  simp only [Bool.false_eq_true, if_false]
  refine wpAny_bind (wpAny_mono one (fun o s' ho => ?_) fun _ _ e => e)
  obtain ⟨z, rfl, q⟩ := ho
  exact wpAny_pure q
/-- n op a: the reflected method -/
def rROwn (C : Addr) (sp : Sp) (E : XK) : R2 := fun x y H Q => Wd (∃ (i : Int) (b dy : Addr) (gs : List (Str × V)), x = .int i ∧ y = .ref b ∧ H b = some (.ins C dy gs) ∧ sp [y, x] H Q E)
theorem op_rown {id : String} {bi : Builtin} {nm2 : String} {g : Int → Int → Sem PySem.Fin} (hop : op.info.2 = nm) (O : OwnOp X.K C f r nm) (hfi : fillsNumberSlot (.type "int") nm = pure true) (slot : Slot "int" (PySem.dunder nm) id) (entry : entryFor table id = some bi)
    (args : ∀ p q, argsOk id ⟨[p, q], []⟩) (hbi : bi = Builtin.Int.intBinary nm2 g false) (F : FnOk X.prog X.w X.K X.mg X.base CX k r fd ps sp) (hrm : Room k X.A) (hb : Binds X.K fd ps []) (hx : Passes CX X E) : OpR X (binaryOp op) (rROwn C sp E) := by
  intro pins s σ H x y v u Q I rx ry h
  obtain ⟨i, b, dy, gs, rfl, rfl, hb2, h⟩ := h.ok
  obtain ⟨t, rfl⟩ := rx
  obtain rfl : u = Value.ref b := ry
  obtain ⟨mB, O2, _⟩ := ins_get I.hok hb2
  obtain ⟨od2, J2, _⟩ := O2.look
  have fin : wpAny (model X.prog X.w) X.A (call (.ref r) [.ref b, .int i t]) (PySem.W.CmpBack (EP X pins σ Q)) X.xe s :=
    thn (run_fn (us := [.ref b, .int i t]) (vs := [.ref b, .int i]) F hrm hb .nil hx I (.cons rfl (.cons ⟨t, rfl⟩ .nil)) h) fun _ _ z => back_of z
  rcases hi : op.info with ⟨sym, nm'⟩
  rw [hi] at hop
  cases hop
  subst hbi
  have one := b1_rint (prog := X.prog) (w := X.w) (A := X.A) (E := X.xe) (Q := EP X pins σ Q) I.kIn J2 O.hc O.hs O.hr O.hg hfi O.sub2 slot entry (args _ _) (int_declines J2.at_) fin
  simp only [binaryOp, hi]
  refine wpAny_holding (wpAny_bind (wpAny_mono one (fun o s' ho => ?_) fun _ _ e => e))
  obtain ⟨z, rfl, q⟩ := ho
  exact wpAny_pure q
/-- -a -/
theorem un_own (hs : PySem.W.findIn X.K (.ref C) "__neg__" = some (some (.ref f))) (hf : PySem.W.isFn X.K (.ref f) = true) (F : FnOk X.prog X.w X.K X.mg X.base CX k f fd ps sp) (hrm : Room k X.A) (hb : Binds X.K fd ps []) (hx : Passes CX X E) :
    UnR X (unaryOp .USub) (fun x H Q => Wd (∃ a dx fs, x = .ref a ∧ H a = some (.ins C dx fs) ∧ sp [x] H Q E)) := by
  intro pins s σ H x v Q I rx h
  obtain ⟨a, dx, fs, rfl, ha, h⟩ := h.ok
  obtain rfl : v = Value.ref a := rx
  obtain ⟨mA, O1, _⟩ := ins_get I.hok ha
  obtain ⟨od, J, _⟩ := O1.look
  obtain ⟨m, fr⟩ := I.fr
  exact PySem.W.ksp_neg fr I.mod.kin J hs hf (run_fn (us := [.ref a]) (vs := [.ref a]) F hrm hb .nil hx I (.cons rfl .nil) h)
theorem run_fn1 {pins : List (Addr × Obj)} {σ : L2.St} {H : Hp} {s : Shared} {Q : VK} {us : List Value} {vs : List V} (F : FnOk X.prog X.w X.K X.mg X.base CX k f fd ps sp) (hr : Room (k + 1) X.A) (hb : Binds X.K fd ps []) (hx : Passes CX X E)
    (I : Inv X pins σ H s) (rv : Vals vs us) (h : sp vs H Q E) : wpAny (model X.prog X.w) X.A.in1 (call (.ref f) us) (EP X pins σ Q) X.xe s := by
  have hl : us.length = ps.length := by rw [← rv.length]; exact F.len _ _ _ _ h
  have b := hb s us I.kIn (by rw [List.append_nil]; exact hl)
  rw [List.append_nil] at b
  refine wpAny_call (codeAny_mono (F.run X.A.in1 X.stack s H ⟨us, []⟩ us vs Q E hr.in1 I.env0.in1 b rv h) fun o s' z => ?_)
  cases o with
  | error e => exact hx pins σ H s e s' I z
  | ok fl =>
    cases fl with
    | ret u => exact I.after z
    | next => exact z.elim
    | brk => exact z.elim
    | cont => exact z.elim
/-- abs(a) -/
theorem call_absO (hs : PySem.W.findIn X.K (.ref C) "__abs__" = some (some (.ref f))) (hf : PySem.W.isFn X.K (.ref f) = true) (F : FnOk X.prog X.w X.K X.mg X.base CX k f fd ps sp) (hrm : Room (k + 1) X.A) (hb : Binds X.K fd ps []) (hx : Passes CX X E) :
    CallR X (.builtin "abs") (fun xs H Q => Wd (∃ a dx fs, xs = [.ref a] ∧ H a = some (.ins C dx fs) ∧ sp [.ref a] H Q E)) := by
  intro pins s σ H xs us Q I rv h
  obtain ⟨a, dx, fs, rfl, ha, h⟩ := h.ok
  obtain ⟨u, rfl, ru⟩ := vals1 rv
  obtain rfl : u = Value.ref a := ru
  obtain ⟨mA, O1, _⟩ := ins_get I.hok ha
  obtain ⟨od, J, _⟩ := O1.look
  refine PySem.Calls.call_function_entry kind_abs plain_abs entry_abs (args_abs _) ?_
  unfold Builtin.abs
  refine wpAny_bind (m := oneArg "abs" _) (wpAny_pure ?_)
  refine wpAny_bind (m := callSpecial? (.ref a) (Str.ofString "__abs__")) (PySem.W.special_fn I.kIn J hs (beq_iff_eq.mp hf) ?_)
  exact thn (run_fn1 (us := [.ref a]) (vs := [.ref a]) F hrm hb hx I (.cons rfl .nil) h) fun v s' z => wpAny_pure ⟨v, rfl, z⟩
def tSMeth (C : Addr) (sp : Sp) (E : XK) (ta : TE) (t : TA) : TE := fun σ H Q => ta σ H fun x H1 => x = .ref C ∧ t σ H1 fun vs H2 => sp vs H2 Q E
theorem pe_smeth {pl : Sem Bool} {p : Addr} {o e : Expr} {es : List Expr} {m : Str} {apos pos : Pos} {ta : TE} {t : TA} (he : PE X o ta) (S : SMet X.K C m p f) (F : FnOk X.prog X.w X.K X.mg X.base CX k f fd ps sp) (hrm : Room k X.A) (hb : Binds X.K fd ps [])
    (hx : Passes CX X E) (ha : PA X (e :: es) t) (hst : starEach (e :: es) X.env = (false, eval e X.env) :: starEach es X.env := by rfl) (hpl : (backTo pos (starEach es X.env)).any (·.1) = false := by rfl)
    (ht : eval (.Call (.Attribute o m apos) (e :: es) [] pos) X.env = (eval o X.env >>= fun ov => standAt apos.atName >>= fun _ => holding [ov] (getMethod ov m pl) >>= fun (f, first) =>
      callWith pos f first (backTo pos (starEach (e :: es) X.env)) (backToKw pos (keywordEach [] X.env))) := by rfl) :
    PE X (.Call (.Attribute o m apos) (e :: es) [] pos) (tSMeth C sp E ta t) := by
  refine ⟨fun pins s σ H Q I h => ?_⟩
  refine PySem.W.methodCall_KW (pl := pl) (thn (he.run pins s σ H _ I h) fun u s1 ⟨x, H1, I1, rx, ex, q⟩ => ?_) ht
  subst ex
  obtain rfl : u = Value.ref C := rx
  obtain ⟨rest, hp⟩ := S.rc
  refine PySem.W.method_cls I1.kIn S.ga (PySem.W.cls_bind I1.kIn S.rd S.at_ (wpAny_call (PySem.W.sm_get (s := { s1 with toks := s1.toks + 1 }) I1.kIn hp (PySem.W.handed_on rfl ?_))))
  have I2 := I1.tok (s1.toks + 1)
  refine PySem.W.callWith_K (first := []) (h₀ := X.base) I.ok.mod.kin S.kp (thn (ha.run pos pins _ σ H1 _ I2 q) fun us s2 ⟨vs, H2, I3, rv, q2⟩ => ⟨I3.kIn, ?_⟩) hst hpl
  exact run_fn (us := us) (vs := vs) F hrm hb .nil hx I3 rv (by rw [List.append_nil]; exact q2)
end

/-! ### dicts with tuple keys: pop(k), del d[k], sorted(d) -/
section
open PySem DT L2.DX
variable {prog : Program} {w : World} {K : Type} [DecidableEq K] {knd : HeapKind prog w K}
theorem meetsPop1 {d b : Addr} {k : K} (hd : (d == sysModules) = false) :
    MeetsIn prog w (Builtin.«dict.pop» ⟨[.ref d, .ref b], []⟩) (fun A R s => ∃ xs, knd.room A.in1 ∧ knd.is s.heap k b ∧ s.heap.DictOfH knd d xs ∧ xs.length ≤ sizeLine ∧ atKey xs k ≠ none ∧
      ∀ p, atKey xs k = some p → ∀ h' tk, h'.DictOfH knd d (dropH xs k) → Heap.SameBut d s.heap h' → R (.ok (.ret p.2)) { s with heap := h', toks := tk }) :=
  .of_wp fun A R s ⟨xs, hu, hkey, hm, hsz, hthere, hsome⟩ => by
    obtain ⟨o, es, ep, ho, hc, hdat, he, his, hn⟩ := id hm
    have hes : es.size = xs.length := size_of_entries he
    have hpart : (keyPart (Value.ref b)).isSome = false := rfl
    unfold Builtin.«dict.pop»
    refine wpAny_bind ?_
    unfold Builtin.Dict.keyAndDefault
    refine wpAny_bind (wpAny_notOrdered_dict hm.typeIs ?_)
    show wpAny _ _ (pure (d, Value.ref b, none)) _ _ s
    refine wpAny_pure ?_
    simp only [hpart, Bool.false_eq_true, if_false]
    refine wpAny_bind (wpAny_dictEntries ho hdat (wpAny_bind (wpAny_pure ?_)))
    cases hem : es.isEmpty with
    | true =>
      have z : es.size = 0 := by simpa using hem
      have h0 : xs = [] := List.length_eq_zero_iff.mp (by omega)
      exact absurd (by rw [h0]; rfl) hthere
    | false =>
      simp only [Bool.false_eq_true, if_false]
      refine wpAny_bind (takeH hu hkey hm hsz (fun hno => absurd hno hthere) fun p e hp hev h' hm' hs' => ?_)
      simp only [Option.isNone_some, Bool.false_eq_true, if_false]
      exact wpAny_bind (wpAny_letGo (wpAny_pure ⟨e.val, rfl, by rw [hev]; exact hsome p hp h' _ hm' hs'⟩))
theorem meetsDelT {d b : Addr} {k : K} :
    MeetsIn prog w (Builtin.«dict.__delitem__» ⟨[.ref d, .ref b], []⟩) (fun A R s => ∃ xs, knd.room A.in1 ∧ knd.is s.heap k b ∧ s.heap.DictOfH knd d xs ∧ xs.length ≤ sizeLine ∧ atKey xs k ≠ none ∧
      ∀ h' tk, h'.DictOfH knd d (dropH xs k) → Heap.SameBut d s.heap h' → R (.ok (.ret .none)) { s with heap := h', toks := tk }) :=
  .of_wp fun A R s ⟨xs, hu, hkey, hm, hsz, hthere, h⟩ => by
    unfold Builtin.«dict.__delitem__»
    refine wpAny_bind ?_
    unfold Builtin.Dict.dictSlotArgs
    refine wpAny_bind (wpAny_notOrdered_dict hm.typeIs ?_)
    show wpAny _ _ (pure (Value.ref d, Value.ref b)) _ _ s
    refine wpAny_pure ?_
    show wpAny _ _ (Builtin.Dict.takeOut d (.ref b) >>= _) _ _ s
    refine wpAny_bind (takeH hu hkey hm hsz (fun hno => absurd hno hthere) fun p e hp hev h' hm' hs' => ?_)
    exact wpAny_bind (wpAny_letGo (wpAny_pure ⟨.none, rfl, h h' _ hm' hs'⟩))
end
section
open PySem.Spec PyProof.Rows L2.DX
variable {X : Cx}
def rPopT1 : V → List V → Hp → VK → Prop := fun x xs H Q => ∃ (a : Addr) (kvs : List (List L2.Key × V)) (k : List L2.Key) (b : Addr) (v : V), x = .ref a ∧ xs = [.ref b] ∧ H a = some (.dT kvs) ∧ H b = some (.tup (k.map kV)) ∧ valV kvs k = some v ∧ Q v (upd H a (.dT (dropK kvs k)))
theorem mt_popT1 (hu : X.A.units + 1 < cLine) : MtR X "dict.pop" rPopT1 := by
  intro pins s σ H x xs v us Q I rx rxs h
  obtain ⟨a, kvs, k, b, v0, rfl, rfl, ha, hb, ev, q⟩ := h
  cases rx
  obtain ⟨u1, rfl, r1⟩ := vals1 rxs
  cases r1
  obtain ⟨z, hd, xs', rel, dd⟩ := dt_of I.hok ha
  have hz : xs'.length ≤ sizeLine := by rw [← Paired.length rel]; exact z
  have r := rel.val k
  rw [ev] at r
  refine call_meetsIn PySem.F.slot_dict_pop dd.typeIs PySem.F.entry_dict_pop (PySem.F.args_dict_pop_2 _ _) (meetsPop1 (knd := tupleKind (mixKind X.prog X.w)) (k := k) hd)
    ⟨xs', tupleKind_room_in1 hu, key_of I.hok hb, dd, hz, fun e => ?_, fun p hp h' tk dd' hs => ?_⟩
  · rw [e] at r
    exact r
  · rw [hp] at r
    obtain ⟨o, es, ep, hq, h2, h3, h4, _, h5⟩ := dd'
    have I2 : Inv X pins σ (upd H a (.dT (dropK kvs k))) { s with heap := h', toks := tk } :=
      d_write I (by rw [ha]; exact True.intro) hs ⟨o, hq⟩ ⟨Nat.le_trans (dropK_le kvs k) z, hd, _, (KT_drop k rel).keeps (fun c ys ec => (by rw [upd_ne (ne_of ec ha (fun z => nomatch z))]; exact ec)), o, es, ep, hq, h2, h3, h4, h5⟩
    exact ⟨v0, _, I2, r, q⟩
variable {o i : Expr} {tpos pos : Pos} {td ty : TE}
/-- del d[k], k a tuple -/
def sDDelT (td ty : TE) : TS := fun D σ H => td σ H fun x H1 => ty σ H1 fun y H2 => ∃ (a b : Addr) (kvs : List (List L2.Key × V)) (k : List L2.Key), x = .ref a ∧ y = .ref b ∧ H2 a = some (.dT kvs) ∧ H2 b = some (.tup (k.map kV)) ∧ (valV kvs k).isSome = true ∧ D.nx σ (upd H2 a (.dT (dropK kvs k)))
theorem ps_ddelT (hu : X.A.units + 1 < cLine) (ho : PE X o td) (hi : PE X i ty) : PS X (.Delete [.Subscript o i tpos] pos) (sDDelT td ty) := by
  refine ⟨fun pins s σ H D I h => ?_⟩
  refine wpAny_Delete (wpAny_deleteEach_cons (wpAny_delete_Subscript (thn (ho.run pins s σ H _ I h) fun u s1 ⟨x, H1, I1, rx, q1⟩ => thn (hi.run pins s1 σ H1 _ I1 q1) fun iv s2 ⟨y, H2, I2, ry, a, b, kvs, k, ex, ey, ha, hb, l, q2⟩ => ?_)))
  subst ex ey
  obtain rfl : u = Value.ref a := rx
  obtain rfl : iv = Value.ref b := ry
  obtain ⟨z, hd, xs', rel, dd⟩ := dt_of I2.hok ha
  have hz : xs'.length ≤ sizeLine := by rw [← Paired.length rel]; exact z
  have r := rel.val k
  refine wpAny_delItem_slot dd.typeIs (by decide) PySem.F.slot_dict_delitem
    (call_meetsIn PySem.F.slot_dict_delitem dd.typeIs PySem.F.entry_dict_delitem (PySem.F.args_dict_delitem_2 _ _) (meetsDelT (knd := tupleKind (mixKind X.prog X.w)) (k := k))
      ⟨xs', tupleKind_room_in1 hu, key_of I2.hok hb, dd, hz, fun e => ?_, fun h' tk dd' hs => wpAny_deleteEach_nil ⟨σ, _, ?_, q2⟩⟩)
  · rw [e] at r
    cases ev : valV kvs k with
    | none => rw [ev] at l; cases l
    | some v0 => rw [ev] at r; exact r
  · obtain ⟨o, es, ep, hq, h2, h3, h4, _, h5⟩ := dd'
    exact d_write I2 (by rw [ha]; exact True.intro) hs ⟨o, hq⟩ ⟨Nat.le_trans (dropK_le kvs k) z, hd, _, (KT_drop k rel).keeps (fun c ys ec => (by rw [upd_ne (ne_of ec ha (fun z => nomatch z))]; exact ec)), o, es, ep, hq, h2, h3, h4, h5⟩
end
/-- the two ints of the tuple that v is -/
def pairOf (H : Hp) : V → Int × Int
  | .ref b => match H b with
    | some (.tup [.int i, .int j]) => (i, j)
    | _ => (0, 0)
  | _ => (0, 0)
def adOf : Value → Addr
  | .ref a => a
  | _ => 0
theorem pairOf_at {H : Hp} {b : Addr} {i j : Int} (h : H b = some (.tup [.int i, .int j])) : pairOf H (.ref b) = (i, j) := by
  show (match H b with | some (.tup [.int i, .int j]) => (i, j) | _ => ((0, 0) : Int × Int)) = (i, j)
  rw [h]
abbrev kvT (es : List (Int × Int × V)) : List (List L2.Key × V) := es.map fun e => ([.inl e.1, .inl e.2.1], e.2.2)
theorem keysT {H : Hp} : ∀ {es : List (Int × Int × V)} {ks : List (List L2.Key × Addr × Value)}, Paired (fun (p : List L2.Key × V) (q : List L2.Key × Addr × Value) => p.1 = q.1 ∧ H q.2.1 = some (.tup (p.1.map kV)) ∧ RelV p.2 q.2.2) (kvT es) ks →
    (ks.map fun x => pairOf H (.ref x.2.1)) = es.map (fun e => (e.1, e.2.1)) ∧ ∀ x ∈ ks, ∃ i j, H x.2.1 = some (.tup [.int i, .int j])
  | [], ks, h => by
    cases h
    exact ⟨rfl, fun x hx => by cases hx⟩
  | e :: es, ks, h => by
    cases h with
    | cons a t =>
      obtain ⟨h1, h2⟩ := keysT t
      have hq := a.2.1
      refine ⟨?_, fun x hx => ?_⟩
      · rw [List.map_cons, List.map_cons, h1, pairOf_at hq]
      · rcases List.mem_cons.mp hx with rfl | hx
        · exact ⟨_, _, hq⟩
        · exact h2 x hx
section
open PySem.Spec PyProof.Rows L2.DX
variable {X : Cx}
/-- sorted(d), its keys pairs of ints -/
def rSortDT : List V → Hp → VK → Prop := fun xs H Q => Wd (∃ (d : Addr) (es : List (Int × Int × V)), xs = [.ref d] ∧ H d = some (.dT (kvT es)) ∧ ∀ (bs : List Addr) (ps : List (Int × Int)) (p : Addr), H p = none →
  All2 (fun b q => H b = some (.tup [.int q.1, .int q.2])) bs ps → ps.Perm (es.map fun e => (e.1, e.2.1)) → ps.Pairwise (fun a b => SrtO.lexB b a = false) → Q (.ref p) (upd H p (.lst (bs.map V.ref))))
theorem cr_sortedDT (hc : X.calm = true) : CallR X (.builtin "sorted") rSortDT := by
  intro pins s σ H xs us Q I r h
  obtain ⟨d, es, rfl, hd, q⟩ := h.ok
  obtain ⟨u, rfl, rx⟩ := vals1 r
  cases rx
  obtain ⟨z, hs, ks, pr, o, ens, ep, ho, hx, hdt, he, hn⟩ := (show ObjOk X.prog X.w H s.heap d (.dT (kvT es)) from I.hok d _ hd)
  have l1 : ens.size = ks.length := size_of_entries he
  have l2 : (kvT es).length = ks.length := Paired.length pr
  obtain ⟨k1, k2⟩ := keysT pr
  refine Calls.call_function_entry PyProof.Rows.kind_sorted PyProof.Rows.plain_sorted PyProof.Rows.entry_sorted (PyProof.Rows.args_sorted1 _) ?_
  unfold Builtin.«sorted»
  refine wpAny_bind (m := checkCount "sorted" 1 1 _) (wpAny_pure ?_)
  refine wpAny_bind (PySem.W.kdu_collect (A := X.A.in1) (kdl_raw hs hx hdt) (I.ok.hd hc) ho (by omega) fun h' tk acc hk it => ?_)
  have ea : acc.toList = ks.map fun x => Value.ref x.2.1 := by
    have hl : acc.toList.length = ks.length := by rw [Array.length_toList, it.1]; exact l1
    apply List.ext_getElem?
    intro j
    rw [List.getElem?_map]
    cases hj : acc.toList[j]? with
    | none =>
      have h1 := List.getElem?_eq_none_iff.mp hj
      rw [List.getElem?_eq_none (by omega)]
      rfl
    | some v =>
      obtain ⟨en, hen, hv⟩ := it.2 j v (by rw [← Array.getElem?_toList]; exact hj)
      have qe := entry_at he j
      rw [hen] at qe
      cases hb : ks[j]? with
      | none =>
        rw [hb] at qe
        exact nomatch (show some en = none from qe)
      | some b =>
        rw [hb] at qe
        have e2 : en = entryOfKey (tupleKind (mixKind X.prog X.w)) b := Option.some.inj qe
        rw [hv, e2]
        rfl
  have I1 : Inv X pins σ H { s with heap := h', toks := tk } := I.kept hk
  have hz : acc.toList.length ≤ sizeLine := by rw [ea, List.length_map]; omega
  refine wpAny_bind (wpAny_newList ?_ hz)
  have hoL : (h'.push (seqObj "list" acc.toList.toArray 0)).get? h'.objs.size = some (seqObj "list" acc.toList.toArray 0) := Heap.get?_push_size _ rfl
  show wpAny _ _ _ _ _ { s with heap := h'.push (seqObj "list" acc.toList.toArray 0), toks := tk }
  have hmem : ∀ v ∈ acc.toList, ∃ b i j, v = Value.ref b ∧ H b = some (.tup [.int i, .int j]) := fun v hv => by
    rw [ea] at hv
    obtain ⟨x, hx, rfl⟩ := List.mem_map.mp hv
    obtain ⟨i, j, e⟩ := k2 x hx
    exact ⟨_, i, j, rfl, e⟩
  refine wpAny_bind (wpAny_holding (wpAny_call_entry PyProof.Rows.slot_list_sort ⟨_, hoL, rfl⟩ PyProof.Rows.entry_list_sort
    (SrtO.list_sort_ord (SrtO.swo_lex fun u => pairOf H (backV u)) hoL hz (fun h2 => SrtO.pairs_sortableO (by omega) (fun v hv => ?_) fun o e c => ?_) fun out so sb => ⟨_, rfl, ?_⟩) (PyProof.Rows.args_list_sort _)))
  · obtain ⟨b, i, j, rfl, e⟩ := hmem v hv
    obtain ⟨_, its2, r2, o, ho, hc, n, hd⟩ := I1.hok _ _ e
    obtain ⟨u1, u2, rfl, ri, rj⟩ := vals2 r2
    obtain ⟨t1, rfl⟩ := ri
    obtain ⟨t2, rfl⟩ := rj
    have e3 : pairOf H (backV (Value.ref b)) = (i, j) := pairOf_at e
    rw [e3]
    exact ⟨b, o, t1, t2, n, rfl, Heap.get?_push_of_some _ ho, hc, hd⟩
  · rw [hoL] at e
    cases e
    exact absurd (Value.type.inj c) (by decide)
  · obtain ⟨e', he'⟩ := PyProof.Rows.sortedHeap_at (vs := acc.toList) (out := out.toArray) hoL
    have h3 : ∀ u ∈ out, ∃ b i j, u = Value.ref b ∧ H b = some (.tup [.int i, .int j]) := fun u hu => hmem u (sb.perm.mem_iff.mp hu)
    have hlen : (out.map backV).length ≤ sizeLine := by
      rw [List.length_map, sb.perm.length_eq]
      exact hz
    have eo : (out.map adOf).map V.ref = out.map backV := by
      rw [List.map_map]
      refine List.map_congr_left fun u hu => ?_
      obtain ⟨b, i, j, rfl, _⟩ := h3 u hu
      rfl
    have qq := q (out.map adOf) (out.map fun u => pairOf H (backV u)) h'.objs.size (I1.hok.fresh (Nat.le_refl _)) ⟨by rw [List.length_map, List.length_map], fun i x y hx hy => ?_⟩ ?_ ?_
    · rw [eo] at qq
      refine wpAny_pure ⟨_, rfl, .ref h'.objs.size, upd H h'.objs.size (.lst (out.map backV)), I1.laid (t' := tk) (fun b u e => ?_) (Nat.le_refl _)
        (show ObjOk X.prog X.w _ _ _ (.lst (out.map backV)) from ⟨hlen, out, e', vals_back (fun u hu => by obtain ⟨b, _, _, e, _⟩ := h3 u hu; exact ⟨b, e⟩), he'⟩), rfl, qq⟩
      have hb : b < h'.objs.size := Heap.lt_size e
      rw [PyProof.Rows.sortedHeap_old (Nat.ne_of_lt hb) (by rw [size_push']; exact Nat.lt_succ_of_lt hb)]
      exact Heap.get?_push_of_some _ e
    · rw [List.getElem?_map] at hx hy
      cases ho : out[i]? with
      | none => rw [ho] at hx; cases hx
      | some u =>
        rw [ho] at hx hy
        obtain ⟨b, m, n, rfl, e⟩ := h3 u (List.mem_of_getElem? ho)
        have hx : b = x := Option.some.inj hx
        have hy : pairOf H (.ref b) = y := Option.some.inj hy
        rw [pairOf_at e] at hy
        subst hx hy
        exact e
    · have p1 := sb.perm.map (fun u => pairOf H (backV u))
      rw [ea, List.map_map] at p1
      rw [← k1]
      exact p1
    · exact List.pairwise_map.mpr so
end

/-! ### x in o, o[i], o[i] = v, len(o) of an own class; a call of a local that holds a def -/
section
open PySem.Spec PyProof.Rows
variable {X : Cx} {CX : CXT} {k : Nat} {f C : Addr} {fd : FuncData} {ps : List Str} {sp : Sp} {E : L2.St → XK} {a b o i value : Expr} {ta tb td ty tv : TE} {pos pos' : Pos}
/-- the class's special method nm stands at f -/
structure OwnM (K : PySem.W.Frag) (C f : Addr) (nm : Str) : Prop where
  hs : PySem.W.findIn K (.ref C) nm = some (some (.ref f))
  hf : PySem.W.isFn K (.ref f) = true
theorem passAll {E : XK} (h : Passes CX X E) : ∀ σ : L2.St, PassesAt CX X σ ((fun _ => E) σ) := fun σ pins H s e s' I c => h pins σ H s e s' I c
theorem run_fn1S {pins : List (Addr × Obj)} {σ : L2.St} {H : Hp} {s : Shared} {Q : VK} {us : List Value} {vs : List V} (F : FnOk X.prog X.w X.K X.mg X.base CX k f fd ps sp) (hr : Room (k + 1) X.A) (hb : Binds X.K fd ps []) (hx : PassesAt CX X σ (E σ))
    (I : Inv X pins σ H s) (rv : Vals vs us) (h : sp vs H Q (E σ)) : wpAny (model X.prog X.w) X.A.in1 (call (.ref f) us) (EP X pins σ Q) X.xe s := by
  have hl : us.length = ps.length := by rw [← rv.length]; exact F.len _ _ _ _ h
  have b := hb s us I.kIn (by rw [List.append_nil]; exact hl)
  rw [List.append_nil] at b
  refine wpAny_call (codeAny_mono (F.run X.A.in1 X.stack s H ⟨us, []⟩ us vs Q (E σ) hr.in1 I.env0.in1 b rv h) fun o s' z => ?_)
  cases o with
  | error e => exact hx pins H s e s' I z
  | ok fl =>
    cases fl with
    | ret u => exact I.after z
    | next => exact z.elim
    | brk => exact z.elim
    | cont => exact z.elim
/-- x in o -/
def rOwnIn (C : Addr) (sp : Sp) (E : XK) : R2 := fun x y H Q => Wd (∃ p dx fs, y = .ref p ∧ H p = some (.ins C dx fs) ∧ sp [y, x] H (fun v H' => ∃ c, v = .bl c ∧ Q (.bl c) H') E)
theorem op_ownIn {E : XK} (O : OwnM X.K C f "__contains__") (F : FnOk X.prog X.w X.K X.mg X.base CX k f fd ps sp) (hr : Room k X.A) (hb : Binds X.K fd ps []) (hx : Passes CX X E) : OpR X (compareOp .In) (rOwnIn C sp E) := by
  intro pins s σ H x y v u Q I rx ry h
  obtain ⟨p, dx, fs, rfl, hp, h⟩ := h.ok
  obtain rfl : u = Value.ref p := ry
  obtain ⟨mA, O1, _⟩ := ins_get I.hok hp
  obtain ⟨od, J, _⟩ := O1.look
  obtain ⟨m, fr⟩ := I.fr
  refine PySem.W.in_K fr I.mod.kin J O.hs O.hf (thn (run_fn (us := [.ref p, v]) (vs := [.ref p, x]) F hr hb .nil hx I (.cons rfl (.cons rx .nil)) h) fun r s' z => ?_)
  obtain ⟨y, H', J', ry, c, rfl, q⟩ := z
  cases ry
  exact wpAny_truthy_bool ⟨.bl c, H', J', rfl, q⟩
/-- len(o) -/
def rOwnLen (C : Addr) (sp : Sp) (E : XK) : List V → Hp → VK → Prop := fun xs H Q => Wd (∃ p dx fs, xs = [.ref p] ∧ H p = some (.ins C dx fs) ∧ sp [.ref p] H (fun v H' => ∃ n : Int, v = .int n ∧ 0 ≤ n ∧ n < 2 ^ 63 ∧ Q (.int n) H') E)
theorem call_ownLen {E : XK} (O : OwnM X.K C f "__len__") (F : FnOk X.prog X.w X.K X.mg X.base CX k f fd ps sp) (hr : Room (k + 1) X.A) (hb : Binds X.K fd ps []) (hx : Passes CX X E) : CallR X (.builtin "len") (rOwnLen C sp E) := by
  intro pins s σ H xs us Q I r h
  obtain ⟨p, dx, fs, rfl, hp, h⟩ := h.ok
  rw [Vals.ref1 r]
  obtain ⟨mA, O1, _⟩ := ins_get I.hok hp
  obtain ⟨od, J, _⟩ := O1.look
  obtain ⟨m, fr⟩ := I.fr
  refine PySem.W.len_K fr I.mod.kin J O.hs O.hf (thn (run_fn1 (us := [.ref p]) (vs := [.ref p]) F hr hb hx I (.cons rfl .nil) h) fun r s' z => ?_)
  obtain ⟨y, H', J', ry, n, rfl, h0, h1, q⟩ := z
  obtain ⟨t, rfl⟩ := ry
  exact ⟨⟨h0, h1⟩, .int n, H', J'.tok _, ⟨_, rfl⟩, q⟩
/-- o[i] -/
def tOwnIx (C : Addr) (sp : Sp) (E : L2.St → XK) (ta tb : TE) : TE := fun σ H Q => ta σ H fun x H1 => tb σ H1 fun y H2 => ∃ p dx fs, x = .ref p ∧ H2 p = some (.ins C dx fs) ∧ sp [x, y] H2 Q (E σ)
theorem pe_ownIx (O : OwnM X.K C f "__getitem__") (hfn : PySem.W.fnIn X.K f = true) (F : FnOk X.prog X.w X.K X.mg X.base CX k f fd ps sp) (hr : Room (k + 1) X.A) (hb : Binds X.K fd ps []) (hx : ∀ σ, PassesAt CX X σ (E σ)) (ha : PE X a ta) (hi : PE X b tb)
    (hsl : ∀ x i, subscripted b true (.ref x) i = runValue (.builtin "lifetime.subscript" ⟨[.ref x, i], []⟩) := by intro _ _; with_unfolding_all rfl) : PE X (.Subscript a b pos) (tOwnIx C sp E ta tb) := by
  refine ⟨fun pins s σ H Q I h => ?_⟩
  refine Subscript_ (binT ha hi I h fun v u s2 x y H2 I2 rx ry q => ?_)
  obtain ⟨p, dx, fs, rfl, hp, q⟩ := q
  obtain rfl : v = Value.ref p := rx
  obtain ⟨mA, O1, _⟩ := ins_get I2.hok hp
  obtain ⟨od, J, _⟩ := O1.look
  obtain ⟨m, fr⟩ := I2.fr
  exact PySem.W.sub_K fr I2.mod.kin J O.hs hfn O.hf (run_fn1S (us := [.ref p, u]) (vs := [.ref p, y]) F hr hb (hx σ) I2 (.cons rfl (.cons ry .nil)) q) (hsl _ _)
/-- o[i] = v -/
def sOwnSet (C : Addr) (sp : Sp) (E : L2.St → XK) (td ty tv : TE) : TS := fun D σ H => tv σ H fun v H1 => td σ H1 fun x H2 => ty σ H2 fun y H3 => ∃ p dx fs, x = .ref p ∧ H3 p = some (.ins C dx fs) ∧ sp [x, y, v] H3 (fun _ H4 => D.nx σ H4) (E σ)
theorem ps_ownSet (O : OwnM X.K C f "__setitem__") (hq : PySem.W.noSeq X.K C = true) (F : FnOk X.prog X.w X.K X.mg X.base CX k f fd ps sp) (hr : Room k X.A) (hb : Binds X.K fd ps []) (hx : ∀ σ, PassesAt CX X σ (E σ)) (ho : PE X o td) (hi : PE X i ty) (hv : PE X value tv)
    (hs : swapsWith value (some (.Subscript o i pos')) pos.line X.env = pure false) : PS X (.Assign [.Subscript o i pos'] value pos) (sOwnSet C sp E td ty tv) := by
  refine ⟨fun pins s σ H D I h => ?_⟩
  refine wpAny_Assign_Subscript (thn (hv.run pins s σ H _ I h) fun r s1 ⟨v, H1, I1, rv, q1⟩ => thn (ho.run pins s1 σ H1 _ I1 q1) fun u s2 ⟨x, H2, I2, rx, q2⟩ => thn (hi.run pins s2 σ H2 _ I2 q2) fun iv s3 ⟨y, H3, I3, ry, p, dx, fs, ex, hp, q3⟩ => ?_) hs
  subst ex
  obtain rfl : u = Value.ref p := rx
  obtain ⟨mA, O1, _⟩ := ins_get I3.hok hp
  obtain ⟨od, J, _⟩ := O1.look
  obtain ⟨m, fr⟩ := I3.fr
  refine PySem.W.ksp_setItem fr I3.mod.kin J hq O.hs O.hf (thn (run_fnS (E := E) (us := [.ref p, iv, r]) (vs := [.ref p, y, v]) F hr hb (hx σ) I3 (.cons rfl (.cons ry (.cons rv .nil))) q3) fun _ s4 z => ?_)
  obtain ⟨_, H4, I4, _, q4⟩ := z
  exact ⟨σ, H4, I4, q4⟩
end
section
open PySem.Spec PyProof.Rows
variable {X : Cx} {CX : CXT} {k1 k2 i : Nat} {f1 f2 : Addr} {fd1 fd2 : FuncData} {ps1 ps2 : List Str} {sp : Sp} {E : L2.St → XK} {x : Str} {p pos : Pos} {e : Expr} {es : List Expr} {t : TA}
/-- f(e, ..), f a local that holds one of two defs with one promise -/
def tCall2S (i : Nat) (f1 f2 : Addr) (sp : Sp) (E : L2.St → XK) (t : TA) : TE := fun σ H Q => (σ[i]? = some (some (.ref f1)) ∨ σ[i]? = some (some (.ref f2))) ∧ t σ H fun vs H1 => sp vs H1 Q (E σ)
theorem pe_call2S (F1 : FnOk X.prog X.w X.K X.mg X.base CX k1 f1 fd1 ps1 sp) (F2 : FnOk X.prog X.w X.K X.mg X.base CX k2 f2 fd2 ps2 sp) (hr1 : Room k1 X.A) (hr2 : Room k2 X.A) (hN : X.N[i]? = some x) (hv : Vis X.env.scope x) (hk1 : PySem.W.keepIn X.K (.ref f1) = true) (hk2 : PySem.W.keepIn X.K (.ref f2) = true)
    (hb1 : Binds X.K fd1 ps1 []) (hb2 : Binds X.K fd2 ps2 []) (hx : ∀ σ, PassesAt CX X σ (E σ)) (ha : PA X (e :: es) t) (hdb : (x == ("__debug__" : Str)) = false := by decide) (hcd : (x == ("__classdict__" : Str)) = false := by decide)
    (he : starEach (e :: es) X.env = (false, eval e X.env) :: starEach es X.env := by rfl) (hpl : (backTo pos (starEach es X.env)).any (·.1) = false := by rfl) : PE X (.Call (.Name x p) (e :: es) [] pos) (tCall2S i f1 f2 sp E t) := by
  refine ⟨fun pins s σ H Q I h => ?_⟩
  obtain ⟨hs, ht⟩ := h
  rcases hs with hs | hs
  · refine wpAny_Call_Name_kw (thn ((pe_var (pos := p) hN hv hdb hcd).run pins s σ H (fun v H1 => v = .ref f1 ∧ H1 = H) I ⟨.ref f1, hs, rfl, rfl⟩) fun u s1 ⟨v, H1, I1, r1, q1⟩ => ?_)
    obtain ⟨rfl, rfl⟩ := q1
    cases r1
    exact PySem.W.callWith_K (h₀ := X.base) I.ok.mod.kin hk1 (thn (ha.run pos pins s1 σ _ _ I1 ht) fun us s2 ⟨vs, H2, I2, r, q⟩ => ⟨I2.kIn, run_fnS F1 hr1 hb1 (hx σ) I2 r q⟩) he hpl
  · refine wpAny_Call_Name_kw (thn ((pe_var (pos := p) hN hv hdb hcd).run pins s σ H (fun v H1 => v = .ref f2 ∧ H1 = H) I ⟨.ref f2, hs, rfl, rfl⟩) fun u s1 ⟨v, H1, I1, r1, q1⟩ => ?_)
    obtain ⟨rfl, rfl⟩ := q1
    cases r1
    exact PySem.W.callWith_K (h₀ := X.base) I.ok.mod.kin hk2 (thn (ha.run pos pins s1 σ _ _ I1 ht) fun us s2 ⟨vs, H2, I2, r, q⟩ => ⟨I2.kIn, run_fnS F2 hr2 hb2 (hx σ) I2 r q⟩) he hpl
end

/-! ### match o: case ['a' | 'b' | 'c', _, n]: .. case ['d', _, m]: .. -/
section
open PySem.Spec PyProof.Rows
variable {X : Cx}
/-- a written text as a pattern, beside a flat value -/
theorem mp_val {pins : List (Addr × Obj)} {σ : L2.St} {H : Hp} {s : Shared} {v0 : V} {u0 : Value} {z : Str} {j : Nat} {q r : Pos} {Q : Option (List (Str × Value)) → Shared → Prop} (I : Inv X pins σ H s) (r0 : RelV v0 u0) (fl : flatV v0 = true) (hu : X.A.units + 64 < cLine)
    (h : ∀ s', Inv X pins σ H s' → if eqV v0 (.str z) = true then Q (some []) s' else Q none s') : wpAny (model X.prog X.w) X.A (matchPattern (.MatchValue (.Constant (.str z) j q) r) X.env u0) Q X.xe s := by
  refine wpAny_matchPattern_Value (thn ((pe_str (X := X) (x := z) (j := j) (pos := q)).run pins s σ H (fun v H1 => v = .str z ∧ H1 = H) I ⟨rfl, rfl⟩) fun x s1 ⟨v, H1, I1, r1, q1⟩ => ?_)
  obtain ⟨rfl, rfl⟩ := q1
  obtain ⟨d, hd, e⟩ : ∃ d : PyData, Dp X.K H1 v0 d ∧ d.plain = true ∧ d.depth ≤ 64 ∧ PyData.eqv d (.str z) = eqV v0 (.str z) := by
    cases v0 with
    | non => exact ⟨_, .non, rfl, Nat.le_of_ble_eq_true rfl, rfl⟩
    | bl b => exact ⟨_, .bl b, rfl, Nat.le_of_ble_eq_true rfl, rfl⟩
    | int i => exact ⟨_, .int i, rfl, Nat.le_of_ble_eq_true rfl, rfl⟩
    | str y => exact ⟨_, .str y, rfl, Nat.le_of_ble_eq_true rfl, rfl⟩
    | byt _ => cases fl
    | flt _ => cases fl
    | ref _ => cases fl
    | ty _ => cases fl
  refine thn (op_eqP hu pins s1 σ H1 v0 (.str z) u0 x (fun v H2 => v = .bl (eqV v0 (.str z)) ∧ H2 = H1) I1 r0 r1 ⟨d, .str z, hd, .str z, e.1, rfl, e.2.1, by rw [e.2.2], rfl⟩) fun c s2 ⟨v, H2, I2, r2, q2⟩ => ?_
  obtain ⟨rfl, rfl⟩ := q2
  cases r2
  exact wpAny_truthy_bool (h s2 I2)
variable {te : TE} {e : Expr} {t1 t2 : TS} {b1 b2 : List Stmt} {w1 w2 w3 w4 n1 n2 : Str} {j1 j2 j3 j4 : Nat} {q1 q2 q3 q4 r1 r2 r3 r4 p1 p2 p3 p4 p5 p6 p7 pos : Pos} {i1 i2 : Nat}
def tMatch3 (te : TE) (w1 w2 w3 w4 : Str) (i1 i2 : Nat) (t1 t2 : TS) : TS := fun D σ H => te σ H fun x H1 => ∃ (p : Addr) (v0 v1 v2 : V), x = .ref p ∧ H1 p = some (.tup [v0, v1, v2]) ∧ flatV v0 = true ∧
  if (eqV v0 (.str w1) || eqV v0 (.str w2) || eqV v0 (.str w3)) = true then t1 D (σ.set i1 (some v2)) H1 else if eqV v0 (.str w4) = true then t2 D (σ.set i2 (some v2)) H1 else D.nx σ H1
theorem bind_ok {pins : List (Addr × Obj)} {σ : L2.St} {H : Hp} {s : Shared} {i : Nat} {x : Str} {v : V} {u : Value} {Q : Unit → Shared → Prop} (I : Inv X pins σ H s) (hN : X.N.Nodup) (hi : X.N[i]? = some x) (hx : Loc X.env.scope x)
    (hf : X.fn x = true ∨ X.env.scope.names.lookup x = some .local) (r : RelV v u) (h : ∀ s', Inv X pins (σ.set i (some v)) H s' → Q () s') :
    wpAny (model X.prog X.w) X.A (assignInOrder ([(x, u)].map fun (n, _) => bindName X.env n) ([(x, u)].map (·.2))) Q X.xe s :=
  wpAny_assignInOrder_more (wpAny_bindName (store_ok I hN hi hx r (fun s1 I1 => wpAny_assignInOrder_none (h s1 I1)) hf))
theorem ps_match3 (hc : X.calm = true) (hu : X.A.units + 64 < cLine) (hN : X.N.Nodup) (hi1 : X.N[i1]? = some n1) (hx1 : Loc X.env.scope n1) (hi2 : X.N[i2]? = some n2) (hx2 : Loc X.env.scope n2) (he : PE X e te) (h1 : PSs X b1 t1) (h2 : PSs X b2 t2)
    (hf1 : X.fn n1 = true ∨ X.env.scope.names.lookup n1 = some .local := by first | exact .inl rfl | exact .inr rfl) (hf2 : X.fn n2 = true ∨ X.env.scope.names.lookup n2 = some .local := by first | exact .inl rfl | exact .inr rfl) :
    PS X (.Match e [⟨.MatchSequence [.MatchOr [.MatchValue (.Constant (.str w1) j1 q1) r1, .MatchValue (.Constant (.str w2) j2 q2) r2, .MatchValue (.Constant (.str w3) j3 q3) r3] p1, .MatchAs none none p2, .MatchAs none (some n1) p3] p4, none, b1⟩,
      ⟨.MatchSequence [.MatchValue (.Constant (.str w4) j4 q4) r4, .MatchAs none none p5, .MatchAs none (some n2) p6] p7, none, b2⟩] pos) (tMatch3 te w1 w2 w3 w4 i1 i2 t1 t2) := by
  refine ⟨fun pins s σ H D I h => ?_⟩
  refine wpAny_Match (thn (he.run pins s σ H _ I h) fun u s1 ⟨x, H1, I1, rx, p, v0, v1, v2, ex, hp, fl, q⟩ => ?_)
  subst ex
  obtain rfl : u = Value.ref p := rx
  have hit : ∀ {ps : List Pattern} {pos : Pos} {Q : Option (List (Str × Value)) → Shared → Prop} {s : Shared}, Inv X pins σ H1 s → ps.length = 3 → (∀ u0 u1 u2 s', Inv X pins σ H1 s' → RelV v0 u0 → RelV v1 u1 → RelV v2 u2 → wpAny (model X.prog X.w) X.A (matchEach ps X.env [u0, u1, u2]) Q X.xe s') →
      (ps.findIdx? (·.isStar) = none) → ((ps.all fun p => p.isWildcard || (p.isStar && p.names.isEmpty)) = false) → wpAny (model X.prog X.w) X.A (matchPattern (.MatchSequence ps pos) X.env (.ref p)) Q X.xe s := by
    intro ps pos Q s I hl h3 hs hw
    obtain ⟨its, rv, ht, hz⟩ := I.tuple (SqT.of hp)
    obtain ⟨u0, u1, u2, rfl, a0, a1, a2⟩ : ∃ u0 u1 u2, its = [u0, u1, u2] ∧ RelV v0 u0 ∧ RelV v1 u1 ∧ RelV v2 u2 := by
      cases rv with
      | cons a0 t0 =>
        cases t0 with
        | cons a1 t1 =>
          cases t1 with
          | cons a2 t2 =>
            cases t2
            exact ⟨_, _, _, rfl, a0, a1, a2⟩
    refine matchSeq_tuple_hit ht (show ((3 : Nat) : Int) < 2 ^ 63 by decide) (by rw [hl]; rfl) ?_ hs hw
    rw [hl]
    refine unpackItems_tuple (items := #[u0, u1, u2]) (I.ok.hd hc) ht fun h' hx => ?_
    exact h3 u0 u1 u2 _ (I.kept (t' := s.toks + 1 + 1) fun b o e => hx b o (Nat.ne_of_lt (Heap.lt_size e)) e) a0 a1 a2
  refine wpAny_matchCases_cons (hit I1 rfl ?_ rfl rfl)
  intro u0 u1 u2 s2 I2 a0 a1 a2
  have no : (eqV v0 (.str w1) || eqV v0 (.str w2) || eqV v0 (.str w3)) = false → ∀ s3, Inv X pins σ H1 s3 →
      wpAny (model X.prog X.w) X.A (matchCases [⟨.MatchSequence [.MatchValue (.Constant (.str w4) j4 q4) r4, .MatchAs none none p5, .MatchAs none (some n2) p6] p7, none, b2⟩] X.env (.ref p) false) (SP X pins D) X.xe s3 := by
    intro hn s3 I3
    rw [hn] at q
    refine wpAny_matchCases_cons (hit I3 rfl ?_ rfl rfl)
    intro u0 u1 u2 s4 I4 a0 a1 a2
    refine wpAny_matchEach_cons (mp_val I4 a0 fl hu fun s5 I5 => ?_)
    split
    · next h4 =>
      refine wpAny_matchEach_cons (wpAny_matchPattern_Capture (wpAny_matchEach_cons (wpAny_matchPattern_Capture (wpAny_matchEach_nil ?_))))
      refine bind_ok I5 hN hi2 hx2 hf2 a2 fun s6 I6 => ?_
      rw [h4] at q
      exact h2.run pins s6 _ H1 D I6 q
    · next h4 =>
      rw [if_neg h4] at q
      exact wpAny_matchCases_nil ⟨σ, H1, I5, q⟩
  have yes : (eqV v0 (.str w1) || eqV v0 (.str w2) || eqV v0 (.str w3)) = true → ∀ s3, Inv X pins σ H1 s3 →
      wpAny (model X.prog X.w) X.A (matchEach [.MatchAs none none p2, .MatchAs none (some n1) p3] X.env [u1, u2]) (fun (r' : Option (List (Str × Value))) s₂ => match r' with
        | none => wpAny (model X.prog X.w) X.A (matchCases [⟨.MatchSequence [.MatchValue (.Constant (.str w4) j4 q4) r4, .MatchAs none none p5, .MatchAs none (some n2) p6] p7, none, b2⟩] X.env (.ref p) false) (SP X pins D) X.xe s₂
        | some more => wpAny (model X.prog X.w) X.A (assignInOrder ((([] : List (Str × Value)) ++ more).map fun (n, _) => bindName X.env n) ((([] : List (Str × Value)) ++ more).map (·.2))) (fun _ s₂ => wpAny (model X.prog X.w) X.A (execs b1 X.env) (SP X pins D) X.xe s₂) X.xe s₂) X.xe s3 := by
    intro hy s3 I3
    rw [hy] at q
    refine wpAny_matchEach_cons (wpAny_matchPattern_Capture (wpAny_matchEach_cons (wpAny_matchPattern_Capture (wpAny_matchEach_nil ?_))))
    exact bind_ok I3 hN hi1 hx1 hf1 a2 fun s6 I6 => h1.run pins s6 _ H1 D I6 q
  refine wpAny_matchEach_cons (wpAny_matchPattern_Or (wpAny_matchFirst_cons (mp_val I2 a0 fl hu fun s3 I3 => ?_)))
  split
  · next h4 => exact yes (by rw [h4]; rfl) s3 I3
  · next h4 =>
    refine wpAny_matchFirst_cons (mp_val I3 a0 fl hu fun s5 I5 => ?_)
    split
    · next h5 => exact yes (by rw [h5]; simp) s5 I5
    · next h5 =>
      refine wpAny_matchFirst_cons (mp_val I5 a0 fl hu fun s6 I6 => ?_)
      split
      · next h6 => exact yes (by rw [h6]; simp) s6 I6
      · next h6 => exact wpAny_matchFirst_nil (no (by simp [h4, h5, h6]) s6 I6)
end

/-! ### the law's own helpers: bag, integer, divisor, lowest -/
def spBag (K : PySem.W.Frag) : Sp := fun vs H Q _ => ∃ (a : Addr) (ns : List Int), vs = [.ref a] ∧ SqL K H a (ns.map V.int) ∧ ∀ (g l : Addr) (H' : Hp), Same H H' → H g = none → H l = none → Bag H' g l → Q (.ref g) H'
def spInteger : Sp := fun vs H Q _ => ∃ g l : Addr, vs = [.ref g] ∧ Bag H g l ∧ ∀ (n : Int) (H' : Hp), n.natAbs ≤ 10 ^ 49 → Bag H' g l → Kp g H H' → Q (.int n) H'
def spLowest : Sp := fun vs H Q _ => ∃ t b : Int, vs = [.int t, .int b] ∧ b ≠ 0 ∧ b.natAbs < 2 ^ 9000 ∧ ∀ p, H p = none → Q (.ref p) (upd H p (.tup [.int (Rat.divInt t b).num, .int ((Rat.divInt t b).den : Int)]))
theorem Bag.keep {H H' : Hp} {g l : Addr} (b : Bag H g l) (s : Same H H') : Bag H' g l := by
  obtain ⟨i, r, sd, c, ns, hg, hl, hi⟩ := b
  exact ⟨i, r, sd, c, ns, s _ _ hg, s _ _ hl, hi⟩
theorem Bag.lst {H : Hp} {g l : Addr} (b : Bag H g l) : ∃ xs, H g = some (.lst xs) := by
  obtain ⟨i, r, sd, c, ns, hg, hl, hi⟩ := b
  exact ⟨_, hg⟩
theorem Bag.ne {H : Hp} {g l p : Addr} (b : Bag H g l) (hp : H p = none) : p ≠ g ∧ p ≠ l := by
  obtain ⟨i, r, sd, c, ns, hg, hl, hi⟩ := b
  exact ⟨(ne_of_none hg hp).symm, (ne_of_none hl hp).symm⟩
/-- a bag stands where nothing of it is written -/
theorem Bag.put {H : Hp} {g l p : Addr} {o : HO} (b : Bag H g l) (n : p ≠ g ∧ p ≠ l) : Bag (upd H p o) g l := by
  obtain ⟨i, r, sd, c, ns, hg, hl, hi⟩ := b
  exact ⟨i, r, sd, c, ns, by rw [upd_ne n.1.symm]; exact hg, by rw [upd_ne n.2.symm]; exact hl, hi⟩
theorem Bag.new {H : Hp} {g l p : Addr} {o : HO} (b : Bag H g l) (hp : H p = none) : Bag (upd H p o) g l := b.keep fun c u e => by
  rw [upd_ne (ne_of_none e hp)]
  exact e
theorem Kp.new {g p : Addr} {H H' : Hp} {o : HO} (k : Kp g H H') (hp : H' p = none) : Kp g H (upd H' p o) := fun b u e n => by
  have e1 := k b u e n
  rw [upd_ne (ne_of_none e1 hp)]
  exact e1
theorem Kp.put {g p : Addr} {H H' : Hp} {o : HO} (k : Kp g H H') (hp : H p = none) : Kp g H (upd H' p o) := fun b u e n => by
  rw [upd_ne (ne_of_none e hp)]
  exact k b u e n
theorem Kp.same {g : Addr} {H H' : Hp} (s : Same H H') : Kp g H H' := fun b u e _ => s b u e
theorem Same.new {H : Hp} {p : Addr} {o : HO} (hp : H p = none) : Same H (upd H p o) := fun b u e => by
  rw [upd_ne (ne_of_none e hp)]
  exact e
theorem size_at {c : Int} (h0 : 0 ≤ c) (h6 : c < 6) (hc : c ≠ 0) : ∃ z : Int, atI [V.int 1, V.int 2, V.int 3, V.int 12, V.int 1000, V.int (10 ^ (49 : Int).toNat)] c = some (.int z) ∧ 0 < z ∧ z ≤ 10 ^ 49 := by
  have : c = 1 ∨ c = 2 ∨ c = 3 ∨ c = 4 ∨ c = 5 := by omega
  rcases this with rfl | rfl | rfl | rfl | rfl
  · exact ⟨2, rfl, by decide, by decide⟩
  · exact ⟨3, rfl, by decide, by decide⟩
  · exact ⟨12, rfl, by decide, by decide⟩
  · exact ⟨1000, rfl, by decide, by decide⟩
  · exact ⟨10 ^ 49, rfl, by decide, by decide⟩
theorem big49 : (10 : Nat) ^ 49 < 2 ^ 200 := by decide
theorem pow_mono {a b : Nat} (h : a ≤ b) : (2 : Nat) ^ a ≤ 2 ^ b := Nat.pow_le_pow_right (by decide) h
theorem lt_pow {n a b : Nat} (h : n < 2 ^ a) (hab : a ≤ b) : n < 2 ^ b := Nat.lt_of_lt_of_le h (pow_mono hab)
theorem lt200 {n : Nat} (h : n ≤ 10 ^ 49) : n < 2 ^ 200 := Nat.lt_of_le_of_lt h big49
theorem lt9000 {n : Nat} (h : n ≤ 10 ^ 49) : n < 2 ^ 9000 := lt_pow (lt200 h) (by decide)
def spLaw (K : PySem.W.Frag) : Sp := fun vs H Q _ => ∃ (a : Addr) (ns : List Int), vs = [.ref a] ∧ SqL K H a (ns.map V.int) ∧ ns.length ≤ 63 ∧ ∀ H', Q (.bl true) H'
theorem neD_same {K : PySem.W.Frag} {H : Hp} {p q : Addr} {a b : Int} {Q : VK} (hp : H p = some (.tup [.int a, .int b])) (hq : H q = some (.tup [.int a, .int b])) (h : Q (.bl false) H) : rNeD K (.ref p) (.ref q) H Q := by
  refine ⟨.tuple [.int a, .int b], .tuple [.int a, .int b], .tup (SqT.of hp) (.cons (.int a) (.cons (.int b) .nil)), .tup (SqT.of hq) (.cons (.int a) (.cons (.int b) .nil)), rfl, rfl, ?_⟩
  have e : PyData.eqv (.tuple [.int a, .int b]) (.tuple [.int a, .int b]) = true := by simp [PyData.eqv, PyData.eqvAll]
  rw [e]
  exact h
theorem or_go {K : PySem.W.Frag} {H : Hp} {σ : L2.St} {Q : VK} {n d : Int} (hd : d ≠ 0) (h : ∀ m : Int, m ≠ 0 → (m = n ∨ m = d) → Q (.int m) H) : ∃ k, TruV K (.int n) H k ∧ if k = true then Q (.int n) H else tC (.int d) σ H Q := by
  by_cases e : n = 0
  · exact ⟨false, by rw [e]; rfl, iteF (h d hd (.inr rfl))⟩
  · exact ⟨true, (show true = (n != 0) by simp [e]), iteT (h n e (.inl rfl))⟩
theorem kit_self {K : PySem.W.Frag} {C : Addr} : PySem.W.kitOne K (.ref C) (.ref C) = some true := by simp [PySem.W.kitOne]
def spNumber : Sp := fun vs H Q _ => ∃ n : Int, vs = [.int n] ∧ Q (.bl true) H
section
variable {P : Program} {w : World} {K : PySem.W.Frag} {mg : Str → Option Value} {base : Heap} {A : Ad}
theorem ok_l_bag (T : Txt K mg A) : FnOk P w K mg base CX0 1 A.l_bag A.fd_l_bag P_l_bag (spBag K) := by
  refine T.F_l_bag.ok sc_l_bag (fun vs H Q E h => ?_) (fun cdv Ar outer s H vs Q E hr h => ?_)
  · obtain ⟨a, ns, rfl, _⟩ := h
    rfl
  · obtain ⟨a, ns, rfl, hS, k⟩ := h
    refine ⟨_, (pss_one (ps_ret (pe_lst (pa_cons (pe_callTy call_list_of (by rfl) T.z_list (by decide +kernel) (pa_cons (pv 0) pa_nil)) (pa_cons pe_int (pa_cons pe_int (pa_cons pe_int (pa_cons pe_int pa_nil)))))))), ?_⟩
    refine ⟨_, rfl, a, _, rfl, .inl hS, fun l hl => ⟨by walk_at "fact", fun g hg => ?_⟩⟩
    have nlg : l ≠ g := fun z => by
      rw [z, upd_same] at hg
      cases hg
    have hg0 : H g = none := by
      rw [upd_ne nlg.symm] at hg
      exact hg
    exact k g l _ ((Same.new hl).trans (Same.new hg)) hg0 hl ⟨0, 0, 17, 0, ns, upd_same, by rw [upd_ne nlg]; exact upd_same, by decide⟩
end

theorem Same.at_new {H H' : Hp} {D : Addr} {o : HO} (hD : H D = none) (s : Same H H') : Same H (upd H' D o) := fun b u e => by
  rw [upd_ne (ne_of_none e hD)]
  exact s b u e
/-- [.. for .. in a list], its parts keep what stands -/
theorem lc_same {K : PySem.W.Frag} {a : Addr} {xs : List V} {g : TG} {tt : TT} {te : TE} {vs : List Nat} {σ : L2.St} {H1 : Hp} {D : Addr} {Qd : Hp → Prop} (f : Nat → V) (hl : H1 a = some (.lst xs)) (hz : xs.length ≤ 1000) (hD : H1 D = none)
    (hs : ∀ i x H' (N : VK) (M : Hp → Prop), xs[i]? = some x → Same H1 H' → (∀ H4, Same H' H4 → N (f i) H4) → g x (wipe σ vs) H' fun σ2 H2 => wipe σ2 vs = wipe σ vs ∧ tt σ2 H2 fun b H3 => if b = true then te σ2 H3 N else M H3)
    (hd : ∀ H', Same H1 H' → H' D = some (.lst ((List.range xs.length).map f)) → Qd H') :
    ∃ W : Nat → Nat → Hp → Prop, (∃ m, W 0 m (upd H1 D (.lst []))) ∧ ∀ i m H, W i m H →
      ((Itl K a).stop i H ∧ Qd H) ∨ ((Itl K a).go i H ∧ ∃ Nx : Hp → Prop, (∀ H', Nx H' → ∃ m', m' < m ∧ W (i + 1) m' H') ∧ ∀ x H', (Itl K a).yld i H x H' → g x (wipe σ vs) H' fun σ2 H2 => wipe σ2 vs = wipe σ vs ∧ tt σ2 H2 fun b H3 =>
        if b = true then te σ2 H3 fun y H4 => ∃ acc, H4 D = some (.lst acc) ∧ acc.length < sizeLine ∧ Nx (upd H4 D (.lst (acc ++ [y]))) else Nx H3) := by
  refine lc_list (K := K) (a := a) (xs := xs) (fun i H' => Wd (Same H1 H' ∧ H' D = some (.lst ((List.range i).map f)))) ⟨Same.new hD, upd_same⟩ (fun i H' _ h => SqL.of (h.ok.1 _ _ hl)) ?_ (fun H' h => hd H' h.ok.1 h.ok.2)
  rintro i x H' hi ⟨s, hd'⟩
  refine hs i x H' _ _ hi s fun H4 s4 => ⟨_, s4 _ _ hd', ?_, Same.at_new hD (s.trans s4), ?_⟩
  · rw [List.length_map, List.length_range]
    have := (List.getElem?_eq_some_iff.mp hi).1
    exact Nat.lt_of_lt_of_le (Nat.lt_of_lt_of_le this hz) (by decide)
  · rw [upd_same, List.range_succ, List.map_append]
    rfl
theorem Same.none {H H' : Hp} {p : Addr} (s : Same H H') (h : H' p = none) : H p = none := by
  cases e : H p with
  | none => rfl
  | some o =>
    rw [s _ _ e] at h
    cases h

/-- what stands anywhere but at the list D is kept -/
theorem kp_of_same {D : Addr} {H H' : Hp} (s : Same H H') : Kp D H H' := fun b o e _ => s b o e
/-- [.. for .. in a list], its parts keep what stands; R tells of each item that is made -/
theorem lc_sameP {K : PySem.W.Frag} {a : Addr} {xs : List V} {g : TG} {tt : TT} {te : TE} {vs : List Nat} {σ : L2.St} {H1 : Hp} {D : Addr} {Qd : Hp → Prop} (R : Nat → V → Hp → Prop) (hl : H1 a = some (.lst xs)) (hz : xs.length ≤ 1000) (hD : H1 D = none)
    (mono : ∀ i y H H' acc, H D = some (.lst acc) → Kp D H H' → R i y H → R i y H')
    (hs : ∀ i x H' (N : VK) (M : Hp → Prop), xs[i]? = some x → Same H1 H' → (∀ y H4, Same H' H4 → R i y H4 → N y H4) → g x (wipe σ vs) H' fun σ2 H2 => wipe σ2 vs = wipe σ vs ∧ tt σ2 H2 fun b H3 => if b = true then te σ2 H3 N else M H3)
    (hd : ∀ ys H', Same H1 H' → ys.length = xs.length → (∀ i y, ys[i]? = some y → R i y H') → H' D = some (.lst ys) → Qd H') :
    ∃ W : Nat → Nat → Hp → Prop, (∃ m, W 0 m (upd H1 D (.lst []))) ∧ ∀ i m H, W i m H →
      ((Itl K a).stop i H ∧ Qd H) ∨ ((Itl K a).go i H ∧ ∃ Nx : Hp → Prop, (∀ H', Nx H' → ∃ m', m' < m ∧ W (i + 1) m' H') ∧ ∀ x H', (Itl K a).yld i H x H' → g x (wipe σ vs) H' fun σ2 H2 => wipe σ2 vs = wipe σ vs ∧ tt σ2 H2 fun b H3 =>
        if b = true then te σ2 H3 fun y H4 => ∃ acc, H4 D = some (.lst acc) ∧ acc.length < sizeLine ∧ Nx (upd H4 D (.lst (acc ++ [y]))) else Nx H3) := by
  refine lc_list (K := K) (a := a) (xs := xs) (fun i H' => Wd (∃ ys : List V, Same H1 H' ∧ ys.length = i ∧ H' D = some (.lst ys) ∧ ∀ j y, ys[j]? = some y → R j y H')) ⟨[], Same.new hD, rfl, upd_same, fun j y h => by cases h⟩ (fun i H' _ h => ?_) ?_ (fun H' h => ?_)
  · obtain ⟨ys, s, _⟩ := h.ok
    exact SqL.of (s _ _ hl)
  · rintro i x H' hi ⟨ys, s, hyl, hd', hR⟩
    refine hs i x H' _ _ hi s fun y H4 s4 r4 => ⟨_, s4 _ _ hd', ?_, ys ++ [y], Same.at_new hD (s.trans s4), ?_, upd_same, fun j z hz => ?_⟩
    · rw [hyl]
      have := (List.getElem?_eq_some_iff.mp hi).1
      exact Nat.lt_of_lt_of_le (Nat.lt_of_lt_of_le this hz) (by decide)
    · rw [List.length_append, hyl]
      rfl
    · have kp : Kp D H4 (upd H4 D (.lst (ys ++ [y]))) := (Kp.refl D H4).up
      rw [List.getElem?_append] at hz
      split at hz
      · exact mono _ _ _ _ _ (s4 _ _ hd') kp (mono _ _ _ _ _ hd' (kp_of_same s4) (hR j z hz))
      · have e : j - ys.length = 0 := by
          cases e : j - ys.length with
          | zero => rfl
          | succ n => rw [e] at hz; cases hz
        rw [e] at hz
        cases hz
        have : j = i := by omega
        subst this
        exact mono _ _ _ _ _ (s4 _ _ hd') kp r4
  · obtain ⟨ys, s, hyl, hd', hR⟩ := h.ok
    exact hd ys H' s hyl hR hd'

/-! ### the __init__ of the errors -/
/-- C.__init__(self, v, ..): the error gets its dict; fs: the fields, the last one first -/
def spExcF (C : Addr) (n : Nat) (fs : List V → List (Str × V)) : Sp := fun vs H Q _ => ∃ (a : Addr) (ws : List V), vs = .ref a :: ws ∧ ws.length = n ∧ H a = some (exo a C none) ∧
  ∀ (d : Addr) (H' : Hp), H d = none → d ≠ a → (∀ b o, H b = some o → b ≠ a → H' b = some o) → H' a = some (exo a C (some d)) → H' d = some (exd d (fs ws)) → Q .non H'
section
variable {P : Program} {w : World} {K : PySem.W.Frag} {mg : Str → Option Value} {base : Heap} {A : Ad}
def fs_BadEntry : List V → List (Str × V)
  | [v0, v1] => [("number", v1), ("day", v0)]
  | _ => []
theorem ok_m_BadEntry_init (T : Txt K mg A) : FnOk P w K mg base CX0 3 A.m_BadEntry_init A.fd_m_BadEntry_init P_m_BadEntry_init (spExcF A.BadEntry 2 fs_BadEntry) := by
  refine T.F_m_BadEntry_init.ok sc_m_BadEntry_init (fun vs H Q E h => ?_) (fun cdv Ar outer s H vs Q E hr h => ?_)
  · obtain ⟨a, ws, rfl, hl, _⟩ := h
    rw [List.length_cons, hl]
    rfl
  · obtain ⟨a, ws, rfl, hl, ha, k⟩ := h
    match ws, hl with
    | [v0, v1], _ =>
      refine ⟨_, (pss_cons (ps_expr (pe_ceinit (by rfl) T.g_CostError T.rd_CostError T.cg_CostError T.vi_CostError (pa_cons (pv 0) (pa_cons pe_str pa_nil))))
      (pss_cons (ps_ost (pv 0) (pv 1))
      (pss_one (ps_ost (pv 0) (pv 2))))), ?_⟩
      refine ⟨_, rfl, a, A.BadEntry, _, rfl, by show 1 ≤ 1000; decide, T.ox_BadEntry, ha, ?_⟩
      refine ⟨_, rfl, _, rfl, a, A.BadEntry, rfl, T.ox_BadEntry, T.n_BadEntry_day, .inl ⟨ha, fun d hd nd => ?_⟩⟩
      have ea : upd (upd H d (exd d [("day", v0)])) a (exo a A.BadEntry (some d)) a = some (exo a A.BadEntry (some d)) := upd_same
      have ed : upd (upd H d (exd d [("day", v0)])) a (exo a A.BadEntry (some d)) d = some (exd d [("day", v0)]) := by rw [upd_ne nd, upd_same]
      refine ⟨_, rfl, _, rfl, a, A.BadEntry, rfl, T.ox_BadEntry, T.n_BadEntry_number, .inr ⟨d, _, ea, ed, by show 1 ≤ 900; decide, ?_⟩⟩
      exact k d _ hd nd (fun b o e n => by rw [upd_ne (ne_of_none e hd), upd_ne n, upd_ne (ne_of_none e hd)]; exact e) (by rw [upd_ne nd.symm]; exact ea) upd_same
def fs_NoEntry : List V → List (Str × V)
  | [v0, v1] => [("number", v1), ("day", v0)]
  | _ => []
theorem ok_m_NoEntry_init (T : Txt K mg A) : FnOk P w K mg base CX0 3 A.m_NoEntry_init A.fd_m_NoEntry_init P_m_NoEntry_init (spExcF A.NoEntry 2 fs_NoEntry) := by
  refine T.F_m_NoEntry_init.ok sc_m_NoEntry_init (fun vs H Q E h => ?_) (fun cdv Ar outer s H vs Q E hr h => ?_)
  · obtain ⟨a, ws, rfl, hl, _⟩ := h
    rw [List.length_cons, hl]
    rfl
  · obtain ⟨a, ws, rfl, hl, ha, k⟩ := h
    match ws, hl with
    | [v0, v1], _ =>
      refine ⟨_, (pss_cons (ps_expr (pe_ceinit (by rfl) T.g_CostError T.rd_CostError T.cg_CostError T.vi_CostError (pa_cons (pv 0) (pa_cons pe_str pa_nil))))
      (pss_cons (ps_ost (pv 0) (pv 1))
      (pss_one (ps_ost (pv 0) (pv 2))))), ?_⟩
      refine ⟨_, rfl, a, A.NoEntry, _, rfl, by show 1 ≤ 1000; decide, T.ox_NoEntry, ha, ?_⟩
      refine ⟨_, rfl, _, rfl, a, A.NoEntry, rfl, T.ox_NoEntry, T.n_NoEntry_day, .inl ⟨ha, fun d hd nd => ?_⟩⟩
      have ea : upd (upd H d (exd d [("day", v0)])) a (exo a A.NoEntry (some d)) a = some (exo a A.NoEntry (some d)) := upd_same
      have ed : upd (upd H d (exd d [("day", v0)])) a (exo a A.NoEntry (some d)) d = some (exd d [("day", v0)]) := by rw [upd_ne nd, upd_same]
      refine ⟨_, rfl, _, rfl, a, A.NoEntry, rfl, T.ox_NoEntry, T.n_NoEntry_number, .inr ⟨d, _, ea, ed, by show 1 ≤ 900; decide, ?_⟩⟩
      exact k d _ hd nd (fun b o e n => by rw [upd_ne (ne_of_none e hd), upd_ne n, upd_ne (ne_of_none e hd)]; exact e) (by rw [upd_ne nd.symm]; exact ea) upd_same
end

/-! ### names that the law draws -/
section
open PySem.Spec PyProof.Rows
variable {X : Cx}
/-- a text times 0 or 1 -/
theorem op_mul01 : OpR X (binaryOp .Mult) (fun x y H Q => ∃ (z : Str) (n : Int), x = .str z ∧ y = .int n ∧ (n = 0 ∨ n = 1) ∧ Q (.str (if n = 0 then Str.empty else z)) H) := by
  intro pins s σ H x y v u Q I rx ry h
  obtain ⟨z, n, rfl, rfl, hn, q⟩ := h
  obtain ⟨t, rfl⟩ := rx
  obtain ⟨t', rfl⟩ := ry
  rcases hn with rfl | rfl
  · exact PySem.P.mul_str_none (by decide) (by decide) ⟨.str Str.empty, H, I.tok _, ⟨_, rfl⟩, q⟩
  · refine PySem.P.mul_str (by decide) (fun _ h => absurd h (by simp)) (fun _ h => absurd h (by simp)) ?_
    show (Made.val (.str z t)).post _ s
    exact ⟨.str z, H, I, ⟨_, rfl⟩, q⟩
end
/-- a name: a few small letters -/
def NmOk (n : List Nat) : Prop := 1 ≤ n.length ∧ n.length ≤ 12 ∧ ∀ c ∈ n, 97 ≤ c ∧ c < 123
def vS (l : List Nat) : V := .str (SX.S l)
/-- the k-th name -/
def nmAt (st : List Nat) (wh : Nat) (sh lo : Int) (k : Nat) : List Nat := st.take wh ++ [97 + ((sh + 7 * (k : Int)) % 26).toNat] ++ st.drop wh ++ (if (k : Int) % 3 = lo then [97 + sh.toNat] else [])
theorem nm_len {st : List Nat} {wh : Nat} {sh lo : Int} {k : Nat} : (nmAt st wh sh lo k).length = st.length + 1 + (if (k : Int) % 3 = lo then 1 else 0) := by
  unfold nmAt
  rw [List.length_append, List.length_append, List.length_append, List.length_take, List.length_drop, List.length_singleton]
  split
  · rw [List.length_singleton]
    omega
  · rw [List.length_nil]
    omega
theorem nm_at {st : List Nat} {wh : Nat} {sh lo : Int} {k : Nat} (hw : wh ≤ st.length) : (nmAt st wh sh lo k)[wh]? = some (97 + ((sh + 7 * (k : Int)) % 26).toNat) := by
  have h1 : (st.take wh).length = wh := by
    rw [List.length_take]
    omega
  unfold nmAt
  rw [List.append_assoc, List.append_assoc, List.getElem?_append_right (by omega), h1, Nat.sub_self]
  rfl
theorem nm_inj {st : List Nat} {wh : Nat} {sh lo : Int} {k j : Nat} (hw : wh ≤ st.length) (hk : k < 26) (hj : j < 26) (e : nmAt st wh sh lo k = nmAt st wh sh lo j) : k = j := by
  have h := nm_at (sh := sh) (lo := lo) (k := k) hw
  rw [e, nm_at hw] at h
  have h := Option.some.inj h
  omega
theorem nm_ok {st : List Nat} {wh : Nat} {sh lo : Int} {k : Nat} (hs : st.length ≤ 10) (hc : ∀ c ∈ st, 97 ≤ c ∧ c < 123) (h0 : 0 ≤ sh) (h1 : sh < 26) : NmOk (nmAt st wh sh lo k) := by
  refine ⟨by rw [nm_len]; omega, by rw [nm_len]; split <;> omega, fun c hm => ?_⟩
  unfold nmAt at hm
  simp only [List.mem_append, List.mem_singleton] at hm
  rcases hm with ((hm | hm) | hm) | hm
  · exact hc c (List.mem_of_mem_take hm)
  · omega
  · exact hc c (List.mem_of_mem_drop hm)
  · split at hm
    · rw [List.mem_singleton] at hm
      omega
    · cases hm
def lettersZ : Str := "abcdefghijklmnopqrstuvwxyz"
theorem letter_at {c : Int} (h0 : 0 ≤ c) (h1 : c < 26) : atI lettersZ.cps.toList c = some (97 + c.toNat) := by
  have : ∀ n : Fin 26, atI lettersZ.cps.toList ((n.val : Nat) : Int) = some (97 + n.val) := by decide +kernel
  have h := this ⟨c.toNat, by omega⟩
  rw [show ((c.toNat : Nat) : Int) = c by omega] at h
  exact h
def spNames : Sp := fun vs H Q _ => ∃ (g l q : Addr) (cnt : Int) (ws : List (List Nat)), vs = [.ref g, .int cnt, .ref q] ∧ Bag H g l ∧ q ≠ g ∧ 1 ≤ cnt ∧ cnt ≤ 26 ∧ H q = some (.lst (ws.map vS)) ∧ 1 ≤ ws.length ∧ ws.length ≤ 1000 ∧ (∀ w ∈ ws, w.length ≤ 1000) ∧
  ∀ (p : Addr) (ns : List (List Nat)) (H' : Hp), H p = none → H' p = some (.lst (ns.map vS)) → ns.length = cnt.toNat → ns.Nodup → (∀ n ∈ ns, NmOk n ∨ n ∈ ws) → Bag H' g l → Kp g H H' → Q (.ref p) H'
theorem len_at {c : Int} (h0 : 0 ≤ c) (h5 : c < 5) : ∃ z : Int, atI [V.int 0, .int 1, .int 2, .int 3, .int 10] c = some (.int z) ∧ 0 ≤ z ∧ z ≤ 10 := by
  have : c = 0 ∨ c = 1 ∨ c = 2 ∨ c = 3 ∨ c = 4 := by omega
  rcases this with rfl | rfl | rfl | rfl | rfl
  · exact ⟨0, rfl, by decide, by decide⟩
  · exact ⟨1, rfl, by decide, by decide⟩
  · exact ⟨2, rfl, by decide, by decide⟩
  · exact ⟨3, rfl, by decide, by decide⟩
  · exact ⟨10, rfl, by decide, by decide⟩
theorem kp_none {g p : Addr} {H H' : Hp} (k : Kp g H H') (h : H' p = none) (n : p ≠ g) : H p = none := by
  cases e : H p with
  | none => rfl
  | some o =>
    rw [k _ _ e n] at h
    cases h
theorem joinL_chars : ∀ cs : List Nat, TL.joinL [] (cs.map fun c => [c]) = cs
  | [] => rfl
  | [c] => rfl
  | c :: d :: cs => by
    have ih := joinL_chars (d :: cs)
    show [c] ++ ([] ++ TL.joinL [] ((d :: cs).map fun c => [c])) = _
    rw [ih]
    rfl
theorem join_chars (cs : List Nat) : Txt.join (Str.ofString "") (cs.map fun c => SX.S [c]) = SX.S cs := by
  have h := SX.join_S [] (cs.map fun c => [c])
  rw [List.map_map, joinL_chars] at h
  exact h
theorem cut_to {st : List Nat} {wh : Int} (h0 : 0 ≤ wh) (h1 : wh.toNat ≤ st.length) : cutS (SX.S st) none (some wh) = SX.S (st.take wh.toNat) := by
  have e : HT.sIx (SX.S st).length (SX.S st).length (some wh) = wh.toNat := by
    show (if wh < 0 then _ else min wh.toNat _) = _
    rw [if_neg (by omega), SX.S_len]
    omega
  unfold cutS
  rw [HT.sIx_none, e, Nat.sub_zero, List.drop_zero]
theorem cut_from {st : List Nat} {wh : Int} (h0 : 0 ≤ wh) (h1 : wh.toNat ≤ st.length) : cutS (SX.S st) (some wh) none = SX.S (st.drop wh.toNat) := by
  have e : HT.sIx (SX.S st).length 0 (some wh) = wh.toNat := by
    show (if wh < 0 then _ else min wh.toNat _) = _
    rw [if_neg (by omega), SX.S_len]
    omega
  unfold cutS
  rw [HT.sIx_none, e, SX.S_len, List.take_of_length_le (by rw [List.length_drop]; exact Nat.le_refl _)]
theorem nodup_set {α : Type} {l : List α} {j : Nat} {x : α} (h : l.Nodup) (hx : x ∉ l) : (l.set j x).Nodup := by
  unfold List.Nodup at *
  rw [List.pairwise_iff_getElem] at *
  intro a b ha hb hab
  rw [List.length_set] at ha hb
  rw [List.getElem_set, List.getElem_set]
  split
  · rw [if_neg (by omega)]
    exact fun e => hx (e ▸ List.getElem_mem _)
  · split
    · exact fun e => hx (e ▸ List.getElem_mem _)
    · exact h a b ha hb hab
theorem ixN_in {n : Nat} {i : Int} (h0 : 0 ≤ i) (h1 : i < (n : Int)) : ixN n i = some i.toNat := by
  unfold ixN
  rw [if_pos h0, if_pos h1]
theorem mem_set_of {α : Type} {l : List α} {j : Nat} {x y : α} (h : y ∈ l.set j x) : y = x ∨ y ∈ l := by
  rcases List.mem_or_eq_of_mem_set h with h | h
  · exact .inr h
  · exact .inl h
theorem inV_names {ns : List (List Nat)} {x : List Nat} : inV (vS x) (ns.map vS) = decide (x ∈ ns) := by
  unfold inV
  rw [List.any_map, Bool.eq_iff_iff, List.any_eq_true, decide_eq_true_iff]
  constructor
  · rintro ⟨y, hy, e⟩
    have e2 : (SX.S y == SX.S x) = true := e
    rw [SX.S_beq, beq_iff_eq] at e2
    exact e2 ▸ hy
  · intro h
    refine ⟨x, h, ?_⟩
    show (SX.S x == SX.S x) = true
    rw [SX.S_beq, beq_iff_eq]
theorem flat_names (ns : List (List Nat)) : (ns.map vS).all flatV = true := by
  rw [List.all_map, List.all_eq_true]
  intro x _
  rfl
/-- what the names are, once they stand -/
def NmsOk (ns ws : List (List Nat)) (cnt : Int) : Prop := ns.length = cnt.toNat ∧ ns.Nodup ∧ ∀ n ∈ ns, NmOk n ∨ n ∈ ws
theorem nms_set {ns ws : List (List Nat)} {cnt : Int} {j : Nat} {x : List Nat} (h : NmsOk ns ws cnt) (hx : x ∉ ns) (ok : NmOk x ∨ x ∈ ws) : NmsOk (ns.set j x) ws cnt :=
  ⟨by rw [List.length_set]; exact h.1, nodup_set h.2.1 hx, fun n hn => by
    rcases mem_set_of hn with rfl | hn
    · exact ok
    · exact h.2.2 n hn⟩
theorem nms_range {st : List Nat} {wh : Nat} {sh lo cnt : Int} {ws : List (List Nat)} (hw : wh ≤ st.length) (hs : st.length ≤ 10) (hc : ∀ c ∈ st, 97 ≤ c ∧ c < 123) (h0 : 0 ≤ sh) (h1 : sh < 26) (hcn : cnt ≤ 26) :
    NmsOk ((List.range cnt.toNat).map fun k => nmAt st wh sh lo k) ws cnt := by
  refine ⟨by rw [List.length_map, List.length_range], ?_, fun n hn => ?_⟩
  · unfold List.Nodup
    rw [List.pairwise_map]
    refine List.Pairwise.imp_of_mem ?_ List.nodup_range
    intro a b ha hb hab e
    rw [List.mem_range] at ha hb
    exact hab (nm_inj hw (by omega) (by omega) e)
  · obtain ⟨k, _, rfl⟩ := List.mem_map.mp hn
    exact .inl (nm_ok hs hc h0 h1)
section
variable {P : Program} {w : World} {K : PySem.W.Frag} {mg : Str → Option Value} {base : Heap} {A : Ad}
theorem ok_l_names (T : Txt K mg A) : FnOk P w K mg base CX0 2 A.l_names A.fd_l_names P_l_names spNames := by
  refine T.F_l_names.ok sc_l_names (fun vs H Q E h => ?_) (fun cdv Ar outer s H vs Q E hr h => ?_)
  · obtain ⟨g, l, q, cnt, ws, rfl, _⟩ := h
    rfl
  · obtain ⟨g, l, q, cnt, ws, rfl, hB, nqg, hc1, hc26, hq, hw1, hw2, hw3, k⟩ := h
    refine ⟨_, (pss_cons (ps_set (i := 3) sc_l_names.nd rfl (Or.inr rfl) pe_str)
      (pss_cons (ps_set (i := 4) sc_l_names.nd rfl (Or.inl rfl) (pe_ix ix_list (pe_lst (pa_cons pe_int (pa_cons pe_int (pa_cons pe_int (pa_cons pe_int (pa_cons pe_int pa_nil)))))) (pe_call (ok_l_draw T) (hr.mono (by decide)) (by rfl) T.g__law_draw T.F_l_draw.kp T.b_l_draw .nil pass0 (pa_cons (pv 0) (pa_cons pe_int pa_nil))) (fun _ _ => rfl)))
      (pss_cons (ps_set (i := 5) sc_l_names.nd rfl (Or.inl rfl) (pe_join pe_str (pe_g (pe_lcV (own := [("_law_k", 10)]) rfl sc_l_names.nd (pi_range1 rfl T.z_range (pa_cons (pv 4) pa_nil)) (blkOk_by (own := [("_law_k", 10)]) (N := N_l_names) (sc := defScope s_l_names) (by decide +kernel)) (fun _ _ _ _ _ => (pg_name (i := 10) sc_l_names.nd rfl (Or.inl rfl))) (fun _ _ _ _ _ => pts_nil) (fun _ _ _ _ _ => (pe_ix ix_str (pv 3) (pe_call (ok_l_draw T) (hr.mono (by decide)) (by rfl) T.g__law_draw T.F_l_draw.kp T.b_l_draw .nil pass0 (pa_cons (pv 0) (pa_cons pe_int pa_nil))) (fun _ _ => rfl))) (fun _ _ _ _ _ => rfl) (fun _ _ _ _ _ => rfl) (fun _ _ _ _ _ => rfl)))))
      (pss_cons (ps_set (i := 6) sc_l_names.nd rfl (Or.inl rfl) (pe_call (ok_l_draw T) (hr.mono (by decide)) (by rfl) T.g__law_draw T.F_l_draw.kp T.b_l_draw .nil pass0 (pa_cons (pv 0) (pa_cons (pe_op op_add (pv 4) pe_int) pa_nil))))
      (pss_cons (ps_set (i := 7) sc_l_names.nd rfl (Or.inl rfl) (pe_call (ok_l_draw T) (hr.mono (by decide)) (by rfl) T.g__law_draw T.F_l_draw.kp T.b_l_draw .nil pass0 (pa_cons (pv 0) (pa_cons pe_int pa_nil))))
      (pss_cons (ps_set (i := 8) sc_l_names.nd rfl (Or.inl rfl) (pe_call (ok_l_draw T) (hr.mono (by decide)) (by rfl) T.g__law_draw T.F_l_draw.kp T.b_l_draw .nil pass0 (pa_cons (pv 0) (pa_cons pe_int pa_nil))))
      (pss_cons (ps_set (i := 9) sc_l_names.nd rfl (Or.inl rfl) (pe_lst pa_nil))
      (pss_cons (ps_g (ps_for PassesOwn.never rfl (pi_range1 rfl T.z_range (pa_cons (pv 1) pa_nil)) (pg_name (i := 10) sc_l_names.nd rfl (Or.inl rfl)) (pss_cons (ps_set (i := 11) sc_l_names.nd rfl (Or.inl rfl) (pe_op op_add_str (pe_op op_add_str (pe_slice sl_str (pv 5) po_none (po_some (pv 6))) (pe_ix ix_str (pv 3) (pe_op op_mod (pe_callTy call_int1 (by rfl) T.z_int (by decide +kernel) (pa_cons (pe_op op_add (pv 7) (pe_op op_mul pe_int (pv 10))) pa_nil)) pe_int) (fun _ _ => rfl))) (pe_slice sl_str (pv 5) (po_some (pv 6)) po_none)))
      (pss_one (ps_expr (pe_bm PySem.F.plainAttrs_list PySem.F.slot_list_append PySem.F.type_list_append mt_append (pv 9) (pa_cons (pe_op op_add_str (pv 11) (pe_op op_mul01 (pe_ix ix_str (pv 3) (pv 7) (fun _ _ => rfl)) (pe_callTy call_int1 (by rfl) T.z_int (by decide +kernel) (pa_cons (pe_cmpR op_eq (pe_op op_mod (pe_callTy call_int1 (by rfl) T.z_int (by decide +kernel) (pa_cons (pv 10) pa_nil)) pe_int) (pv 8) (nomark _)) pa_nil)))) pa_nil)))))))
      (pss_g (Evl.pss_cut (ps_if (PW.pt (pw_and (pt_cmpR op_gt (pv 1) pe_int (nomark _)) (pw_and (pt_cmpR op_lt (pv 4) pe_int (nomark _)) (pw_and1 (pt_cmpR op_eq (pv 8) pe_int (nomark _)))))) (pss_one (ps_asg (pe_op op_add_str (pe_ix ix_list (pv 9) pe_int (fun _ _ => rfl)) (pe_ix ix_str (pv 3) (pe_call (ok_l_draw T) (hr.mono (by decide)) (by rfl) T.g__law_draw T.F_l_draw.kp T.b_l_draw .nil pass0 (pa_cons (pv 0) (pa_cons pe_int pa_nil))) (fun _ _ => rfl))) (pg_sub (pv 9) pe_int set_list))) pss_nil)
      (pss_cons (ps_set (i := 12) sc_l_names.nd rfl (Or.inl rfl) (pe_call (ok_l_draw T) (hr.mono (by decide)) (by rfl) T.g__law_draw T.F_l_draw.kp T.b_l_draw .nil pass0 (pa_cons (pv 0) (pa_cons (pe_op op_mul pe_int (pv 1)) pa_nil))))
      (pss_cons (ps_set (i := 13) sc_l_names.nd rfl (Or.inl rfl) (pe_ix ix_list (pv 2) (pe_call (ok_l_draw T) (hr.mono (by decide)) (by rfl) T.g__law_draw T.F_l_draw.kp T.b_l_draw .nil pass0 (pa_cons (pv 0) (pa_cons (pe_callB call_len_seq (by rfl) T.z_len (by decide +kernel) (pa_cons (pv 2) pa_nil)) pa_nil))) (fun _ _ => rfl)))
      (pss_g (Evl.pss_cut (ps_if (PW.pt (pw_and (pt_cmpR op_lt (pv 12) (pv 1) (nomark _)) (pw_and1 (pt_cmpR op_notIn_seq (pv 13) (pv 9) (by rfl))))) (pss_one (ps_asg (pv 13) (pg_sub (pv 9) (pv 12) set_list))) pss_nil)
      (pss_one (ps_ret (pv 9))))))))))))))))), ?_⟩
    walk_at "go"
    intro p1 hp1
    have B1 := hB.new (o := .lst [V.int 0, .int 1, .int 2, .int 3, .int 10]) hp1
    have nq1 := ne_of_none hq hp1
    have hq1 := Same.new (o := .lst [V.int 0, .int 1, .int 2, .int 3, .int 10]) hp1 _ _ hq
    walk_at "go"
    intro c0 H2 c00 c01 B2 K2
    obtain ⟨sz, hsz, hsz0, hsz1⟩ := len_at c00 c01
    have hl2 := K2 _ _ upd_same (hB.ne hp1).1
    have hq2 := K2 _ _ hq1 nqg
    have K02 : Kp g H H2 := (Kp.same (Same.new hp1)).trans K2
    refine ⟨p1, _, _, _, rfl, rfl, SqL.of hl2, hsz, ?_⟩
    refine ⟨⟨_, rfl⟩, ?_⟩
    refine ⟨⟨_, rfl, _, rfl, by omega, by omega, fun D hD => ?_⟩⟩
    have nD := (B2.ne hD).1
    have hD0 : H D = none := kp_none K02 hD nD
    refine lc_range (fun i H' => Wd (∃ cs : List Nat, cs.length = i ∧ (∀ c ∈ cs, 97 ≤ c ∧ c < 123) ∧ H' D = some (.lst (cs.map fun c => vS [c])) ∧ Bag H' g l ∧ Kp g H H')) ⟨[], rfl, fun c h => (by cases h), upd_same, B2.new hD, K02.new hD⟩ ?_ ?_
    · rintro i H3 hi ⟨cs, hcl, hcs, hD3, B3, K3⟩
      refine ⟨rfl, ⟨_, rfl, _, rfl, g, l, _, rfl, B3, by decide, by decide, fun n H4 n0 n1 B4 K4 => ?_⟩⟩
      refine ⟨_, _, _, rfl, rfl, (by decide : lettersZ.length ≤ sizeLine), letter_at n0 n1, _, K4 _ _ hD3 nD, ?_, ?_⟩
      · rw [List.length_map, hcl]
        exact Nat.lt_of_lt_of_le (by omega : i < 100) (by decide)
      · refine ⟨cs ++ [97 + n.toNat], by rw [List.length_append, hcl]; rfl, fun c hm => ?_, ?_, B4.put (B2.ne hD), (K3.trans K4).put hD0⟩
        · rcases List.mem_append.mp hm with hm | hm
          · exact hcs c hm
          · rw [List.mem_singleton] at hm
            omega
        · rw [upd_same, List.map_append]
          rfl
    · rintro H3 ⟨st, hsl, hst, hD3, B3, K3⟩
      have hq3 := K3 _ _ hq nqg
      refine ⟨_, D, st.map fun c => SX.S [c], rfl, rfl, .inl (SqL.of (by rw [List.map_map]; exact hD3)), ?_, ?_⟩
      · have e : ∀ cs : List Nat, ((cs.map fun c => SX.S [c]).map (·.length)).sum = cs.length := fun cs => by
          induction cs with
          | nil => rfl
          | cons c cs ih =>
            rw [List.map_cons, List.map_cons, List.sum_cons, ih, List.length_cons, Nat.add_comm]
            rfl
        rw [e, List.length_map, hsl]
        show sz.toNat + sz.toNat * 0 ≤ _
        omega
      · rw [join_chars]
        have hz9 : (sz + 1).natAbs < 2 ^ 9000 := lt_pow (a := 10) (by omega) (by decide)
        walk_at "go"
        intro wh H4 wh0 wh1 B4 K4
        walk_at "go"
        intro sh H5 sh0 sh1 B5 K5
        walk_at "go"
        intro lo H6 lo0 lo1 B6 K6
        walk_at "go"
        intro f hf
        have K36 := K4.trans (K5.trans K6)
        have K6' := K3.trans K36
        have nf := B6.ne hf
        have hf0 : H f = none := kp_none K6' hf nf.1
        have hq6 := K6' _ _ hq nqg
        have hwl : wh.toNat ≤ st.length := by omega
        have c1 : cutS (SX.S st) none (some wh) = SX.S (st.take wh.toNat) := cut_to wh0 hwl
        have c2 : cutS (SX.S st) (some wh) none = SX.S (st.drop wh.toNat) := cut_from wh0 hwl
        have sl : ∀ l : List Nat, l.length ≤ 1000 → (SX.S l).length ≤ sizeLine := fun l h => by
          rw [SX.S_len]
          exact Nat.le_trans h (by decide)
        refine ⟨⟨_, rfl, _, rfl, by omega, by omega, for_range (lo := 0) (n := cnt.toNat) (fun i σ' H' => Wd (∃ o10 o11 : Option V, σ' = [some (.ref g), some (.int cnt), some (.ref q), some (.str lettersZ), some (.int sz), some (vS st), some (.int wh), some (.int sh), some (.int lo), some (.ref f), o10, o11, none, none] ∧
          H' = upd H6 f (.lst ((List.range i).map fun k => vS (nmAt st wh.toNat sh lo k))))) ⟨none, none, rfl, rfl⟩ ?_ ?_⟩⟩
        · rintro i σ' H7 hi ⟨o10, o11, rfl, rfl⟩
          refine ⟨_, rfl, _, rfl, wh, rfl, _, rfl, sl st (by omega), ?_⟩
          rw [c1]
          have hi26 : (i : Int) < 26 := by omega
          refine ⟨_, rfl, _, rfl, _, rfl, _, _, rfl, rfl, .inl ⟨by decide, by decide⟩, _, _, rfl, rfl, .inl ⟨_, rfl, _, _, rfl, rfl, (show (0 : Int) < 26 by decide), _, _, _, rfl, rfl, (by decide : lettersZ.length ≤ sizeLine), letter_at (Int.emod_nonneg _ (by decide)) (Int.emod_lt_of_pos _ (by decide)), ?_⟩⟩
          have e1 : SX.S (st.take wh.toNat) ++ (⟨#[97 + ((sh + 7 * (0 + (i : Int))) % 26).toNat]⟩ : Str) = SX.S (st.take wh.toNat ++ [97 + ((sh + 7 * (i : Int)) % 26).toNat]) := by
            rw [Int.zero_add]
            exact SX.S_cat _ _
          have l1 : (st.take wh.toNat).length ≤ 10 := by
            rw [List.length_take]
            omega
          have l2 : (st.drop wh.toNat).length ≤ 10 := by
            rw [List.length_drop]
            omega
          refine ⟨_, _, rfl, rfl, ?_, ?_⟩
          · rw [SX.S_len]
            exact Nat.le_trans (by show _ + 1 ≤ 1000; omega) (by decide : 1000 ≤ sizeLine)
          rw [e1]
          refine ⟨_, rfl, _, rfl, wh, rfl, _, rfl, sl st (by omega), ?_⟩
          rw [c2]
          refine ⟨_, _, rfl, rfl, ?_, ?_⟩
          · rw [SX.S_len, SX.S_len, List.length_append]
            exact Nat.le_trans (by rw [List.length_singleton]; omega) (by decide : 1000 ≤ sizeLine)
          rw [SX.S_cat]
          refine ⟨_, rfl, .inl ⟨rfl, _, SqL.of upd_same⟩, _, rfl, _, rfl, _, rfl, _, _, _, rfl, rfl, (by decide : lettersZ.length ≤ sizeLine), letter_at sh0 sh1, ?_⟩
          refine ⟨_, rfl, .inl ⟨_, rfl, _, _, rfl, rfl, (show (0 : Int) < 3 by decide), _, rfl, rfl, .inr ⟨_, rfl, ?_⟩⟩⟩
          refine ⟨_, _, rfl, rfl, ?_, ?_⟩
          · split
            · exact .inr rfl
            · exact .inl rfl
          have e2 : SX.S (st.take wh.toNat ++ [97 + ((sh + 7 * (i : Int)) % 26).toNat] ++ st.drop wh.toNat) ++ (if (if (decide (V.int ((0 + (i : Int)) % 3) = V.int lo)) = true then (1 : Int) else 0) = 0 then Str.empty else (⟨#[97 + sh.toNat]⟩ : Str)) = SX.S (nmAt st wh.toNat sh lo i) := by
            unfold nmAt
            rw [Int.zero_add]
            by_cases e : (i : Int) % 3 = lo
            · rw [if_pos (decide_eq_true (congrArg V.int e)), if_neg (by decide), if_pos e]
              exact SX.S_cat _ _
            · rw [if_neg (fun z => e (V.int.inj (of_decide_eq_true z))), if_pos rfl, if_neg e]
              exact SX.S_cat _ []
          refine ⟨_, _, rfl, rfl, ?_, ?_⟩
          · rw [SX.S_len, List.length_append, List.length_append, List.length_singleton]
            refine Nat.le_trans (Nat.add_le_add_left (m := 1) ?_ _) (Nat.le_trans (by omega : _ ≤ 1000) (by decide : 1000 ≤ sizeLine))
            split
            · rw [if_neg (by decide)]
              exact Nat.le_refl 1
            · rw [if_pos rfl]
              exact Nat.zero_le 1
          rw [e2]
          refine ⟨f, _, _, rfl, rfl, upd_same, ?_, _, _, rfl, ?_⟩
          · rw [List.length_map, List.length_range]
            exact Nat.lt_of_lt_of_le (by omega : i < 1000) (by decide)
          · rw [upd_upd, List.range_succ, List.map_append]
            rfl
        · rintro σ' H7 ⟨o10, o11, rfl, rfl⟩
          have hnm := nms_range (st := st) (wh := wh.toNat) (sh := sh) (lo := lo) (cnt := cnt) (ws := ws) hwl (by omega) hst sh0 sh1 hc26
          have nfq : f ≠ q := fun e => by rw [e, hq6] at hf; cases hf
          refine ⟨⟨fun σ' H' => Wd (∃ (ns : List (List Nat)), σ' = [some (.ref g), some (.int cnt), some (.ref q), some (.str lettersZ), some (.int sz), some (vS st), some (.int wh), some (.int sh), some (.int lo), some (.ref f), o10, o11, none, none] ∧
            H' f = some (.lst (ns.map vS)) ∧ NmsOk ns ws cnt ∧ Bag H' g l ∧ Kp g H H'), ?_, ?_⟩⟩
          · have B7 := B6.new (o := .lst ((List.range cnt.toNat).map fun k => vS (nmAt st wh.toNat sh lo k))) hf
            have K7 : Kp g H (upd H6 f (.lst ((List.range cnt.toNat).map fun k => vS (nmAt st wh.toNat sh lo k)))) := K6'.put hf0
            have stay : Wd (∃ (ns : List (List Nat)), [some (.ref g), some (.int cnt), some (.ref q), some (.str lettersZ), some (.int sz), some (vS st), some (.int wh), some (.int sh), some (.int lo), some (.ref f), o10, o11, none, none] = [some (.ref g), some (.int cnt), some (.ref q), some (.str lettersZ), some (.int sz), some (vS st), some (.int wh), some (.int sh), some (.int lo), some (.ref f), o10, o11, none, none] ∧
              (upd H6 f (.lst ((List.range cnt.toNat).map fun k => vS (nmAt st wh.toNat sh lo k)))) f = some (.lst (ns.map vS)) ∧ NmsOk ns ws cnt ∧ Bag (upd H6 f (.lst ((List.range cnt.toNat).map fun k => vS (nmAt st wh.toNat sh lo k)))) g l ∧ Kp g H (upd H6 f (.lst ((List.range cnt.toNat).map fun k => vS (nmAt st wh.toNat sh lo k))))) :=
              ⟨_, rfl, by rw [upd_same, List.map_map]; rfl, hnm, B7, K7⟩
            walk_at "go"
            refine if_dec (fun e1 => ?_) (fun _ => stay)
            walk_at "go"
            refine if_dec (fun e2 => ?_) (fun _ => stay)
            walk_at "go"
            refine if_int (fun e3 => ?_) (fun _ => stay)
            subst e3
            obtain ⟨m, hm⟩ : ∃ m, cnt.toNat = m + 2 := ⟨cnt.toNat - 2, by omega⟩
            refine ⟨_, rfl, f, _, _, vS (nmAt st wh.toNat sh 3 0), rfl, rfl, SqL.of upd_same, ?_, _, rfl, _, rfl, g, l, _, rfl, B7, by decide, by decide, fun n H8 n0 n1 B8 K8 => ?_⟩
            · refine atI_nat (j := 0) ?_
              rw [List.getElem?_map, List.getElem?_range (by omega)]
              rfl
            have hf8 := K8 _ _ upd_same nf.1
            refine ⟨_, _, _, rfl, rfl, (by decide : lettersZ.length ≤ sizeLine), letter_at n0 n1, _, _, rfl, rfl, ?_, ?_⟩
            · show (SX.S _).length + 1 ≤ _
              rw [SX.S_len, nm_len]
              refine Nat.le_trans ?_ (by decide : 1000 ≤ sizeLine)
              split <;> omega
            have e4 : SX.S (nmAt st wh.toNat sh 3 0) ++ (⟨#[97 + n.toNat]⟩ : Str) = SX.S (nmAt st wh.toNat sh 3 0 ++ [97 + n.toNat]) := SX.S_cat _ _
            have n3 : ∀ k : Nat, ((k : Int) % 3 = 3) = False := fun k => by
              rw [eq_iff_iff]
              exact ⟨fun h => by omega, fun h => h.elim⟩
            have le : ∀ k, (nmAt st wh.toNat sh 3 k).length = st.length + 1 := fun k => by
              rw [nm_len, if_neg (by rw [n3]; exact fun h => h)]
            refine ⟨_, rfl, f, _, _, 1, rfl, rfl, hf8, ?_, ?_⟩
            · rw [List.length_map, List.length_range, hm]
              exact ixN_in (by decide) (by show (1 : Int) < ((m + 2 : Nat) : Int); omega)
            · refine ⟨((List.range cnt.toNat).map fun k => nmAt st wh.toNat sh 3 k).set 1 (nmAt st wh.toNat sh 3 0 ++ [97 + n.toNat]), rfl, ?_, nms_set hnm ?_ (.inl ?_), B8.put nf, (K7.trans K8).put hf0⟩
              · rw [upd_same, List.map_set, List.map_map]
                show some (HO.lst (List.set _ 1 (V.str (SX.S (nmAt st wh.toNat sh 3 0) ++ (⟨#[97 + n.toNat]⟩ : Str))))) = _
                rw [e4]
                rfl
              · intro hm
                obtain ⟨k, _, e⟩ := List.mem_map.mp hm
                have e5 := congrArg List.length e
                rw [List.length_append, le, le, List.length_singleton] at e5
                omega
              · have ok := nm_ok (st := st) (wh := wh.toNat) (sh := sh) (lo := 3) (k := 0) (by omega) hst sh0 sh1
                refine ⟨by rw [List.length_append, le]; omega, by rw [List.length_append, le, List.length_singleton]; omega, fun c hc => ?_⟩
                rcases List.mem_append.mp hc with hc | hc
                · exact ok.2.2 c hc
                · rw [List.mem_singleton] at hc
                  omega
          · rintro σ' H8 ⟨ns, rfl, hf8, hnm8, B8, K8⟩
            have hc9 : (4 * cnt).natAbs < 2 ^ 9000 := lt_pow (a := 10) (by omega) (by decide)
            walk_at "go"
            intro sp H9 sp0 sp1 B9 K9
            have hq9 := (K8.trans K9) _ _ hq nqg
            have hf9 := K9 _ _ hf8 nf.1
            have hw9 : ((ws.map vS).length : Int).natAbs < 2 ^ 9000 := lt_pow (a := 10) (by rw [List.length_map]; omega) (by decide)
            refine ⟨_, rfl, _, rfl, _, rfl, q, _, rfl, .inl (SqL.of hq9), g, l, _, rfl, B9, ?_, hw9, fun wi H10 wi0 wi1 B10 K10 => ?_⟩
            · rw [List.length_map]
              omega
            rw [List.length_map] at wi1
            obtain ⟨j, rfl⟩ := Int.eq_ofNat_of_zero_le wi0
            have hj : j < ws.length := by omega
            have hwj : (ws.map vS)[j]? = some (vS ws[j]) := by rw [List.getElem?_map, List.getElem?_eq_getElem hj]; rfl
            have hq10 := K10 _ _ hq9 nqg
            have hf10 := K10 _ _ hf9 nf.1
            have K10' := (K8.trans K9).trans K10
            refine ⟨q, _, _, _, rfl, rfl, SqL.of hq10, atI_nat hwj, ?_⟩
            refine ⟨⟨fun σ' H' => Wd (∃ (ns : List (List Nat)) (o : List (Option V)), σ' = [some (.ref g), some (.int cnt), some (.ref q), some (.str lettersZ), some (.int sz), some (vS st), some (.int wh), some (.int sh), some (.int lo), some (.ref f)] ++ o ∧
              H' f = some (.lst (ns.map vS)) ∧ NmsOk ns ws cnt ∧ Bag H' g l ∧ Kp g H H'), ?_, ?_⟩⟩
            · walk_at "go"
              refine if_dec (fun e1 => ?_) (fun _ => ⟨ns, [_, _, _, _], rfl, hf10, hnm8, B10, K10'⟩)
              refine ⟨_, rfl, _, rfl, f, _, rfl, .inl (SqL.of hf10), rfl, flat_names ns, _, rfl, ?_⟩
              show if (!inV (vS ws[j]) (ns.map vS)) = true then _ else _
              rw [inV_names]
              by_cases hm : ws[j] ∈ ns
              · rw [decide_eq_true hm]
                exact iteF ⟨ns, [_, _, _, _], rfl, hf10, hnm8, B10, K10'⟩
              · rw [decide_eq_false hm]
                refine iteT ⟨_, rfl, _, rfl, _, rfl, f, _, _, sp.toNat, rfl, rfl, hf10, ?_, ?_⟩
                · rw [List.length_map, hnm8.1]
                  exact ixN_in sp0 (by omega)
                · refine ⟨ns.set sp.toNat ws[j], [_, _, _, _], rfl, ?_, nms_set hnm8 hm (.inr (List.getElem_mem _)), B10.put nf, K10'.put hf0⟩
                  rw [upd_same, List.map_set]
            · rintro σ' H11 ⟨ns, o, rfl, hf11, hnm11, B11, K11⟩
              exact ⟨_, rfl, k f ns H11 hf0 hf11 hnm11.1 hnm11.2.1 hnm11.2.2 B11 K11⟩
end

/-! ### is_name, is_number -/
/-- a plain value: an int, a text or nothing -/
inductive Pl : V → Prop
  | int (i : Int) : Pl (.int i)
  | str (s : Str) : Pl (.str s)
  | non : Pl .non
theorem Pl.flat {v : V} (h : Pl v) : flatV v = true := by cases h <;> rfl
def nameL (cs : List Nat) : Bool := decide (1 ≤ cs.length) && (decide (cs.length ≤ 12) && cs.all fun c => decide (c ∈ lettersZ.cps.toList))
def nameV : V → Bool
  | .str z => nameL z.cps.toList
  | _ => false
def numV (lo : Int) : V → Bool
  | .int n => decide (lo ≤ n) && decide (n ≤ 1000000)
  | _ => false
def spIsName : Sp := fun vs H Q _ => ∃ v : V, vs = [v] ∧ Pl v ∧ (∀ z, v = .str z → z.length ≤ 1000) ∧ ∀ H', Same H H' → Q (.bl (nameV v)) H'
def spIsNumber : Sp := fun vs H Q _ => ∃ (v : V) (lo : Int), vs = [v, .int lo] ∧ Pl v ∧ Q (.bl (numV lo v)) H
section
variable {P : Program} {w : World} {K : PySem.W.Frag} {mg : Str → Option Value} {base : Heap} {A : Ad}
theorem ok_f_is_number (T : Txt K mg A) : FnOk P w K mg base CX0 1 A.f_is_number A.fd_f_is_number P_f_is_number spIsNumber := by
  refine T.F_f_is_number.ok sc_f_is_number (fun vs H Q E h => ?_) (fun cdv Ar outer s H vs Q E hr h => ?_)
  · obtain ⟨v, lo, rfl, _⟩ := h
    rfl
  · obtain ⟨v, lo, rfl, hv, k⟩ := h
    refine ⟨_, (pss_one (ps_ret (pe_and (pe_callB call_isi (by rfl) T.z_isinstance (by decide +kernel) (pa_cons (pv 0) (pa_cons (pe_bltn (v := .ty "int") (by rfl) T.z_int (by decide +kernel) rfl) pa_nil))) (pe_and (pe_not (pe_callB call_isi (by rfl) T.z_isinstance (by decide +kernel) (pa_cons (pv 0) (pa_cons (pe_bltn (v := .ty "bool") (by rfl) T.z_bool (by decide +kernel) rfl) pa_nil)))) (pe_one (pe_chain op_le op_le (pv 1) (pv 0) (pe_glob (v := .int 1000000) (by rfl) T.g_MOST.choose_spec ⟨_, rfl⟩))))))), ?_⟩
    cases hv with
    | int i =>
      refine ⟨_, rfl, _, _, _, _, _, rfl, .ty "int", .base (.int i), kit_ty (b := "int") (r := true) (by decide +kernel), true, rfl, iteT ?_⟩
      refine ⟨_, rfl, _, _, _, _, _, rfl, .ty "bool", .base (.int i), kit_ty (b := "bool") (r := false) (by decide +kernel), ?_⟩
      refine ⟨_, rfl, true, rfl, iteT ?_⟩
      have e : numV lo (.int i) = (decide (lo ≤ i) && decide (i ≤ 1000000)) := rfl
      by_cases h0 : lo ≤ i
      · refine ⟨_, rfl, _, rfl, _, _, rfl, rfl, true, congrArg V.bl (decide_eq_true h0), iteT ?_⟩
        rw [e, decide_eq_true h0, Bool.true_and] at k
        exact ⟨_, _, rfl, rfl, k⟩
      · refine ⟨_, rfl, _, rfl, _, _, rfl, rfl, false, congrArg V.bl (decide_eq_false h0), iteF ?_⟩
        rw [e, decide_eq_false h0, Bool.false_and] at k
        exact k
    | str z => exact ⟨_, rfl, _, _, _, _, _, rfl, .ty "int", .base (.str z), kit_ty (b := "int") (r := false) (by decide +kernel), false, rfl, iteF k⟩
    | non => exact ⟨_, rfl, _, _, _, _, _, rfl, .ty "int", .base .non, kit_ty (b := "int") (r := false) (by decide +kernel), false, rfl, iteF k⟩
theorem ok_f_is_name (T : Txt K mg A) : FnOk P w K mg base CX0 1 A.f_is_name A.fd_f_is_name P_f_is_name spIsName := by
  refine T.F_f_is_name.ok sc_f_is_name (fun vs H Q E h => ?_) (fun cdv Ar outer s H vs Q E hr h => ?_)
  · obtain ⟨v, rfl, _⟩ := h
    rfl
  · obtain ⟨v, rfl, hv, hz, k⟩ := h
    refine ⟨_, (pss_one (ps_ret (pe_and (pe_callB call_isi (by rfl) T.z_isinstance (by decide +kernel) (pa_cons (pv 0) (pa_cons (pe_bltn (v := .ty "str") (by rfl) T.z_str (by decide +kernel) rfl) pa_nil))) (pe_and (pe_chain op_le op_le pe_int (pe_callB (call_len_str) (by rfl) T.z_len (by decide +kernel) (pa_cons (pv 0) pa_nil)) (pe_glob (v := .int 12) (by rfl) T.g_LONGEST.choose_spec ⟨_, rfl⟩)) (pe_one (pe_callB (cr_all rfl) (by rfl) T.z_all (by decide +kernel) (pa_cons (pe_g (pe_lcV (own := [("letter", 1)]) rfl sc_f_is_name.nd (pi_str (pv 0)) (blkOk_by (own := [("letter", 1)]) (N := N_f_is_name) (sc := defScope s_f_is_name) (by decide +kernel)) (fun _ _ _ _ _ => (pg_name (i := 1) sc_f_is_name.nd rfl (Or.inl rfl))) (fun _ _ _ _ _ => pts_nil) (fun _ _ _ _ _ => (pe_cmpR op_in_sign (pv 1) (pe_glob (v := .str "abcdefghijklmnopqrstuvwxyz") (by rfl) T.g_LETTERS.choose_spec ⟨_, rfl⟩) (by rfl))) (fun _ _ _ _ _ => rfl) (fun _ _ _ _ _ => rfl) (fun _ _ _ _ _ => rfl))) pa_nil))))))), ?_⟩
    cases hv with
    | int i => exact ⟨_, rfl, _, _, _, _, _, rfl, .ty "str", .base (.int i), kit_ty (b := "str") (r := false) (by decide +kernel), false, rfl, iteF (k H fun _ _ h => h)⟩
    | non => exact ⟨_, rfl, _, _, _, _, _, rfl, .ty "str", .base .non, kit_ty (b := "str") (r := false) (by decide +kernel), false, rfl, iteF (k H fun _ _ h => h)⟩
    | str z =>
      have hz := hz z rfl
      have hzs : z.length ≤ sizeLine := Nat.le_trans hz (by decide)
      refine ⟨_, rfl, _, _, _, _, _, rfl, .ty "str", .base (.str z), kit_ty (b := "str") (r := true) (by decide +kernel), true, rfl, iteT ?_⟩
      have e : nameV (.str z) = (decide (1 ≤ z.length) && (decide (z.length ≤ 12) && z.cps.toList.all fun c => decide (c ∈ lettersZ.cps.toList))) := rfl
      have e1 : decide ((1 : Int) ≤ (z.length : Int)) = decide (1 ≤ z.length) := by
        rw [decide_eq_decide]
        omega
      have e2 : decide ((z.length : Int) ≤ 12) = decide (z.length ≤ 12) := by
        rw [decide_eq_decide]
        omega
      refine ⟨_, rfl, _, rfl, hzs, _, _, rfl, rfl, decide (1 ≤ z.length), congrArg V.bl e1, ?_⟩
      by_cases h1 : 1 ≤ z.length
      · rw [decide_eq_true h1]
        refine iteT ⟨_, _, rfl, rfl, decide (z.length ≤ 12), congrArg V.bl e2, ?_⟩
        by_cases h2 : z.length ≤ 12
        · rw [decide_eq_true h2]
          refine iteT ⟨⟨_, rfl, z, rfl, fun D hD => ?_⟩⟩
          refine lc_it walk_str (fun i H' => Wd (Same H H' ∧ H' D = some (.lst ((z.cps.toList.take i).map fun c => V.bl (decide (c ∈ lettersZ.cps.toList)))))) ⟨Same.new hD, upd_same⟩ (fun _ _ _ _ => trivial) ?_ ?_
          · rintro i x H1 H2 hi ⟨s1, h1'⟩ ⟨rfl, c, hc, rfl⟩
            have hi' : i < z.cps.toList.length := by simpa using hi
            have hc' : z.cps.toList[i]? = some c := by rw [Array.getElem?_toList]; exact hc
            refine ⟨rfl, _, rfl, c, _, rfl, rfl, _, h1', ?_, Same.at_new hD s1, ?_⟩
            · rw [List.length_map, List.length_take]
              exact Nat.lt_of_lt_of_le (by have : z.cps.toList.length = z.length := by simp [Str.length]
                                           omega : _ < 1000) (by decide)
            · rw [upd_same, take_more hc', List.map_append]
              rfl
          · rintro H1 ⟨s1, h1'⟩
            refine ⟨D, z.cps.toList.map fun c => decide (c ∈ lettersZ.cps.toList), rfl, SqL.of ?_, ?_⟩
            · rw [h1', List.take_of_length_le (by simp), List.map_map]
              rfl
            · have kk := k H1 s1
              rw [e, decide_eq_true h1, decide_eq_true h2, Bool.true_and, Bool.true_and] at kk
              rw [List.all_map]
              exact kk
        · rw [decide_eq_false h2]
          refine iteF ?_
          have kk := k H fun _ _ h => h
          rw [e, decide_eq_false h2, Bool.false_and, Bool.and_false] at kk
          exact kk
      · rw [decide_eq_false h1]
        refine iteF ⟨_, rfl, iteF ?_⟩
        have kk := k H fun _ _ h => h
        rw [e, decide_eq_false h1, Bool.false_and] at kk
        exact kk
end

/-! ### is_entry -/
def entOk (v0 v1 v2 : V) : Bool := nameV v1 && (if (eqV v0 (.str "buy") || eqV v0 (.str "sell") || eqV v0 (.str "back")) = true then numV 1 v2 else if eqV v0 (.str "late") = true then nameV v2 else false)
def shortV (v : V) : Prop := ∀ z, v = .str z → z.length ≤ 1000
def EntTup (H : Hp) (v v0 v1 v2 : V) : Prop := ∃ p, v = .ref p ∧ H p = some (.tup [v0, v1, v2]) ∧ Pl v0 ∧ Pl v1 ∧ Pl v2 ∧ shortV v1 ∧ shortV v2
/-- what is no tuple of three things -/
def NoEnt (H : Hp) (v : V) : Prop := Pl v ∨ ∃ p xs, v = .ref p ∧ (H p = some (.lst xs) ∨ (H p = some (.tup xs) ∧ xs.length ≠ 3 ∧ xs.length ≤ 1000))
def spIsEntry : Sp := fun vs H Q _ => ∃ v : V, vs = [v] ∧ ((∃ v0 v1 v2, EntTup H v v0 v1 v2 ∧ ∀ H', Same H H' → Q (.bl (entOk v0 v1 v2)) H') ∨ (NoEnt H v ∧ ∀ H', Same H H' → Q (.bl false) H'))
section
variable {P : Program} {w : World} {K : PySem.W.Frag} {mg : Str → Option Value} {base : Heap} {A : Ad}
theorem ok_f_is_entry (T : Txt K mg A) : FnOk P w K mg base CX0 2 A.f_is_entry A.fd_f_is_entry P_f_is_entry spIsEntry := by
  refine T.F_f_is_entry.ok sc_f_is_entry (fun vs H Q E h => ?_) (fun cdv Ar outer s H vs Q E hr h => ?_)
  · obtain ⟨v, rfl, _⟩ := h
    rfl
  · obtain ⟨v, rfl, h⟩ := h
    refine ⟨_, (pss_cons (ps_if (PW.pt (pw_or (pt_not (pt_val (pe_callB call_isi (by rfl) T.z_isinstance (by decide +kernel) (pa_cons (pv 0) (pa_cons (pe_bltn (v := .ty "tuple") (by rfl) T.z_tuple (by decide +kernel) rfl) pa_nil))))) (pw_or (pt_cmpR op_ne (pe_callB call_len_seq (by rfl) T.z_len (by decide +kernel) (pa_cons (pv 0) pa_nil)) pe_int (nomark _)) (pw_or1 (pt_not (pt_val (pe_call (ok_f_is_name T) (hr.mono (by decide)) (by rfl) T.g_is_name T.F_f_is_name.kp T.b_f_is_name .nil pass0 (pa_cons (pe_ix ix_tup (pv 0) pe_int (fun _ _ => rfl)) pa_nil)))))))) (pss_one (ps_ret pe_bl)) pss_nil)
      (pss_cons (ps_match3 (w1 := "buy") (w2 := "sell") (w3 := "back") (w4 := "late") (i1 := 1) (i2 := 2) rfl hr.units sc_f_is_entry.nd rfl (Or.inl rfl) rfl (Or.inl rfl) (pv 0) (pss_one (ps_ret (pe_call (ok_f_is_number T) (hr.mono (by decide)) (by rfl) T.g_is_number T.F_f_is_number.kp T.b_f_is_number .nil pass0 (pa_cons (pv 1) (pa_cons pe_int pa_nil))))) (pss_one (ps_ret (pe_call (ok_f_is_name T) (hr.mono (by decide)) (by rfl) T.g_is_name T.F_f_is_name.kp T.b_f_is_name .nil pass0 (pa_cons (pv 2) pa_nil)))))
      (pss_one (ps_ret pe_bl)))), ?_⟩
    rcases h with ⟨v0, v1, v2, ⟨p, rfl, hp, h0, h1, h2, s1, s2⟩, k⟩ | ⟨hN, k⟩
    · refine ⟨_, rfl, _, _, _, _, _, rfl, .ty "tuple", .base (.tup hp), kit_ty (b := "tuple") (r := true) (by decide +kernel), _, rfl, iteF ?_⟩
      refine ⟨_, rfl, p, _, rfl, .inr (SqT.of hp), rfl, _, rfl, iteF ?_⟩
      refine ⟨_, rfl, p, _, _, v1, rfl, rfl, SqT.of hp, rfl, v1, rfl, h1, s1, fun H1 e1 => ⟨_, rfl, ?_⟩⟩
      cases n1 : nameV v1 with
      | false =>
        refine iteT ?_
        have kk := k H1 e1
        unfold entOk at kk
        rw [n1, Bool.false_and] at kk
        exact kk
      | true =>
        have hp1 := e1 _ _ hp
        refine iteF ⟨_, rfl, p, v0, v1, v2, rfl, hp1, h0.flat, ?_⟩
        have kk := fun H' (e : Same H1 H') => k H' (e1.trans e)
        unfold entOk at kk
        rw [n1, Bool.true_and] at kk
        split
        · next e =>
          rw [if_pos e] at kk
          exact ⟨_, rfl, v2, 1, rfl, h2, kk H1 fun _ _ h => h⟩
        · next e =>
          rw [if_neg e] at kk
          split
          · next e' =>
            rw [if_pos e'] at kk
            exact ⟨_, rfl, v2, rfl, h2, s2, fun H' s' => kk H' s'⟩
          · next e' =>
            rw [if_neg e'] at kk
            exact kk H1 fun _ _ h => h
    · rcases hN with hv | ⟨p, xs, rfl, hp | ⟨hp, hl, hz⟩⟩
      · cases hv with
        | int i => exact ⟨_, rfl, _, _, _, _, _, rfl, .ty "tuple", .base (.int i), kit_ty (b := "tuple") (r := false) (by decide +kernel), _, rfl, iteT (k H fun _ _ h => h)⟩
        | str z => exact ⟨_, rfl, _, _, _, _, _, rfl, .ty "tuple", .base (.str z), kit_ty (b := "tuple") (r := false) (by decide +kernel), _, rfl, iteT (k H fun _ _ h => h)⟩
        | non => exact ⟨_, rfl, _, _, _, _, _, rfl, .ty "tuple", .base .non, kit_ty (b := "tuple") (r := false) (by decide +kernel), _, rfl, iteT (k H fun _ _ h => h)⟩
      · exact ⟨_, rfl, _, _, _, _, _, rfl, .ty "tuple", .base (.lst hp), kit_ty (b := "tuple") (r := false) (by decide +kernel), _, rfl, iteT (k H fun _ _ h => h)⟩
      · refine ⟨_, rfl, _, _, _, _, _, rfl, .ty "tuple", .base (.tup hp), kit_ty (b := "tuple") (r := true) (by decide +kernel), _, rfl, iteF ?_⟩
        refine ⟨_, rfl, p, _, rfl, .inr (SqT.of hp), rfl, _, rfl, ?_⟩
        refine ifNF (fun e => hl ?_) (k H fun _ _ h => h)
        have := V.int.inj e
        omega
end

/-! ### a book's entries -/
structure En where
  d : Int
  n : Int
  e : Addr
  kd : Str
  nm : Str
  x : V
def kvE (es : List En) : List (List L2.Key × V) := kvT (es.map fun t => (t.d, t.n, V.ref t.e))
abbrev keyE (d n : Int) : List L2.Key := [.inl d, .inl n]
def isE (d n : Int) (t : En) : Bool := decide (t.d = d) && decide (t.n = n)
theorem isE_iff {d n : Int} {t : En} : isE d n t = true ↔ t.d = d ∧ t.n = n := by
  unfold isE
  rw [Bool.and_eq_true, decide_eq_true_iff, decide_eq_true_iff]
theorem keyE_eq {d n : Int} {t : En} : (([.inl t.d, .inl t.n] : List L2.Key) = keyE d n) ↔ isE d n t = true := by
  rw [isE_iff]
  constructor
  · intro h
    injection h with h1 h2
    injection h2 with h2 _
    exact ⟨Sum.inl.inj h1, Sum.inl.inj h2⟩
  · rintro ⟨rfl, rfl⟩
    rfl
def atE (es : List En) (d n : Int) : Option En := es.find? (isE d n)
def dropE (es : List En) (d n : Int) : List En := es.filter fun t => !isE d n t
def putE (es : List En) (t : En) : List En := if (atE es t.d t.n).isSome = true then es.map (fun u => if isE t.d t.n u = true then t else u) else es ++ [t]
theorem val_kvE {d n : Int} : ∀ es : List En, valV (kvE es) (keyE d n) = (atE es d n).map fun t => V.ref t.e
  | [] => rfl
  | t :: es => by
    have ih := val_kvE (d := d) (n := n) es
    by_cases h : isE d n t = true
    · rw [show kvE (t :: es) = ([.inl t.d, .inl t.n], V.ref t.e) :: kvE es from rfl, valV_pos (keyE_eq.mpr h)]
      unfold atE
      rw [List.find?_cons, h]
      rfl
    · rw [show kvE (t :: es) = ([.inl t.d, .inl t.n], V.ref t.e) :: kvE es from rfl, valV_neg (fun e => h (keyE_eq.mp e)), ih]
      unfold atE
      rw [List.find?_cons, (by simpa using h : isE d n t = false)]
theorem drop_kvE {d n : Int} : ∀ es : List En, dropK (kvE es) (keyE d n) = kvE (dropE es d n)
  | [] => rfl
  | t :: es => by
    have ih := drop_kvE (d := d) (n := n) es
    unfold dropK at ih ⊢
    unfold dropE at ih ⊢
    rw [show kvE (t :: es) = ([.inl t.d, .inl t.n], V.ref t.e) :: kvE es from rfl]
    by_cases h : isE d n t = true
    · rw [List.filter_cons_of_neg (by simp [keyE_eq.mpr h]), List.filter_cons_of_neg (by simp [h]), ih]
    · have hk : decide ((([.inl t.d, .inl t.n] : List L2.Key), V.ref t.e).1 ≠ keyE d n) = true := decide_eq_true fun e => h (keyE_eq.mp e)
      rw [List.filter_cons_of_pos (p := fun kv : List L2.Key × V => decide (kv.1 ≠ keyE d n)) hk, List.filter_cons_of_pos (by simpa using h), ih]
      rfl
theorem put_kvE {es : List En} {t : En} : putK (kvE es) (keyE t.d t.n) (.ref t.e) = kvE (putE es t) := by
  have hany : ((kvE es).any fun kv => decide (kv.1 = keyE t.d t.n)) = (atE es t.d t.n).isSome := by
    rw [valV_any, val_kvE, Option.isSome_map]
  unfold putK putE
  rw [hany]
  split
  · unfold kvE kvT
    rw [List.map_map, List.map_map, List.map_map, List.map_map]
    refine List.map_congr_left fun u _ => ?_
    show (if ([.inl u.d, .inl u.n] : List L2.Key) = keyE t.d t.n then _ else _) = _
    by_cases h : isE t.d t.n u = true
    · rw [if_pos (keyE_eq.mpr h)]
      show _ = (fun t : En => (([.inl t.d, .inl t.n] : List L2.Key), V.ref t.e)) (if isE t.d t.n u = true then t else u)
      rw [if_pos h]
      show (([.inl u.d, .inl u.n] : List L2.Key), V.ref t.e) = ([.inl t.d, .inl t.n], V.ref t.e)
      rw [(isE_iff.mp h).1, (isE_iff.mp h).2]
    · rw [if_neg (fun e => h (keyE_eq.mp e))]
      show _ = (fun t : En => (([.inl t.d, .inl t.n] : List L2.Key), V.ref t.e)) (if isE t.d t.n u = true then t else u)
      rw [if_neg h]
  · unfold kvE kvT
    rw [List.map_append, List.map_append]
    rfl
/-- by day and number -/
def leK (a b : Int × Int) : Bool := !SrtO.lexB b a
theorem leK_iff {a b : Int × Int} : leK a b = true ↔ a.1 < b.1 ∨ (a.1 = b.1 ∧ a.2 ≤ b.2) := by
  unfold leK
  rw [Bool.not_eq_true', SrtO.lexB_no]
  omega
def keysE (es : List En) : List (Int × Int) := es.map fun t => (t.d, t.n)
def srtK (es : List En) : List (Int × Int) := (keysE es).mergeSort leK
theorem srtK_uniq {es : List En} {ps : List (Int × Int)} (h : ps.Perm (keysE es)) (hs : ps.Pairwise (fun a b => SrtO.lexB b a = false)) : ps = srtK es := by
  refine List.Perm.eq_of_pairwise (le := fun a b => leK a b = true) (fun a b _ _ h1 h2 => ?_) (hs.imp fun {a b} z => by unfold leK; rw [z]; rfl) ?_ (h.trans (List.mergeSort_perm _ _).symm)
  · rw [leK_iff] at h1 h2
    exact Prod.ext (by omega) (by omega)
  · refine List.pairwise_mergeSort (le := leK) (fun a b c h1 h2 => ?_) (fun a b => ?_) _
    · rw [leK_iff] at h1 h2 ⊢
      omega
    · rw [Bool.or_eq_true, leK_iff, leK_iff]
      omega
theorem mem_srtK {es : List En} {p : Int × Int} : p ∈ srtK es ↔ ∃ t ∈ es, (t.d, t.n) = p := by
  unfold srtK
  rw [(List.mergeSort_perm _ _).mem_iff]
  unfold keysE
  rw [List.mem_map]
theorem len_srtK {es : List En} : (srtK es).length = es.length := by
  unfold srtK keysE
  rw [List.length_mergeSort, List.length_map]
theorem atE_some {es : List En} {d n : Int} {t : En} (h : atE es d n = some t) : t ∈ es ∧ t.d = d ∧ t.n = n := by
  have h1 := List.find?_some h
  exact ⟨List.mem_of_find?_eq_some h, isE_iff.mp h1⟩
theorem atE_mem {es : List En} {t : En} (h : t ∈ es) : ∃ u, atE es t.d t.n = some u := by
  cases e : atE es t.d t.n with
  | some u => exact ⟨u, rfl⟩
  | none =>
    have := List.find?_eq_none.mp e t h
    exact absurd (isE_iff.mpr ⟨rfl, rfl⟩) this
/-- the names of a kind, in the order of the places, each once -/
def namedE (es : List En) (kd : Str) : List (Int × Int) → List Str → List Str
  | [], acc => acc
  | p :: ps, acc => namedE es kd ps (match atE es p.1 p.2 with
    | some t => if t.kd = kd ∧ t.nm ∉ acc then acc ++ [t.nm] else acc
    | none => acc)
def EntsAt (H : Hp) (es : List En) : Prop := ∀ t ∈ es, H t.e = some (.tup [.str t.kd, .str t.nm, t.x])
theorem EntsAt.keep {H H' : Hp} {es : List En} (h : EntsAt H es) (s : ∀ b xs, H b = some (.tup xs) → H' b = some (.tup xs)) : EntsAt H' es := fun t ht => s _ _ (h t ht)
/-- the book at b, its dict at dd -/
def BookAt (C : Addr) (H : Hp) (b dd : Addr) (es : List En) : Prop := (∃ dx, H b = some (.ins C dx [("entries", .ref dd)])) ∧ H dd = some (.dT (kvE es))
theorem BookAt.same {C : Addr} {H H' : Hp} {b dd : Addr} {es : List En} (h : BookAt C H b dd es) (s : Same H H') : BookAt C H' b dd es := by
  obtain ⟨⟨dx, h1⟩, h2⟩ := h
  exact ⟨⟨dx, s _ _ h1⟩, s _ _ h2⟩
theorem mk_excF {C : Addr} {n : Nat} {fs : List V → List (Str × V)} {H : Hp} {ws : List V} {Q : XK} (h : ∀ d H', Same H H' → H d = none → H' d = some (.xd (fs ws)) → Q (.ref C) (some d) H') {a : Addr} (ha : H a = none) (hl : ws.length = n := by rfl) :
    spExcF C n fs (.ref a :: ws) (upd H a (exo a C none)) (fun v H2 => v = .non ∧ ∃ (d : Addr) (fs : List (Str × V)), H2 a = some (exo a C (some d)) ∧ H2 d = some (exd d fs) ∧ H d = none ∧ Q (.ref C) (some d) (upd (del H2 a) d (.xd fs))) (fun _ _ _ => False) := by
  refine ⟨a, ws, rfl, hl, upd_same, fun d H' hd nd keep ea ed => ⟨rfl, d, _, ea, ed, ?_, ?_⟩⟩
  · rw [upd_ne nd] at hd
    exact hd
  · rw [upd_ne nd] at hd
    refine h d _ (fun b o e => ?_) hd upd_same
    have n1 := ne_of_none e ha
    have n2 := ne_of_none e hd
    rw [upd_ne n2, del_ne n1]
    exact keep b o (by rw [upd_ne n1]; exact e) n1

/-! ### the book -/
section
variable {P : Program} {w : World} {K : PySem.W.Frag} {mg : Str → Option Value} {base : Heap} {A : Ad}
def spBookInit (C : Addr) : Sp := fun vs H Q _ => ∃ b dx, vs = [.ref b] ∧ H b = some (.ins C dx []) ∧ ∀ d, H d = none → Q .non (upd (upd H d (.dT [])) b (.ins C dx [("entries", .ref d)]))
theorem ok_m_Book_init (T : Txt K mg A) : FnOk P w K mg base CX0 1 A.m_Book_init A.fd_m_Book_init P_m_Book_init (spBookInit A.Book) := by
  refine T.F_m_Book_init.ok sc_m_Book_init (fun vs H Q E h => ?_) (fun cdv Ar outer s H vs Q E hr h => ?_)
  · obtain ⟨b, dx, rfl, _⟩ := h
    rfl
  · obtain ⟨b, dx, rfl, hb, k⟩ := h
    refine ⟨_, (pss_one (ps_fld (pv 0) (pe_dnewT) rfl)), ?_⟩
    intro d hd
    exact ⟨_, rfl, b, A.Book, dx, [], rfl, by rw [upd_ne (ne_of_none hb hd)]; exact hb, T.cl_Book, T.n_Book_entries, by show 0 < 1000; decide, k d hd⟩
def spContains (C : Addr) : Sp := fun vs H Q _ => ∃ b dd t es d n, vs = [.ref b, .ref t] ∧ BookAt C H b dd es ∧ H t = some (.tup [.int d, .int n]) ∧ Q (.bl (atE es d n).isSome) H
theorem ok_m_Book_contains (T : Txt K mg A) : FnOk P w K mg base CX0 1 A.m_Book_contains A.fd_m_Book_contains P_m_Book_contains (spContains A.Book) := by
  refine T.F_m_Book_contains.ok sc_m_Book_contains (fun vs H Q E h => ?_) (fun cdv Ar outer s H vs Q E hr h => ?_)
  · obtain ⟨b, dd, t, es, d, n, rfl, _⟩ := h
    rfl
  · obtain ⟨b, dd, t, es, d, n, rfl, ⟨⟨dx, hb⟩, hd⟩, ht, k⟩ := h
    refine ⟨_, (pss_one (ps_ret (pe_cmp (pc_din (hu_of hr) (pv 1) (pe_fld (pv 0) rfl)) rfl))), ?_⟩
    refine ⟨_, rfl, _, rfl, b, A.Book, dx, _, _, rfl, hb, T.cl_Book, T.n_Book_entries, rfl, dd, _, rfl, DGet.t (k := keyE d n) hd ht, ?_⟩
    rw [val_kvE, Option.isSome_map]
    exact k
def spLen (C : Addr) : Sp := fun vs H Q _ => ∃ b dd es, vs = [.ref b] ∧ BookAt C H b dd es ∧ Q (.int (es.length : Nat)) H
theorem ok_m_Book_len (T : Txt K mg A) : FnOk P w K mg base CX0 1 A.m_Book_len A.fd_m_Book_len P_m_Book_len (spLen A.Book) := by
  refine T.F_m_Book_len.ok sc_m_Book_len (fun vs H Q E h => ?_) (fun cdv Ar outer s H vs Q E hr h => ?_)
  · obtain ⟨b, dd, es, rfl, _⟩ := h
    rfl
  · obtain ⟨b, dd, es, rfl, ⟨⟨dx, hb⟩, hd⟩, k⟩ := h
    refine ⟨_, (pss_one (ps_ret (pe_callB (call_len_dT) (by rfl) T.z_len (by decide +kernel) (pa_cons (pe_fld (pv 0) rfl) pa_nil)))), ?_⟩
    refine ⟨_, rfl, b, A.Book, dx, _, _, rfl, hb, T.cl_Book, T.n_Book_entries, rfl, dd, _, rfl, hd, ?_⟩
    have e : (kvE es).length = es.length := by unfold kvE kvT; rw [List.length_map, List.length_map]
    rw [e]
    exact k
def noE (n d : V) : List (Str × V) := [("number", n), ("day", d)]
def spGetItem (C CE : Addr) : Sp := fun vs H Q E => ∃ b dd t es d n, vs = [.ref b, .ref t] ∧ BookAt C H b dd es ∧ H t = some (.tup [.int d, .int n]) ∧ (∀ u, atE es d n = some u → Q (.ref u.e) H) ∧
  (atE es d n = none → ∀ x H', Same H H' → H' x = some (.xd (noE (.int n) (.int d))) → E (.ref CE) (some x) H')
theorem ok_m_Book_getitem (T : Txt K mg A) : FnOk P w K mg base (L2.CX P w) 5 A.m_Book_getitem A.fd_m_Book_getitem P_m_Book_getitem (spGetItem A.Book A.NoEntry) := by
  refine T.F_m_Book_getitem.okX sc_m_Book_getitem (fun vs H Q E h => ?_) (fun cdv Ar outer s H vs Q E hr h => ?_)
  · obtain ⟨b, dd, t, es, d, n, rfl, _⟩ := h
    rfl
  · obtain ⟨b, dd, t, es, d, n, rfl, ⟨⟨dx, hb⟩, hd⟩, ht, k1, k2⟩ := h
    refine ⟨_, (pss_cons (ps_asg (pv 1) (pg_tup (n := 2) rfl (pgs_cons (pg_name (i := 2) sc_m_Book_getitem.nd rfl (Or.inl rfl)) (pgs_cons (pg_name (i := 3) sc_m_Book_getitem.nd rfl (Or.inl rfl)) pgs_nil))))
      (pss_cons (ps_if (pt_cmp (pc_dnotin (hu_of hr) (pv 1) (pe_fld (pv 0) rfl))) (pss_one (ps_raise rfl (takes_of rfl rfl rfl rfl) (pmk_oex T.ox_NoEntry T.oi_NoEntry T.ot_NoEntry (ok_m_NoEntry_init T) (hr.mono (by decide)) T.b_m_NoEntry_init .nil pass0 (by rfl) T.g_NoEntry (pa_cons (pv 2) (pa_cons (pv 3) pa_nil))))) pss_nil)
      (pss_one (ps_ret (pe_dget (hu_of hr) (pe_fld (pv 0) rfl) (pv 1) (fun _ _ => rfl)))))), ?_⟩
    refine ⟨_, rfl, t, _, rfl, SqT.of ht, rfl, _, _, rfl, _, _, rfl, rfl, ?_⟩
    refine ⟨_, rfl, _, rfl, b, A.Book, dx, _, _, rfl, hb, T.cl_Book, T.n_Book_entries, rfl, dd, _, rfl, DGet.t (k := keyE d n) hd ht, _, rfl, ?_⟩
    rw [val_kvE, Option.isSome_map]
    cases e : atE es d n with
    | none => exact iteT ⟨_, rfl, _, rfl, (by show 2 ≤ 1000; decide), fun a ha => mk_excF (fun x H' s _ h => k2 e x H' s h) ha⟩
    | some u =>
      refine iteF ⟨_, rfl, b, A.Book, dx, _, _, rfl, hb, T.cl_Book, T.n_Book_entries, rfl, _, rfl, dd, V.ref u.e, rfl, ?_, k1 u e⟩
      have g := DGet.t (k := keyE d n) hd ht
      rw [val_kvE, e] at g
      exact g
def spRemove (C CE : Addr) : Sp := fun vs H Q E => ∃ b dd es d n, vs = [.ref b, .int d, .int n] ∧ BookAt C H b dd es ∧ ((atE es d n).isSome = true → ∀ H', Same H H' → Q .non (upd H' dd (.dT (kvE (dropE es d n))))) ∧
  (atE es d n = none → ∀ x H', Same H H' → H' x = some (.xd (noE (.int n) (.int d))) → E (.ref CE) (some x) H')
theorem ok_m_Book_remove (T : Txt K mg A) : FnOk P w K mg base (L2.CX P w) 5 A.m_Book_remove A.fd_m_Book_remove P_m_Book_remove (spRemove A.Book A.NoEntry) := by
  refine T.F_m_Book_remove.okX sc_m_Book_remove (fun vs H Q E h => ?_) (fun cdv Ar outer s H vs Q E hr h => ?_)
  · obtain ⟨b, dd, es, d, n, rfl, _⟩ := h
    rfl
  · obtain ⟨b, dd, es, d, n, rfl, ⟨⟨dx, hb⟩, hd⟩, k1, k2⟩ := h
    refine ⟨_, (pss_cons (ps_if (pt_cmp (pc_dnotin (hu_of hr) (pe_tup (pa_cons (pv 1) (pa_cons (pv 2) pa_nil))) (pe_fld (pv 0) rfl))) (pss_one (ps_raise rfl (takes_of rfl rfl rfl rfl) (pmk_oex T.ox_NoEntry T.oi_NoEntry T.ot_NoEntry (ok_m_NoEntry_init T) (hr.mono (by decide)) T.b_m_NoEntry_init .nil pass0 (by rfl) T.g_NoEntry (pa_cons (pv 1) (pa_cons (pv 2) pa_nil))))) pss_nil)
      (pss_one (ps_ddelT (hu_of hr) (pe_fld (pv 0) rfl) (pe_tup (pa_cons (pv 1) (pa_cons (pv 2) pa_nil)))))), ?_⟩
    refine ⟨_, rfl, _, rfl, (by show 2 ≤ sizeLine; decide), fun t ht => ?_⟩
    have s1 := Same.new (o := .tup [V.int d, .int n]) ht
    refine ⟨_, rfl, b, A.Book, dx, _, _, rfl, s1 _ _ hb, T.cl_Book, T.n_Book_entries, rfl, dd, _, rfl, DGet.t (k := keyE d n) (s1 _ _ hd) upd_same, _, rfl, ?_⟩
    rw [val_kvE, Option.isSome_map]
    cases e : atE es d n with
    | none => exact iteT ⟨_, rfl, _, rfl, (by show 2 ≤ 1000; decide), fun a ha => mk_excF (fun x H' s _ h => k2 e x H' (s1.trans s) h) ha⟩
    | some u =>
      refine iteF ⟨_, rfl, b, A.Book, dx, _, _, rfl, s1 _ _ hb, T.cl_Book, T.n_Book_entries, rfl, _, rfl, _, rfl, (by show 2 ≤ sizeLine; decide), fun t2 ht2 => ?_⟩
      have s2 := Same.new (o := .tup [V.int d, .int n]) ht2
      refine ⟨dd, t2, _, keyE d n, rfl, rfl, s2 _ _ (s1 _ _ hd), upd_same, ?_, ?_⟩
      · rw [val_kvE, e]
        rfl
      · rw [drop_kvE]
        exact k1 (by rw [e]; rfl) _ (s1.trans s2)
def spPlaces (C : Addr) : Sp := fun vs H Q _ => ∃ b dd es, vs = [.ref b] ∧ BookAt C H b dd es ∧ ∀ bs p, H p = none → All2 (fun b q => H b = some (.tup [.int q.1, .int q.2])) bs (srtK es) → Q (.ref p) (upd H p (.lst (bs.map V.ref)))
theorem ok_m_Book_places (T : Txt K mg A) : FnOk P w K mg base CX0 1 A.m_Book_places A.fd_m_Book_places P_m_Book_places (spPlaces A.Book) := by
  refine T.F_m_Book_places.ok sc_m_Book_places (fun vs H Q E h => ?_) (fun cdv Ar outer s H vs Q E hr h => ?_)
  · obtain ⟨b, dd, es, rfl, _⟩ := h
    rfl
  · obtain ⟨b, dd, es, rfl, ⟨⟨dx, hb⟩, hd⟩, k⟩ := h
    refine ⟨_, (pss_one (ps_ret (pe_callB (cr_sortedDT rfl) (by rfl) T.z_sorted (by decide +kernel) (pa_cons (pe_fld (pv 0) rfl) pa_nil)))), ?_⟩
    refine ⟨_, rfl, b, A.Book, dx, _, _, rfl, hb, T.cl_Book, T.n_Book_entries, rfl, ⟨dd, es.map fun t : En => (t.d, t.n, V.ref t.e), rfl, hd, fun bs ps p hp h2 hperm hs => ?_⟩⟩
    rw [List.map_map] at hperm
    have e := srtK_uniq (es := es) hperm hs
    subst e
    exact k bs p hp h2
def SetOk (H : Hp) (v : V) (ok : Bool) : Prop := (∃ v0 v1 v2, EntTup H v v0 v1 v2 ∧ ok = entOk v0 v1 v2) ∨ (NoEnt H v ∧ ok = false)
def spSetItem (C CE : Addr) : Sp := fun vs H Q E => ∃ b dd t es vd vn v ok, vs = [.ref b, .ref t, v] ∧ BookAt C H b dd es ∧ es.length < 1000 ∧ H t = some (.tup [vd, vn]) ∧ Pl vd ∧ Pl vn ∧ SetOk H v ok ∧
  (∀ d n, vd = .int d → vn = .int n → (numV 0 vd && (numV 0 vn && ok)) = true → ∀ H', Same H H' → Q .non (upd H' dd (.dT (putK (kvE es) (keyE d n) v)))) ∧
  ((numV 0 vd && (numV 0 vn && ok)) = false → ∀ x H', Same H H' → H' x = some (.xd (noE vn vd)) → E (.ref CE) (some x) H')
theorem num_int {lo : Int} {v : V} (h : numV lo v = true) : ∃ i, v = .int i := by
  cases v with
  | int i => exact ⟨i, rfl⟩
  | _ => cases h
theorem ok_m_Book_setitem (T : Txt K mg A) : FnOk P w K mg base (L2.CX P w) 5 A.m_Book_setitem A.fd_m_Book_setitem P_m_Book_setitem (spSetItem A.Book A.BadEntry) := by
  refine T.F_m_Book_setitem.okX sc_m_Book_setitem (fun vs H Q E h => ?_) (fun cdv Ar outer s H vs Q E hr h => ?_)
  · obtain ⟨b, dd, t, es, vd, vn, v, ok, rfl, _⟩ := h
    rfl
  · obtain ⟨b, dd, t, es, vd, vn, v, ok, rfl, ⟨⟨dx, hb⟩, hd⟩, hz, ht, hvd, hvn, hok, k1, k2⟩ := h
    refine ⟨_, (pss_cons (ps_asg (pv 1) (pg_tup (n := 2) rfl (pgs_cons (pg_name (i := 3) sc_m_Book_setitem.nd rfl (Or.inl rfl)) (pgs_cons (pg_name (i := 4) sc_m_Book_setitem.nd rfl (Or.inl rfl)) pgs_nil))))
      (pss_cons (ps_if (PW.pt (pw_or (pt_not (pt_val (pe_call (ok_f_is_number T) (hr.mono (by decide)) (by rfl) T.g_is_number T.F_f_is_number.kp T.b_f_is_number .nil pass0 (pa_cons (pv 3) (pa_cons pe_int pa_nil))))) (pw_or (pt_not (pt_val (pe_call (ok_f_is_number T) (hr.mono (by decide)) (by rfl) T.g_is_number T.F_f_is_number.kp T.b_f_is_number .nil pass0 (pa_cons (pv 4) (pa_cons pe_int pa_nil))))) (pw_or1 (pt_not (pt_val (pe_call (ok_f_is_entry T) (hr.mono (by decide)) (by rfl) T.g_is_entry T.F_f_is_entry.kp T.b_f_is_entry .nil pass0 (pa_cons (pv 2) pa_nil)))))))) (pss_one (ps_raise rfl (takes_of rfl rfl rfl rfl) (pmk_oex T.ox_BadEntry T.oi_BadEntry T.ot_BadEntry (ok_m_BadEntry_init T) (hr.mono (by decide)) T.b_m_BadEntry_init .nil pass0 (by rfl) T.g_BadEntry (pa_cons (pv 3) (pa_cons (pv 4) pa_nil))))) pss_nil)
      (pss_one (ps_dput (hu_of hr) (pe_fld (pv 0) rfl) (pv 1) (pv 2) rfl)))), ?_⟩
    refine ⟨_, rfl, t, _, rfl, SqT.of ht, rfl, _, _, rfl, _, _, rfl, rfl, ?_⟩
    refine ⟨_, rfl, vd, 0, rfl, hvd, _, rfl, ?_⟩
    have bad : (numV 0 vd && (numV 0 vn && ok)) = false → ∀ H1, Same H H1 → ∀ a, H1 a = none → _ := fun e H1 s1 a ha => mk_excF (C := A.BadEntry) (n := 2) (fs := fs_BadEntry) (H := H1) (ws := [vd, vn]) (Q := E) (fun x H' s _ h => k2 e x H' (s1.trans s) h) ha
    cases n1 : numV 0 vd with
    | false => exact iteT ⟨_, rfl, _, rfl, (by show 2 ≤ 1000; decide), bad (by rw [n1]; rfl) H fun _ _ h => h⟩
    | true =>
      refine iteF ⟨_, rfl, vn, 0, rfl, hvn, _, rfl, ?_⟩
      cases n2 : numV 0 vn with
      | false => exact iteT ⟨_, rfl, _, rfl, (by show 2 ≤ 1000; decide), bad (by rw [n1, n2]; rfl) H fun _ _ h => h⟩
      | true =>
        refine iteF ⟨_, rfl, v, rfl, ?_⟩
        obtain ⟨d, rfl⟩ := num_int n1
        obtain ⟨n, rfl⟩ := num_int n2
        have hzl : (kvE es).length < sizeLine := by
          unfold kvE kvT
          rw [List.length_map, List.length_map]
          exact Nat.lt_of_lt_of_le hz (by decide)
        rcases hok with ⟨v0, v1, v2, hE, rfl⟩ | ⟨hN, rfl⟩
        · refine .inl ⟨v0, v1, v2, hE, fun H1 s1 => ⟨_, rfl, ?_⟩⟩
          cases e : entOk v0 v1 v2 with
          | false => exact iteT ⟨_, rfl, _, rfl, (by show 2 ≤ 1000; decide), bad (by rw [n1, n2, e]; rfl) H1 s1⟩
          | true =>
            refine iteF ⟨_, rfl, _, rfl, b, A.Book, dx, _, _, rfl, s1 _ _ hb, T.cl_Book, T.n_Book_entries, rfl, _, rfl, dd, _, rfl, DPut.t (k := keyE d n) (s1 _ _ hd) (s1 _ _ ht) hzl, ?_⟩
            exact k1 d n rfl rfl (by rw [n1, n2, e]; rfl) H1 s1
        · refine .inr ⟨hN, fun H1 s1 => ⟨_, rfl, iteT ⟨_, rfl, _, rfl, (by show 2 ≤ 1000; decide), bad (by rw [n1, n2]; rfl) H1 s1⟩⟩⟩
theorem upd_idem {H : Hp} {a : Addr} {o : HO} (h : H a = some o) : H = upd H a o := funext fun b => by
  by_cases e : b = a
  · rw [e, upd_same, h]
  · rw [upd_ne e]
def stepE (es : List En) (kd : Str) (acc : List Str) (p : Int × Int) : List Str := match atE es p.1 p.2 with
  | some t => if t.kd = kd ∧ t.nm ∉ acc then acc ++ [t.nm] else acc
  | none => acc
theorem named_app {es : List En} {kd : Str} {p : Int × Int} : ∀ {ps : List (Int × Int)} {acc : List Str}, namedE es kd (ps ++ [p]) acc = stepE es kd (namedE es kd ps acc) p
  | [], acc => rfl
  | q :: ps, acc => named_app (ps := ps)
theorem step_len {es : List En} {kd : Str} {acc : List Str} {p : Int × Int} : (stepE es kd acc p).length ≤ acc.length + 1 := by
  unfold stepE
  split
  · split
    · rw [List.length_append, List.length_singleton]
      exact Nat.le_refl _
    · exact Nat.le_succ _
  · exact Nat.le_succ _
theorem named_len {es : List En} {kd : Str} : ∀ (ps : List (Int × Int)) {acc : List Str}, (namedE es kd ps acc).length ≤ ps.length + acc.length
  | [], acc => by rw [List.length_nil, Nat.zero_add]; exact Nat.le_refl _
  | p :: ps, acc => by
    have h := named_len (es := es) (kd := kd) ps (acc := stepE es kd acc p)
    have h2 := step_len (es := es) (kd := kd) (acc := acc) (p := p)
    rw [List.length_cons]
    exact Nat.le_trans h (by omega)
theorem inV_strs {ns : List Str} {x : Str} : inV (.str x) (ns.map V.str) = decide (x ∈ ns) := by
  unfold inV
  rw [List.any_map, Bool.eq_iff_iff, List.any_eq_true, decide_eq_true_iff]
  constructor
  · rintro ⟨y, hy, e⟩
    have e2 : (y == x) = true := e
    rw [beq_iff_eq] at e2
    exact e2 ▸ hy
  · intro h
    refine ⟨x, h, ?_⟩
    show (x == x) = true
    rw [beq_iff_eq]
theorem flat_strs (ns : List Str) : (ns.map V.str).all flatV = true := by
  rw [List.all_map, List.all_eq_true]
  intro x _
  rfl
def spNamed (C : Addr) : Sp := fun vs H Q _ => ∃ b dd es kd, vs = [.ref b, .str kd] ∧ BookAt C H b dd es ∧ EntsAt H es ∧ es.length < 1000 ∧ ∀ p H', Same H H' → H p = none → H' p = some (.lst ((namedE es kd (srtK es) []).map V.str)) → Q (.ref p) H'
theorem ok_m_Book_named (T : Txt K mg A) : FnOk P w K mg base CX0 2 A.m_Book_named A.fd_m_Book_named P_m_Book_named (spNamed A.Book) := by
  refine T.F_m_Book_named.ok sc_m_Book_named (fun vs H Q E h => ?_) (fun cdv Ar outer s H vs Q E hr h => ?_)
  · obtain ⟨b, dd, es, kd, rfl, _⟩ := h
    rfl
  · obtain ⟨b, dd, es, kd, rfl, B, hE, hz, k⟩ := h
    refine ⟨_, (pss_cons (ps_set (i := 2) sc_m_Book_named.nd rfl (Or.inl rfl) (pe_lst pa_nil))
      (pss_cons (ps_g (ps_for PassesOwn.never rfl (pi_list (pe_meth0 (pv 0) T.cl_Book T.m_Book_places (ok_m_Book_places T) (hr.mono (by decide)) T.b_m_Book_places .nil pass0)) (pg_name (i := 3) sc_m_Book_named.nd rfl (Or.inl rfl)) (pss_cons (ps_set (i := 4) sc_m_Book_named.nd rfl (Or.inl rfl) (pe_dget (hu_of hr) (pe_fld (pv 0) rfl) (pv 3) (fun _ _ => rfl)))
      (pss_one (ps_if (PW.pt (pw_and (pt_cmpR op_eq (pe_ix ix_tup (pv 4) pe_int (fun _ _ => rfl)) (pv 1) (nomark _)) (pw_and1 (pt_cmpR op_notIn_seq (pe_ix ix_tup (pv 4) pe_int (fun _ _ => rfl)) (pv 2) (by rfl))))) (pss_one (ps_expr (pe_bm PySem.F.plainAttrs_list PySem.F.slot_list_append PySem.F.type_list_append mt_append (pv 2) (pa_cons (pe_ix ix_tup (pv 4) pe_int (fun _ _ => rfl)) pa_nil)))) pss_nil)))))
      (pss_one (ps_ret (pv 2))))), ?_⟩
    refine ⟨Nat.zero_le _, fun f hf => ?_⟩
    have s1 := Same.new (o := .lst []) hf
    have B1 := B.same s1
    obtain ⟨⟨dx, hb⟩, hd⟩ := B1
    refine ⟨⟨_, rfl, b, dx, _, rfl, hb, rfl, b, dd, es, rfl, ⟨⟨dx, hb⟩, hd⟩, fun bs p hp h2 => ?_⟩⟩
    have s2 := Same.new (o := .lst (bs.map V.ref)) hp
    have nfp : f ≠ p := ne_of_none upd_same hp
    have base2 : Same H (upd (upd H f (.lst [])) p (.lst (bs.map V.ref))) := s1.trans s2
    have hfb : (upd (upd H f (.lst [])) p (.lst (bs.map V.ref))) f = some (.lst []) := by rw [upd_ne nfp, upd_same]
    have hpb : (upd (upd H f (.lst [])) p (.lst (bs.map V.ref))) p = some (.lst (bs.map V.ref)) := upd_same
    have hbb := s2 _ _ hb
    have hdb := s2 _ _ hd
    have hkb : ∀ (i : Nat) (x : Addr) (y : Int × Int), bs[i]? = some x → (srtK es)[i]? = some y → (upd (upd H f (.lst [])) p (.lst (bs.map V.ref))) x = some (.tup [.int y.1, .int y.2]) := fun i x y hx hy => s2 _ _ (h2.2 i x y hx hy)
    have hEb : EntsAt (upd (upd H f (.lst [])) p (.lst (bs.map V.ref))) es := hE.keep fun b xs h => base2 _ _ h
    generalize upd (upd H f (.lst [])) p (.lst (bs.map V.ref)) = Hb at base2 hfb hpb hbb hdb hkb hEb ⊢
    have nfd : dd ≠ f := ne_of hdb hfb (by intro z; cases z)
    have nfb : b ≠ f := ne_of hbb hfb (by intro z; cases z)
    refine ⟨p, rfl, ⟨_, SqL.of hpb⟩, for_list (xs := bs.map V.ref) (fun i σ' H' => Wd (∃ o3 o4 : Option V, σ' = [some (.ref b), some (.str kd), some (.ref f), o3, o4] ∧ H' = upd Hb f (.lst ((namedE es kd ((srtK es).take i) []).map V.str)))) ⟨none, none, rfl, upd_idem hfb⟩ ?_ ?_ ?_⟩
    · rintro i σ' H' _ ⟨o3, o4, rfl, rfl⟩
      exact SqL.of (by rw [upd_ne nfp.symm]; exact hpb)
    · rintro i x σ' H' hx ⟨o3, o4, rfl, rfl⟩
      rw [List.getElem?_map] at hx
      obtain ⟨q, hq, rfl⟩ := Option.map_eq_some_iff.mp hx
      obtain ⟨y, hy, _⟩ := h2.get hq
      have hqt := hkb i q y hq hy
      have nqf : q ≠ f := ne_of hqt hfb (by intro z; cases z)
      obtain ⟨t0, ht0, e0⟩ := mem_srtK.mp (List.mem_of_getElem? hy)
      obtain ⟨t, ht⟩ := atE_mem ht0
      obtain ⟨hmem, e1, e2⟩ := atE_some ht
      have ey : y = (t0.d, t0.n) := e0.symm
      have ht' : atE es y.1 y.2 = some t := by rw [ey]; exact ht
      have hte := hEb t hmem
      have ntf : t.e ≠ f := ne_of hte hfb (by intro z; cases z)
      have g := DGet.t (H := upd Hb f (.lst ((namedE es kd ((srtK es).take i) []).map V.str))) (a := dd) (b := q) (kvs := kvE es) (k := keyE y.1 y.2) (by rw [upd_ne nfd]; exact hdb) (by rw [upd_ne nqf]; exact hqt)
      rw [val_kvE, ht'] at g
      have hte' : upd Hb f (.lst ((namedE es kd ((srtK es).take i) []).map V.str)) t.e = some (.tup [.str t.kd, .str t.nm, t.x]) := by rw [upd_ne ntf]; exact hte
      refine ⟨_, rfl, b, A.Book, dx, _, _, rfl, by rw [upd_ne nfb]; exact hbb, T.cl_Book, T.n_Book_entries, rfl, _, rfl, dd, V.ref t.e, rfl, g, ?_⟩
      refine ⟨_, rfl, t.e, _, _, .str t.kd, rfl, rfl, SqT.of hte', rfl, _, rfl, rfl, _, rfl, ?_⟩
      have hst : namedE es kd ((srtK es).take (i + 1)) [] = stepE es kd (namedE es kd ((srtK es).take i) []) y := by rw [take_more hy, named_app]
      unfold stepE at hst
      rw [ht'] at hst
      have stay : ¬ (t.kd = kd ∧ t.nm ∉ namedE es kd ((srtK es).take i) []) → Wd (∃ o3 o4 : Option V, [some (.ref b), some (.str kd), some (.ref f), some (.ref q), some (.ref t.e)] = [some (.ref b), some (.str kd), some (.ref f), o3, o4] ∧ upd Hb f (.lst ((namedE es kd ((srtK es).take i) []).map V.str)) = upd Hb f (.lst ((namedE es kd ((srtK es).take (i + 1)) []).map V.str))) := fun hn => by
        refine ⟨_, _, rfl, ?_⟩
        rw [hst]
        show _ = upd Hb f (.lst ((if t.kd = kd ∧ t.nm ∉ namedE es kd ((srtK es).take i) [] then _ else _ : List Str).map V.str))
        rw [if_neg hn]
      refine if_dec (fun e => ?_) (fun e => stay fun h => e (congrArg V.str h.1))
      have ek : t.kd = kd := V.str.inj e
      refine ⟨_, rfl, t.e, _, _, .str t.nm, rfl, rfl, SqT.of hte', rfl, _, rfl, f, _, rfl, .inl (SqL.of upd_same), rfl, flat_strs _, _, rfl, ?_⟩
      show if (!inV (.str t.nm) ((namedE es kd ((srtK es).take i) []).map V.str)) = true then _ else _
      rw [inV_strs]
      by_cases hm : t.nm ∈ namedE es kd ((srtK es).take i) []
      · rw [decide_eq_true hm]
        exact iteF (stay fun h => h.2 hm)
      · rw [decide_eq_false hm]
        refine iteT ⟨_, rfl, .inl ⟨rfl, _, SqL.of upd_same⟩, _, rfl, t.e, _, _, .str t.nm, rfl, rfl, SqT.of hte', rfl, f, _, _, rfl, rfl, upd_same, ?_, _, _, rfl, ?_⟩
        · rw [List.length_map]
          exact Nat.lt_of_lt_of_le (Nat.lt_of_le_of_lt (named_len _) (by rw [List.length_take, len_srtK]; show min _ _ + 0 < 1000; omega)) (by decide)
        · rw [upd_upd, hst]
          show _ = upd Hb f (.lst ((if t.kd = kd ∧ t.nm ∉ namedE es kd ((srtK es).take i) [] then _ else _ : List Str).map V.str))
          rw [if_pos ⟨ek, hm⟩, List.map_append]
          rfl
    · rintro σ' H' ⟨o3, o4, rfl, rfl⟩
      refine ⟨_, rfl, k f _ (Same.at_new hf base2) hf ?_⟩
      rw [upd_same, List.length_map, h2.1, List.take_of_length_le (Nat.le_refl _)]
def spKind (C : Addr) (kd : Str) : Sp := fun vs H Q _ => ∃ b dd es, vs = [.ref b] ∧ BookAt C H b dd es ∧ EntsAt H es ∧ es.length < 1000 ∧ ∀ p H', Same H H' → H p = none → H' p = some (.lst ((namedE es kd (srtK es) []).map V.str)) → Q (.ref p) H'
theorem ok_m_Book_lots (T : Txt K mg A) : FnOk P w K mg base CX0 3 A.m_Book_lots A.fd_m_Book_lots P_m_Book_lots (spKind A.Book "buy") := by
  refine T.F_m_Book_lots.ok sc_m_Book_lots (fun vs H Q E h => ?_) (fun cdv Ar outer s H vs Q E hr h => ?_)
  · obtain ⟨b, dd, es, rfl, _⟩ := h
    rfl
  · obtain ⟨b, dd, es, rfl, B, hE, hz, k⟩ := h
    obtain ⟨⟨dx, hb⟩, hd⟩ := B
    exact ⟨_, (pss_one (ps_ret (pe_meth (pv 0) T.cl_Book T.m_Book_named (ok_m_Book_named T) (hr.mono (by decide)) T.b_m_Book_named .nil pass0 (pa_cons pe_str pa_nil)))), _, rfl, b, dx, _, rfl, hb, rfl, b, dd, es, "buy", rfl, ⟨⟨dx, hb⟩, hd⟩, hE, hz, k⟩
theorem ok_m_Book_sales (T : Txt K mg A) : FnOk P w K mg base CX0 3 A.m_Book_sales A.fd_m_Book_sales P_m_Book_sales (spKind A.Book "sell") := by
  refine T.F_m_Book_sales.ok sc_m_Book_sales (fun vs H Q E h => ?_) (fun cdv Ar outer s H vs Q E hr h => ?_)
  · obtain ⟨b, dd, es, rfl, _⟩ := h
    rfl
  · obtain ⟨b, dd, es, rfl, B, hE, hz, k⟩ := h
    obtain ⟨⟨dx, hb⟩, hd⟩ := B
    exact ⟨_, (pss_one (ps_ret (pe_meth (pv 0) T.cl_Book T.m_Book_named (ok_m_Book_named T) (hr.mono (by decide)) T.b_m_Book_named .nil pass0 (pa_cons pe_str pa_nil)))), _, rfl, b, dx, _, rfl, hb, rfl, b, dd, es, "sell", rfl, ⟨⟨dx, hb⟩, hd⟩, hE, hz, k⟩
theorem ok_m_Book_late_costs (T : Txt K mg A) : FnOk P w K mg base CX0 3 A.m_Book_late_costs A.fd_m_Book_late_costs P_m_Book_late_costs (spKind A.Book "late") := by
  refine T.F_m_Book_late_costs.ok sc_m_Book_late_costs (fun vs H Q E h => ?_) (fun cdv Ar outer s H vs Q E hr h => ?_)
  · obtain ⟨b, dd, es, rfl, _⟩ := h
    rfl
  · obtain ⟨b, dd, es, rfl, B, hE, hz, k⟩ := h
    obtain ⟨⟨dx, hb⟩, hd⟩ := B
    exact ⟨_, (pss_one (ps_ret (pe_meth (pv 0) T.cl_Book T.m_Book_named (ok_m_Book_named T) (hr.mono (by decide)) T.b_m_Book_named .nil pass0 (pa_cons pe_str pa_nil)))), _, rfl, b, dx, _, rfl, hb, rfl, b, dd, es, "late", rfl, ⟨⟨dx, hb⟩, hd⟩, hE, hz, k⟩
end

/-! ### names that are valid; what is picked -/
theorem letter_mem {c : Nat} (h : 97 ≤ c ∧ c < 123) : c ∈ lettersZ.cps.toList := by
  have : ∀ n : Fin 26, (97 + n.val) ∈ lettersZ.cps.toList := by decide +kernel
  have h2 := this ⟨c - 97, by omega⟩
  rw [show 97 + (c - 97) = c by omega] at h2
  exact h2
theorem name_ok {n : List Nat} (h : NmOk n) : nameV (vS n) = true := by
  show nameL (SX.S n).cps.toList = true
  have e : (SX.S n).cps.toList = n := rfl
  rw [e]
  unfold nameL
  rw [decide_eq_true h.1, decide_eq_true h.2.1, Bool.true_and, Bool.true_and, List.all_eq_true]
  intro c hc
  exact decide_eq_true (letter_mem (h.2.2 c hc))
def spPick : Sp := fun vs H Q _ => ∃ (g l q : Addr) (xs : List V), vs = [.ref g, .ref q] ∧ Bag H g l ∧ q ≠ g ∧ H q = some (.lst xs) ∧ 1 ≤ xs.length ∧ xs.length ≤ 1000 ∧ ∀ (v : V) (H' : Hp), v ∈ xs → Bag H' g l → Kp g H H' → Q v H'
section
variable {P : Program} {w : World} {K : PySem.W.Frag} {mg : Str → Option Value} {base : Heap} {A : Ad}
theorem ok_l_pick (T : Txt K mg A) : FnOk P w K mg base CX0 2 A.l_pick A.fd_l_pick P_l_pick spPick := by
  refine T.F_l_pick.ok sc_l_pick (fun vs H Q E h => ?_) (fun cdv Ar outer s H vs Q E hr h => ?_)
  · obtain ⟨g, l, q, xs, rfl, _⟩ := h
    rfl
  · obtain ⟨g, l, q, xs, rfl, B, nq, hq, h1, h2, k⟩ := h
    refine ⟨_, (pss_one (ps_ret (pe_ix ix_list (pv 1) (pe_call (ok_l_draw T) (hr.mono (by decide)) (by rfl) T.g__law_draw T.F_l_draw.kp T.b_l_draw .nil pass0 (pa_cons (pv 0) (pa_cons (pe_callB call_len_seq (by rfl) T.z_len (by decide +kernel) (pa_cons (pv 1) pa_nil)) pa_nil))) (fun _ _ => rfl)))), ?_⟩
    refine ⟨_, rfl, _, rfl, _, rfl, q, _, rfl, .inl (SqL.of hq), g, l, _, rfl, B, by omega, lt_pow (a := 10) (by omega) (by decide), fun c H1 c0 c1 B1 K1 => ?_⟩
    have hq1 := K1 _ _ hq nq
    obtain ⟨j, rfl⟩ := Int.eq_ofNat_of_zero_le c0
    have hj : j < xs.length := by omega
    exact ⟨q, _, _, _, rfl, rfl, SqL.of hq1, atI_nat (List.getElem?_eq_getElem hj), k _ H1 (List.getElem_mem hj) B1 K1⟩
end

/-! ### entries and places that the law draws -/
def NamesOk (ns : List (List Nat)) : Prop := ∀ n ∈ ns, nameV (vS n) = true ∧ n.length ≤ 1000
def spDrawnEntry : Sp := fun vs H Q _ => ∃ (g l q : Addr) (ns : List (List Nat)), vs = [.ref g, .ref q] ∧ Bag H g l ∧ q ≠ g ∧ H q = some (.lst (ns.map vS)) ∧ 1 ≤ ns.length ∧ ns.length ≤ 1000 ∧ NamesOk ns ∧
  ∀ (p : Addr) (kd nm : Str) (x : V) (H' : Hp), H' p = some (.tup [.str kd, .str nm, x]) → entOk (.str kd) (.str nm) x = true → Pl x → shortV (.str nm) → shortV x → Bag H' g l → Kp g H H' → Q (.ref p) H'
def Spot (d n : Int) : Prop := 0 ≤ d ∧ d ≤ 1000000 ∧ 0 ≤ n ∧ n ≤ 1000000
def spDrawnSpot : Sp := fun vs H Q _ => ∃ (g l : Addr), vs = [.ref g] ∧ Bag H g l ∧ ∀ (p : Addr) (d n : Int) (H' : Hp), H p = none → H' p = some (.tup [.int d, .int n]) → Spot d n → Bag H' g l → Kp g H H' → Q (.ref p) H'
theorem kind_at {c : Int} (h0 : 0 ≤ c) (h4 : c < 4) : ∃ k : Str, atI [V.str "buy", .str "sell", .str "back", .str "late"] c = some (.str k) ∧ ((k ≠ "late" ∧ (eqV (.str k) (.str "buy") || eqV (.str k) (.str "sell") || eqV (.str k) (.str "back")) = true) ∨ k = "late") := by
  have : c = 0 ∨ c = 1 ∨ c = 2 ∨ c = 3 := by omega
  rcases this with rfl | rfl | rfl | rfl
  · exact ⟨_, rfl, .inl ⟨by decide +kernel, by decide +kernel⟩⟩
  · exact ⟨_, rfl, .inl ⟨by decide +kernel, by decide +kernel⟩⟩
  · exact ⟨_, rfl, .inl ⟨by decide +kernel, by decide +kernel⟩⟩
  · exact ⟨_, rfl, .inr rfl⟩
theorem late_no : (eqV (.str "late") (.str "buy") || eqV (.str "late") (.str "sell") || eqV (.str "late") (.str "back")) = false := by decide +kernel
theorem late_yes : eqV (.str "late") (.str "late") = true := by decide +kernel
theorem ent_units {kd nm : Str} {i : Int} (hk : (eqV (.str kd) (.str "buy") || eqV (.str kd) (.str "sell") || eqV (.str kd) (.str "back")) = true) (hn : nameV (.str nm) = true) (h1 : 1 ≤ i) (h2 : i ≤ 1000000) : entOk (.str kd) (.str nm) (.int i) = true := by
  unfold entOk
  rw [hn, if_pos hk]
  show (true && (decide (1 ≤ i) && decide (i ≤ 1000000))) = true
  rw [decide_eq_true h1, decide_eq_true h2]
  rfl
theorem ent_late {nm lot : Str} (hn : nameV (.str nm) = true) (hl : nameV (.str lot) = true) : entOk (.str "late") (.str nm) (.str lot) = true := by
  unfold entOk
  rw [hn, if_neg (by rw [late_no]; decide), if_pos late_yes, hl]
  rfl
section
variable {P : Program} {w : World} {K : PySem.W.Frag} {mg : Str → Option Value} {base : Heap} {A : Ad}
theorem ok_l_drawn_entry (T : Txt K mg A) : FnOk P w K mg base CX0 3 A.l_drawn_entry A.fd_l_drawn_entry P_l_drawn_entry spDrawnEntry := by
  refine T.F_l_drawn_entry.ok sc_l_drawn_entry (fun vs H Q E h => ?_) (fun cdv Ar outer s H vs Q E hr h => ?_)
  · obtain ⟨g, l, q, ns, rfl, _⟩ := h
    rfl
  · obtain ⟨g, l, q, ns, rfl, B, nq, hq, h1, h2, hN, k⟩ := h
    refine ⟨_, (pss_cons (ps_set (i := 2) sc_l_drawn_entry.nd rfl (Or.inl rfl) (pe_ix ix_list (pe_lst (pa_cons pe_str (pa_cons pe_str (pa_cons pe_str (pa_cons pe_str pa_nil))))) (pe_call (ok_l_draw T) (hr.mono (by decide)) (by rfl) T.g__law_draw T.F_l_draw.kp T.b_l_draw .nil pass0 (pa_cons (pv 0) (pa_cons pe_int pa_nil))) (fun _ _ => rfl)))
      (pss_cons (ps_set (i := 3) sc_l_drawn_entry.nd rfl (Or.inl rfl) (pe_call (ok_l_pick T) (hr.mono (by decide)) (by rfl) T.g__law_pick T.F_l_pick.kp T.b_l_pick .nil pass0 (pa_cons (pv 0) (pa_cons (pv 1) pa_nil))))
      (pss_cons (ps_if (pt_cmpR op_eq (pv 2) pe_str (nomark _)) (pss_one (ps_ret (pe_tup (pa_cons (pv 2) (pa_cons (pv 3) (pa_cons (pe_call (ok_l_pick T) (hr.mono (by decide)) (by rfl) T.g__law_pick T.F_l_pick.kp T.b_l_pick .nil pass0 (pa_cons (pv 0) (pa_cons (pv 1) pa_nil))) pa_nil)))))) pss_nil)
      (pss_one (ps_ret (pe_tup (pa_cons (pv 2) (pa_cons (pv 3) (pa_cons (pe_ix ix_list (pe_lst (pa_cons pe_int (pa_cons pe_int (pa_cons (pe_op op_add pe_int (pe_call (ok_l_draw T) (hr.mono (by decide)) (by rfl) T.g__law_draw T.F_l_draw.kp T.b_l_draw .nil pass0 (pa_cons (pv 0) (pa_cons pe_int pa_nil)))) pa_nil)))) (pe_call (ok_l_draw T) (hr.mono (by decide)) (by rfl) T.g__law_draw T.F_l_draw.kp T.b_l_draw .nil pass0 (pa_cons (pv 0) (pa_cons pe_int pa_nil))) (fun _ _ => rfl)) pa_nil))))))))), ?_⟩
    refine ⟨(by show 4 ≤ sizeLine; decide), fun p1 hp1 => ?_⟩
    have B1 := B.new (o := .lst [V.str "buy", .str "sell", .str "back", .str "late"]) hp1
    refine ⟨_, rfl, g, l, _, rfl, B1, by decide, by decide, fun c H2 c0 c1 B2 K2 => ?_⟩
    have hp2 := K2 _ _ upd_same (B.ne hp1).1
    have K02 : Kp g H H2 := (Kp.same (Same.new hp1)).trans K2
    have hq2 := K02 _ _ hq nq
    obtain ⟨kd, hkd, hk⟩ := kind_at c0 c1
    refine ⟨p1, _, _, _, rfl, rfl, SqL.of hp2, hkd, ?_⟩
    refine ⟨_, rfl, _, rfl, g, l, q, _, rfl, B2, nq, hq2, by rw [List.length_map]; omega, by rw [List.length_map]; omega, fun v H3 hv B3 K3 => ?_⟩
    obtain ⟨n, hn, rfl⟩ := List.mem_map.mp hv
    obtain ⟨hn1, hn2⟩ := hN n hn
    have sN : shortV (vS n) := fun z e => by
      rw [← V.str.inj e, SX.S_len]
      exact hn2
    have K03 := K02.trans K3
    have hq3 := K3 _ _ hq2 nq
    refine ⟨_, rfl, rfl, _, rfl, ?_⟩
    refine if_dec (fun e => ?_) (fun e => ?_)
    · have ek : kd = "late" := V.str.inj e
      subst ek
      refine ⟨_, rfl, _, rfl, _, rfl, _, rfl, g, l, q, _, rfl, B3, nq, hq3, by rw [List.length_map]; omega, by rw [List.length_map]; omega, fun v H4 hv B4 K4 => ?_⟩
      obtain ⟨m, hm, rfl⟩ := List.mem_map.mp hv
      obtain ⟨hm1, hm2⟩ := hN m hm
      refine ⟨(by show 3 ≤ sizeLine; decide), fun p hp => ?_⟩
      exact k p "late" (SX.S n) (vS m) _ upd_same (ent_late hn1 hm1) (.str _) sN (fun z e => by rw [← V.str.inj e, SX.S_len]; exact hm2) (B4.new hp) ((K03.trans K4).new hp)
    · have hk1 := hk.resolve_right fun z => e (congrArg V.str z)
      refine ⟨_, rfl, _, rfl, _, rfl, g, l, _, rfl, B3, by decide, lt_pow (a := 20) (by decide) (by decide), fun u H4 u0 u1 B4 K4 => ⟨_, _, rfl, rfl, (by show 3 ≤ sizeLine; decide), fun p4 hp4 => ?_⟩⟩
      have B5 := B4.new (o := .lst [V.int 1, .int 1000000, .int (1 + u)]) hp4
      refine ⟨_, rfl, g, l, _, rfl, B5, by decide, by decide, fun c' H5 d0 d1 B6 K5 => ?_⟩
      have hp5 := K5 _ _ upd_same (B4.ne hp4).1
      obtain ⟨i, hi, i1, i2⟩ : ∃ i : Int, atI [V.int 1, .int 1000000, .int (1 + u)] c' = some (.int i) ∧ 1 ≤ i ∧ i ≤ 1000000 := by
        have : c' = 0 ∨ c' = 1 ∨ c' = 2 := by omega
        rcases this with rfl | rfl | rfl
        · exact ⟨_, rfl, by decide, by decide⟩
        · exact ⟨_, rfl, by decide, by decide⟩
        · exact ⟨_, rfl, by omega, by omega⟩
      refine ⟨p4, _, _, _, rfl, rfl, SqL.of hp5, hi, (by show 3 ≤ sizeLine; decide), fun p hp => ?_⟩
      exact k p kd (SX.S n) (.int i) _ upd_same (ent_units hk1.2 hn1 i1 i2) (.int _) sN (fun z e => by cases e) (B6.new hp) (((K03.trans (K4.new hp4)).trans K5).new hp)
end

section
variable {P : Program} {w : World} {K : PySem.W.Frag} {mg : Str → Option Value} {base : Heap} {A : Ad}
theorem ok_l_drawn_spot (T : Txt K mg A) : FnOk P w K mg base CX0 2 A.l_drawn_spot A.fd_l_drawn_spot P_l_drawn_spot spDrawnSpot := by
  refine T.F_l_drawn_spot.ok sc_l_drawn_spot (fun vs H Q E h => ?_) (fun cdv Ar outer s H vs Q E hr h => ?_)
  · obtain ⟨g, l, rfl, _⟩ := h
    rfl
  · obtain ⟨g, l, rfl, B, k⟩ := h
    refine ⟨_, (pss_cons (ps_set (i := 1) sc_l_drawn_spot.nd rfl (Or.inl rfl) (pe_ix ix_list (pe_lst (pa_cons (pe_call (ok_l_draw T) (hr.mono (by decide)) (by rfl) T.g__law_draw T.F_l_draw.kp T.b_l_draw .nil pass0 (pa_cons (pv 0) (pa_cons pe_int pa_nil))) (pa_cons (pe_call (ok_l_draw T) (hr.mono (by decide)) (by rfl) T.g__law_draw T.F_l_draw.kp T.b_l_draw .nil pass0 (pa_cons (pv 0) (pa_cons pe_int pa_nil))) (pa_cons pe_int pa_nil)))) (pe_op op_fdiv (pe_call (ok_l_draw T) (hr.mono (by decide)) (by rfl) T.g__law_draw T.F_l_draw.kp T.b_l_draw .nil pass0 (pa_cons (pv 0) (pa_cons pe_int pa_nil))) pe_int) (fun _ _ => rfl)))
      (pss_one (ps_ret (pe_tup (pa_cons (pv 1) (pa_cons (pe_ix ix_list (pe_lst (pa_cons (pe_call (ok_l_draw T) (hr.mono (by decide)) (by rfl) T.g__law_draw T.F_l_draw.kp T.b_l_draw .nil pass0 (pa_cons (pv 0) (pa_cons pe_int pa_nil))) (pa_cons pe_int pa_nil))) (pe_op op_fdiv (pe_call (ok_l_draw T) (hr.mono (by decide)) (by rfl) T.g__law_draw T.F_l_draw.kp T.b_l_draw .nil pass0 (pa_cons (pv 0) (pa_cons pe_int pa_nil))) pe_int) (fun _ _ => rfl)) pa_nil)))))), ?_⟩
    refine ⟨_, rfl, g, l, _, rfl, B, by decide, by decide, fun a H1 a0 a1 B1 K1 => ?_⟩
    refine ⟨_, rfl, g, l, _, rfl, B1, by decide, lt_pow (a := 20) (by decide) (by decide), fun b H2 b0 b1 B2 K2 => ?_⟩
    refine ⟨(by show 3 ≤ sizeLine; decide), fun p1 hp1 => ?_⟩
    have B3 := B2.new (o := .lst [V.int a, .int b, .int 1000000]) hp1
    refine ⟨_, rfl, g, l, _, rfl, B3, by decide, by decide, fun c H3 c0 c1 B4 K3 => ?_⟩
    have hp3 := K3 _ _ upd_same (B2.ne hp1).1
    obtain ⟨d, hd, d0, d1⟩ : ∃ d : Int, atI [V.int a, .int b, .int 1000000] (c / 3) = some (.int d) ∧ 0 ≤ d ∧ d ≤ 1000000 := by
      have : c / 3 = 0 ∨ c / 3 = 1 ∨ c / 3 = 2 := by omega
      rcases this with e | e | e <;> rw [e]
      · exact ⟨_, rfl, by omega, by omega⟩
      · exact ⟨_, rfl, by omega, by omega⟩
      · exact ⟨_, rfl, by decide, by decide⟩
    refine ⟨_, _, rfl, rfl, ⟨by decide, by decide⟩, p1, _, _, _, rfl, rfl, SqL.of hp3, hd, ?_⟩
    refine ⟨_, rfl, _, rfl, g, l, _, rfl, B4, by decide, by decide, fun e H4 e0 e1 B5 K4 => ?_⟩
    refine ⟨(by show 2 ≤ sizeLine; decide), fun p2 hp2 => ?_⟩
    have B6 := B5.new (o := .lst [V.int e, .int 1000000]) hp2
    refine ⟨_, rfl, g, l, _, rfl, B6, by decide, by decide, fun f H5 f0 f1 B7 K5 => ?_⟩
    have hp5 := K5 _ _ upd_same (B5.ne hp2).1
    obtain ⟨n, hn, n0, n1⟩ : ∃ n : Int, atI [V.int e, .int 1000000] (f / 5) = some (.int n) ∧ 0 ≤ n ∧ n ≤ 1000000 := by
      have : f / 5 = 0 ∨ f / 5 = 1 := by omega
      rcases this with h | h <;> rw [h]
      · exact ⟨_, rfl, by omega, by omega⟩
      · exact ⟨_, rfl, by decide, by decide⟩
    refine ⟨_, _, rfl, rfl, ⟨by decide, by decide⟩, p2, _, _, _, rfl, rfl, SqL.of hp5, hn, (by show 2 ≤ sizeLine; decide), fun p hp => ?_⟩
    have KK : Kp g H H5 := (((K1.trans K2).new hp1).trans K3).trans ((K4.new hp2).trans K5)
    exact k p d n _ (kp_none KK hp (B7.ne hp).1) upd_same ⟨d0, d1, n0, n1⟩ (B7.new hp) (KK.new hp)
def spNamedL : Sp := fun vs H Q _ => ∃ dd es kd, vs = [.ref dd, .str kd] ∧ H dd = some (.dT (kvE es)) ∧ EntsAt H es ∧ es.length < 1000 ∧ ∀ p H', Same H H' → H p = none → H' p = some (.lst ((namedE es kd (srtK es) []).map V.str)) → Q (.ref p) H'
theorem ok_l_named (T : Txt K mg A) : FnOk P w K mg base CX0 1 A.l_named A.fd_l_named P_l_named spNamedL := by
  refine T.F_l_named.ok sc_l_named (fun vs H Q E h => ?_) (fun cdv Ar outer s H vs Q E hr h => ?_)
  · obtain ⟨dd, es, kd, rfl, _⟩ := h
    rfl
  · obtain ⟨dd, es, kd, rfl, hd, hE, hz, k⟩ := h
    refine ⟨_, (pss_cons (ps_set (i := 2) sc_l_named.nd rfl (Or.inl rfl) (pe_lst pa_nil))
      (pss_cons (ps_g (ps_for PassesOwn.never rfl (pi_list (pe_callB (cr_sortedDT rfl) (by rfl) T.z_sorted (by decide +kernel) (pa_cons (pv 0) pa_nil))) (pg_name (i := 3) sc_l_named.nd rfl (Or.inl rfl)) (pss_one (ps_if (PW.pt (pw_and (pt_cmpR op_eq (pe_ix ix_tup (pe_dget (hu_of hr) (pv 0) (pv 3) (fun _ _ => rfl)) pe_int (fun _ _ => rfl)) (pv 1) (nomark _)) (pw_and1 (pt_cmpR op_notIn_seq (pe_ix ix_tup (pe_dget (hu_of hr) (pv 0) (pv 3) (fun _ _ => rfl)) pe_int (fun _ _ => rfl)) (pv 2) (by rfl))))) (pss_one (ps_expr (pe_bm PySem.F.plainAttrs_list PySem.F.slot_list_append PySem.F.type_list_append mt_append (pv 2) (pa_cons (pe_ix ix_tup (pe_dget (hu_of hr) (pv 0) (pv 3) (fun _ _ => rfl)) pe_int (fun _ _ => rfl)) pa_nil)))) pss_nil))))
      (pss_one (ps_ret (pv 2))))), ?_⟩
    refine ⟨Nat.zero_le _, fun f hf => ?_⟩
    have s1 := Same.new (o := .lst []) hf
    refine ⟨⟨_, rfl, ⟨dd, es.map fun t : En => (t.d, t.n, V.ref t.e), rfl, s1 _ _ hd, fun bs ps p hp h2 hperm hs => ?_⟩⟩⟩
    rw [List.map_map] at hperm
    have e := srtK_uniq (es := es) hperm hs
    subst e
    have s2 := Same.new (o := .lst (bs.map V.ref)) hp
    have nfp : f ≠ p := ne_of_none upd_same hp
    have base2 : Same H (upd (upd H f (.lst [])) p (.lst (bs.map V.ref))) := s1.trans s2
    have hfb : (upd (upd H f (.lst [])) p (.lst (bs.map V.ref))) f = some (.lst []) := by rw [upd_ne nfp, upd_same]
    have hpb : (upd (upd H f (.lst [])) p (.lst (bs.map V.ref))) p = some (.lst (bs.map V.ref)) := upd_same
    have hdb := base2 _ _ hd
    have hkb : ∀ (i : Nat) (x : Addr) (y : Int × Int), bs[i]? = some x → (srtK es)[i]? = some y → (upd (upd H f (.lst [])) p (.lst (bs.map V.ref))) x = some (.tup [.int y.1, .int y.2]) := fun i x y hx hy => s2 _ _ (h2.2 i x y hx hy)
    have hEb : EntsAt (upd (upd H f (.lst [])) p (.lst (bs.map V.ref))) es := hE.keep fun b xs h => base2 _ _ h
    generalize upd (upd H f (.lst [])) p (.lst (bs.map V.ref)) = Hb at base2 hfb hpb hdb hkb hEb ⊢
    have nfd : dd ≠ f := ne_of hdb hfb (by intro z; cases z)
    refine ⟨p, rfl, ⟨_, SqL.of hpb⟩, for_list (xs := bs.map V.ref) (fun i σ' H' => Wd (∃ o3 : Option V, σ' = [some (.ref dd), some (.str kd), some (.ref f), o3] ∧ H' = upd Hb f (.lst ((namedE es kd ((srtK es).take i) []).map V.str)))) ⟨none, rfl, upd_idem hfb⟩ ?_ ?_ ?_⟩
    · rintro i σ' H' _ ⟨o3, rfl, rfl⟩
      exact SqL.of (by rw [upd_ne nfp.symm]; exact hpb)
    · rintro i x σ' H' hx ⟨o3, rfl, rfl⟩
      rw [List.getElem?_map] at hx
      obtain ⟨q, hq, rfl⟩ := Option.map_eq_some_iff.mp hx
      obtain ⟨y, hy, _⟩ := h2.get hq
      have hqt := hkb i q y hq hy
      have nqf : q ≠ f := ne_of hqt hfb (by intro z; cases z)
      obtain ⟨t0, ht0, e0⟩ := mem_srtK.mp (List.mem_of_getElem? hy)
      obtain ⟨t, ht⟩ := atE_mem ht0
      obtain ⟨hmem, e1, e2⟩ := atE_some ht
      have ey : y = (t0.d, t0.n) := e0.symm
      have ht' : atE es y.1 y.2 = some t := by rw [ey]; exact ht
      have hte := hEb t hmem
      have ntf : t.e ≠ f := ne_of hte hfb (by intro z; cases z)
      have g := DGet.t (H := upd Hb f (.lst ((namedE es kd ((srtK es).take i) []).map V.str))) (a := dd) (b := q) (kvs := kvE es) (k := keyE y.1 y.2) (by rw [upd_ne nfd]; exact hdb) (by rw [upd_ne nqf]; exact hqt)
      rw [val_kvE, ht'] at g
      have hte' : upd Hb f (.lst ((namedE es kd ((srtK es).take i) []).map V.str)) t.e = some (.tup [.str t.kd, .str t.nm, t.x]) := by rw [upd_ne ntf]; exact hte
      refine ⟨_, rfl, _, rfl, dd, V.ref t.e, rfl, g, t.e, _, _, .str t.kd, rfl, rfl, SqT.of hte', rfl, _, rfl, rfl, _, rfl, ?_⟩
      have hst : namedE es kd ((srtK es).take (i + 1)) [] = stepE es kd (namedE es kd ((srtK es).take i) []) y := by rw [take_more hy, named_app]
      unfold stepE at hst
      rw [ht'] at hst
      have stay : ¬ (t.kd = kd ∧ t.nm ∉ namedE es kd ((srtK es).take i) []) → Wd (∃ o3 : Option V, [some (.ref dd), some (.str kd), some (.ref f), some (.ref q)] = [some (.ref dd), some (.str kd), some (.ref f), o3] ∧ upd Hb f (.lst ((namedE es kd ((srtK es).take i) []).map V.str)) = upd Hb f (.lst ((namedE es kd ((srtK es).take (i + 1)) []).map V.str))) := fun hn => by
        refine ⟨_, rfl, ?_⟩
        rw [hst]
        show _ = upd Hb f (.lst ((if t.kd = kd ∧ t.nm ∉ namedE es kd ((srtK es).take i) [] then _ else _ : List Str).map V.str))
        rw [if_neg hn]
      refine if_dec (fun e => ?_) (fun e => stay fun h => e (congrArg V.str h.1))
      have ek : t.kd = kd := V.str.inj e
      refine ⟨_, rfl, _, rfl, dd, V.ref t.e, rfl, g, t.e, _, _, .str t.nm, rfl, rfl, SqT.of hte', rfl, _, rfl, f, _, rfl, .inl (SqL.of upd_same), rfl, flat_strs _, _, rfl, ?_⟩
      show if (!inV (.str t.nm) ((namedE es kd ((srtK es).take i) []).map V.str)) = true then _ else _
      rw [inV_strs]
      by_cases hm : t.nm ∈ namedE es kd ((srtK es).take i) []
      · rw [decide_eq_true hm]
        exact iteF (stay fun h => h.2 hm)
      · rw [decide_eq_false hm]
        refine iteT ⟨_, rfl, .inl ⟨rfl, _, SqL.of upd_same⟩, _, rfl, _, rfl, dd, V.ref t.e, rfl, g, t.e, _, _, .str t.nm, rfl, rfl, SqT.of hte', rfl, f, _, _, rfl, rfl, upd_same, ?_, _, rfl, ?_⟩
        · rw [List.length_map]
          exact Nat.lt_of_lt_of_le (Nat.lt_of_le_of_lt (named_len _) (by rw [List.length_take, len_srtK]; show min _ _ + 0 < 1000; omega)) (by decide)
        · rw [upd_upd, hst]
          show _ = upd Hb f (.lst ((if t.kd = kd ∧ t.nm ∉ namedE es kd ((srtK es).take i) [] then _ else _ : List Str).map V.str))
          rw [if_pos ⟨ek, hm⟩, List.map_append]
          rfl
    · rintro σ' H' ⟨o3, rfl, rfl⟩
      refine ⟨_, rfl, k f _ (Same.at_new hf base2) hf ?_⟩
      rw [upd_same, List.length_map, h2.1, List.take_of_length_le (Nat.le_refl _)]
end

def spMiss (C CE : Addr) : Sp := fun vs H Q E => ∃ b dd t es d n, vs = [.ref b, .ref t] ∧ BookAt C H b dd es ∧ H t = some (.tup [.int d, .int n]) ∧ atE es d n = none ∧ ∀ x H', Same H H' → H' x = some (.xd (noE (.int n) (.int d))) → E (.ref CE) (some x) H'
section
variable {P : Program} {w : World} {K : PySem.W.Frag} {mg : Str → Option Value} {base : Heap} {A : Ad}
theorem xf_NoEntry (T : Txt K mg A) : XfC K A.NoEntry := ⟨T.xg_NoEntry, T.xk_NoEntry, T.eb_NoEntry, T.eh_NoEntry⟩
theorem excC_NoEntry (T : Txt K mg A) : ExcC K A.NoEntry := ⟨T.xg_NoEntry, T.xk_NoEntry, T.eb_NoEntry, T.eh_NoEntry, T.xa_NoEntry, T.xn_NoEntry, T.xt_NoEntry, T.xm_NoEntry⟩
theorem exm_NoEntry (T : Txt K mg A) : PySem.W.exmOne K (.ref A.NoEntry) (.ref A.NoEntry) = some true := PySem.W.exm_ref T.eb_NoEntry T.eh_NoEntry T.et_NoEntry T.es_NoEntry
theorem own_get (T : Txt K mg A) : OwnM K A.Book A.m_Book_getitem "__getitem__" := ⟨T.m_Book___getitem__.at_, T.m_Book___getitem__.fn⟩
theorem own_set (T : Txt K mg A) : OwnM K A.Book A.m_Book_setitem "__setitem__" := ⟨T.m_Book___setitem__.at_, T.m_Book___setitem__.fn⟩
theorem own_in (T : Txt K mg A) : OwnM K A.Book A.m_Book_contains "__contains__" := ⟨T.m_Book___contains__.at_, T.m_Book___contains__.fn⟩
theorem own_len (T : Txt K mg A) : OwnM K A.Book A.m_Book_len "__len__" := ⟨T.m_Book___len__.at_, T.m_Book___len__.fn⟩
theorem ok_l_looks (T : Txt K mg A) : FnOk P w K mg base (L2.CX P w) 8 A.l_looks A.fd_l_looks P_l_looks (spMiss A.Book A.NoEntry) := by
  refine T.F_l_looks.okX sc_l_looks (fun vs H Q E h => ?_) (fun cdv Ar outer s H vs Q E hr h => ?_)
  · obtain ⟨b, dd, t, es, d, n, rfl, _⟩ := h
    rfl
  · obtain ⟨b, dd, t, es, d, n, rfl, ⟨⟨dx, hb⟩, hd⟩, ht, he, k⟩ := h
    refine ⟨_, (pss_one (ps_ret (pe_ownIx (E := fun _ => E) (own_get T) T.fgi_Book (ok_m_Book_getitem T) (hr.mono (by decide)) T.b_m_Book_getitem (passAll (passes_call (takes_of rfl rfl rfl rfl) (fun _ _ _ _ h => h))) (pv 0) (pe_tup (pa_cons (pe_ix ix_tup (pv 1) pe_int (fun _ _ => rfl)) (pa_cons (pe_ix ix_tup (pv 1) pe_int (fun _ _ => rfl)) pa_nil)))))), ?_⟩
    refine ⟨_, rfl, _, rfl, t, _, _, _, rfl, rfl, SqT.of ht, rfl, _, rfl, t, _, _, _, rfl, rfl, SqT.of ht, rfl, (by show 2 ≤ sizeLine; decide), fun q hq => ?_⟩
    have s1 := Same.new (o := .tup [V.int d, .int n]) hq
    refine ⟨b, dx, _, rfl, s1 _ _ hb, b, dd, q, es, d, n, rfl, ⟨⟨dx, s1 _ _ hb⟩, s1 _ _ hd⟩, upd_same, (fun u e => by rw [he] at e; cases e), fun _ x H' s' h => k x H' (s1.trans s') h⟩
theorem ok_l_takes_out (T : Txt K mg A) : FnOk P w K mg base (L2.CX P w) 8 A.l_takes_out A.fd_l_takes_out P_l_takes_out (spMiss A.Book A.NoEntry) := by
  refine T.F_l_takes_out.okX sc_l_takes_out (fun vs H Q E h => ?_) (fun cdv Ar outer s H vs Q E hr h => ?_)
  · obtain ⟨b, dd, t, es, d, n, rfl, _⟩ := h
    rfl
  · obtain ⟨b, dd, t, es, d, n, rfl, ⟨⟨dx, hb⟩, hd⟩, ht, he, k⟩ := h
    refine ⟨_, (pss_cons (ps_expr (pe_meth (pv 0) T.cl_Book T.m_Book_remove (ok_m_Book_remove T) (hr.mono (by decide)) T.b_m_Book_remove .nil (E := E) (passes_call (takes_of rfl rfl rfl rfl) (fun _ _ _ _ h => h)) (pa_cons (pe_ix ix_tup (pv 1) pe_int (fun _ _ => rfl)) (pa_cons (pe_ix ix_tup (pv 1) pe_int (fun _ _ => rfl)) pa_nil))))
      (pss_one (ps_ret pe_str))), ?_⟩
    refine ⟨_, rfl, b, dx, _, rfl, hb, rfl, _, rfl, t, _, _, _, rfl, rfl, SqT.of ht, rfl, _, rfl, t, _, _, _, rfl, rfl, SqT.of ht, rfl, ?_⟩
    exact ⟨b, dd, es, d, n, rfl, ⟨⟨dx, hb⟩, hd⟩, (fun h => by rw [he] at h; cases h), fun _ x H' s' h => k x H' s' h⟩
def spMissing (A : Ad) : Sp := fun vs H Q _ => ∃ b dd t es d n f, vs = [.ref b, .ref t, .ref f] ∧ (f = A.l_looks ∨ f = A.l_takes_out) ∧ BookAt A.Book H b dd es ∧ H t = some (.tup [.int d, .int n]) ∧ atE es d n = none ∧ ∀ H', Same H H' → Q (.bl true) H'
theorem ok_l_missing (T : Txt K mg A) : FnOk P w K mg base CX0 10 A.l_missing A.fd_l_missing P_l_missing (spMissing A) := by
  refine T.F_l_missing.ok sc_l_missing (fun vs H Q E h => ?_) (fun cdv Ar outer s H vs Q E hr h => ?_)
  · obtain ⟨b, dd, t, es, d, n, f, rfl, _⟩ := h
    rfl
  · obtain ⟨b, dd, t, es, d, n, f, rfl, hf, B, ht, he, k⟩ := h
    refine ⟨_, (pss_cons (ps_set (i := 3) sc_l_missing.nd rfl (Or.inl rfl) pe_non)
      (pss_cons (ps_tryV (i := 4) rfl rfl sc_l_missing.nd rfl rfl ⟨by rfl, by decide, .inl T.g_NoEntry⟩ takes0 (fun W pn xe tk _ => (pss_one (ps_set (i := 3) sc_l_missing.nd rfl (Or.inl rfl) (pe_call2S (i := 2) (ok_l_looks T) (ok_l_takes_out T) (hr.mono (by decide)) (hr.mono (by decide)) rfl (Or.inl rfl) T.F_l_looks.kp T.F_l_takes_out.kp T.b_l_looks T.b_l_takes_out (fun σ => passAt tk σ) (pa_cons (pv 0) (pa_cons (pv 1) pa_nil)))))) (fun a oe cls d pn hz hf => (pss_one (ps_ret (pe_and (pe_cmpR op_isN (pv 3) pe_non (nomark _)) (pe_and (pe_cmpR (op_eqP hr.units) (pe_tup (pa_cons (pe_xf (xf_NoEntry T) T.n_NoEntry_day hz hf (pv 4)) (pa_cons (pe_xf (xf_NoEntry T) T.n_NoEntry_number hz hf (pv 4)) pa_nil))) (pv 1) (nomark _)) (pe_one (pe_callB (call_isEW hz hf) (by rfl) T.z_isinstance (by decide +kernel) (pa_cons (pv 4) (pa_cons (pe_glob (v := .ref A.CostError) (by rfl) T.g_CostError rfl) pa_nil))))))))) (fun _ _ _ => rfl) (fun _ _ _ _ _ => rfl))
      (pss_one (ps_ret pe_bl)))), ?_⟩
    refine ⟨?_, _, rfl, _, rfl, b, dd, t, es, d, n, rfl, B, ht, he, fun x H' s' hx => ?_⟩
    · rcases hf with rfl | rfl
      · exact .inl rfl
      · exact .inr rfl
    · have sm : Same H H' := s'
      refine ⟨true, exm_NoEntry T, fun _ a _ => ?_, fun q => nomatch q⟩
      have xl := fun f => (rfl : (noE (.int n) (.int d)).lookup f = (noE (.int n) (.int d)).lookup f)
      refine ⟨_, rfl, rfl, _, rfl, iteT ?_⟩
      refine ⟨_, rfl, rfl, rfl, x, _, _, rfl, hx, rfl, _, rfl, rfl, rfl, x, _, _, rfl, hx, rfl, (by show 2 ≤ sizeLine; decide), fun q hq => ?_⟩
      have sq := Same.new (o := .tup [V.int d, .int n]) hq
      refine ⟨_, rfl, eqP_same (d := .tuple [.int d, .int n]) (.tup (SqT.of upd_same) (.cons (.int _) (.cons (.int _) .nil))) (.tup (SqT.of (sq _ _ (sm _ _ ht))) (.cons (.int _) (.cons (.int _) .nil))) rfl (Nat.le_of_ble_eq_true rfl) ⟨_, rfl, iteT ?_⟩⟩
      exact ⟨_, rfl, A.NoEntry, x, _, _, _, _, rfl, rfl, sq _ _ hx, excC_NoEntry T, rfl, fun _ r => r, T.xc_NoEntry, k _ (sm.trans sq)⟩
end

/-! ### lists as data -/
theorem depthAll_le {k : Nat} : ∀ {xs : List PyData}, (∀ x ∈ xs, x.depth ≤ k) → PyData.depthAll xs ≤ k
  | [], _ => by unfold PyData.depthAll; exact Nat.zero_le _
  | x :: xs, h => by
    unfold PyData.depthAll
    exact Nat.max_le.mpr ⟨h x List.mem_cons_self, depthAll_le fun y hy => h y (List.mem_cons_of_mem _ hy)⟩
theorem depth_list {k : Nat} {xs : List PyData} (h : ∀ x ∈ xs, x.depth ≤ k) : (PyData.list xs).depth ≤ k + 1 := by
  unfold PyData.depth
  exact Nat.succ_le_succ (depthAll_le h)
theorem plainAll_of : ∀ {xs : List PyData}, (∀ x ∈ xs, x.plain = true) → PyData.plainAll xs = true
  | [], _ => rfl
  | x :: xs, h => by
    unfold PyData.plainAll
    rw [h x List.mem_cons_self, plainAll_of fun y hy => h y (List.mem_cons_of_mem _ hy)]
    rfl
theorem dpAll_of {K : PySem.W.Frag} {H : Hp} {α : Type} {f : α → V} {g : α → PyData} : ∀ {l : List α}, (∀ x ∈ l, Dp K H (f x) (g x)) → DpAll K H (l.map f) (l.map g)
  | [], _ => .nil
  | x :: l, h => .cons (h x List.mem_cons_self) (dpAll_of fun y hy => h y (List.mem_cons_of_mem _ hy))
/-- a list whose items are data -/
structure DL (K : PySem.W.Frag) (H : Hp) (v : V) (d : PyData) (k : Nat) : Prop where
  dp : Dp K H v d
  pl : d.plain = true
  de : d.depth ≤ k
theorem dl_strs {K : PySem.W.Frag} {H : Hp} {p : Addr} {ns : List Str} (h : H p = some (.lst (ns.map V.str))) : DL K H (.ref p) (.list (ns.map PyData.str)) 1 :=
  ⟨.lst (SqL.of h) (dpAll_of fun x _ => .str x), by unfold PyData.plain; exact plainAll_of fun x hx => by obtain ⟨y, _, rfl⟩ := List.mem_map.mp hx; rfl, depth_list fun x hx => by obtain ⟨y, _, rfl⟩ := List.mem_map.mp hx; exact Nat.le_refl _⟩
def pairD (p : Int × Int) : PyData := .tuple [.int p.1, .int p.2]
theorem dpAll_pairs {K : PySem.W.Frag} {H : Hp} : ∀ {bs : List Addr} {ps : List (Int × Int)}, All2 (fun b q => H b = some (.tup [.int q.1, .int q.2])) bs ps → DpAll K H (bs.map V.ref) (ps.map pairD)
  | [], [], _ => .nil
  | [], _ :: _, h => by cases h.1
  | _ :: _, [], h => by cases h.1
  | b :: bs, p :: ps, h => .cons (.tup (SqT.of (h.2 0 b p rfl rfl)) (.cons (.int _) (.cons (.int _) .nil))) (dpAll_pairs ⟨by have := h.1; simpa using this, fun i x y hx hy => h.2 (i + 1) x y hx hy⟩)
theorem dl_pairs {K : PySem.W.Frag} {H : Hp} {p : Addr} {bs : List Addr} {ps : List (Int × Int)} (h : H p = some (.lst (bs.map V.ref))) (h2 : All2 (fun b q => H b = some (.tup [.int q.1, .int q.2])) bs ps) : DL K H (.ref p) (.list (ps.map pairD)) 2 :=
  ⟨.lst (SqL.of h) (dpAll_pairs h2), by unfold PyData.plain; exact plainAll_of fun x hx => by obtain ⟨y, _, rfl⟩ := List.mem_map.mp hx; rfl, depth_list fun x hx => by obtain ⟨y, _, rfl⟩ := List.mem_map.mp hx; exact Nat.le_of_ble_eq_true rfl⟩
theorem dl_list3 {K : PySem.W.Frag} {H : Hp} {p : Addr} {a b c : V} {da db dc : PyData} {k : Nat} (h : H p = some (.lst [a, b, c])) (ha : DL K H a da k) (hb : DL K H b db k) (hc : DL K H c dc k) : DL K H (.ref p) (.list [da, db, dc]) (k + 1) :=
  ⟨.lst (SqL.of h) (.cons ha.dp (.cons hb.dp (.cons hc.dp .nil))), by unfold PyData.plain PyData.plainAll PyData.plainAll PyData.plainAll PyData.plainAll; rw [ha.pl, hb.pl, hc.pl]; rfl, depth_list fun x hx => by
    simp only [List.mem_cons, List.not_mem_nil, or_false] at hx
    rcases hx with rfl | rfl | rfl
    · exact ha.de
    · exact hb.de
    · exact hc.de⟩
theorem ne_dl {K : PySem.W.Frag} {H : Hp} {x y : V} {d : PyData} {k : Nat} {Q : VK} (hx : DL K H x d k) (hy : DL K H y d k) (hk : k ≤ 64) (h : Q (.bl false) H) : rNeP K x y H Q := neP_same hx.dp hy.dp hx.pl (Nat.le_trans hx.de hk) h
theorem eq_dl {K : PySem.W.Frag} {H : Hp} {x y : V} {d : PyData} {k : Nat} {Q : VK} (hx : DL K H x d k) (hy : DL K H y d k) (hk : k ≤ 64) (h : Q (.bl true) H) : rEqP K x y H Q := eqP_same hx.dp hy.dp hx.pl (Nat.le_trans hx.de hk) h
def pdV : V → PyData
  | .int i => .int i
  | .str z => .str z
  | _ => .none
theorem dl_pl {K : PySem.W.Frag} {H : Hp} {v : V} (h : Pl v) : DL K H v (pdV v) 0 := by
  cases h with
  | int i => exact ⟨.int i, rfl, Nat.le_refl _⟩
  | str z => exact ⟨.str z, rfl, Nat.le_refl _⟩
  | non => exact ⟨.non, rfl, Nat.le_refl _⟩
theorem dl_ent {K : PySem.W.Frag} {H : Hp} {p : Addr} {kd nm : Str} {x : V} (h : H p = some (.tup [.str kd, .str nm, x])) (hx : Pl x) : DL K H (.ref p) (.tuple [.str kd, .str nm, pdV x]) 1 := by
  have d := dl_pl (K := K) (H := H) hx
  refine ⟨.tup (SqT.of h) (.cons (.str _) (.cons (.str _) (.cons d.dp .nil))), ?_, ?_⟩
  · unfold PyData.plain PyData.plainAll PyData.plainAll PyData.plainAll PyData.plainAll
    rw [d.pl]
    rfl
  · unfold PyData.depth
    refine Nat.succ_le_succ (depthAll_le fun y hy => ?_)
    simp only [List.mem_cons, List.not_mem_nil, or_false] at hy
    rcases hy with rfl | rfl | rfl
    · exact Nat.le_refl _
    · exact Nat.le_refl _
    · exact d.de
theorem All2.keep {H H' : Hp} {bs : List Addr} {ps : List (Int × Int)} (h : All2 (fun b q => H b = some (.tup [.int q.1, .int q.2])) bs ps) (s : Same H H') : All2 (fun b q => H' b = some (.tup [.int q.1, .int q.2])) bs ps := h.mono fun _ _ z => s _ _ z

/-- the places asked for -/
def SpotsAt (H : Hp) (q : Addr) (sp : List (Addr × Int × Int)) : Prop := H q = some (.lst (sp.map fun s => V.ref s.1)) ∧ ∀ s ∈ sp, H s.1 = some (.tup [.int s.2.1, .int s.2.2])
def spRight (A : Ad) : Sp := fun vs H Q _ => ∃ b bd ld q es sp, vs = [.ref b, .ref ld, .ref q] ∧ BookAt A.Book H b bd es ∧ H ld = some (.dT (kvE es)) ∧ EntsAt H es ∧ (∀ t ∈ es, Pl t.x) ∧ es.length < 1000 ∧ SpotsAt H q sp ∧ ∀ H', Same H H' → Q (.bl true) H'
section
variable {P : Program} {w : World} {K : PySem.W.Frag} {mg : Str → Option Value} {base : Heap} {A : Ad}
theorem ok_l_book_right (T : Txt K mg A) : FnOk P w K mg base CX0 12 A.l_book_right A.fd_l_book_right P_l_book_right (spRight A) := by
  refine T.F_l_book_right.ok sc_l_book_right (fun vs H Q E h => ?_) (fun cdv Ar outer s H vs Q E hr h => ?_)
  · obtain ⟨b, bd, ld, q, es, sp, rfl, _⟩ := h
    rfl
  · obtain ⟨b, bd, ld, q, es, sp, rfl, B, hl, hE, hx, hz, S, k⟩ := h
    refine ⟨_, (pss_cons (ps_set (i := 3) sc_l_book_right.nd rfl (Or.inl rfl) (pe_lst (pa_cons (pe_meth0 (pv 0) T.cl_Book T.m_Book_lots (ok_m_Book_lots T) (hr.mono (by decide)) T.b_m_Book_lots .nil pass0) (pa_cons (pe_meth0 (pv 0) T.cl_Book T.m_Book_sales (ok_m_Book_sales T) (hr.mono (by decide)) T.b_m_Book_sales .nil pass0) (pa_cons (pe_meth0 (pv 0) T.cl_Book T.m_Book_late_costs (ok_m_Book_late_costs T) (hr.mono (by decide)) T.b_m_Book_late_costs .nil pass0) (pa_cons (pe_meth0 (pv 0) T.cl_Book T.m_Book_places (ok_m_Book_places T) (hr.mono (by decide)) T.b_m_Book_places .nil pass0) pa_nil))))))
      (pss_cons (ps_if (pt_cmpR (op_neP hr.units) (pe_slice sl_list (pv 3) po_none (po_some pe_int)) (pe_lst (pa_cons (pe_call (ok_l_named T) (hr.mono (by decide)) (by rfl) T.g__law_named T.F_l_named.kp T.b_l_named .nil pass0 (pa_cons (pv 1) (pa_cons pe_str pa_nil))) (pa_cons (pe_call (ok_l_named T) (hr.mono (by decide)) (by rfl) T.g__law_named T.F_l_named.kp T.b_l_named .nil pass0 (pa_cons (pv 1) (pa_cons pe_str pa_nil))) (pa_cons (pe_call (ok_l_named T) (hr.mono (by decide)) (by rfl) T.g__law_named T.F_l_named.kp T.b_l_named .nil pass0 (pa_cons (pv 1) (pa_cons pe_str pa_nil))) pa_nil)))) (nomark _)) (pss_one (ps_ret pe_bl)) pss_nil)
      (pss_cons (ps_if (PW.pt (pw_or (pt_cmpR op_ne (pe_callB (call_ownLen (own_len T) (ok_m_Book_len T) (hr.mono (by decide)) T.b_m_Book_len pass0) (by rfl) T.z_len (by decide +kernel) (pa_cons (pv 0) pa_nil)) (pe_callB (call_len_dT) (by rfl) T.z_len (by decide +kernel) (pa_cons (pv 1) pa_nil)) (nomark _)) (pw_or (pt_cmpR (op_neP hr.units) (pe_ix ix_list (pv 3) pe_int (fun _ _ => rfl)) (pe_callB (cr_sortedDT rfl) (by rfl) T.z_sorted (by decide +kernel) (pa_cons (pv 1) pa_nil)) (nomark _)) (pw_or1 (pt_cmpR (op_neP hr.units) (pe_meth0 (pv 0) T.cl_Book T.m_Book_places (ok_m_Book_places T) (hr.mono (by decide)) T.b_m_Book_places .nil pass0) (pe_ix ix_list (pv 3) pe_int (fun _ _ => rfl)) (nomark _)))))) (pss_one (ps_ret pe_bl)) pss_nil)
      (pss_cons (ps_g (ps_for PassesOwn.never rfl (pi_list (pv 3)) (pg_name (i := 4) sc_l_book_right.nd rfl (Or.inl rfl)) (pss_one (ps_expr (pe_bm0 PySem.F.plainAttrs_list PySem.F.slot_list_clear PySem.F.type_list_clear mt_clear (pv 4))))))
      (pss_cons (ps_g (ps_for PassesOwn.never rfl (pi_list (pv 2)) (pg_name (i := 5) sc_l_book_right.nd rfl (Or.inl rfl)) (pss_cons (ps_if (pt_cmpR op_ne (pe_cmpR (op_ownIn (own_in T) (ok_m_Book_contains T) (hr.mono (by decide)) T.b_m_Book_contains pass0) (pv 5) (pv 0) (by rfl)) (pe_cmp (pc_din (hu_of hr) (pv 5) (pv 1)) rfl) (nomark _)) (pss_one (ps_ret pe_bl)) pss_nil)
      (pss_one (ps_if (pt_cmp (pc_din (hu_of hr) (pv 5) (pv 1))) (pss_one (ps_if (pt_cmpR (op_neP hr.units) (pe_ownIx (E := fun _ => E0) (own_get T) T.fgi_Book (ok_m_Book_getitem T) (hr.mono (by decide)) T.b_m_Book_getitem (passAll passL) (pv 0) (pe_tup (pa_cons (pe_ix ix_tup (pv 5) pe_int (fun _ _ => rfl)) (pa_cons (pe_ix ix_tup (pv 5) pe_int (fun _ _ => rfl)) pa_nil)))) (pe_dget (hu_of hr) (pv 1) (pv 5) (fun _ _ => rfl)) (nomark _)) (pss_one (ps_ret pe_bl)) pss_nil)) (pss_one (ps_if (PW.pt (pw_or (pt_not (pt_val (pe_call (ok_l_missing T) (hr.mono (by decide)) (by rfl) T.g__law_missing T.F_l_missing.kp T.b_l_missing .nil pass0 (pa_cons (pv 0) (pa_cons (pv 5) (pa_cons (pe_glob (v := .ref A.l_looks) (by rfl) T.g__law_looks rfl) pa_nil)))))) (pw_or1 (pt_not (pt_val (pe_call (ok_l_missing T) (hr.mono (by decide)) (by rfl) T.g__law_missing T.F_l_missing.kp T.b_l_missing .nil pass0 (pa_cons (pv 0) (pa_cons (pv 5) (pa_cons (pe_glob (v := .ref A.l_takes_out) (by rfl) T.g__law_takes_out rfl) pa_nil))))))))) (pss_one (ps_ret pe_bl)) pss_nil)))))))
      (pss_one (ps_ret pe_bl))))))), ?_⟩
    obtain ⟨⟨dx, hb⟩, hd⟩ := id B
    refine ⟨_, rfl, b, dx, _, rfl, hb, rfl, b, bd, es, rfl, B, hE, hz, fun p1 H1 s1 n1 h1 => ?_⟩
    have B1 := B.same s1
    have E1 : EntsAt H1 es := hE.keep fun _ _ z => s1 _ _ z
    refine ⟨_, rfl, b, dx, _, rfl, s1 _ _ hb, rfl, b, bd, es, rfl, B1, E1, hz, fun p2 H2 s2 n2 h2 => ?_⟩
    have s12 := s1.trans s2
    refine ⟨_, rfl, b, dx, _, rfl, s12 _ _ hb, rfl, b, bd, es, rfl, B.same s12, hE.keep (fun _ _ z => s12 _ _ z), hz, fun p3 H3 s3 n3 h3 => ?_⟩
    have s13 := s12.trans s3
    refine ⟨_, rfl, b, dx, _, rfl, s13 _ _ hb, rfl, b, bd, es, rfl, B.same s13, fun bs p4 n4 a4 => ?_⟩
    have s4 := Same.new (o := .lst (bs.map V.ref)) n4
    have s14 := s13.trans s4
    refine ⟨(by show 4 ≤ sizeLine; decide), fun p5 n5 => ?_⟩
    have s5 := Same.new (o := .lst [V.ref p1, .ref p2, .ref p3, .ref p4]) n5
    have s15 := s14.trans s5
    have t1 := (s2.trans (s3.trans (s4.trans s5))) _ _ h1
    have t2 := (s3.trans (s4.trans s5)) _ _ h2
    have t3 := (s4.trans s5) _ _ h3
    have t4 := s5 _ _ (upd_same : upd H3 p4 (.lst (bs.map V.ref)) p4 = some (.lst (bs.map V.ref)))
    have t5 : upd (upd H3 p4 (.lst (bs.map V.ref))) p5 (.lst [V.ref p1, .ref p2, .ref p3, .ref p4]) p5 = some (.lst [V.ref p1, .ref p2, .ref p3, .ref p4]) := upd_same
    have a5 := a4.keep (s4.trans s5)
    have f4 : H p4 = none := Same.none s13 n4
    have f5 : H p5 = none := Same.none s14 n5
    have f2 : H p2 = none := Same.none s1 n2
    have f3 : H p3 = none := Same.none s12 n3
    have m15 : p1 ≠ p5 := ne_of_none ((s2.trans (s3.trans s4)) _ _ h1) n5
    have m25 : p2 ≠ p5 := ne_of_none ((s3.trans s4) _ _ h2) n5
    have m35 : p3 ≠ p5 := ne_of_none (s4 _ _ h3) n5
    have m45 : p4 ≠ p5 := ne_of_none upd_same n5
    generalize upd (upd H3 p4 (.lst (bs.map V.ref))) p5 (.lst [V.ref p1, .ref p2, .ref p3, .ref p4]) = H5 at s15 t1 t2 t3 t4 t5 a5 ⊢
    refine ⟨_, rfl, 3, rfl, p5, _, rfl, SqL.of t5, fun p6 n6 => ?_⟩
    have s6 := Same.new (o := .lst (cutV [V.ref p1, .ref p2, .ref p3, .ref p4] none (some 3))) n6
    have t6 : upd H5 p6 (.lst (cutV [V.ref p1, .ref p2, .ref p3, .ref p4] none (some 3))) p6 = some (.lst [V.ref p1, .ref p2, .ref p3]) := by rw [upd_same]; rfl
    generalize upd H5 p6 (.lst (cutV [V.ref p1, .ref p2, .ref p3, .ref p4] none (some 3))) = H6 at s6 t6 ⊢
    have s16 := s15.trans s6
    refine ⟨_, rfl, ld, es, _, rfl, s16 _ _ hl, hE.keep (fun _ _ z => s16 _ _ z), hz, fun q1 G1 v1 _ g1 => ?_⟩
    have s17 := s16.trans v1
    refine ⟨_, rfl, ld, es, _, rfl, s17 _ _ hl, hE.keep (fun _ _ z => s17 _ _ z), hz, fun q2 G2 v2 _ g2 => ?_⟩
    have s18 := s17.trans v2
    refine ⟨_, rfl, ld, es, _, rfl, s18 _ _ hl, hE.keep (fun _ _ z => s18 _ _ z), hz, fun q3 G3 v3 _ g3 => ?_⟩
    have s19 := s18.trans v3
    refine ⟨(by show 3 ≤ sizeLine; decide), fun q4 m4 => ?_⟩
    have v4 := Same.new (o := .lst [V.ref q1, .ref q2, .ref q3]) m4
    have w6 := v1.trans (v2.trans (v3.trans v4))
    have w5 := s6.trans w6
    have sA := s15.trans w5
    refine ne_dl (k := 2) (dl_list3 (w6 _ _ t6) (dl_strs (w5 _ _ t1)) (dl_strs (w5 _ _ t2)) (dl_strs (w5 _ _ t3))) (dl_list3 upd_same (dl_strs ((v2.trans (v3.trans v4)) _ _ g1)) (dl_strs ((v3.trans v4) _ _ g2)) (dl_strs (v4 _ _ g3))) (by decide) ⟨_, rfl, iteF ?_⟩
    generalize upd G3 q4 (.lst [V.ref q1, .ref q2, .ref q3]) = HA at v4 w6 w5 sA ⊢
    refine ⟨_, rfl, ⟨b, dx, _, rfl, sA _ _ hb, b, bd, es, rfl, B.same sA, _, rfl, by omega, by omega, ?_⟩⟩
    refine ⟨_, rfl, ld, _, rfl, sA _ _ hl, rfl, _, rfl, ?_⟩
    have el : (kvE es).length = es.length := by unfold kvE kvT; rw [List.length_map, List.length_map]
    rw [el]
    refine ifNT rfl ?_
    refine ⟨_, rfl, p5, _, _, _, rfl, rfl, SqL.of (w5 _ _ t5), rfl, _, rfl, ⟨ld, es.map fun t : En => (t.d, t.n, V.ref t.e), rfl, sA _ _ hl, fun cs ps p7 n7 a7 hperm hs => ?_⟩⟩
    rw [List.map_map] at hperm
    have ep := srtK_uniq (es := es) hperm hs
    subst ep
    have v7 := Same.new (o := .lst (cs.map V.ref)) n7
    have sB := sA.trans v7
    have w7 := w5.trans v7
    refine ne_dl (k := 2) (dl_pairs (w7 _ _ t4) (a5.keep w7)) (dl_pairs upd_same (a7.keep v7)) (by decide) ⟨_, rfl, iteF ?_⟩
    generalize upd HA p7 (.lst (cs.map V.ref)) = HB at v7 sB w7 ⊢
    refine ⟨_, rfl, b, dx, _, rfl, sB _ _ hb, rfl, b, bd, es, rfl, B.same sB, fun ds p8 n8 a8 => ?_⟩
    have v8 := Same.new (o := .lst (ds.map V.ref)) n8
    have sC := sB.trans v8
    have w8 := w7.trans v8
    refine ⟨_, rfl, p5, _, _, _, rfl, rfl, SqL.of (w8 _ _ t5), rfl, ne_dl (k := 2) (dl_pairs upd_same (a8.keep v8)) (dl_pairs (w8 _ _ t4) (a5.keep w8)) (by decide) ⟨_, rfl, iteF ?_⟩⟩
    generalize upd HB p8 (.lst (ds.map V.ref)) = HC at v8 sC w8 ⊢
    -- the told lists are emptied
    have tC : HC p5 = some (.lst [V.ref p1, .ref p2, .ref p3, .ref p4]) := w8 _ _ t5
    have lC : ∀ x ∈ [p1, p2, p3, p4], ∃ xs, HC x = some (.lst xs) := fun x hx => by
      simp only [List.mem_cons, List.not_mem_nil, or_false] at hx
      rcases hx with rfl | rfl | rfl | rfl
      · exact ⟨_, w8 _ _ t1⟩
      · exact ⟨_, w8 _ _ t2⟩
      · exact ⟨_, w8 _ _ t3⟩
      · exact ⟨_, w8 _ _ t4⟩
    have fC : ∀ x ∈ [p1, p2, p3, p4], H x = none ∧ x ≠ p5 := fun x hx => by
      simp only [List.mem_cons, List.not_mem_nil, or_false] at hx
      rcases hx with rfl | rfl | rfl | rfl
      · exact ⟨n1, m15⟩
      · exact ⟨f2, m25⟩
      · exact ⟨f3, m35⟩
      · exact ⟨f4, m45⟩
    refine ⟨⟨_, rfl, p5, rfl, ⟨_, SqL.of tC⟩, for_list (xs := [V.ref p1, .ref p2, .ref p3, .ref p4]) (fun i σ' H' => Wd (∃ o4 : Option V, σ' = [some (.ref b), some (.ref ld), some (.ref q), some (.ref p5), o4, none] ∧ Same H H' ∧ H' p5 = some (.lst [V.ref p1, .ref p2, .ref p3, .ref p4]) ∧ ∀ x ∈ [p1, p2, p3, p4], ∃ xs, H' x = some (.lst xs))) ⟨none, rfl, sC, tC, lC⟩ ?_ ?_ ?_⟩⟩
    · rintro i σ' H' _ ⟨o4, rfl, sD, tD, lD⟩
      exact SqL.of tD
    · rintro i x σ' H' hxi ⟨o4, rfl, sD, tD, lD⟩
      obtain ⟨y, hy, rfl⟩ : ∃ y ∈ [p1, p2, p3, p4], x = V.ref y := by
        have hm := List.mem_of_getElem? hxi
        simp only [List.mem_cons, List.not_mem_nil, or_false] at hm
        rcases hm with rfl | rfl | rfl | rfl
        · exact ⟨p1, by simp, rfl⟩
        · exact ⟨p2, by simp, rfl⟩
        · exact ⟨p3, by simp, rfl⟩
        · exact ⟨p4, by simp, rfl⟩
      obtain ⟨xs, hxs⟩ := lD y hy
      obtain ⟨fy, ny⟩ := fC y hy
      refine ⟨_, rfl, .inl ⟨rfl, _, SqL.of hxs⟩, y, xs, rfl, rfl, hxs, _, rfl, Same.at_new fy sD, ?_, fun z hz => ?_⟩
      · rw [upd_ne ny.symm]
        exact tD
      · by_cases e : z = y
        · exact ⟨[], by rw [e, upd_same]⟩
        · rw [upd_ne e]
          exact lD z hz
    · rintro σ' HD ⟨o4, rfl, sD, _, _⟩
      obtain ⟨Sq, Sm⟩ := S
      refine ⟨⟨_, rfl, q, rfl, ⟨_, SqL.of (sD _ _ Sq)⟩, for_list (xs := sp.map fun s => V.ref s.1) (fun i σ' H' => Wd (∃ o5 : Option V, σ' = [some (.ref b), some (.ref ld), some (.ref q), some (.ref p5), o4, o5] ∧ Same H H')) ⟨none, rfl, sD⟩ ?_ ?_ ?_⟩⟩
      · rintro i σ' H' _ ⟨o5, rfl, sE⟩
        exact SqL.of (sE _ _ Sq)
      · rintro i x σ' H' hxi ⟨o5, rfl, sE⟩
        rw [List.getElem?_map] at hxi
        obtain ⟨⟨t, d, n⟩, ht0, rfl⟩ := Option.map_eq_some_iff.mp hxi
        have ht : H' t = some (.tup [.int d, .int n]) := sE _ _ (Sm _ (List.mem_of_getElem? ht0))
        have hl' := sE _ _ hl
        have hb' := sE _ _ hb
        have B' := B.same sE
        refine ⟨_, rfl, _, rfl, ⟨b, dx, _, rfl, hb', b, bd, t, es, d, n, rfl, B', ht, _, rfl, ?_⟩⟩
        refine ⟨_, rfl, _, rfl, ld, _, rfl, DGet.t (k := keyE d n) hl' ht, rfl, _, rfl, ?_⟩
        rw [val_kvE, Option.isSome_map]
        refine ifNT rfl ?_
        refine ⟨_, rfl, _, rfl, ld, _, rfl, DGet.t (k := keyE d n) hl' ht, _, rfl, ?_⟩
        rw [val_kvE, Option.isSome_map]
        cases e : atE es d n with
        | some u =>
          obtain ⟨hu, _, _⟩ := atE_some e
          refine iteT ⟨_, rfl, _, rfl, t, _, _, _, rfl, rfl, SqT.of ht, rfl, _, rfl, t, _, _, _, rfl, rfl, SqT.of ht, rfl, (by show 2 ≤ sizeLine; decide), fun r hr' => ?_⟩
          have sr := Same.new (o := .tup [V.int d, .int n]) hr'
          have g := DGet.t (k := keyE d n) (sr _ _ hl') (sr _ _ ht)
          rw [val_kvE, e] at g
          have ent := dl_ent (K := K) (sr _ _ (sE _ _ (hE u hu))) (hx u hu)
          refine ⟨b, dx, _, rfl, sr _ _ hb', b, bd, r, es, d, n, rfl, B'.same sr, upd_same, (fun u' eu => ?_), fun z => by rw [e] at z; cases z⟩
          rw [e] at eu
          cases eu
          exact ⟨_, rfl, _, rfl, ld, V.ref u.e, rfl, g, ne_dl (k := 1) ent ent (by decide) ⟨_, rfl, iteF ⟨_, rfl, sE.trans sr⟩⟩⟩
        | none =>
          refine iteF ⟨_, rfl, _, rfl, b, bd, t, es, d, n, A.l_looks, rfl, .inl rfl, B', ht, e, fun G1 s1 => ⟨_, rfl, iteF ?_⟩⟩
          exact ⟨_, rfl, _, rfl, b, bd, t, es, d, n, A.l_takes_out, rfl, .inr rfl, B'.same s1, s1 _ _ ht, e, fun G2 s2 => ⟨_, rfl, iteF ⟨_, rfl, sE.trans (s1.trans s2)⟩⟩⟩
      · rintro σ' H' ⟨o5, rfl, sE⟩
        exact k H' sE
end

/-! ### the law -/
/-- what stands between two deeds -/
structure St31 (A : Ad) (H : Hp) (g l b bd ld q nq : Addr) (es : List En) (sp : List (Addr × Int × Int)) (ns : List (List Nat)) : Prop where
  B : BookAt A.Book H b bd es
  hl : H ld = some (.dT (kvE es))
  E : EntsAt H es
  x : ∀ t ∈ es, Pl t.x
  S : SpotsAt H q sp
  N : H nq = some (.lst (ns.map vS))
  bag : Bag H g l
  n1 : bd ≠ ld
  n2 : q ≠ g
  n3 : nq ≠ g
theorem St31.move {A : Ad} {H H' : Hp} {g l b bd ld q nq : Addr} {es : List En} {sp : List (Addr × Int × Int)} {ns : List (List Nat)} (h : St31 A H g l b bd ld q nq es sp ns) (bag : Bag H' g l) (k : Kp g H H') : St31 A H' g l b bd ld q nq es sp ns := by
  obtain ⟨xs, hg⟩ := h.bag.lst
  obtain ⟨⟨dx, hb⟩, hd⟩ := h.B
  refine ⟨⟨⟨dx, k _ _ hb (ne_of hb hg (by intro z; cases z))⟩, k _ _ hd (ne_of hd hg (by intro z; cases z))⟩, k _ _ h.hl (ne_of h.hl hg (by intro z; cases z)), fun t ht => k _ _ (h.E t ht) (ne_of (h.E t ht) hg (by intro z; cases z)), h.x, ⟨k _ _ h.S.1 h.n2, fun s hs => k _ _ (h.S.2 s hs) (ne_of (h.S.2 s hs) hg (by intro z; cases z))⟩, k _ _ h.N h.n3, bag, h.n1, h.n2, h.n3⟩
theorem St31.same {A : Ad} {H H' : Hp} {g l b bd ld q nq : Addr} {es : List En} {sp : List (Addr × Int × Int)} {ns : List (List Nat)} (h : St31 A H g l b bd ld q nq es sp ns) (s : Same H H') : St31 A H' g l b bd ld q nq es sp ns := h.move (h.bag.keep s) (Kp.same s)
/-- both dicts are written -/
theorem St31.put {A : Ad} {H : Hp} {g l b bd ld q nq : Addr} {es es' : List En} {sp : List (Addr × Int × Int)} {ns : List (List Nat)} (h : St31 A H g l b bd ld q nq es sp ns) (hE : EntsAt H es') (hx : ∀ t ∈ es', Pl t.x) :
    St31 A (upd (upd H bd (.dT (kvE es'))) ld (.dT (kvE es'))) g l b bd ld q nq es' sp ns := by
  obtain ⟨⟨dx, hb⟩, hd⟩ := h.B
  have k : ∀ c o, H c = some o → (∀ kvs, o ≠ .dT kvs) → upd (upd H bd (.dT (kvE es'))) ld (.dT (kvE es')) c = some o := fun c o e n => by
    have n1 : c ≠ ld := fun z => by rw [z, h.hl] at e; exact n _ (Option.some.inj e).symm
    have n2 : c ≠ bd := fun z => by rw [z, hd] at e; exact n _ (Option.some.inj e).symm
    rw [upd_ne n1, upd_ne n2]
    exact e
  refine ⟨⟨⟨dx, k _ _ hb (by intro _ z; cases z)⟩, by rw [upd_ne h.n1, upd_same]⟩, upd_same, fun t ht => k _ _ (hE t ht) (by intro _ z; cases z), hx, ⟨k _ _ h.S.1 (by intro _ z; cases z), fun s hs => k _ _ (h.S.2 s hs) (by intro _ z; cases z)⟩, k _ _ h.N (by intro _ z; cases z), ?_, h.n1, h.n2, h.n3⟩
  obtain ⟨i, r, s, c, xs, h1, h2, h3⟩ := h.bag.ex
  exact ⟨i, r, s, c, xs, k _ _ h1 (by intro _ z; cases z), k _ _ h2 (by intro _ z; cases z), h3⟩
theorem mem_putE {es : List En} {t u : En} (h : u ∈ putE es t) : u = t ∨ u ∈ es := by
  unfold putE at h
  split at h
  · obtain ⟨v, hv, e⟩ := List.mem_map.mp h
    split at e
    · exact .inl e.symm
    · exact .inr (e ▸ hv)
  · rcases List.mem_append.mp h with h | h
    · exact .inr h
    · exact .inl (List.mem_singleton.mp h)
theorem len_putE {es : List En} {t : En} : (putE es t).length ≤ es.length + 1 := by
  unfold putE
  split
  · rw [List.length_map]
    exact Nat.le_succ _
  · rw [List.length_append]
    exact Nat.le_refl _
theorem same_mk1' {H : Hp} {x dx C : Addr} (hx : H x = none) (hd : H dx = none) (n : dx ≠ x) : Same H (upd (upd H dx (.own x)) x (.ins C dx [])) := fun b o e => by
  rw [upd_ne (ne_of_none e hx), upd_ne (ne_of_none e hd)]
  exact e
def words4 : List (List Nat) := [[98, 117, 121], [115, 101, 108, 108], [98, 97, 99, 107], [108, 97, 116, 101]]
theorem words_ok : ∀ n ∈ words4, nameV (vS n) = true ∧ n.length ≤ 1000 := by
  intro n hn
  simp only [words4, List.mem_cons, List.not_mem_nil, or_false] at hn
  rcases hn with rfl | rfl | rfl | rfl <;> exact ⟨by decide +kernel, by decide⟩
section
variable {P : Program} {w : World} {K : PySem.W.Frag} {mg : Str → Option Value} {base : Heap} {A : Ad}
theorem ok_f_law (T : Txt K mg A) : FnOk P w K mg base CX0 16 A.f_law A.fd_f_law P_f_law (spLaw K) := by
  refine T.F_f_law.ok sc_f_law (fun vs H Q E h => ?_) (fun cdv Ar outer s H vs Q E hr h => ?_)
  · obtain ⟨a, ns, rfl, _⟩ := h
    rfl
  · obtain ⟨a, ns, rfl, hs, hl, k⟩ := h
    refine ⟨_, (pss_cons (ps_set (i := 1) sc_f_law.nd rfl (Or.inr rfl) (pe_call (ok_l_bag T) (hr.mono (by decide)) (by rfl) T.g__law_bag T.F_l_bag.kp T.b_l_bag .nil pass0 (pa_cons (pv 0) pa_nil)))
      (pss_cons (ps_set (i := 2) sc_f_law.nd rfl (Or.inl rfl) (pe_call (ok_l_names T) (hr.mono (by decide)) (by rfl) T.g__law_names T.F_l_names.kp T.b_l_names .nil pass0 (pa_cons (pv 1) (pa_cons (pe_op op_add pe_int (pe_call (ok_l_draw T) (hr.mono (by decide)) (by rfl) T.g__law_draw T.F_l_draw.kp T.b_l_draw .nil pass0 (pa_cons (pv 1) (pa_cons pe_int pa_nil)))) (pa_cons (pe_lst (pa_cons pe_str (pa_cons pe_str (pa_cons pe_str (pa_cons pe_str pa_nil))))) pa_nil)))))
      (pss_cons (ps_g (ps_setLcV (i := 3) (own := [("_law_k", 6)]) rfl sc_f_law.nd rfl rfl (sw_true rfl rfl rfl (by decide +kernel)) (pi_range1 rfl T.z_range (pa_cons (pe_op op_add pe_int (pe_call (ok_l_draw T) (hr.mono (by decide)) (by rfl) T.g__law_draw T.F_l_draw.kp T.b_l_draw .nil pass0 (pa_cons (pv 1) (pa_cons pe_int pa_nil)))) pa_nil)) (blkOk_by (own := [("_law_k", 6)]) (N := N_f_law) (sc := defScope s_f_law) (by decide +kernel)) (fun _ _ _ _ _ => (pg_name (i := 6) sc_f_law.nd rfl (Or.inl rfl))) (fun _ _ _ _ _ => pts_nil) (fun _ _ _ _ _ => (pe_call (ok_l_drawn_spot T) (hr.mono (by decide)) (by rfl) T.g__law_drawn_spot T.F_l_drawn_spot.kp T.b_l_drawn_spot .nil pass0 (pa_cons (pv 1) pa_nil))) (fun _ _ _ _ _ => rfl) (fun _ _ _ _ _ => rfl) (fun _ _ _ _ _ => rfl)))
      (pss_cons (ps_set (i := 4) sc_f_law.nd rfl (Or.inl rfl) (pe_make0 T.mk_Book (ok_m_Book_init T) (hr.mono (by decide)) (by rfl) T.g_Book T.b_m_Book_init .nil pass0))
      (pss_cons (ps_set (i := 5) sc_f_law.nd rfl (Or.inl rfl) (pe_dnewT))
      (pss_cons (ps_if (pt_not (pt_val (pe_call (ok_l_book_right T) (hr.mono (by decide)) (by rfl) T.g__law_book_right T.F_l_book_right.kp T.b_l_book_right .nil pass0 (pa_cons (pv 4) (pa_cons (pv 5) (pa_cons (pe_op op_cat (pv 3) (pe_lst (pa_cons (pe_tup (pa_cons (pe_un un_neg pe_int) (pa_cons pe_int pa_nil))) (pa_cons (pe_tup (pa_cons pe_int (pa_cons pe_int pa_nil))) pa_nil)))) pa_nil)))))) (pss_one (ps_ret pe_bl)) pss_nil)
      (pss_cons (ps_g (ps_for PassesOwn.never rfl (pi_range1 rfl T.z_range (pa_cons (pe_op op_add pe_int (pe_call (ok_l_draw T) (hr.mono (by decide)) (by rfl) T.g__law_draw T.F_l_draw.kp T.b_l_draw .nil pass0 (pa_cons (pv 1) (pa_cons pe_int pa_nil)))) pa_nil)) (pg_name (i := 6) sc_f_law.nd rfl (Or.inl rfl)) (pss_cons (ps_set (i := 7) sc_f_law.nd rfl (Or.inl rfl) (pe_call (ok_l_pick T) (hr.mono (by decide)) (by rfl) T.g__law_pick T.F_l_pick.kp T.b_l_pick .nil pass0 (pa_cons (pv 1) (pa_cons (pv 3) pa_nil))))
      (pss_g (Evl.pss_cut (ps_if (PW.pt (pw_and (pt_cmp (pc_din (hu_of hr) (pv 7) (pv 5))) (pw_and1 (pt_cmpR op_eq (pe_call (ok_l_draw T) (hr.mono (by decide)) (by rfl) T.g__law_draw T.F_l_draw.kp T.b_l_draw .nil pass0 (pa_cons (pv 1) (pa_cons pe_int pa_nil))) pe_int (nomark _))))) (pss_cons (ps_if (pt_cmpR op_notN (pe_meth (pv 4) T.cl_Book T.m_Book_remove (ok_m_Book_remove T) (hr.mono (by decide)) T.b_m_Book_remove .nil passL (pa_cons (pe_ix ix_tup (pv 7) pe_int (fun _ _ => rfl)) (pa_cons (pe_ix ix_tup (pv 7) pe_int (fun _ _ => rfl)) pa_nil))) pe_non (nomark _)) (pss_one (ps_ret pe_bl)) pss_nil)
      (pss_one (ps_expr (pe_bm PySem.F.plainAttrs_dict PySem.F.slot_dict_pop PySem.F.type_dict_pop (mt_popT1 (hu_of hr)) (pv 5) (pa_cons (pv 7) pa_nil))))) (pss_cons (ps_set (i := 8) sc_f_law.nd rfl (Or.inl rfl) (pe_call (ok_l_drawn_entry T) (hr.mono (by decide)) (by rfl) T.g__law_drawn_entry T.F_l_drawn_entry.kp T.b_l_drawn_entry .nil pass0 (pa_cons (pv 1) (pa_cons (pv 2) pa_nil))))
      (pss_cons (ps_ownSet (E := fun _ => E0) (own_set T) T.nsq_Book (ok_m_Book_setitem T) (hr.mono (by decide)) T.b_m_Book_setitem (passAll passL) (pv 4) (pe_tup (pa_cons (pe_ix ix_tup (pv 7) pe_int (fun _ _ => rfl)) (pa_cons (pe_ix ix_tup (pv 7) pe_int (fun _ _ => rfl)) pa_nil))) (pv 8) rfl)
      (pss_one (ps_dput (hu_of hr) (pv 5) (pv 7) (pv 8) rfl)))))
      (pss_one (ps_if (pt_not (pt_val (pe_call (ok_l_book_right T) (hr.mono (by decide)) (by rfl) T.g__law_book_right T.F_l_book_right.kp T.b_l_book_right .nil pass0 (pa_cons (pv 4) (pa_cons (pv 5) (pa_cons (pv 3) pa_nil)))))) (pss_one (ps_ret pe_bl)) pss_nil)))))))
      (pss_one (ps_ret (pe_call (ok_l_book_right T) (hr.mono (by decide)) (by rfl) T.g__law_book_right T.F_l_book_right.kp T.b_l_book_right .nil pass0 (pa_cons (pv 4) (pa_cons (pv 5) (pa_cons (pv 3) pa_nil))))))))))))), ?_⟩
    refine ⟨_, rfl, a, ns, rfl, hs, fun g l H1 s1 ng nl B1 => ?_⟩
    refine ⟨_, rfl, _, rfl, g, l, _, rfl, B1, by decide, by decide, fun c H2 c0 c1 B2 K2 => ⟨_, _, rfl, rfl, (by show 4 ≤ sizeLine; decide), fun wq hwq => ?_⟩⟩
    have B3 := B2.new (o := .lst [V.str "buy", .str "sell", .str "back", .str "late"]) hwq
    refine ⟨g, l, wq, 1 + c, words4, rfl, B3, (B2.ne hwq).1, by omega, by omega, upd_same, by decide, by decide, by decide, fun nq nm H4 nnq hnq hnl hnd hno B4 K4 => ?_⟩
    have NO : NamesOk nm := fun n hn => by
      rcases hno n hn with h | h
      · exact ⟨name_ok h, Nat.le_trans h.2.1 (by decide)⟩
      · exact words_ok n h
    have nnqg : nq ≠ g := fun e => by
      obtain ⟨xs, hg⟩ := B3.lst
      rw [e, hg] at nnq
      cases nnq
    refine ⟨⟨_, rfl, g, l, _, rfl, B4, by decide, by decide, fun c2 H5 e0 e1 B5 K5 => ⟨_, _, rfl, rfl, 2 + c2, rfl, by omega, by omega, fun D hD => ?_⟩⟩⟩
    have hnq5 := K5 _ _ hnq nnqg
    have nD := B5.ne hD
    refine lc_range (lo := 0) (n := (2 + c2).toNat) (fun i H' => Wd (∃ sp : List (Addr × Int × Int), sp.length = i ∧ SpotsAt H' D sp ∧ (∀ s ∈ sp, Spot s.2.1 s.2.2) ∧ Bag H' g l ∧ Kp g H5 H' ∧ ∀ s ∈ sp, s.1 ≠ D)) ⟨[], rfl, ⟨upd_same, fun s hs => (by cases hs)⟩, fun s hs => (by cases hs), B5.new hD, (Kp.refl g H5).new hD, fun s hs => (by cases hs)⟩ ?_ ?_
    · rintro i H6 hi ⟨sp, hsl, hS, hsp, B6, K6, hsD⟩
      refine ⟨rfl, _, rfl, g, l, rfl, B6, fun p d n H7 np hp hspot B7 K7 => ?_⟩
      have hD7 := K7 _ _ hS.1 nD.1
      have npD : p ≠ D := fun e => by rw [e, hS.1] at np; cases np
      refine ⟨_, hD7, ?_, sp ++ [(p, d, n)], by rw [List.length_append, hsl]; rfl, ⟨by rw [upd_same, List.map_append]; rfl, fun s hs => ?_⟩, fun s hs => ?_, B7.put nD, (K6.trans K7).put hD, fun s hs => ?_⟩
      · rw [List.length_map, hsl]
        exact Nat.lt_of_lt_of_le (by omega : i < 100) (by decide)
      · rcases List.mem_append.mp hs with hs | hs
        · have e := hS.2 s hs
          obtain ⟨xs, hg⟩ := B6.lst
          rw [upd_ne (hsD s hs)]
          exact K7 _ _ e (ne_of e hg (by intro z; cases z))
        · rw [List.mem_singleton] at hs
          subst hs
          rw [upd_ne npD]
          exact hp
      · rcases List.mem_append.mp hs with hs | hs
        · exact hsp s hs
        · rw [List.mem_singleton] at hs
          subst hs
          exact hspot
      · rcases List.mem_append.mp hs with hs | hs
        · exact hsD s hs
        · rw [List.mem_singleton] at hs
          subst hs
          exact npD
    · rintro H6 ⟨sp, hsl, hS, hsp, B6, K6, hsD⟩
      have hnq6 := K6 _ _ hnq5 nnqg
      refine fun b dx hb hdx ndx => ⟨b, dx, rfl, upd_same, fun bd hbd => ⟨rfl, ?_⟩⟩
      have u1 := same_mk1' (C := A.Book) hb hdx ndx
      have nbb : bd ≠ b := fun e => by rw [e, upd_same] at hbd; cases hbd
      have hbd6 : H6 bd = none := Same.none u1 hbd
      have S7 : Same H6 (upd (upd (upd (upd H6 dx (.own b)) b (.ins A.Book dx [])) bd (.dT [])) b (.ins A.Book dx [("entries", .ref bd)])) := Same.at_new hb (u1.trans (Same.new hbd))
      have b7 : (upd (upd (upd (upd H6 dx (.own b)) b (.ins A.Book dx [])) bd (.dT [])) b (.ins A.Book dx [("entries", .ref bd)])) b = some (.ins A.Book dx [("entries", .ref bd)]) := upd_same
      have d7 : (upd (upd (upd (upd H6 dx (.own b)) b (.ins A.Book dx [])) bd (.dT [])) b (.ins A.Book dx [("entries", .ref bd)])) bd = some (.dT []) := by rw [upd_ne nbb, upd_same]
      generalize upd (upd (upd (upd H6 dx (.own b)) b (.ins A.Book dx [])) bd (.dT [])) b (.ins A.Book dx [("entries", .ref bd)]) = H7 at S7 b7 d7 ⊢
      intro ld hld
      have S8 := Same.new (o := .dT []) hld
      have ndl : bd ≠ ld := ne_of_none d7 hld
      have st : St31 A (upd H7 ld (.dT [])) g l b bd ld D nq [] sp nm := ⟨⟨⟨dx, S8 _ _ b7⟩, S8 _ _ d7⟩, upd_same, fun t ht => (by cases ht), fun t ht => (by cases ht), ⟨(S7.trans S8) _ _ hS.1, fun s hs => (S7.trans S8) _ _ (hS.2 s hs)⟩, (S7.trans S8) _ _ hnq6, B6.keep (S7.trans S8), ndl, nD.1, nnqg⟩
      generalize upd H7 ld (.dT []) = H8 at st ⊢
      clear S7 S8 b7 d7 hld
      refine ⟨_, rfl, _, rfl, _, rfl, 1, rfl, (by show 2 ≤ sizeLine; decide), fun r1 hr1 => ⟨(by show 2 ≤ sizeLine; decide), fun r2 hr2 => ⟨(by show 2 ≤ sizeLine; decide), fun r3 hr3 => ?_⟩⟩⟩
      have v1 := Same.new (o := .tup [V.int (-1), .int 0]) hr1
      have v2 := Same.new (o := .tup [V.int 3, .int 1000001]) hr2
      have v3 := Same.new (o := .lst [V.ref r1, .ref r2]) hr3
      have v13 := v1.trans (v2.trans v3)
      refine ⟨D, r3, _, _, rfl, rfl, v13 _ _ st.S.1, upd_same, ?_, fun r4 hr4 => ?_⟩
      · rw [List.length_map, hsl]
        exact Nat.le_trans (by show (2 + c2).toNat + 2 ≤ 100; omega) (by decide)
      have v4 := Same.new (o := .lst ((sp.map fun s => V.ref s.1) ++ [V.ref r1, .ref r2])) hr4
      have st4 := (st.same v13).same v4
      refine ⟨b, bd, ld, r4, [], sp ++ [(r1, -1, 0), (r2, 3, 1000001)], rfl, st4.B, st4.hl, st4.E, st4.x, by decide, ⟨by rw [upd_same, List.map_append]; rfl, fun s hs => ?_⟩, fun H9 s9 => ⟨_, rfl, iteF ?_⟩⟩
      · rcases List.mem_append.mp hs with hs | hs
        · exact st4.S.2 s hs
        · simp only [List.mem_cons, List.not_mem_nil, or_false] at hs
          rcases hs with rfl | rfl
          · exact v4 _ _ (v3 _ _ (v2 _ _ upd_same))
          · exact v4 _ _ (v3 _ _ upd_same)
      have st9 := st4.same s9
      clear v1 v2 v3 v13 v4 st4 hr1 hr2 hr3 hr4
      refine ⟨⟨_, rfl, g, l, _, rfl, st9.bag, by decide, by decide, fun c3 Ha f0 f1 Ba Ka => ⟨_, _, rfl, rfl, 2 + c3, rfl, by omega, by omega, for_range (lo := 0) (n := (2 + c3).toNat) (fun i σ' H' => Wd (∃ (o6 o7 o8 : Option V) (es : List En), σ' = [some (.ref a), some (.ref g), some (.ref nq), some (.ref D), some (.ref b), some (.ref ld), o6, o7, o8] ∧ St31 A H' g l b bd ld D nq es sp nm ∧ es.length ≤ i)) ⟨none, none, none, [], rfl, st9.move Ba Ka, Nat.le_refl _⟩ ?_ ?_⟩⟩⟩
      · rintro i σ' Hb hi ⟨o6, o7, o8, es, rfl, stb, hel⟩
        refine ⟨_, rfl, _, rfl, g, l, D, _, rfl, stb.bag, nD.1, stb.S.1, by rw [List.length_map, hsl]; omega, by rw [List.length_map, hsl]; omega, fun v Hc hv Bc Kc => ?_⟩
        obtain ⟨⟨t, d, n⟩, hts, rfl⟩ := List.mem_map.mp hv
        have stc := stb.move Bc Kc
        have ht := stc.S.2 _ hts
        have hspot := hsp _ hts
        refine ⟨⟨fun σ' H' => Wd (∃ (o8 : Option V) (es' : List En), σ' = [some (.ref a), some (.ref g), some (.ref nq), some (.ref D), some (.ref b), some (.ref ld), some (.int (0 + (i : Int))), some (.ref t), o8] ∧ St31 A H' g l b bd ld D nq es' sp nm ∧ es'.length ≤ i + 1), ?_, ?_⟩⟩
        · have g1 := DGet.t (k := keyE d n) stc.hl ht
          rw [val_kvE] at g1
          refine ⟨_, rfl, _, rfl, ld, _, rfl, g1, _, rfl, ?_⟩
          rw [Option.isSome_map]
          cases e : atE es d n with
          | none =>
            refine iteF (iteF ?_)
            refine ⟨_, rfl, _, rfl, g, l, nq, nm, rfl, stc.bag, nnqg, stc.N, by omega, by omega, NO, fun p kd nmm x Hf hp hok hpl sn sx Bf Kf => ?_⟩
            have stf := stc.move Bf Kf
            have htf := stf.S.2 _ hts
            obtain ⟨⟨dx2, hbf⟩, hdf⟩ := stf.B
            refine ⟨_, rfl, _, rfl, _, rfl, t, _, _, _, rfl, rfl, SqT.of htf, rfl, _, rfl, t, _, _, _, rfl, rfl, SqT.of htf, rfl, (by show 2 ≤ sizeLine; decide), fun r hr' => ?_⟩
            have sr := Same.new (o := .tup [V.int d, .int n]) hr'
            refine ⟨b, dx2, _, rfl, sr _ _ hbf, b, bd, r, es, .int d, .int n, .ref p, true, rfl, stf.B.same sr, by omega, upd_same, .int _, .int _, .inl ⟨.str kd, .str nmm, x, ⟨p, rfl, sr _ _ hp, .str _, .str _, hpl, sn, sx⟩, hok.symm⟩, fun d' n' e1 e2 _ Hg sg => ?_, fun e => ?_⟩
            · obtain rfl := V.int.inj e1
              obtain rfl := V.int.inj e2
              have stg := stf.same (sr.trans sg)
              have htg := stg.S.2 _ hts
              have hzl : (kvE es).length < sizeLine := by
                unfold kvE kvT
                rw [List.length_map, List.length_map]
                exact Nat.lt_of_lt_of_le (by omega : es.length < 1000) (by decide)
              refine ⟨_, rfl, _, rfl, _, rfl, ld, _, rfl, DPut.t (k := keyE d n) (by rw [upd_ne stg.n1.symm]; exact stg.hl) (by rw [upd_ne (ne_of htg stg.B.2 (by intro z; cases z))]; exact htg) hzl, ?_⟩
              rw [put_kvE (es := es) (t := ⟨d, n, p, kd, nmm, x⟩)]
              refine ⟨_, putE es ⟨d, n, p, kd, nmm, x⟩, rfl, stg.put (fun u hu => ?_) (fun u hu => ?_), Nat.le_trans len_putE (by omega)⟩
              · rcases mem_putE hu with rfl | hu
                · exact (sr.trans sg) _ _ hp
                · exact stg.E u hu
              · rcases mem_putE hu with rfl | hu
                · exact hpl
                · exact stg.x u hu
            · have en : (numV 0 (.int d) && (numV 0 (.int n) && true)) = true := by
                show ((decide (0 ≤ d) && decide (d ≤ 1000000)) && ((decide (0 ≤ n) && decide (n ≤ 1000000)) && true)) = true
                rw [decide_eq_true hspot.1, decide_eq_true hspot.2.1, decide_eq_true hspot.2.2.1, decide_eq_true hspot.2.2.2]
                rfl
              rw [en] at e
              cases e
          | some u =>
            refine iteT ⟨_, rfl, g, l, _, rfl, stc.bag, by decide, by decide, fun c4 Hd h0 h1 Bd Kd => ⟨rfl, _, rfl, if_int (fun _ => ?_) (fun _ => ?_)⟩⟩
            · have std := stc.move Bd Kd
              have htd := std.S.2 _ hts
              obtain ⟨⟨dx2, hbd2⟩, hdd⟩ := std.B
              refine ⟨_, rfl, b, dx2, _, rfl, hbd2, rfl, _, rfl, t, _, _, _, rfl, rfl, SqT.of htd, rfl, _, rfl, t, _, _, _, rfl, rfl, SqT.of htd, rfl, ?_⟩
              refine ⟨b, bd, es, d, n, rfl, std.B, fun _ He se => ⟨rfl, _, rfl, ifNT rfl ?_⟩, fun z => by rw [e] at z; cases z⟩
              have ste := std.same se
              have hte := ste.S.2 _ hts
              have hle : upd He bd (.dT (kvE (dropE es d n))) ld = some (.dT (kvE es)) := by rw [upd_ne ste.n1.symm]; exact ste.hl
              refine ⟨_, rfl, .inr (.inr (.inl ⟨rfl, .inr ⟨_, hle⟩⟩)), _, rfl, ld, kvE es, keyE d n, t, V.ref u.e, rfl, rfl, hle, by rw [upd_ne (ne_of hte ste.B.2 (by intro z; cases z))]; exact hte, by rw [val_kvE, e]; rfl, ?_⟩
              rw [drop_kvE]
              have sub : ∀ v ∈ dropE es d n, v ∈ es := fun v hv => (List.mem_filter.mp hv).1
              exact ⟨_, dropE es d n, rfl, ste.put (fun v hv => ste.E v (sub v hv)) (fun v hv => ste.x v (sub v hv)), Nat.le_trans (List.length_filter_le _ _) (by omega)⟩
            · have std := stc.move Bd Kd
              refine ⟨_, rfl, _, rfl, g, l, nq, nm, rfl, std.bag, nnqg, std.N, by omega, by omega, NO, fun p kd nmm x Hf hp hok hpl sn sx Bf Kf => ?_⟩
              have stf := std.move Bf Kf
              have htf := stf.S.2 _ hts
              obtain ⟨⟨dx2, hbf⟩, hdf⟩ := stf.B
              refine ⟨_, rfl, _, rfl, _, rfl, t, _, _, _, rfl, rfl, SqT.of htf, rfl, _, rfl, t, _, _, _, rfl, rfl, SqT.of htf, rfl, (by show 2 ≤ sizeLine; decide), fun r hr' => ?_⟩
              have sr := Same.new (o := .tup [V.int d, .int n]) hr'
              refine ⟨b, dx2, _, rfl, sr _ _ hbf, b, bd, r, es, .int d, .int n, .ref p, true, rfl, stf.B.same sr, by omega, upd_same, .int _, .int _, .inl ⟨.str kd, .str nmm, x, ⟨p, rfl, sr _ _ hp, .str _, .str _, hpl, sn, sx⟩, hok.symm⟩, fun d' n' e1 e2 _ Hg sg => ?_, fun e => ?_⟩
              · obtain rfl := V.int.inj e1
                obtain rfl := V.int.inj e2
                have stg := stf.same (sr.trans sg)
                have htg := stg.S.2 _ hts
                have hzl : (kvE es).length < sizeLine := by
                  unfold kvE kvT
                  rw [List.length_map, List.length_map]
                  exact Nat.lt_of_lt_of_le (by omega : es.length < 1000) (by decide)
                refine ⟨_, rfl, _, rfl, _, rfl, ld, _, rfl, DPut.t (k := keyE d n) (by rw [upd_ne stg.n1.symm]; exact stg.hl) (by rw [upd_ne (ne_of htg stg.B.2 (by intro z; cases z))]; exact htg) hzl, ?_⟩
                rw [put_kvE (es := es) (t := ⟨d, n, p, kd, nmm, x⟩)]
                refine ⟨_, putE es ⟨d, n, p, kd, nmm, x⟩, rfl, stg.put (fun u hu => ?_) (fun u hu => ?_), Nat.le_trans len_putE (by omega)⟩
                · rcases mem_putE hu with rfl | hu
                  · exact (sr.trans sg) _ _ hp
                  · exact stg.E u hu
                · rcases mem_putE hu with rfl | hu
                  · exact hpl
                  · exact stg.x u hu
              · have en : (numV 0 (.int d) && (numV 0 (.int n) && true)) = true := by
                  show ((decide (0 ≤ d) && decide (d ≤ 1000000)) && ((decide (0 ≤ n) && decide (n ≤ 1000000)) && true)) = true
                  rw [decide_eq_true hspot.1, decide_eq_true hspot.2.1, decide_eq_true hspot.2.2.1, decide_eq_true hspot.2.2.2]
                  rfl
                rw [en] at e
                cases e
        · rintro σ' Hd ⟨o8, es', rfl, std, hed⟩
          exact ⟨_, rfl, _, rfl, _, rfl, b, bd, ld, D, es', sp, rfl, std.B, std.hl, std.E, std.x, by omega, std.S, fun He se => ⟨_, rfl, iteF ⟨_, _, _, es', rfl, std.same se, hed⟩⟩⟩
      · rintro σ' Hb ⟨o6, o7, o8, es, rfl, stb, hel⟩
        exact ⟨_, rfl, _, rfl, _, rfl, b, bd, ld, D, es, sp, rfl, stb.B, stb.hl, stb.E, stb.x, by omega, stb.S, fun He se => k He⟩
end

theorem all_mk {l : PySem.W.OpenLaw} {w : World} {K : PySem.W.Frag} {h : Heap} {mg : Str → Option Value} {fa a_CostError a_BadEntry a_NoEntry a_Book a_m_BadEntry_init a_m_NoEntry_init a_f_is_name a_f_is_number a_f_is_entry a_m_Book_init a_m_Book_iter a_m_Book_contains a_m_Book_len a_m_Book_getitem a_m_Book_setitem a_m_Book_remove a_m_Book_places a_m_Book_named a_m_Book_lots a_m_Book_sales a_m_Book_late_costs a_l_bag a_l_draw a_l_names a_l_pick a_l_drawn_entry a_l_drawn_spot a_l_named a_l_missing a_l_looks a_l_takes_out a_l_book_right a_f_law : Addr} (X : K.In h) (G : h.Ns mainGlobals mg) (hfa : mg "law" = some (.ref fa))
    {od_m_BadEntry_init : Option Addr} {an_m_BadEntry_init : Option Addr} {sl_m_BadEntry_init : Array (Option Value)} {oc_m_BadEntry_init : Value} {kV_m_BadEntry_init : Value} {dc_m_BadEntry_init : Value} {pm_m_BadEntry_init : Value} {cd_m_BadEntry_init : Value} {ct_m_BadEntry_init : Value} {od_m_NoEntry_init : Option Addr} {an_m_NoEntry_init : Option Addr} {sl_m_NoEntry_init : Array (Option Value)} {oc_m_NoEntry_init : Value} {kV_m_NoEntry_init : Value} {dc_m_NoEntry_init : Value} {pm_m_NoEntry_init : Value} {cd_m_NoEntry_init : Value} {ct_m_NoEntry_init : Value} {od_f_is_name : Option Addr} {an_f_is_name : Option Addr} {sl_f_is_name : Array (Option Value)} {oc_f_is_name : Value} {kV_f_is_name : Value} {dc_f_is_name : Value} {pm_f_is_name : Value} {cd_f_is_name : Value} {ct_f_is_name : Value} {od_f_is_number : Option Addr} {an_f_is_number : Option Addr} {sl_f_is_number : Array (Option Value)} {oc_f_is_number : Value} {kV_f_is_number : Value} {dc_f_is_number : Value} {pm_f_is_number : Value} {cd_f_is_number : Value} {ct_f_is_number : Value} {od_f_is_entry : Option Addr} {an_f_is_entry : Option Addr} {sl_f_is_entry : Array (Option Value)} {oc_f_is_entry : Value} {kV_f_is_entry : Value} {dc_f_is_entry : Value} {pm_f_is_entry : Value} {cd_f_is_entry : Value} {ct_f_is_entry : Value} {od_m_Book_init : Option Addr} {an_m_Book_init : Option Addr} {sl_m_Book_init : Array (Option Value)} {oc_m_Book_init : Value} {kV_m_Book_init : Value} {dc_m_Book_init : Value} {pm_m_Book_init : Value} {cd_m_Book_init : Value} {ct_m_Book_init : Value} {od_m_Book_iter : Option Addr} {an_m_Book_iter : Option Addr} {sl_m_Book_iter : Array (Option Value)} {oc_m_Book_iter : Value} {kV_m_Book_iter : Value} {dc_m_Book_iter : Value} {pm_m_Book_iter : Value} {cd_m_Book_iter : Value} {ct_m_Book_iter : Value} {od_m_Book_contains : Option Addr} {an_m_Book_contains : Option Addr} {sl_m_Book_contains : Array (Option Value)} {oc_m_Book_contains : Value} {kV_m_Book_contains : Value} {dc_m_Book_contains : Value} {pm_m_Book_contains : Value} {cd_m_Book_contains : Value} {ct_m_Book_contains : Value} {od_m_Book_len : Option Addr} {an_m_Book_len : Option Addr} {sl_m_Book_len : Array (Option Value)} {oc_m_Book_len : Value} {kV_m_Book_len : Value} {dc_m_Book_len : Value} {pm_m_Book_len : Value} {cd_m_Book_len : Value} {ct_m_Book_len : Value} {od_m_Book_getitem : Option Addr} {an_m_Book_getitem : Option Addr} {sl_m_Book_getitem : Array (Option Value)} {oc_m_Book_getitem : Value} {kV_m_Book_getitem : Value} {dc_m_Book_getitem : Value} {pm_m_Book_getitem : Value} {cd_m_Book_getitem : Value} {ct_m_Book_getitem : Value} {od_m_Book_setitem : Option Addr} {an_m_Book_setitem : Option Addr} {sl_m_Book_setitem : Array (Option Value)} {oc_m_Book_setitem : Value} {kV_m_Book_setitem : Value} {dc_m_Book_setitem : Value} {pm_m_Book_setitem : Value} {cd_m_Book_setitem : Value} {ct_m_Book_setitem : Value} {od_m_Book_remove : Option Addr} {an_m_Book_remove : Option Addr} {sl_m_Book_remove : Array (Option Value)} {oc_m_Book_remove : Value} {kV_m_Book_remove : Value} {dc_m_Book_remove : Value} {pm_m_Book_remove : Value} {cd_m_Book_remove : Value} {ct_m_Book_remove : Value} {od_m_Book_places : Option Addr} {an_m_Book_places : Option Addr} {sl_m_Book_places : Array (Option Value)} {oc_m_Book_places : Value} {kV_m_Book_places : Value} {dc_m_Book_places : Value} {pm_m_Book_places : Value} {cd_m_Book_places : Value} {ct_m_Book_places : Value} {od_m_Book_named : Option Addr} {an_m_Book_named : Option Addr} {sl_m_Book_named : Array (Option Value)} {oc_m_Book_named : Value} {kV_m_Book_named : Value} {dc_m_Book_named : Value} {pm_m_Book_named : Value} {cd_m_Book_named : Value} {ct_m_Book_named : Value} {od_m_Book_lots : Option Addr} {an_m_Book_lots : Option Addr} {sl_m_Book_lots : Array (Option Value)} {oc_m_Book_lots : Value} {kV_m_Book_lots : Value} {dc_m_Book_lots : Value} {pm_m_Book_lots : Value} {cd_m_Book_lots : Value} {ct_m_Book_lots : Value} {od_m_Book_sales : Option Addr} {an_m_Book_sales : Option Addr} {sl_m_Book_sales : Array (Option Value)} {oc_m_Book_sales : Value} {kV_m_Book_sales : Value} {dc_m_Book_sales : Value} {pm_m_Book_sales : Value} {cd_m_Book_sales : Value} {ct_m_Book_sales : Value} {od_m_Book_late_costs : Option Addr} {an_m_Book_late_costs : Option Addr} {sl_m_Book_late_costs : Array (Option Value)} {oc_m_Book_late_costs : Value} {kV_m_Book_late_costs : Value} {dc_m_Book_late_costs : Value} {pm_m_Book_late_costs : Value} {cd_m_Book_late_costs : Value} {ct_m_Book_late_costs : Value} {od_l_bag : Option Addr} {an_l_bag : Option Addr} {sl_l_bag : Array (Option Value)} {oc_l_bag : Value} {kV_l_bag : Value} {dc_l_bag : Value} {pm_l_bag : Value} {cd_l_bag : Value} {ct_l_bag : Value} {od_l_draw : Option Addr} {an_l_draw : Option Addr} {sl_l_draw : Array (Option Value)} {oc_l_draw : Value} {kV_l_draw : Value} {dc_l_draw : Value} {pm_l_draw : Value} {cd_l_draw : Value} {ct_l_draw : Value} {od_l_names : Option Addr} {an_l_names : Option Addr} {sl_l_names : Array (Option Value)} {oc_l_names : Value} {kV_l_names : Value} {dc_l_names : Value} {pm_l_names : Value} {cd_l_names : Value} {ct_l_names : Value} {od_l_pick : Option Addr} {an_l_pick : Option Addr} {sl_l_pick : Array (Option Value)} {oc_l_pick : Value} {kV_l_pick : Value} {dc_l_pick : Value} {pm_l_pick : Value} {cd_l_pick : Value} {ct_l_pick : Value} {od_l_drawn_entry : Option Addr} {an_l_drawn_entry : Option Addr} {sl_l_drawn_entry : Array (Option Value)} {oc_l_drawn_entry : Value} {kV_l_drawn_entry : Value} {dc_l_drawn_entry : Value} {pm_l_drawn_entry : Value} {cd_l_drawn_entry : Value} {ct_l_drawn_entry : Value} {od_l_drawn_spot : Option Addr} {an_l_drawn_spot : Option Addr} {sl_l_drawn_spot : Array (Option Value)} {oc_l_drawn_spot : Value} {kV_l_drawn_spot : Value} {dc_l_drawn_spot : Value} {pm_l_drawn_spot : Value} {cd_l_drawn_spot : Value} {ct_l_drawn_spot : Value} {od_l_named : Option Addr} {an_l_named : Option Addr} {sl_l_named : Array (Option Value)} {oc_l_named : Value} {kV_l_named : Value} {dc_l_named : Value} {pm_l_named : Value} {cd_l_named : Value} {ct_l_named : Value} {od_l_missing : Option Addr} {an_l_missing : Option Addr} {sl_l_missing : Array (Option Value)} {oc_l_missing : Value} {kV_l_missing : Value} {dc_l_missing : Value} {pm_l_missing : Value} {cd_l_missing : Value} {ct_l_missing : Value} {od_l_looks : Option Addr} {an_l_looks : Option Addr} {sl_l_looks : Array (Option Value)} {oc_l_looks : Value} {kV_l_looks : Value} {dc_l_looks : Value} {pm_l_looks : Value} {cd_l_looks : Value} {ct_l_looks : Value} {od_l_takes_out : Option Addr} {an_l_takes_out : Option Addr} {sl_l_takes_out : Array (Option Value)} {oc_l_takes_out : Value} {kV_l_takes_out : Value} {dc_l_takes_out : Value} {pm_l_takes_out : Value} {cd_l_takes_out : Value} {ct_l_takes_out : Value} {od_l_book_right : Option Addr} {an_l_book_right : Option Addr} {sl_l_book_right : Array (Option Value)} {oc_l_book_right : Value} {kV_l_book_right : Value} {dc_l_book_right : Value} {pm_l_book_right : Value} {cd_l_book_right : Value} {ct_l_book_right : Value} {od_f_law : Option Addr} {an_f_law : Option Addr} {sl_f_law : Array (Option Value)} {oc_f_law : Value} {kV_f_law : Value} {dc_f_law : Value} {pm_f_law : Value} {cd_f_law : Value} {ct_f_law : Value} {xnm_BadEntry : Str} {xq_BadEntry : Str} {xN_BadEntry : Addr} {xbs_BadEntry : List Value} {xbm_BadEntry : List Value} {xsn_BadEntry : List Str} {xsub_BadEntry : List Value} {xab_BadEntry : Bool} {xcol_BadEntry : Option Bool} {xdd_BadEntry : Option Addr} {xk0_BadEntry : Option Value} {xk1_BadEntry : Option Value} {xk2_BadEntry : Option Value} {xk3_BadEntry : Option Value} {xk5_BadEntry : Option Value} {xnm_NoEntry : Str} {xq_NoEntry : Str} {xN_NoEntry : Addr} {xbs_NoEntry : List Value} {xbm_NoEntry : List Value} {xsn_NoEntry : List Str} {xsub_NoEntry : List Value} {xab_NoEntry : Bool} {xcol_NoEntry : Option Bool} {xdd_NoEntry : Option Addr} {xk0_NoEntry : Option Value} {xk1_NoEntry : Option Value} {xk2_NoEntry : Option Value} {xk3_NoEntry : Option Value} {xk5_NoEntry : Option Value} {gt_LETTERS : Tok} {gt_LONGEST : Tok} {gt_MOST : Tok}
    (pz_TypeError : PySem.W.nsIn K mainGlobals "TypeError" = some none)
    (pz_abs : PySem.W.nsIn K mainGlobals "abs" = some none)
    (pz_all : PySem.W.nsIn K mainGlobals "all" = some none)
    (pz_bool : PySem.W.nsIn K mainGlobals "bool" = some none)
    (pz_int : PySem.W.nsIn K mainGlobals "int" = some none)
    (pz_isinstance : PySem.W.nsIn K mainGlobals "isinstance" = some none)
    (pz_len : PySem.W.nsIn K mainGlobals "len" = some none)
    (pz_list : PySem.W.nsIn K mainGlobals "list" = some none)
    (pz_range : PySem.W.nsIn K mainGlobals "range" = some none)
    (pz_sorted : PySem.W.nsIn K mainGlobals "sorted" = some none)
    (pz_str : PySem.W.nsIn K mainGlobals "str" = some none)
    (pz_tuple : PySem.W.nsIn K mainGlobals "tuple" = some none)
    (pg_CostError : PySem.W.nsIn K mainGlobals "CostError" = some (some (.ref a_CostError)))
    (pek_CostError : PySem.W.keepIn K (.ref a_CostError) = true)
    (peb_CostError : PySem.W.subIn K (.ref a_CostError) (.type "BaseException") = some true)
    (pet_CostError : PySem.W.typeIn K (.ref a_CostError) = some (.type "type"))
    (peh_CostError : PySem.W.hasDictIn K a_CostError = true)
    (peic_CostError : PySem.W.isClsIn K a_CostError = true)
    (pes_CostError : PySem.W.subIn K (.ref a_CostError) (.ref a_CostError) = some true)
    (pxg_CostError : PySem.W.findIn K (.ref a_CostError) "__getattribute__" = some (some (.builtin "BaseException.__getattribute__")))
    (pxk_CostError : PySem.W.findIn K (.ref a_CostError) "__getattr__" = some none)
    (pxa_CostError : PySem.W.findIn K (.ref a_CostError) "__class__" = some (some (.builtin "object.__class__")))
    (pxn_CostError : PySem.W.specialIn K (.builtin "object.__class__") "__get__" = some (some (.builtin "getset_descriptor.__get__")))
    (pxt_CostError : PySem.W.takesIn K (.builtin "object.__class__") = some true)
    (pxm_CostError : PySem.W.mroIn K a_CostError (.type "object") = some true)
    (prd_CostError : PySem.W.readsIn K a_CostError (.type "type") = true)
    (pcg_CostError : PySem.W.specialIn K (.ref a_CostError) "__getattribute__" = some (some (.builtin "type.__getattribute__")))
    (pvi_CostError : PySem.W.findCls K (.ref a_CostError) (.type "type") "__init__" = some (.val (.builtin "ValueError.__init__")))
    (pg_BadEntry : PySem.W.nsIn K mainGlobals "BadEntry" = some (some (.ref a_BadEntry)))
    (pek_BadEntry : PySem.W.keepIn K (.ref a_BadEntry) = true)
    (peb_BadEntry : PySem.W.subIn K (.ref a_BadEntry) (.type "BaseException") = some true)
    (pet_BadEntry : PySem.W.typeIn K (.ref a_BadEntry) = some (.type "type"))
    (peh_BadEntry : PySem.W.hasDictIn K a_BadEntry = true)
    (peic_BadEntry : PySem.W.isClsIn K a_BadEntry = true)
    (pes_BadEntry : PySem.W.subIn K (.ref a_BadEntry) (.ref a_BadEntry) = some true)
    (pxg_BadEntry : PySem.W.findIn K (.ref a_BadEntry) "__getattribute__" = some (some (.builtin "BaseException.__getattribute__")))
    (pxk_BadEntry : PySem.W.findIn K (.ref a_BadEntry) "__getattr__" = some none)
    (pxa_BadEntry : PySem.W.findIn K (.ref a_BadEntry) "__class__" = some (some (.builtin "object.__class__")))
    (pxn_BadEntry : PySem.W.specialIn K (.builtin "object.__class__") "__get__" = some (some (.builtin "getset_descriptor.__get__")))
    (pxt_BadEntry : PySem.W.takesIn K (.builtin "object.__class__") = some true)
    (pxm_BadEntry : PySem.W.mroIn K a_BadEntry (.type "object") = some true)
    (pn_BadEntry_day : PySem.W.findIn K (.ref a_BadEntry) "day" = some none)
    (pn_BadEntry_number : PySem.W.findIn K (.ref a_BadEntry) "number" = some none)
    (poi_BadEntry : PySem.W.findIn K (.ref a_BadEntry) "__init__" = some (some (.ref a_m_BadEntry_init)))
    (pot_BadEntry : PySem.W.typeIn K (.ref a_m_BadEntry_init) = some (.type "function"))
    (pol_BadEntry : K.lookup a_BadEntry = some (excClassObj xnm_BadEntry xq_BadEntry a_BadEntry xN_BadEntry xbs_BadEntry xbm_BadEntry true xsn_BadEntry xsub_BadEntry xab_BadEntry xcol_BadEntry xdd_BadEntry xk0_BadEntry xk1_BadEntry xk2_BadEntry xk3_BadEntry xk5_BadEntry "ValueError.__new__"))
    (pov_BadEntry : PySem.HandSPX.refsVE xbm_BadEntry = true)
    (posa_BadEntry : PySem.W.findIn K (.ref a_BadEntry) "__setattr__" = some (some (.builtin "object.__setattr__")))
    (pg_NoEntry : PySem.W.nsIn K mainGlobals "NoEntry" = some (some (.ref a_NoEntry)))
    (pek_NoEntry : PySem.W.keepIn K (.ref a_NoEntry) = true)
    (peb_NoEntry : PySem.W.subIn K (.ref a_NoEntry) (.type "BaseException") = some true)
    (pet_NoEntry : PySem.W.typeIn K (.ref a_NoEntry) = some (.type "type"))
    (peh_NoEntry : PySem.W.hasDictIn K a_NoEntry = true)
    (peic_NoEntry : PySem.W.isClsIn K a_NoEntry = true)
    (pes_NoEntry : PySem.W.subIn K (.ref a_NoEntry) (.ref a_NoEntry) = some true)
    (pxg_NoEntry : PySem.W.findIn K (.ref a_NoEntry) "__getattribute__" = some (some (.builtin "BaseException.__getattribute__")))
    (pxk_NoEntry : PySem.W.findIn K (.ref a_NoEntry) "__getattr__" = some none)
    (pxa_NoEntry : PySem.W.findIn K (.ref a_NoEntry) "__class__" = some (some (.builtin "object.__class__")))
    (pxn_NoEntry : PySem.W.specialIn K (.builtin "object.__class__") "__get__" = some (some (.builtin "getset_descriptor.__get__")))
    (pxt_NoEntry : PySem.W.takesIn K (.builtin "object.__class__") = some true)
    (pxm_NoEntry : PySem.W.mroIn K a_NoEntry (.type "object") = some true)
    (pxc_NoEntry : PySem.W.kitOne K (.ref a_NoEntry) (.ref a_CostError) = some true)
    (pn_NoEntry_day : PySem.W.findIn K (.ref a_NoEntry) "day" = some none)
    (pn_NoEntry_number : PySem.W.findIn K (.ref a_NoEntry) "number" = some none)
    (poi_NoEntry : PySem.W.findIn K (.ref a_NoEntry) "__init__" = some (some (.ref a_m_NoEntry_init)))
    (pot_NoEntry : PySem.W.typeIn K (.ref a_m_NoEntry_init) = some (.type "function"))
    (pol_NoEntry : K.lookup a_NoEntry = some (excClassObj xnm_NoEntry xq_NoEntry a_NoEntry xN_NoEntry xbs_NoEntry xbm_NoEntry true xsn_NoEntry xsub_NoEntry xab_NoEntry xcol_NoEntry xdd_NoEntry xk0_NoEntry xk1_NoEntry xk2_NoEntry xk3_NoEntry xk5_NoEntry "ValueError.__new__"))
    (pov_NoEntry : PySem.HandSPX.refsVE xbm_NoEntry = true)
    (posa_NoEntry : PySem.W.findIn K (.ref a_NoEntry) "__setattr__" = some (some (.builtin "object.__setattr__")))
    (pg_Book : PySem.W.nsIn K mainGlobals "Book" = some (some (.ref a_Book)))
    (ppg_Book : PySem.W.plainGet K a_Book Str.empty = true)
    (phd_Book : PySem.W.hasDictIn K a_Book = true)
    (ppo_Book : PySem.W.plainOver K a_Book = true)
    (psa_Book : PySem.W.findIn K (.ref a_Book) "__setattr__" = some (some (.builtin "object.__setattr__")))
    (pn_Book_entries : NoAttr K a_Book "entries")
    (pma_Book : PySem.W.makesIn K a_Book = true)
    (pmi_Book : PySem.W.findIn K (.ref a_Book) "__init__" = some (some (.ref a_m_Book_init)))
    (pmf_Book : PySem.W.isFn K (.ref a_m_Book_init) = true)
    (pmc_Book : PySem.W.keepIn K (.ref a_Book) = true)
    (pmt_m_Book_iter : PySem.W.findIn K (.ref a_Book) "__iter__" = some (some (.ref a_m_Book_iter)))
    (pmn_m_Book_iter : PySem.W.isFn K (.ref a_m_Book_iter) = true)
    (pmk_m_Book_iter : PySem.W.keepIn K (.ref a_m_Book_iter) = true)
    (pmt_m_Book_contains : PySem.W.findIn K (.ref a_Book) "__contains__" = some (some (.ref a_m_Book_contains)))
    (pmn_m_Book_contains : PySem.W.isFn K (.ref a_m_Book_contains) = true)
    (pmk_m_Book_contains : PySem.W.keepIn K (.ref a_m_Book_contains) = true)
    (pmt_m_Book_len : PySem.W.findIn K (.ref a_Book) "__len__" = some (some (.ref a_m_Book_len)))
    (pmn_m_Book_len : PySem.W.isFn K (.ref a_m_Book_len) = true)
    (pmk_m_Book_len : PySem.W.keepIn K (.ref a_m_Book_len) = true)
    (pmt_m_Book_getitem : PySem.W.findIn K (.ref a_Book) "__getitem__" = some (some (.ref a_m_Book_getitem)))
    (pmn_m_Book_getitem : PySem.W.isFn K (.ref a_m_Book_getitem) = true)
    (pmk_m_Book_getitem : PySem.W.keepIn K (.ref a_m_Book_getitem) = true)
    (pmt_m_Book_setitem : PySem.W.findIn K (.ref a_Book) "__setitem__" = some (some (.ref a_m_Book_setitem)))
    (pmn_m_Book_setitem : PySem.W.isFn K (.ref a_m_Book_setitem) = true)
    (pmk_m_Book_setitem : PySem.W.keepIn K (.ref a_m_Book_setitem) = true)
    (pmt_m_Book_remove : PySem.W.findIn K (.ref a_Book) "remove" = some (some (.ref a_m_Book_remove)))
    (pmn_m_Book_remove : PySem.W.isFn K (.ref a_m_Book_remove) = true)
    (pmk_m_Book_remove : PySem.W.keepIn K (.ref a_m_Book_remove) = true)
    (pmt_m_Book_places : PySem.W.findIn K (.ref a_Book) "places" = some (some (.ref a_m_Book_places)))
    (pmn_m_Book_places : PySem.W.isFn K (.ref a_m_Book_places) = true)
    (pmk_m_Book_places : PySem.W.keepIn K (.ref a_m_Book_places) = true)
    (pmt_m_Book_named : PySem.W.findIn K (.ref a_Book) "named" = some (some (.ref a_m_Book_named)))
    (pmn_m_Book_named : PySem.W.isFn K (.ref a_m_Book_named) = true)
    (pmk_m_Book_named : PySem.W.keepIn K (.ref a_m_Book_named) = true)
    (pmt_m_Book_lots : PySem.W.findIn K (.ref a_Book) "lots" = some (some (.ref a_m_Book_lots)))
    (pmn_m_Book_lots : PySem.W.isFn K (.ref a_m_Book_lots) = true)
    (pmk_m_Book_lots : PySem.W.keepIn K (.ref a_m_Book_lots) = true)
    (pmt_m_Book_sales : PySem.W.findIn K (.ref a_Book) "sales" = some (some (.ref a_m_Book_sales)))
    (pmn_m_Book_sales : PySem.W.isFn K (.ref a_m_Book_sales) = true)
    (pmk_m_Book_sales : PySem.W.keepIn K (.ref a_m_Book_sales) = true)
    (pmt_m_Book_late_costs : PySem.W.findIn K (.ref a_Book) "late_costs" = some (some (.ref a_m_Book_late_costs)))
    (pmn_m_Book_late_costs : PySem.W.isFn K (.ref a_m_Book_late_costs) = true)
    (pmk_m_Book_late_costs : PySem.W.keepIn K (.ref a_m_Book_late_costs) = true)
    (pfgi_Book : PySem.W.fnIn K a_m_Book_getitem = true)
    (pnsq_Book : PySem.W.noSeq K a_Book = true)
    (pg_LETTERS : PySem.W.nsIn K mainGlobals "LETTERS" = some (some (.str "abcdefghijklmnopqrstuvwxyz" gt_LETTERS)))
    (pg_LONGEST : PySem.W.nsIn K mainGlobals "LONGEST" = some (some (.int 12 gt_LONGEST)))
    (pg_MOST : PySem.W.nsIn K mainGlobals "MOST" = some (some (.int 1000000 gt_MOST)))
    (pe_m_BadEntry_init : PySem.W.findIn K (.ref a_BadEntry) "__init__" = some (some (.ref a_m_BadEntry_init)))
    (pl_m_BadEntry_init : K.lookup a_m_BadEntry_init = some ⟨oc_m_BadEntry_init, od_m_BadEntry_init, .func (PySem.W.fnOf "__init__" "BadEntry.__init__" (defArgs s_m_BadEntry_init) (defBody s_m_BadEntry_init) (defScope s_m_BadEntry_init) .none kV_m_BadEntry_init dc_m_BadEntry_init pm_m_BadEntry_init an_m_BadEntry_init cd_m_BadEntry_init ct_m_BadEntry_init), sl_m_BadEntry_init⟩)
    (pc_m_BadEntry_init : PySem.W.codeIn K cd_m_BadEntry_init "BadEntry.__init__" = true)
    (pq_m_BadEntry_init : PySem.W.keepIn K (.ref a_m_BadEntry_init) = true)
    (pe_m_NoEntry_init : PySem.W.findIn K (.ref a_NoEntry) "__init__" = some (some (.ref a_m_NoEntry_init)))
    (pl_m_NoEntry_init : K.lookup a_m_NoEntry_init = some ⟨oc_m_NoEntry_init, od_m_NoEntry_init, .func (PySem.W.fnOf "__init__" "NoEntry.__init__" (defArgs s_m_NoEntry_init) (defBody s_m_NoEntry_init) (defScope s_m_NoEntry_init) .none kV_m_NoEntry_init dc_m_NoEntry_init pm_m_NoEntry_init an_m_NoEntry_init cd_m_NoEntry_init ct_m_NoEntry_init), sl_m_NoEntry_init⟩)
    (pc_m_NoEntry_init : PySem.W.codeIn K cd_m_NoEntry_init "NoEntry.__init__" = true)
    (pq_m_NoEntry_init : PySem.W.keepIn K (.ref a_m_NoEntry_init) = true)
    (pa_f_is_name : PySem.W.nsIn K mainGlobals "is_name" = some (some (.ref a_f_is_name)))
    (pl_f_is_name : K.lookup a_f_is_name = some ⟨oc_f_is_name, od_f_is_name, .func (PySem.W.fnOf "is_name" "is_name" (defArgs s_f_is_name) (defBody s_f_is_name) (defScope s_f_is_name) .none kV_f_is_name dc_f_is_name pm_f_is_name an_f_is_name cd_f_is_name ct_f_is_name), sl_f_is_name⟩)
    (pc_f_is_name : PySem.W.codeIn K cd_f_is_name "is_name" = true)
    (pq_f_is_name : PySem.W.keepIn K (.ref a_f_is_name) = true)
    (pa_f_is_number : PySem.W.nsIn K mainGlobals "is_number" = some (some (.ref a_f_is_number)))
    (pl_f_is_number : K.lookup a_f_is_number = some ⟨oc_f_is_number, od_f_is_number, .func (PySem.W.fnOf "is_number" "is_number" (defArgs s_f_is_number) (defBody s_f_is_number) (defScope s_f_is_number) .none kV_f_is_number dc_f_is_number pm_f_is_number an_f_is_number cd_f_is_number ct_f_is_number), sl_f_is_number⟩)
    (pc_f_is_number : PySem.W.codeIn K cd_f_is_number "is_number" = true)
    (pq_f_is_number : PySem.W.keepIn K (.ref a_f_is_number) = true)
    (pa_f_is_entry : PySem.W.nsIn K mainGlobals "is_entry" = some (some (.ref a_f_is_entry)))
    (pl_f_is_entry : K.lookup a_f_is_entry = some ⟨oc_f_is_entry, od_f_is_entry, .func (PySem.W.fnOf "is_entry" "is_entry" (defArgs s_f_is_entry) (defBody s_f_is_entry) (defScope s_f_is_entry) .none kV_f_is_entry dc_f_is_entry pm_f_is_entry an_f_is_entry cd_f_is_entry ct_f_is_entry), sl_f_is_entry⟩)
    (pc_f_is_entry : PySem.W.codeIn K cd_f_is_entry "is_entry" = true)
    (pq_f_is_entry : PySem.W.keepIn K (.ref a_f_is_entry) = true)
    (pl_m_Book_init : K.lookup a_m_Book_init = some ⟨oc_m_Book_init, od_m_Book_init, .func (PySem.W.fnOf "__init__" "Book.__init__" (defArgs s_m_Book_init) (defBody s_m_Book_init) (defScope s_m_Book_init) .none kV_m_Book_init dc_m_Book_init pm_m_Book_init an_m_Book_init cd_m_Book_init ct_m_Book_init), sl_m_Book_init⟩)
    (pc_m_Book_init : PySem.W.codeIn K cd_m_Book_init "Book.__init__" = true)
    (pq_m_Book_init : PySem.W.keepIn K (.ref a_m_Book_init) = true)
    (pl_m_Book_iter : K.lookup a_m_Book_iter = some ⟨oc_m_Book_iter, od_m_Book_iter, .func (PySem.W.fnOf "__iter__" "Book.__iter__" (defArgs s_m_Book_iter) (defBody s_m_Book_iter) (defScope s_m_Book_iter) .none kV_m_Book_iter dc_m_Book_iter pm_m_Book_iter an_m_Book_iter cd_m_Book_iter ct_m_Book_iter), sl_m_Book_iter⟩)
    (pc_m_Book_iter : PySem.W.codeIn K cd_m_Book_iter "Book.__iter__" = true)
    (pq_m_Book_iter : PySem.W.keepIn K (.ref a_m_Book_iter) = true)
    (pl_m_Book_contains : K.lookup a_m_Book_contains = some ⟨oc_m_Book_contains, od_m_Book_contains, .func (PySem.W.fnOf "__contains__" "Book.__contains__" (defArgs s_m_Book_contains) (defBody s_m_Book_contains) (defScope s_m_Book_contains) .none kV_m_Book_contains dc_m_Book_contains pm_m_Book_contains an_m_Book_contains cd_m_Book_contains ct_m_Book_contains), sl_m_Book_contains⟩)
    (pc_m_Book_contains : PySem.W.codeIn K cd_m_Book_contains "Book.__contains__" = true)
    (pq_m_Book_contains : PySem.W.keepIn K (.ref a_m_Book_contains) = true)
    (pl_m_Book_len : K.lookup a_m_Book_len = some ⟨oc_m_Book_len, od_m_Book_len, .func (PySem.W.fnOf "__len__" "Book.__len__" (defArgs s_m_Book_len) (defBody s_m_Book_len) (defScope s_m_Book_len) .none kV_m_Book_len dc_m_Book_len pm_m_Book_len an_m_Book_len cd_m_Book_len ct_m_Book_len), sl_m_Book_len⟩)
    (pc_m_Book_len : PySem.W.codeIn K cd_m_Book_len "Book.__len__" = true)
    (pq_m_Book_len : PySem.W.keepIn K (.ref a_m_Book_len) = true)
    (pl_m_Book_getitem : K.lookup a_m_Book_getitem = some ⟨oc_m_Book_getitem, od_m_Book_getitem, .func (PySem.W.fnOf "__getitem__" "Book.__getitem__" (defArgs s_m_Book_getitem) (defBody s_m_Book_getitem) (defScope s_m_Book_getitem) .none kV_m_Book_getitem dc_m_Book_getitem pm_m_Book_getitem an_m_Book_getitem cd_m_Book_getitem ct_m_Book_getitem), sl_m_Book_getitem⟩)
    (pc_m_Book_getitem : PySem.W.codeIn K cd_m_Book_getitem "Book.__getitem__" = true)
    (pq_m_Book_getitem : PySem.W.keepIn K (.ref a_m_Book_getitem) = true)
    (pl_m_Book_setitem : K.lookup a_m_Book_setitem = some ⟨oc_m_Book_setitem, od_m_Book_setitem, .func (PySem.W.fnOf "__setitem__" "Book.__setitem__" (defArgs s_m_Book_setitem) (defBody s_m_Book_setitem) (defScope s_m_Book_setitem) .none kV_m_Book_setitem dc_m_Book_setitem pm_m_Book_setitem an_m_Book_setitem cd_m_Book_setitem ct_m_Book_setitem), sl_m_Book_setitem⟩)
    (pc_m_Book_setitem : PySem.W.codeIn K cd_m_Book_setitem "Book.__setitem__" = true)
    (pq_m_Book_setitem : PySem.W.keepIn K (.ref a_m_Book_setitem) = true)
    (pl_m_Book_remove : K.lookup a_m_Book_remove = some ⟨oc_m_Book_remove, od_m_Book_remove, .func (PySem.W.fnOf "remove" "Book.remove" (defArgs s_m_Book_remove) (defBody s_m_Book_remove) (defScope s_m_Book_remove) .none kV_m_Book_remove dc_m_Book_remove pm_m_Book_remove an_m_Book_remove cd_m_Book_remove ct_m_Book_remove), sl_m_Book_remove⟩)
    (pc_m_Book_remove : PySem.W.codeIn K cd_m_Book_remove "Book.remove" = true)
    (pq_m_Book_remove : PySem.W.keepIn K (.ref a_m_Book_remove) = true)
    (pl_m_Book_places : K.lookup a_m_Book_places = some ⟨oc_m_Book_places, od_m_Book_places, .func (PySem.W.fnOf "places" "Book.places" (defArgs s_m_Book_places) (defBody s_m_Book_places) (defScope s_m_Book_places) .none kV_m_Book_places dc_m_Book_places pm_m_Book_places an_m_Book_places cd_m_Book_places ct_m_Book_places), sl_m_Book_places⟩)
    (pc_m_Book_places : PySem.W.codeIn K cd_m_Book_places "Book.places" = true)
    (pq_m_Book_places : PySem.W.keepIn K (.ref a_m_Book_places) = true)
    (pl_m_Book_named : K.lookup a_m_Book_named = some ⟨oc_m_Book_named, od_m_Book_named, .func (PySem.W.fnOf "named" "Book.named" (defArgs s_m_Book_named) (defBody s_m_Book_named) (defScope s_m_Book_named) .none kV_m_Book_named dc_m_Book_named pm_m_Book_named an_m_Book_named cd_m_Book_named ct_m_Book_named), sl_m_Book_named⟩)
    (pc_m_Book_named : PySem.W.codeIn K cd_m_Book_named "Book.named" = true)
    (pq_m_Book_named : PySem.W.keepIn K (.ref a_m_Book_named) = true)
    (pl_m_Book_lots : K.lookup a_m_Book_lots = some ⟨oc_m_Book_lots, od_m_Book_lots, .func (PySem.W.fnOf "lots" "Book.lots" (defArgs s_m_Book_lots) (defBody s_m_Book_lots) (defScope s_m_Book_lots) .none kV_m_Book_lots dc_m_Book_lots pm_m_Book_lots an_m_Book_lots cd_m_Book_lots ct_m_Book_lots), sl_m_Book_lots⟩)
    (pc_m_Book_lots : PySem.W.codeIn K cd_m_Book_lots "Book.lots" = true)
    (pq_m_Book_lots : PySem.W.keepIn K (.ref a_m_Book_lots) = true)
    (pl_m_Book_sales : K.lookup a_m_Book_sales = some ⟨oc_m_Book_sales, od_m_Book_sales, .func (PySem.W.fnOf "sales" "Book.sales" (defArgs s_m_Book_sales) (defBody s_m_Book_sales) (defScope s_m_Book_sales) .none kV_m_Book_sales dc_m_Book_sales pm_m_Book_sales an_m_Book_sales cd_m_Book_sales ct_m_Book_sales), sl_m_Book_sales⟩)
    (pc_m_Book_sales : PySem.W.codeIn K cd_m_Book_sales "Book.sales" = true)
    (pq_m_Book_sales : PySem.W.keepIn K (.ref a_m_Book_sales) = true)
    (pl_m_Book_late_costs : K.lookup a_m_Book_late_costs = some ⟨oc_m_Book_late_costs, od_m_Book_late_costs, .func (PySem.W.fnOf "late_costs" "Book.late_costs" (defArgs s_m_Book_late_costs) (defBody s_m_Book_late_costs) (defScope s_m_Book_late_costs) .none kV_m_Book_late_costs dc_m_Book_late_costs pm_m_Book_late_costs an_m_Book_late_costs cd_m_Book_late_costs ct_m_Book_late_costs), sl_m_Book_late_costs⟩)
    (pc_m_Book_late_costs : PySem.W.codeIn K cd_m_Book_late_costs "Book.late_costs" = true)
    (pq_m_Book_late_costs : PySem.W.keepIn K (.ref a_m_Book_late_costs) = true)
    (pa_l_bag : PySem.W.nsIn K mainGlobals "_law_bag" = some (some (.ref a_l_bag)))
    (pl_l_bag : K.lookup a_l_bag = some ⟨oc_l_bag, od_l_bag, .func (PySem.W.fnOf "_law_bag" "_law_bag" (defArgs s_l_bag) (defBody s_l_bag) (defScope s_l_bag) .none kV_l_bag dc_l_bag pm_l_bag an_l_bag cd_l_bag ct_l_bag), sl_l_bag⟩)
    (pc_l_bag : PySem.W.codeIn K cd_l_bag "_law_bag" = true)
    (pq_l_bag : PySem.W.keepIn K (.ref a_l_bag) = true)
    (pa_l_draw : PySem.W.nsIn K mainGlobals "_law_draw" = some (some (.ref a_l_draw)))
    (pl_l_draw : K.lookup a_l_draw = some ⟨oc_l_draw, od_l_draw, .func (PySem.W.fnOf "_law_draw" "_law_draw" (defArgs s_l_draw) (defBody s_l_draw) (defScope s_l_draw) .none kV_l_draw dc_l_draw pm_l_draw an_l_draw cd_l_draw ct_l_draw), sl_l_draw⟩)
    (pc_l_draw : PySem.W.codeIn K cd_l_draw "_law_draw" = true)
    (pq_l_draw : PySem.W.keepIn K (.ref a_l_draw) = true)
    (pa_l_names : PySem.W.nsIn K mainGlobals "_law_names" = some (some (.ref a_l_names)))
    (pl_l_names : K.lookup a_l_names = some ⟨oc_l_names, od_l_names, .func (PySem.W.fnOf "_law_names" "_law_names" (defArgs s_l_names) (defBody s_l_names) (defScope s_l_names) .none kV_l_names dc_l_names pm_l_names an_l_names cd_l_names ct_l_names), sl_l_names⟩)
    (pc_l_names : PySem.W.codeIn K cd_l_names "_law_names" = true)
    (pq_l_names : PySem.W.keepIn K (.ref a_l_names) = true)
    (pa_l_pick : PySem.W.nsIn K mainGlobals "_law_pick" = some (some (.ref a_l_pick)))
    (pl_l_pick : K.lookup a_l_pick = some ⟨oc_l_pick, od_l_pick, .func (PySem.W.fnOf "_law_pick" "_law_pick" (defArgs s_l_pick) (defBody s_l_pick) (defScope s_l_pick) .none kV_l_pick dc_l_pick pm_l_pick an_l_pick cd_l_pick ct_l_pick), sl_l_pick⟩)
    (pc_l_pick : PySem.W.codeIn K cd_l_pick "_law_pick" = true)
    (pq_l_pick : PySem.W.keepIn K (.ref a_l_pick) = true)
    (pa_l_drawn_entry : PySem.W.nsIn K mainGlobals "_law_drawn_entry" = some (some (.ref a_l_drawn_entry)))
    (pl_l_drawn_entry : K.lookup a_l_drawn_entry = some ⟨oc_l_drawn_entry, od_l_drawn_entry, .func (PySem.W.fnOf "_law_drawn_entry" "_law_drawn_entry" (defArgs s_l_drawn_entry) (defBody s_l_drawn_entry) (defScope s_l_drawn_entry) .none kV_l_drawn_entry dc_l_drawn_entry pm_l_drawn_entry an_l_drawn_entry cd_l_drawn_entry ct_l_drawn_entry), sl_l_drawn_entry⟩)
    (pc_l_drawn_entry : PySem.W.codeIn K cd_l_drawn_entry "_law_drawn_entry" = true)
    (pq_l_drawn_entry : PySem.W.keepIn K (.ref a_l_drawn_entry) = true)
    (pa_l_drawn_spot : PySem.W.nsIn K mainGlobals "_law_drawn_spot" = some (some (.ref a_l_drawn_spot)))
    (pl_l_drawn_spot : K.lookup a_l_drawn_spot = some ⟨oc_l_drawn_spot, od_l_drawn_spot, .func (PySem.W.fnOf "_law_drawn_spot" "_law_drawn_spot" (defArgs s_l_drawn_spot) (defBody s_l_drawn_spot) (defScope s_l_drawn_spot) .none kV_l_drawn_spot dc_l_drawn_spot pm_l_drawn_spot an_l_drawn_spot cd_l_drawn_spot ct_l_drawn_spot), sl_l_drawn_spot⟩)
    (pc_l_drawn_spot : PySem.W.codeIn K cd_l_drawn_spot "_law_drawn_spot" = true)
    (pq_l_drawn_spot : PySem.W.keepIn K (.ref a_l_drawn_spot) = true)
    (pa_l_named : PySem.W.nsIn K mainGlobals "_law_named" = some (some (.ref a_l_named)))
    (pl_l_named : K.lookup a_l_named = some ⟨oc_l_named, od_l_named, .func (PySem.W.fnOf "_law_named" "_law_named" (defArgs s_l_named) (defBody s_l_named) (defScope s_l_named) .none kV_l_named dc_l_named pm_l_named an_l_named cd_l_named ct_l_named), sl_l_named⟩)
    (pc_l_named : PySem.W.codeIn K cd_l_named "_law_named" = true)
    (pq_l_named : PySem.W.keepIn K (.ref a_l_named) = true)
    (pa_l_missing : PySem.W.nsIn K mainGlobals "_law_missing" = some (some (.ref a_l_missing)))
    (pl_l_missing : K.lookup a_l_missing = some ⟨oc_l_missing, od_l_missing, .func (PySem.W.fnOf "_law_missing" "_law_missing" (defArgs s_l_missing) (defBody s_l_missing) (defScope s_l_missing) .none kV_l_missing dc_l_missing pm_l_missing an_l_missing cd_l_missing ct_l_missing), sl_l_missing⟩)
    (pc_l_missing : PySem.W.codeIn K cd_l_missing "_law_missing" = true)
    (pq_l_missing : PySem.W.keepIn K (.ref a_l_missing) = true)
    (pa_l_looks : PySem.W.nsIn K mainGlobals "_law_looks" = some (some (.ref a_l_looks)))
    (pl_l_looks : K.lookup a_l_looks = some ⟨oc_l_looks, od_l_looks, .func (PySem.W.fnOf "_law_looks" "_law_looks" (defArgs s_l_looks) (defBody s_l_looks) (defScope s_l_looks) .none kV_l_looks dc_l_looks pm_l_looks an_l_looks cd_l_looks ct_l_looks), sl_l_looks⟩)
    (pc_l_looks : PySem.W.codeIn K cd_l_looks "_law_looks" = true)
    (pq_l_looks : PySem.W.keepIn K (.ref a_l_looks) = true)
    (pa_l_takes_out : PySem.W.nsIn K mainGlobals "_law_takes_out" = some (some (.ref a_l_takes_out)))
    (pl_l_takes_out : K.lookup a_l_takes_out = some ⟨oc_l_takes_out, od_l_takes_out, .func (PySem.W.fnOf "_law_takes_out" "_law_takes_out" (defArgs s_l_takes_out) (defBody s_l_takes_out) (defScope s_l_takes_out) .none kV_l_takes_out dc_l_takes_out pm_l_takes_out an_l_takes_out cd_l_takes_out ct_l_takes_out), sl_l_takes_out⟩)
    (pc_l_takes_out : PySem.W.codeIn K cd_l_takes_out "_law_takes_out" = true)
    (pq_l_takes_out : PySem.W.keepIn K (.ref a_l_takes_out) = true)
    (pa_l_book_right : PySem.W.nsIn K mainGlobals "_law_book_right" = some (some (.ref a_l_book_right)))
    (pl_l_book_right : K.lookup a_l_book_right = some ⟨oc_l_book_right, od_l_book_right, .func (PySem.W.fnOf "_law_book_right" "_law_book_right" (defArgs s_l_book_right) (defBody s_l_book_right) (defScope s_l_book_right) .none kV_l_book_right dc_l_book_right pm_l_book_right an_l_book_right cd_l_book_right ct_l_book_right), sl_l_book_right⟩)
    (pc_l_book_right : PySem.W.codeIn K cd_l_book_right "_law_book_right" = true)
    (pq_l_book_right : PySem.W.keepIn K (.ref a_l_book_right) = true)
    (pa_f_law : PySem.W.nsIn K mainGlobals "law" = some (some (.ref a_f_law)))
    (pl_f_law : K.lookup a_f_law = some ⟨oc_f_law, od_f_law, .func (PySem.W.fnOf "law" "law" (defArgs s_f_law) (defBody s_f_law) (defScope s_f_law) .none kV_f_law dc_f_law pm_f_law an_f_law cd_f_law ct_f_law), sl_f_law⟩)
    (pc_f_law : PySem.W.codeIn K cd_f_law "law" = true)
    (pq_f_law : PySem.W.keepIn K (.ref a_f_law) = true) :
    ∃ fd : FuncData, (∀ (s : Shared) (v : Value), BindsTo s fd ⟨[v], []⟩ [("_law_script", v)]) ∧ ∀ base : Heap, K.In base → base.Ns mainGlobals mg → FnOk l.prog w K mg base CX0 16 fa fd P_f_law (spLaw K) := by
  have e := hfa.symm.trans (PySem.W.mg_of X G pa_f_law)
  cases e
  have F_m_BadEntry_init := fun_mk (st := s_m_BadEntry_init) pl_m_BadEntry_init pc_m_BadEntry_init pq_m_BadEntry_init
  have b_m_BadEntry_init := F_m_BadEntry_init.binds (ps := P_m_BadEntry_init) fun _ _ _ _ _ _ us hl => match us, hl with | [_, _, _], _ => rfl
  have F_m_NoEntry_init := fun_mk (st := s_m_NoEntry_init) pl_m_NoEntry_init pc_m_NoEntry_init pq_m_NoEntry_init
  have b_m_NoEntry_init := F_m_NoEntry_init.binds (ps := P_m_NoEntry_init) fun _ _ _ _ _ _ us hl => match us, hl with | [_, _, _], _ => rfl
  have F_f_is_name := fun_mk (st := s_f_is_name) pl_f_is_name pc_f_is_name pq_f_is_name
  have b_f_is_name := F_f_is_name.binds (ps := P_f_is_name) fun _ _ _ _ _ _ us hl => match us, hl with | [_], _ => rfl
  have F_f_is_number := fun_mk (st := s_f_is_number) pl_f_is_number pc_f_is_number pq_f_is_number
  have b_f_is_number := F_f_is_number.binds (ps := P_f_is_number) fun _ _ _ _ _ _ us hl => match us, hl with | [_, _], _ => rfl
  have F_f_is_entry := fun_mk (st := s_f_is_entry) pl_f_is_entry pc_f_is_entry pq_f_is_entry
  have b_f_is_entry := F_f_is_entry.binds (ps := P_f_is_entry) fun _ _ _ _ _ _ us hl => match us, hl with | [_], _ => rfl
  have F_m_Book_init := fun_mk (st := s_m_Book_init) pl_m_Book_init pc_m_Book_init pq_m_Book_init
  have b_m_Book_init := F_m_Book_init.binds (ps := P_m_Book_init) fun _ _ _ _ _ _ us hl => match us, hl with | [_], _ => rfl
  have F_m_Book_iter := fun_mk (st := s_m_Book_iter) pl_m_Book_iter pc_m_Book_iter pq_m_Book_iter
  have b_m_Book_iter := F_m_Book_iter.binds (ps := P_m_Book_iter) fun _ _ _ _ _ _ us hl => match us, hl with | [_], _ => rfl
  have F_m_Book_contains := fun_mk (st := s_m_Book_contains) pl_m_Book_contains pc_m_Book_contains pq_m_Book_contains
  have b_m_Book_contains := F_m_Book_contains.binds (ps := P_m_Book_contains) fun _ _ _ _ _ _ us hl => match us, hl with | [_, _], _ => rfl
  have F_m_Book_len := fun_mk (st := s_m_Book_len) pl_m_Book_len pc_m_Book_len pq_m_Book_len
  have b_m_Book_len := F_m_Book_len.binds (ps := P_m_Book_len) fun _ _ _ _ _ _ us hl => match us, hl with | [_], _ => rfl
  have F_m_Book_getitem := fun_mk (st := s_m_Book_getitem) pl_m_Book_getitem pc_m_Book_getitem pq_m_Book_getitem
  have b_m_Book_getitem := F_m_Book_getitem.binds (ps := P_m_Book_getitem) fun _ _ _ _ _ _ us hl => match us, hl with | [_, _], _ => rfl
  have F_m_Book_setitem := fun_mk (st := s_m_Book_setitem) pl_m_Book_setitem pc_m_Book_setitem pq_m_Book_setitem
  have b_m_Book_setitem := F_m_Book_setitem.binds (ps := P_m_Book_setitem) fun _ _ _ _ _ _ us hl => match us, hl with | [_, _, _], _ => rfl
  have F_m_Book_remove := fun_mk (st := s_m_Book_remove) pl_m_Book_remove pc_m_Book_remove pq_m_Book_remove
  have b_m_Book_remove := F_m_Book_remove.binds (ps := P_m_Book_remove) fun _ _ _ _ _ _ us hl => match us, hl with | [_, _, _], _ => rfl
  have F_m_Book_places := fun_mk (st := s_m_Book_places) pl_m_Book_places pc_m_Book_places pq_m_Book_places
  have b_m_Book_places := F_m_Book_places.binds (ps := P_m_Book_places) fun _ _ _ _ _ _ us hl => match us, hl with | [_], _ => rfl
  have F_m_Book_named := fun_mk (st := s_m_Book_named) pl_m_Book_named pc_m_Book_named pq_m_Book_named
  have b_m_Book_named := F_m_Book_named.binds (ps := P_m_Book_named) fun _ _ _ _ _ _ us hl => match us, hl with | [_, _], _ => rfl
  have F_m_Book_lots := fun_mk (st := s_m_Book_lots) pl_m_Book_lots pc_m_Book_lots pq_m_Book_lots
  have b_m_Book_lots := F_m_Book_lots.binds (ps := P_m_Book_lots) fun _ _ _ _ _ _ us hl => match us, hl with | [_], _ => rfl
  have F_m_Book_sales := fun_mk (st := s_m_Book_sales) pl_m_Book_sales pc_m_Book_sales pq_m_Book_sales
  have b_m_Book_sales := F_m_Book_sales.binds (ps := P_m_Book_sales) fun _ _ _ _ _ _ us hl => match us, hl with | [_], _ => rfl
  have F_m_Book_late_costs := fun_mk (st := s_m_Book_late_costs) pl_m_Book_late_costs pc_m_Book_late_costs pq_m_Book_late_costs
  have b_m_Book_late_costs := F_m_Book_late_costs.binds (ps := P_m_Book_late_costs) fun _ _ _ _ _ _ us hl => match us, hl with | [_], _ => rfl
  have F_l_bag := fun_mk (st := s_l_bag) pl_l_bag pc_l_bag pq_l_bag
  have b_l_bag := F_l_bag.binds (ps := P_l_bag) fun _ _ _ _ _ _ us hl => match us, hl with | [_], _ => rfl
  have F_l_draw := fun_mk (st := s_l_draw) pl_l_draw pc_l_draw pq_l_draw
  have b_l_draw := F_l_draw.binds (ps := P_l_draw) fun _ _ _ _ _ _ us hl => match us, hl with | [_, _], _ => rfl
  have F_l_names := fun_mk (st := s_l_names) pl_l_names pc_l_names pq_l_names
  have b_l_names := F_l_names.binds (ps := P_l_names) fun _ _ _ _ _ _ us hl => match us, hl with | [_, _, _], _ => rfl
  have F_l_pick := fun_mk (st := s_l_pick) pl_l_pick pc_l_pick pq_l_pick
  have b_l_pick := F_l_pick.binds (ps := P_l_pick) fun _ _ _ _ _ _ us hl => match us, hl with | [_, _], _ => rfl
  have F_l_drawn_entry := fun_mk (st := s_l_drawn_entry) pl_l_drawn_entry pc_l_drawn_entry pq_l_drawn_entry
  have b_l_drawn_entry := F_l_drawn_entry.binds (ps := P_l_drawn_entry) fun _ _ _ _ _ _ us hl => match us, hl with | [_, _], _ => rfl
  have F_l_drawn_spot := fun_mk (st := s_l_drawn_spot) pl_l_drawn_spot pc_l_drawn_spot pq_l_drawn_spot
  have b_l_drawn_spot := F_l_drawn_spot.binds (ps := P_l_drawn_spot) fun _ _ _ _ _ _ us hl => match us, hl with | [_], _ => rfl
  have F_l_named := fun_mk (st := s_l_named) pl_l_named pc_l_named pq_l_named
  have b_l_named := F_l_named.binds (ps := P_l_named) fun _ _ _ _ _ _ us hl => match us, hl with | [_, _], _ => rfl
  have F_l_missing := fun_mk (st := s_l_missing) pl_l_missing pc_l_missing pq_l_missing
  have b_l_missing := F_l_missing.binds (ps := P_l_missing) fun _ _ _ _ _ _ us hl => match us, hl with | [_, _, _], _ => rfl
  have F_l_looks := fun_mk (st := s_l_looks) pl_l_looks pc_l_looks pq_l_looks
  have b_l_looks := F_l_looks.binds (ps := P_l_looks) fun _ _ _ _ _ _ us hl => match us, hl with | [_, _], _ => rfl
  have F_l_takes_out := fun_mk (st := s_l_takes_out) pl_l_takes_out pc_l_takes_out pq_l_takes_out
  have b_l_takes_out := F_l_takes_out.binds (ps := P_l_takes_out) fun _ _ _ _ _ _ us hl => match us, hl with | [_, _], _ => rfl
  have F_l_book_right := fun_mk (st := s_l_book_right) pl_l_book_right pc_l_book_right pq_l_book_right
  have b_l_book_right := F_l_book_right.binds (ps := P_l_book_right) fun _ _ _ _ _ _ us hl => match us, hl with | [_, _, _], _ => rfl
  have F_f_law := fun_mk (st := s_f_law) pl_f_law pc_f_law pq_f_law
  have b_f_law := F_f_law.binds (ps := P_f_law) fun _ _ _ _ _ _ us hl => match us, hl with | [_], _ => rfl
  have T : Txt K mg ⟨a_CostError, a_BadEntry, a_NoEntry, a_Book, a_m_BadEntry_init, (PySem.W.fnOf "__init__" "BadEntry.__init__" (defArgs s_m_BadEntry_init) (defBody s_m_BadEntry_init) (defScope s_m_BadEntry_init) .none kV_m_BadEntry_init dc_m_BadEntry_init pm_m_BadEntry_init an_m_BadEntry_init cd_m_BadEntry_init ct_m_BadEntry_init), a_m_NoEntry_init, (PySem.W.fnOf "__init__" "NoEntry.__init__" (defArgs s_m_NoEntry_init) (defBody s_m_NoEntry_init) (defScope s_m_NoEntry_init) .none kV_m_NoEntry_init dc_m_NoEntry_init pm_m_NoEntry_init an_m_NoEntry_init cd_m_NoEntry_init ct_m_NoEntry_init), a_f_is_name, (PySem.W.fnOf "is_name" "is_name" (defArgs s_f_is_name) (defBody s_f_is_name) (defScope s_f_is_name) .none kV_f_is_name dc_f_is_name pm_f_is_name an_f_is_name cd_f_is_name ct_f_is_name), a_f_is_number, (PySem.W.fnOf "is_number" "is_number" (defArgs s_f_is_number) (defBody s_f_is_number) (defScope s_f_is_number) .none kV_f_is_number dc_f_is_number pm_f_is_number an_f_is_number cd_f_is_number ct_f_is_number), a_f_is_entry, (PySem.W.fnOf "is_entry" "is_entry" (defArgs s_f_is_entry) (defBody s_f_is_entry) (defScope s_f_is_entry) .none kV_f_is_entry dc_f_is_entry pm_f_is_entry an_f_is_entry cd_f_is_entry ct_f_is_entry), a_m_Book_init, (PySem.W.fnOf "__init__" "Book.__init__" (defArgs s_m_Book_init) (defBody s_m_Book_init) (defScope s_m_Book_init) .none kV_m_Book_init dc_m_Book_init pm_m_Book_init an_m_Book_init cd_m_Book_init ct_m_Book_init), a_m_Book_iter, (PySem.W.fnOf "__iter__" "Book.__iter__" (defArgs s_m_Book_iter) (defBody s_m_Book_iter) (defScope s_m_Book_iter) .none kV_m_Book_iter dc_m_Book_iter pm_m_Book_iter an_m_Book_iter cd_m_Book_iter ct_m_Book_iter), a_m_Book_contains, (PySem.W.fnOf "__contains__" "Book.__contains__" (defArgs s_m_Book_contains) (defBody s_m_Book_contains) (defScope s_m_Book_contains) .none kV_m_Book_contains dc_m_Book_contains pm_m_Book_contains an_m_Book_contains cd_m_Book_contains ct_m_Book_contains), a_m_Book_len, (PySem.W.fnOf "__len__" "Book.__len__" (defArgs s_m_Book_len) (defBody s_m_Book_len) (defScope s_m_Book_len) .none kV_m_Book_len dc_m_Book_len pm_m_Book_len an_m_Book_len cd_m_Book_len ct_m_Book_len), a_m_Book_getitem, (PySem.W.fnOf "__getitem__" "Book.__getitem__" (defArgs s_m_Book_getitem) (defBody s_m_Book_getitem) (defScope s_m_Book_getitem) .none kV_m_Book_getitem dc_m_Book_getitem pm_m_Book_getitem an_m_Book_getitem cd_m_Book_getitem ct_m_Book_getitem), a_m_Book_setitem, (PySem.W.fnOf "__setitem__" "Book.__setitem__" (defArgs s_m_Book_setitem) (defBody s_m_Book_setitem) (defScope s_m_Book_setitem) .none kV_m_Book_setitem dc_m_Book_setitem pm_m_Book_setitem an_m_Book_setitem cd_m_Book_setitem ct_m_Book_setitem), a_m_Book_remove, (PySem.W.fnOf "remove" "Book.remove" (defArgs s_m_Book_remove) (defBody s_m_Book_remove) (defScope s_m_Book_remove) .none kV_m_Book_remove dc_m_Book_remove pm_m_Book_remove an_m_Book_remove cd_m_Book_remove ct_m_Book_remove), a_m_Book_places, (PySem.W.fnOf "places" "Book.places" (defArgs s_m_Book_places) (defBody s_m_Book_places) (defScope s_m_Book_places) .none kV_m_Book_places dc_m_Book_places pm_m_Book_places an_m_Book_places cd_m_Book_places ct_m_Book_places), a_m_Book_named, (PySem.W.fnOf "named" "Book.named" (defArgs s_m_Book_named) (defBody s_m_Book_named) (defScope s_m_Book_named) .none kV_m_Book_named dc_m_Book_named pm_m_Book_named an_m_Book_named cd_m_Book_named ct_m_Book_named), a_m_Book_lots, (PySem.W.fnOf "lots" "Book.lots" (defArgs s_m_Book_lots) (defBody s_m_Book_lots) (defScope s_m_Book_lots) .none kV_m_Book_lots dc_m_Book_lots pm_m_Book_lots an_m_Book_lots cd_m_Book_lots ct_m_Book_lots), a_m_Book_sales, (PySem.W.fnOf "sales" "Book.sales" (defArgs s_m_Book_sales) (defBody s_m_Book_sales) (defScope s_m_Book_sales) .none kV_m_Book_sales dc_m_Book_sales pm_m_Book_sales an_m_Book_sales cd_m_Book_sales ct_m_Book_sales), a_m_Book_late_costs, (PySem.W.fnOf "late_costs" "Book.late_costs" (defArgs s_m_Book_late_costs) (defBody s_m_Book_late_costs) (defScope s_m_Book_late_costs) .none kV_m_Book_late_costs dc_m_Book_late_costs pm_m_Book_late_costs an_m_Book_late_costs cd_m_Book_late_costs ct_m_Book_late_costs), a_l_bag, (PySem.W.fnOf "_law_bag" "_law_bag" (defArgs s_l_bag) (defBody s_l_bag) (defScope s_l_bag) .none kV_l_bag dc_l_bag pm_l_bag an_l_bag cd_l_bag ct_l_bag), a_l_draw, (PySem.W.fnOf "_law_draw" "_law_draw" (defArgs s_l_draw) (defBody s_l_draw) (defScope s_l_draw) .none kV_l_draw dc_l_draw pm_l_draw an_l_draw cd_l_draw ct_l_draw), a_l_names, (PySem.W.fnOf "_law_names" "_law_names" (defArgs s_l_names) (defBody s_l_names) (defScope s_l_names) .none kV_l_names dc_l_names pm_l_names an_l_names cd_l_names ct_l_names), a_l_pick, (PySem.W.fnOf "_law_pick" "_law_pick" (defArgs s_l_pick) (defBody s_l_pick) (defScope s_l_pick) .none kV_l_pick dc_l_pick pm_l_pick an_l_pick cd_l_pick ct_l_pick), a_l_drawn_entry, (PySem.W.fnOf "_law_drawn_entry" "_law_drawn_entry" (defArgs s_l_drawn_entry) (defBody s_l_drawn_entry) (defScope s_l_drawn_entry) .none kV_l_drawn_entry dc_l_drawn_entry pm_l_drawn_entry an_l_drawn_entry cd_l_drawn_entry ct_l_drawn_entry), a_l_drawn_spot, (PySem.W.fnOf "_law_drawn_spot" "_law_drawn_spot" (defArgs s_l_drawn_spot) (defBody s_l_drawn_spot) (defScope s_l_drawn_spot) .none kV_l_drawn_spot dc_l_drawn_spot pm_l_drawn_spot an_l_drawn_spot cd_l_drawn_spot ct_l_drawn_spot), a_l_named, (PySem.W.fnOf "_law_named" "_law_named" (defArgs s_l_named) (defBody s_l_named) (defScope s_l_named) .none kV_l_named dc_l_named pm_l_named an_l_named cd_l_named ct_l_named), a_l_missing, (PySem.W.fnOf "_law_missing" "_law_missing" (defArgs s_l_missing) (defBody s_l_missing) (defScope s_l_missing) .none kV_l_missing dc_l_missing pm_l_missing an_l_missing cd_l_missing ct_l_missing), a_l_looks, (PySem.W.fnOf "_law_looks" "_law_looks" (defArgs s_l_looks) (defBody s_l_looks) (defScope s_l_looks) .none kV_l_looks dc_l_looks pm_l_looks an_l_looks cd_l_looks ct_l_looks), a_l_takes_out, (PySem.W.fnOf "_law_takes_out" "_law_takes_out" (defArgs s_l_takes_out) (defBody s_l_takes_out) (defScope s_l_takes_out) .none kV_l_takes_out dc_l_takes_out pm_l_takes_out an_l_takes_out cd_l_takes_out ct_l_takes_out), a_l_book_right, (PySem.W.fnOf "_law_book_right" "_law_book_right" (defArgs s_l_book_right) (defBody s_l_book_right) (defScope s_l_book_right) .none kV_l_book_right dc_l_book_right pm_l_book_right an_l_book_right cd_l_book_right ct_l_book_right), fa, (PySem.W.fnOf "law" "law" (defArgs s_f_law) (defBody s_f_law) (defScope s_f_law) .none kV_f_law dc_f_law pm_f_law an_f_law cd_f_law ct_f_law)⟩ := {
    z_TypeError := PySem.W.mg_none_of X G pz_TypeError,
    z_abs := PySem.W.mg_none_of X G pz_abs,
    z_all := PySem.W.mg_none_of X G pz_all,
    z_bool := PySem.W.mg_none_of X G pz_bool,
    z_int := PySem.W.mg_none_of X G pz_int,
    z_isinstance := PySem.W.mg_none_of X G pz_isinstance,
    z_len := PySem.W.mg_none_of X G pz_len,
    z_list := PySem.W.mg_none_of X G pz_list,
    z_range := PySem.W.mg_none_of X G pz_range,
    z_sorted := PySem.W.mg_none_of X G pz_sorted,
    z_str := PySem.W.mg_none_of X G pz_str,
    z_tuple := PySem.W.mg_none_of X G pz_tuple,
    g_CostError := PySem.W.mg_of X G pg_CostError,
    ek_CostError := pek_CostError,
    eb_CostError := peb_CostError,
    et_CostError := pet_CostError,
    eh_CostError := peh_CostError,
    eic_CostError := peic_CostError,
    es_CostError := pes_CostError,
    xg_CostError := pxg_CostError,
    xk_CostError := pxk_CostError,
    xa_CostError := pxa_CostError,
    xn_CostError := pxn_CostError,
    xt_CostError := pxt_CostError,
    xm_CostError := pxm_CostError,
    rd_CostError := prd_CostError,
    cg_CostError := pcg_CostError,
    vi_CostError := pvi_CostError,
    g_BadEntry := PySem.W.mg_of X G pg_BadEntry,
    ek_BadEntry := pek_BadEntry,
    eb_BadEntry := peb_BadEntry,
    et_BadEntry := pet_BadEntry,
    eh_BadEntry := peh_BadEntry,
    eic_BadEntry := peic_BadEntry,
    es_BadEntry := pes_BadEntry,
    xg_BadEntry := pxg_BadEntry,
    xk_BadEntry := pxk_BadEntry,
    xa_BadEntry := pxa_BadEntry,
    xn_BadEntry := pxn_BadEntry,
    xt_BadEntry := pxt_BadEntry,
    xm_BadEntry := pxm_BadEntry,
    n_BadEntry_day := pn_BadEntry_day,
    n_BadEntry_number := pn_BadEntry_number,
    oi_BadEntry := poi_BadEntry,
    ot_BadEntry := pot_BadEntry,
    ox_BadEntry := ⟨⟨_, _, _, _, _, _, _, _, _, _, _, _, _, _, _, pol_BadEntry, pov_BadEntry⟩, posa_BadEntry, peb_BadEntry, pet_BadEntry, pek_BadEntry⟩,
    g_NoEntry := PySem.W.mg_of X G pg_NoEntry,
    ek_NoEntry := pek_NoEntry,
    eb_NoEntry := peb_NoEntry,
    et_NoEntry := pet_NoEntry,
    eh_NoEntry := peh_NoEntry,
    eic_NoEntry := peic_NoEntry,
    es_NoEntry := pes_NoEntry,
    xg_NoEntry := pxg_NoEntry,
    xk_NoEntry := pxk_NoEntry,
    xa_NoEntry := pxa_NoEntry,
    xn_NoEntry := pxn_NoEntry,
    xt_NoEntry := pxt_NoEntry,
    xm_NoEntry := pxm_NoEntry,
    xc_NoEntry := pxc_NoEntry,
    n_NoEntry_day := pn_NoEntry_day,
    n_NoEntry_number := pn_NoEntry_number,
    oi_NoEntry := poi_NoEntry,
    ot_NoEntry := pot_NoEntry,
    ox_NoEntry := ⟨⟨_, _, _, _, _, _, _, _, _, _, _, _, _, _, _, pol_NoEntry, pov_NoEntry⟩, posa_NoEntry, peb_NoEntry, pet_NoEntry, pek_NoEntry⟩,
    g_Book := PySem.W.mg_of X G pg_Book,
    cl_Book := ⟨ppg_Book, phd_Book, ppo_Book, psa_Book⟩,
    n_Book_entries := pn_Book_entries,
    mk_Book := ⟨pma_Book, pmi_Book, pmf_Book, pmc_Book⟩,
    m_Book___iter__ := ⟨pmt_m_Book_iter, pmn_m_Book_iter, pmk_m_Book_iter⟩,
    m_Book___contains__ := ⟨pmt_m_Book_contains, pmn_m_Book_contains, pmk_m_Book_contains⟩,
    m_Book___len__ := ⟨pmt_m_Book_len, pmn_m_Book_len, pmk_m_Book_len⟩,
    m_Book___getitem__ := ⟨pmt_m_Book_getitem, pmn_m_Book_getitem, pmk_m_Book_getitem⟩,
    m_Book___setitem__ := ⟨pmt_m_Book_setitem, pmn_m_Book_setitem, pmk_m_Book_setitem⟩,
    m_Book_remove := ⟨pmt_m_Book_remove, pmn_m_Book_remove, pmk_m_Book_remove⟩,
    m_Book_places := ⟨pmt_m_Book_places, pmn_m_Book_places, pmk_m_Book_places⟩,
    m_Book_named := ⟨pmt_m_Book_named, pmn_m_Book_named, pmk_m_Book_named⟩,
    m_Book_lots := ⟨pmt_m_Book_lots, pmn_m_Book_lots, pmk_m_Book_lots⟩,
    m_Book_sales := ⟨pmt_m_Book_sales, pmn_m_Book_sales, pmk_m_Book_sales⟩,
    m_Book_late_costs := ⟨pmt_m_Book_late_costs, pmn_m_Book_late_costs, pmk_m_Book_late_costs⟩,
    fgi_Book := pfgi_Book,
    nsq_Book := pnsq_Book,
    g_LETTERS := ⟨_, PySem.W.mg_of X G pg_LETTERS⟩,
    g_LONGEST := ⟨_, PySem.W.mg_of X G pg_LONGEST⟩,
    g_MOST := ⟨_, PySem.W.mg_of X G pg_MOST⟩,
    F_m_BadEntry_init := F_m_BadEntry_init,
    b_m_BadEntry_init := b_m_BadEntry_init,
    F_m_NoEntry_init := F_m_NoEntry_init,
    b_m_NoEntry_init := b_m_NoEntry_init,
    F_f_is_name := F_f_is_name,
    b_f_is_name := b_f_is_name,
    g_is_name := PySem.W.mg_of X G pa_f_is_name,
    F_f_is_number := F_f_is_number,
    b_f_is_number := b_f_is_number,
    g_is_number := PySem.W.mg_of X G pa_f_is_number,
    F_f_is_entry := F_f_is_entry,
    b_f_is_entry := b_f_is_entry,
    g_is_entry := PySem.W.mg_of X G pa_f_is_entry,
    F_m_Book_init := F_m_Book_init,
    b_m_Book_init := b_m_Book_init,
    F_m_Book_iter := F_m_Book_iter,
    b_m_Book_iter := b_m_Book_iter,
    F_m_Book_contains := F_m_Book_contains,
    b_m_Book_contains := b_m_Book_contains,
    F_m_Book_len := F_m_Book_len,
    b_m_Book_len := b_m_Book_len,
    F_m_Book_getitem := F_m_Book_getitem,
    b_m_Book_getitem := b_m_Book_getitem,
    F_m_Book_setitem := F_m_Book_setitem,
    b_m_Book_setitem := b_m_Book_setitem,
    F_m_Book_remove := F_m_Book_remove,
    b_m_Book_remove := b_m_Book_remove,
    F_m_Book_places := F_m_Book_places,
    b_m_Book_places := b_m_Book_places,
    F_m_Book_named := F_m_Book_named,
    b_m_Book_named := b_m_Book_named,
    F_m_Book_lots := F_m_Book_lots,
    b_m_Book_lots := b_m_Book_lots,
    F_m_Book_sales := F_m_Book_sales,
    b_m_Book_sales := b_m_Book_sales,
    F_m_Book_late_costs := F_m_Book_late_costs,
    b_m_Book_late_costs := b_m_Book_late_costs,
    F_l_bag := F_l_bag,
    b_l_bag := b_l_bag,
    g__law_bag := PySem.W.mg_of X G pa_l_bag,
    F_l_draw := F_l_draw,
    b_l_draw := b_l_draw,
    g__law_draw := PySem.W.mg_of X G pa_l_draw,
    F_l_names := F_l_names,
    b_l_names := b_l_names,
    g__law_names := PySem.W.mg_of X G pa_l_names,
    F_l_pick := F_l_pick,
    b_l_pick := b_l_pick,
    g__law_pick := PySem.W.mg_of X G pa_l_pick,
    F_l_drawn_entry := F_l_drawn_entry,
    b_l_drawn_entry := b_l_drawn_entry,
    g__law_drawn_entry := PySem.W.mg_of X G pa_l_drawn_entry,
    F_l_drawn_spot := F_l_drawn_spot,
    b_l_drawn_spot := b_l_drawn_spot,
    g__law_drawn_spot := PySem.W.mg_of X G pa_l_drawn_spot,
    F_l_named := F_l_named,
    b_l_named := b_l_named,
    g__law_named := PySem.W.mg_of X G pa_l_named,
    F_l_missing := F_l_missing,
    b_l_missing := b_l_missing,
    g__law_missing := PySem.W.mg_of X G pa_l_missing,
    F_l_looks := F_l_looks,
    b_l_looks := b_l_looks,
    g__law_looks := PySem.W.mg_of X G pa_l_looks,
    F_l_takes_out := F_l_takes_out,
    b_l_takes_out := b_l_takes_out,
    g__law_takes_out := PySem.W.mg_of X G pa_l_takes_out,
    F_l_book_right := F_l_book_right,
    b_l_book_right := b_l_book_right,
    g__law_book_right := PySem.W.mg_of X G pa_l_book_right,
    F_f_law := F_f_law,
    b_f_law := b_f_law,
    g_law := PySem.W.mg_of X G pa_f_law }
  exact ⟨_, fun s v => .of_eq rfl, fun base _ _ => ok_f_law T⟩
theorem walk {l : PySem.W.OpenLaw} {q : Program} {loose : List Str} {XP : (Str → Option Value) → Heap → Prop} {YP : World → Heap → Prop} {d : DefRec} {K : Params → PySem.W.Frag} (hn : l.most = some 63) (hdf : d.params.defaults = [])
    (hY : ∀ (w : World) (h : Heap), YP w h → (K w.params).In h)
    (F : ∀ (w : World) (mg : Str → Option Value) (fa : Addr) (h : Heap), (K w.params).In h → h.Ns mainGlobals mg → mg d.name = some (.ref fa) →
      ∃ fd : FuncData, (∀ (s : Shared) (u : Value), BindsTo s fd ⟨[u], []⟩ [("_law_script", u)]) ∧ ∀ base : Heap, (K w.params).In base → base.Ns mainGlobals mg → FnOk l.prog w (K w.params) mg base CX0 16 fa fd ["_law_script"] (spLaw (K w.params))) :
    PySem.W.WalkO q loose XP YP l.row.toRowW d [] (fun f vs => PySem.call f vs) :=
  L2.walk_of (n := 63) (k := 16) (x := "_law_script") (CX := fun _ => CX0) (sp := fun w => spLaw (K w.params)) hn (by decide) hdf ⟨rfl, by decide, by decide⟩ hY F (fun _ _ a ns hl _ hS => ⟨a, ns, rfl, hS, hl, fun _ => rfl⟩) fun _ _ _ _ _ z => z
end Lot
open PySem PySem.W PyProof.Rows
set_option maxRecDepth 100000 in
set_option maxHeartbeats 0 in
theorem PySem.Challenge.cw_lotcosts_k31_book_of_entries_holds : PySem.Challenge.rw_lotcosts_k31_book_of_entries.Holds := by
  w_on; o_law; k_head; (case hw => w_witness2)
  k_fill
  refine Lot.walk (l := PySem.Challenge.rw_lotcosts_k31_book_of_entries) rfl rfl (fun w h Y => PySem.W.kIn_of Y) ?F
  case F =>
    intro w mg fa h KX G hmg
    refine' Lot.all_mk KX G hmg ?pz_TypeError ?pz_abs ?pz_all ?pz_bool ?pz_int ?pz_isinstance ?pz_len ?pz_list ?pz_range ?pz_sorted ?pz_str ?pz_tuple ?pg_CostError ?pek_CostError ?peb_CostError ?pet_CostError ?peh_CostError ?peic_CostError ?pes_CostError ?pxg_CostError ?pxk_CostError ?pxa_CostError ?pxn_CostError ?pxt_CostError ?pxm_CostError ?prd_CostError ?pcg_CostError ?pvi_CostError ?pg_BadEntry ?pek_BadEntry ?peb_BadEntry ?pet_BadEntry ?peh_BadEntry ?peic_BadEntry ?pes_BadEntry ?pxg_BadEntry ?pxk_BadEntry ?pxa_BadEntry ?pxn_BadEntry ?pxt_BadEntry ?pxm_BadEntry ?pn_BadEntry_day ?pn_BadEntry_number ?poi_BadEntry ?pot_BadEntry ?pol_BadEntry ?pov_BadEntry ?posa_BadEntry ?pg_NoEntry ?pek_NoEntry ?peb_NoEntry ?pet_NoEntry ?peh_NoEntry ?peic_NoEntry ?pes_NoEntry ?pxg_NoEntry ?pxk_NoEntry ?pxa_NoEntry ?pxn_NoEntry ?pxt_NoEntry ?pxm_NoEntry ?pxc_NoEntry ?pn_NoEntry_day ?pn_NoEntry_number ?poi_NoEntry ?pot_NoEntry ?pol_NoEntry ?pov_NoEntry ?posa_NoEntry ?pg_Book ?ppg_Book ?phd_Book ?ppo_Book ?psa_Book ?pn_Book_entries ?pma_Book ?pmi_Book ?pmf_Book ?pmc_Book ?pmt_m_Book_iter ?pmn_m_Book_iter ?pmk_m_Book_iter ?pmt_m_Book_contains ?pmn_m_Book_contains ?pmk_m_Book_contains ?pmt_m_Book_len ?pmn_m_Book_len ?pmk_m_Book_len ?pmt_m_Book_getitem ?pmn_m_Book_getitem ?pmk_m_Book_getitem ?pmt_m_Book_setitem ?pmn_m_Book_setitem ?pmk_m_Book_setitem ?pmt_m_Book_remove ?pmn_m_Book_remove ?pmk_m_Book_remove ?pmt_m_Book_places ?pmn_m_Book_places ?pmk_m_Book_places ?pmt_m_Book_named ?pmn_m_Book_named ?pmk_m_Book_named ?pmt_m_Book_lots ?pmn_m_Book_lots ?pmk_m_Book_lots ?pmt_m_Book_sales ?pmn_m_Book_sales ?pmk_m_Book_sales ?pmt_m_Book_late_costs ?pmn_m_Book_late_costs ?pmk_m_Book_late_costs ?pfgi_Book ?pnsq_Book ?pg_LETTERS ?pg_LONGEST ?pg_MOST ?pe_m_BadEntry_init ?pl_m_BadEntry_init ?pc_m_BadEntry_init ?pq_m_BadEntry_init ?pe_m_NoEntry_init ?pl_m_NoEntry_init ?pc_m_NoEntry_init ?pq_m_NoEntry_init ?pa_f_is_name ?pl_f_is_name ?pc_f_is_name ?pq_f_is_name ?pa_f_is_number ?pl_f_is_number ?pc_f_is_number ?pq_f_is_number ?pa_f_is_entry ?pl_f_is_entry ?pc_f_is_entry ?pq_f_is_entry ?pl_m_Book_init ?pc_m_Book_init ?pq_m_Book_init ?pl_m_Book_iter ?pc_m_Book_iter ?pq_m_Book_iter ?pl_m_Book_contains ?pc_m_Book_contains ?pq_m_Book_contains ?pl_m_Book_len ?pc_m_Book_len ?pq_m_Book_len ?pl_m_Book_getitem ?pc_m_Book_getitem ?pq_m_Book_getitem ?pl_m_Book_setitem ?pc_m_Book_setitem ?pq_m_Book_setitem ?pl_m_Book_remove ?pc_m_Book_remove ?pq_m_Book_remove ?pl_m_Book_places ?pc_m_Book_places ?pq_m_Book_places ?pl_m_Book_named ?pc_m_Book_named ?pq_m_Book_named ?pl_m_Book_lots ?pc_m_Book_lots ?pq_m_Book_lots ?pl_m_Book_sales ?pc_m_Book_sales ?pq_m_Book_sales ?pl_m_Book_late_costs ?pc_m_Book_late_costs ?pq_m_Book_late_costs ?pa_l_bag ?pl_l_bag ?pc_l_bag ?pq_l_bag ?pa_l_draw ?pl_l_draw ?pc_l_draw ?pq_l_draw ?pa_l_names ?pl_l_names ?pc_l_names ?pq_l_names ?pa_l_pick ?pl_l_pick ?pc_l_pick ?pq_l_pick ?pa_l_drawn_entry ?pl_l_drawn_entry ?pc_l_drawn_entry ?pq_l_drawn_entry ?pa_l_drawn_spot ?pl_l_drawn_spot ?pc_l_drawn_spot ?pq_l_drawn_spot ?pa_l_named ?pl_l_named ?pc_l_named ?pq_l_named ?pa_l_missing ?pl_l_missing ?pc_l_missing ?pq_l_missing ?pa_l_looks ?pl_l_looks ?pc_l_looks ?pq_l_looks ?pa_l_takes_out ?pl_l_takes_out ?pc_l_takes_out ?pq_l_takes_out ?pa_l_book_right ?pl_l_book_right ?pc_l_book_right ?pq_l_book_right ?pa_f_law ?pl_f_law ?pc_f_law ?pq_f_law
    (case pz_TypeError => first | k_is | rfl)
    (case pz_abs => first | k_is | rfl)
    (case pz_all => first | k_is | rfl)
    (case pz_bool => first | k_is | rfl)
    (case pz_int => first | k_is | rfl)
    (case pz_isinstance => first | k_is | rfl)
    (case pz_len => first | k_is | rfl)
    (case pz_list => first | k_is | rfl)
    (case pz_range => first | k_is | rfl)
    (case pz_sorted => first | k_is | rfl)
    (case pz_str => first | k_is | rfl)
    (case pz_tuple => first | k_is | rfl)
    (case pg_CostError => first | k_is | rfl)
    (case pek_CostError => first | k_is | rfl)
    (case peb_CostError => first | k_is | rfl)
    (case pet_CostError => first | k_is | rfl)
    (case peh_CostError => first | k_is | rfl)
    (case peic_CostError => first | k_is | rfl)
    (case pes_CostError => first | k_is | rfl)
    (case pxg_CostError => first | k_is | rfl)
    (case pxk_CostError => first | k_is | rfl)
    (case pxa_CostError => first | k_is | rfl)
    (case pxn_CostError => first | k_is | rfl)
    (case pxt_CostError => first | k_is | rfl)
    (case pxm_CostError => first | k_is | rfl)
    (case prd_CostError => first | k_is | rfl)
    (case pcg_CostError => first | k_is | rfl)
    (case pvi_CostError => first | k_is | rfl)
    (case pg_BadEntry => first | k_is | rfl)
    (case pek_BadEntry => first | k_is | rfl)
    (case peb_BadEntry => first | k_is | rfl)
    (case pet_BadEntry => first | k_is | rfl)
    (case peh_BadEntry => first | k_is | rfl)
    (case peic_BadEntry => first | k_is | rfl)
    (case pes_BadEntry => first | k_is | rfl)
    (case pxg_BadEntry => first | k_is | rfl)
    (case pxk_BadEntry => first | k_is | rfl)
    (case pxa_BadEntry => first | k_is | rfl)
    (case pxn_BadEntry => first | k_is | rfl)
    (case pxt_BadEntry => first | k_is | rfl)
    (case pxm_BadEntry => first | k_is | rfl)
    (case pn_BadEntry_day => first | k_is | rfl)
    (case pn_BadEntry_number => first | k_is | rfl)
    (case poi_BadEntry => first | k_is | rfl)
    (case pot_BadEntry => first | k_is | rfl)
    (case pol_BadEntry => first | k_is | rfl)
    (case pov_BadEntry => first | k_is | rfl)
    (case posa_BadEntry => first | k_is | rfl)
    (case pg_NoEntry => first | k_is | rfl)
    (case pek_NoEntry => first | k_is | rfl)
    (case peb_NoEntry => first | k_is | rfl)
    (case pet_NoEntry => first | k_is | rfl)
    (case peh_NoEntry => first | k_is | rfl)
    (case peic_NoEntry => first | k_is | rfl)
    (case pes_NoEntry => first | k_is | rfl)
    (case pxg_NoEntry => first | k_is | rfl)
    (case pxk_NoEntry => first | k_is | rfl)
    (case pxa_NoEntry => first | k_is | rfl)
    (case pxn_NoEntry => first | k_is | rfl)
    (case pxt_NoEntry => first | k_is | rfl)
    (case pxm_NoEntry => first | k_is | rfl)
    (case pxc_NoEntry => first | k_is | rfl)
    (case pn_NoEntry_day => first | k_is | rfl)
    (case pn_NoEntry_number => first | k_is | rfl)
    (case poi_NoEntry => first | k_is | rfl)
    (case pot_NoEntry => first | k_is | rfl)
    (case pol_NoEntry => first | k_is | rfl)
    (case pov_NoEntry => first | k_is | rfl)
    (case posa_NoEntry => first | k_is | rfl)
    (case pg_Book => first | k_is | rfl)
    (case ppg_Book => first | k_is | rfl)
    (case phd_Book => first | k_is | rfl)
    (case ppo_Book => first | k_is | rfl)
    (case psa_Book => first | k_is | rfl)
    (case pn_Book_entries => first | k_is | rfl)
    (case pma_Book => first | k_is | rfl)
    (case pmi_Book => first | k_is | rfl)
    (case pmf_Book => first | k_is | rfl)
    (case pmc_Book => first | k_is | rfl)
    (case pmt_m_Book_iter => first | k_is | rfl)
    (case pmn_m_Book_iter => first | k_is | rfl)
    (case pmk_m_Book_iter => first | k_is | rfl)
    (case pmt_m_Book_contains => first | k_is | rfl)
    (case pmn_m_Book_contains => first | k_is | rfl)
    (case pmk_m_Book_contains => first | k_is | rfl)
    (case pmt_m_Book_len => first | k_is | rfl)
    (case pmn_m_Book_len => first | k_is | rfl)
    (case pmk_m_Book_len => first | k_is | rfl)
    (case pmt_m_Book_getitem => first | k_is | rfl)
    (case pmn_m_Book_getitem => first | k_is | rfl)
    (case pmk_m_Book_getitem => first | k_is | rfl)
    (case pmt_m_Book_setitem => first | k_is | rfl)
    (case pmn_m_Book_setitem => first | k_is | rfl)
    (case pmk_m_Book_setitem => first | k_is | rfl)
    (case pmt_m_Book_remove => first | k_is | rfl)
    (case pmn_m_Book_remove => first | k_is | rfl)
    (case pmk_m_Book_remove => first | k_is | rfl)
    (case pmt_m_Book_places => first | k_is | rfl)
    (case pmn_m_Book_places => first | k_is | rfl)
    (case pmk_m_Book_places => first | k_is | rfl)
    (case pmt_m_Book_named => first | k_is | rfl)
    (case pmn_m_Book_named => first | k_is | rfl)
    (case pmk_m_Book_named => first | k_is | rfl)
    (case pmt_m_Book_lots => first | k_is | rfl)
    (case pmn_m_Book_lots => first | k_is | rfl)
    (case pmk_m_Book_lots => first | k_is | rfl)
    (case pmt_m_Book_sales => first | k_is | rfl)
    (case pmn_m_Book_sales => first | k_is | rfl)
    (case pmk_m_Book_sales => first | k_is | rfl)
    (case pmt_m_Book_late_costs => first | k_is | rfl)
    (case pmn_m_Book_late_costs => first | k_is | rfl)
    (case pmk_m_Book_late_costs => first | k_is | rfl)
    (case pfgi_Book => first | k_is | rfl)
    (case pnsq_Book => first | k_is | rfl)
    (case pg_LETTERS => first | k_is | rfl)
    (case pg_LONGEST => first | k_is | rfl)
    (case pg_MOST => first | k_is | rfl)
    (case pe_m_BadEntry_init => first | k_is | rfl)
    (case pl_m_BadEntry_init => first | k_is | rfl)
    (case pc_m_BadEntry_init => first | k_is | rfl)
    (case pq_m_BadEntry_init => first | k_is | rfl)
    (case pe_m_NoEntry_init => first | k_is | rfl)
    (case pl_m_NoEntry_init => first | k_is | rfl)
    (case pc_m_NoEntry_init => first | k_is | rfl)
    (case pq_m_NoEntry_init => first | k_is | rfl)
    (case pa_f_is_name => first | k_is | rfl)
    (case pl_f_is_name => first | k_is | rfl)
    (case pc_f_is_name => first | k_is | rfl)
    (case pq_f_is_name => first | k_is | rfl)
    (case pa_f_is_number => first | k_is | rfl)
    (case pl_f_is_number => first | k_is | rfl)
    (case pc_f_is_number => first | k_is | rfl)
    (case pq_f_is_number => first | k_is | rfl)
    (case pa_f_is_entry => first | k_is | rfl)
    (case pl_f_is_entry => first | k_is | rfl)
    (case pc_f_is_entry => first | k_is | rfl)
    (case pq_f_is_entry => first | k_is | rfl)
    (case pl_m_Book_init => first | k_is | rfl)
    (case pc_m_Book_init => first | k_is | rfl)
    (case pq_m_Book_init => first | k_is | rfl)
    (case pl_m_Book_iter => first | k_is | rfl)
    (case pc_m_Book_iter => first | k_is | rfl)
    (case pq_m_Book_iter => first | k_is | rfl)
    (case pl_m_Book_contains => first | k_is | rfl)
    (case pc_m_Book_contains => first | k_is | rfl)
    (case pq_m_Book_contains => first | k_is | rfl)
    (case pl_m_Book_len => first | k_is | rfl)
    (case pc_m_Book_len => first | k_is | rfl)
    (case pq_m_Book_len => first | k_is | rfl)
    (case pl_m_Book_getitem => first | k_is | rfl)
    (case pc_m_Book_getitem => first | k_is | rfl)
    (case pq_m_Book_getitem => first | k_is | rfl)
    (case pl_m_Book_setitem => first | k_is | rfl)
    (case pc_m_Book_setitem => first | k_is | rfl)
    (case pq_m_Book_setitem => first | k_is | rfl)
    (case pl_m_Book_remove => first | k_is | rfl)
    (case pc_m_Book_remove => first | k_is | rfl)
    (case pq_m_Book_remove => first | k_is | rfl)
    (case pl_m_Book_places => first | k_is | rfl)
    (case pc_m_Book_places => first | k_is | rfl)
    (case pq_m_Book_places => first | k_is | rfl)
    (case pl_m_Book_named => first | k_is | rfl)
    (case pc_m_Book_named => first | k_is | rfl)
    (case pq_m_Book_named => first | k_is | rfl)
    (case pl_m_Book_lots => first | k_is | rfl)
    (case pc_m_Book_lots => first | k_is | rfl)
    (case pq_m_Book_lots => first | k_is | rfl)
    (case pl_m_Book_sales => first | k_is | rfl)
    (case pc_m_Book_sales => first | k_is | rfl)
    (case pq_m_Book_sales => first | k_is | rfl)
    (case pl_m_Book_late_costs => first | k_is | rfl)
    (case pc_m_Book_late_costs => first | k_is | rfl)
    (case pq_m_Book_late_costs => first | k_is | rfl)
    (case pa_l_bag => first | k_is | rfl)
    (case pl_l_bag => first | k_is | rfl)
    (case pc_l_bag => first | k_is | rfl)
    (case pq_l_bag => first | k_is | rfl)
    (case pa_l_draw => first | k_is | rfl)
    (case pl_l_draw => first | k_is | rfl)
    (case pc_l_draw => first | k_is | rfl)
    (case pq_l_draw => first | k_is | rfl)
    (case pa_l_names => first | k_is | rfl)
    (case pl_l_names => first | k_is | rfl)
    (case pc_l_names => first | k_is | rfl)
    (case pq_l_names => first | k_is | rfl)
    (case pa_l_pick => first | k_is | rfl)
    (case pl_l_pick => first | k_is | rfl)
    (case pc_l_pick => first | k_is | rfl)
    (case pq_l_pick => first | k_is | rfl)
    (case pa_l_drawn_entry => first | k_is | rfl)
    (case pl_l_drawn_entry => first | k_is | rfl)
    (case pc_l_drawn_entry => first | k_is | rfl)
    (case pq_l_drawn_entry => first | k_is | rfl)
    (case pa_l_drawn_spot => first | k_is | rfl)
    (case pl_l_drawn_spot => first | k_is | rfl)
    (case pc_l_drawn_spot => first | k_is | rfl)
    (case pq_l_drawn_spot => first | k_is | rfl)
    (case pa_l_named => first | k_is | rfl)
    (case pl_l_named => first | k_is | rfl)
    (case pc_l_named => first | k_is | rfl)
    (case pq_l_named => first | k_is | rfl)
    (case pa_l_missing => first | k_is | rfl)
    (case pl_l_missing => first | k_is | rfl)
    (case pc_l_missing => first | k_is | rfl)
    (case pq_l_missing => first | k_is | rfl)
    (case pa_l_looks => first | k_is | rfl)
    (case pl_l_looks => first | k_is | rfl)
    (case pc_l_looks => first | k_is | rfl)
    (case pq_l_looks => first | k_is | rfl)
    (case pa_l_takes_out => first | k_is | rfl)
    (case pl_l_takes_out => first | k_is | rfl)
    (case pc_l_takes_out => first | k_is | rfl)
    (case pq_l_takes_out => first | k_is | rfl)
    (case pa_l_book_right => first | k_is | rfl)
    (case pl_l_book_right => first | k_is | rfl)
    (case pc_l_book_right => first | k_is | rfl)
    (case pq_l_book_right => first | k_is | rfl)
    (case pa_f_law => first | k_is | rfl)
    (case pl_f_law => first | k_is | rfl)
    (case pc_f_law => first | k_is | rfl)
    (case pq_f_law => first | k_is | rfl)
#print axioms PySem.Challenge.cw_lotcosts_k31_book_of_entries_holds

