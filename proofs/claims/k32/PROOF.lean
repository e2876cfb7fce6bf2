import PyProof.Rows.All
import Wide.All
import OpenK.AllK
import Wide.FinOn
import HandS.ForMost
import HandS.ForExc
import HandS.Flow
import HandS.Evl
import HandS.Style
import KE.KOpsOwn
import HandS.ClsMeth
import HandS.OwnEq
import HandS.IsInst
import HandS.ExcIs
import HandS.ExcInit
import HandS.ExcField
import HandS.ExcValue
import HandS.MakeKwOnly
import KE.KExcIs
import KE.DataEq
import HandS.Wide
import HandS.Codes
import HandS.Text
import HandS.Defaults
import HandS.DictTup
import HandS.TupLen
import HandS.SortRule
import HandS.Conv
import HandS.Walk
import HandS.CallLocal
import PySem.Challenge.RW_lotcosts_k32_refused_entries
set_option Elab.async false
set_option linter.all false
set_option pp.maxSteps 400
set_option maxRecDepth 100000
set_option maxHeartbeats 4000000
namespace Lot
open PySem L2
/-! ### steps -/
local macro_rules | `(tactic| walk_at "ne") => `(tactic| first
  | with_reducible assumption
  | (apply Ne.symm; with_reducible assumption)
  | exact ne_of_none (by with_reducible assumption) (by with_reducible assumption)
  | exact (ne_of_none (by with_reducible assumption) (by with_reducible assumption)).symm)
local macro_rules | `(tactic| walk_at "at") => `(tactic| first
  | with_reducible assumption
  | exact upd_same
  | (refine Eq.trans (upd_ne (by walk_at "ne")) ?_; walk_at "at"))
local macro_rules | `(tactic| walk_at "num") => `(tactic| first
  | decide
  | omega
  | (dsimp only; first | decide | omega))
local macro_rules | `(tactic| walk_at "fact") => `(tactic| first
  | with_reducible assumption
  | exact rfl
  | walk_at "at"
  | exact SqL.of (by walk_at "at")
  | exact SqT.of (by walk_at "at")
  | exact .inl (SqL.of (by walk_at "at"))
  | exact .inr (SqT.of (by walk_at "at"))
  | exact .inl ⟨rfl, _, SqL.of (by walk_at "at")⟩
  | exact Or.inl ⟨by walk_at "num", by walk_at "num"⟩
  | exact Or.inr ⟨by walk_at "num", by walk_at "num"⟩
  | exact ⟨by walk_at "num", by walk_at "num"⟩
  | exact ⟨by walk_at "num", by walk_at "num", by walk_at "num"⟩
  | exact wide_div (b := 9000) (by omega) (by assumption) (by decide) (by decide)
  | exact Nat.le_of_ble_eq_true rfl
  | assumption
  | walk_at "num")
local macro_rules | `(tactic| walk_at "go") => `(tactic| repeat (first
  | apply Exists.intro
  | refine And.intro (by walk_at "fact") ?_
  | refine Or.inl ⟨_, rfl, ?_⟩
  | refine Or.inr ⟨_, rfl, ?_⟩
  | refine iteT ?_
  | refine iteF ?_))
def top (i : Nat) : Stmt := PySem.Challenge.pw_lotcosts_k32_refused_entries.main.body.getD i (.Pass ⟨0, 0, 0, 0⟩)
abbrev s_m_BadEntry_init : Stmt := inClass (top 3) 0
abbrev N_m_BadEntry_init : List Str := ["self", "day", "number"]
abbrev P_m_BadEntry_init : List Str := ["self", "day", "number"]
theorem sc_m_BadEntry_init : FnScope N_m_BadEntry_init P_m_BadEntry_init (defScope s_m_BadEntry_init) := ⟨rfl, rfl, rfl, by decide +kernel, rfl, by decide +kernel, by decide +kernel⟩
abbrev s_m_NoEntry_init : Stmt := inClass (top 4) 0
abbrev N_m_NoEntry_init : List Str := ["self", "day", "number"]
abbrev P_m_NoEntry_init : List Str := ["self", "day", "number"]
theorem sc_m_NoEntry_init : FnScope N_m_NoEntry_init P_m_NoEntry_init (defScope s_m_NoEntry_init) := ⟨rfl, rfl, rfl, by decide +kernel, rfl, by decide +kernel, by decide +kernel⟩
abbrev s_f_is_name : Stmt := top 9
abbrev N_f_is_name : List Str := ["name", "letter"]
abbrev P_f_is_name : List Str := ["name"]
theorem sc_f_is_name : FnScope N_f_is_name P_f_is_name (defScope s_f_is_name) := ⟨rfl, rfl, rfl, by decide +kernel, rfl, by decide +kernel, by decide +kernel⟩
abbrev s_f_is_number : Stmt := top 10
abbrev N_f_is_number : List Str := ["value", "least"]
abbrev P_f_is_number : List Str := ["value", "least"]
theorem sc_f_is_number : FnScope N_f_is_number P_f_is_number (defScope s_f_is_number) := ⟨rfl, rfl, rfl, by decide +kernel, rfl, by decide +kernel, by decide +kernel⟩
abbrev s_f_is_entry : Stmt := top 11
abbrev N_f_is_entry : List Str := ["entry", "units", "lot"]
abbrev P_f_is_entry : List Str := ["entry"]
theorem sc_f_is_entry : FnScope N_f_is_entry P_f_is_entry (defScope s_f_is_entry) := ⟨rfl, rfl, rfl, by decide +kernel, rfl, by decide +kernel, by decide +kernel⟩
abbrev s_m_Book_init : Stmt := inClass (top 12) 0
abbrev N_m_Book_init : List Str := ["self"]
abbrev P_m_Book_init : List Str := ["self"]
theorem sc_m_Book_init : FnScope N_m_Book_init P_m_Book_init (defScope s_m_Book_init) := ⟨rfl, rfl, rfl, by decide +kernel, rfl, by decide +kernel, by decide +kernel⟩
abbrev s_m_Book_iter : Stmt := inClass (top 12) 1
abbrev N_m_Book_iter : List Str := ["self"]
abbrev P_m_Book_iter : List Str := ["self"]
theorem sc_m_Book_iter : FnScope N_m_Book_iter P_m_Book_iter (defScope s_m_Book_iter) := ⟨rfl, rfl, rfl, by decide +kernel, rfl, by decide +kernel, by decide +kernel⟩
abbrev s_m_Book_contains : Stmt := inClass (top 12) 2
abbrev N_m_Book_contains : List Str := ["self", "place"]
abbrev P_m_Book_contains : List Str := ["self", "place"]
theorem sc_m_Book_contains : FnScope N_m_Book_contains P_m_Book_contains (defScope s_m_Book_contains) := ⟨rfl, rfl, rfl, by decide +kernel, rfl, by decide +kernel, by decide +kernel⟩
abbrev s_m_Book_len : Stmt := inClass (top 12) 3
abbrev N_m_Book_len : List Str := ["self"]
abbrev P_m_Book_len : List Str := ["self"]
theorem sc_m_Book_len : FnScope N_m_Book_len P_m_Book_len (defScope s_m_Book_len) := ⟨rfl, rfl, rfl, by decide +kernel, rfl, by decide +kernel, by decide +kernel⟩
abbrev s_m_Book_getitem : Stmt := inClass (top 12) 4
abbrev N_m_Book_getitem : List Str := ["self", "place", "day", "number"]
abbrev P_m_Book_getitem : List Str := ["self", "place"]
theorem sc_m_Book_getitem : FnScope N_m_Book_getitem P_m_Book_getitem (defScope s_m_Book_getitem) := ⟨rfl, rfl, rfl, by decide +kernel, rfl, by decide +kernel, by decide +kernel⟩
abbrev s_m_Book_setitem : Stmt := inClass (top 12) 5
abbrev N_m_Book_setitem : List Str := ["self", "place", "entry", "day", "number"]
abbrev P_m_Book_setitem : List Str := ["self", "place", "entry"]
theorem sc_m_Book_setitem : FnScope N_m_Book_setitem P_m_Book_setitem (defScope s_m_Book_setitem) := ⟨rfl, rfl, rfl, by decide +kernel, rfl, by decide +kernel, by decide +kernel⟩
abbrev s_m_Book_places : Stmt := inClass (top 12) 7
abbrev N_m_Book_places : List Str := ["self"]
abbrev P_m_Book_places : List Str := ["self"]
theorem sc_m_Book_places : FnScope N_m_Book_places P_m_Book_places (defScope s_m_Book_places) := ⟨rfl, rfl, rfl, by decide +kernel, rfl, by decide +kernel, by decide +kernel⟩
abbrev s_l_bag : Stmt := top 14
abbrev N_l_bag : List Str := ["_law_script"]
abbrev P_l_bag : List Str := ["_law_script"]
theorem sc_l_bag : FnScope N_l_bag P_l_bag (defScope s_l_bag) := ⟨rfl, rfl, rfl, by decide +kernel, rfl, by decide +kernel, by decide +kernel⟩
abbrev s_l_draw : Stmt := top 15
abbrev N_l_draw : List Str := ["_law_bag_here", "_law_size", "_law_cell", "_law_digit", "_law_mixed"]
abbrev P_l_draw : List Str := ["_law_bag_here", "_law_size"]
theorem sc_l_draw : FnScope N_l_draw P_l_draw (defScope s_l_draw) := ⟨rfl, rfl, rfl, by decide +kernel, rfl, by decide +kernel, by decide +kernel⟩
abbrev s_l_names : Stmt := top 16
abbrev N_l_names : List Str := ["_law_bag_here", "_law_count", "_law_words", "_law_letters", "_law_size", "_law_stem", "_law_where", "_law_shift", "_law_longer", "_law_names_here", "_law_k", "_law_name", "_law_spot", "_law_word"]
abbrev P_l_names : List Str := ["_law_bag_here", "_law_count", "_law_words"]
theorem sc_l_names : FnScope N_l_names P_l_names (defScope s_l_names) := ⟨rfl, rfl, rfl, by decide +kernel, rfl, by decide +kernel, by decide +kernel⟩
abbrev s_l_pick : Stmt := top 17
abbrev N_l_pick : List Str := ["_law_bag_here", "_law_items"]
abbrev P_l_pick : List Str := ["_law_bag_here", "_law_items"]
theorem sc_l_pick : FnScope N_l_pick P_l_pick (defScope s_l_pick) := ⟨rfl, rfl, rfl, by decide +kernel, rfl, by decide +kernel, by decide +kernel⟩
abbrev s_l_next : Stmt := top 18
abbrev N_l_next : List Str := ["_law_bag_here", "_law_entries_here", "_law_step"]
abbrev P_l_next : List Str := ["_law_bag_here", "_law_entries_here"]
theorem sc_l_next : FnScope N_l_next P_l_next (defScope s_l_next) := ⟨rfl, rfl, rfl, by decide +kernel, rfl, by decide +kernel, by decide +kernel⟩
abbrev s_l_entries : Stmt := top 19
abbrev N_l_entries : List Str := ["_law_bag_here", "_law_most", "_law_steps", "_law_size", "_law_names_here", "_law_sales", "_law_entries_here", "_law_bought", "_law_left", "_law_stock", "_law_costs", "_law_k", "_law_choice", "_law_out", "_law_entry", "_law_units", "_law_sale", "_law_day", "_law_number"]
abbrev P_l_entries : List Str := ["_law_bag_here", "_law_most"]
theorem sc_l_entries : FnScope N_l_entries P_l_entries (defScope s_l_entries) := ⟨rfl, rfl, rfl, by decide +kernel, rfl, by decide +kernel, by decide +kernel⟩
abbrev s_l_book : Stmt := top 20
abbrev N_l_book : List Str := ["_law_entries_here", "_law_book_here", "_law_day", "_law_number", "_law_entry"]
abbrev P_l_book : List Str := ["_law_entries_here"]
theorem sc_l_book : FnScope N_l_book P_l_book (defScope s_l_book) := ⟨rfl, rfl, rfl, by decide +kernel, rfl, by decide +kernel, by decide +kernel⟩
abbrev s_l_wrong_name : Stmt := top 21
abbrev N_l_wrong_name : List Str := ["_law_bag_here", "_law_name", "_law_spot", "_law_sign"]
abbrev P_l_wrong_name : List Str := ["_law_bag_here", "_law_name"]
theorem sc_l_wrong_name : FnScope N_l_wrong_name P_l_wrong_name (defScope s_l_wrong_name) := ⟨rfl, rfl, rfl, by decide +kernel, rfl, by decide +kernel, by decide +kernel⟩
abbrev s_l_spoilt : Stmt := top 22
abbrev N_l_spoilt : List Str := ["_law_bag_here", "_law_entry", "_law_name", "_law_kind", "_law_first", "_law_second", "_law_choice"]
abbrev P_l_spoilt : List Str := ["_law_bag_here", "_law_entry", "_law_name"]
theorem sc_l_spoilt : FnScope N_l_spoilt P_l_spoilt (defScope s_l_spoilt) := ⟨rfl, rfl, rfl, by decide +kernel, rfl, by decide +kernel, by decide +kernel⟩
abbrev s_l_refused : Stmt := top 23
abbrev N_l_refused : List Str := ["_law_book_here", "_law_day", "_law_number", "_law_entry", "e"]
abbrev P_l_refused : List Str := ["_law_book_here", "_law_day", "_law_number", "_law_entry"]
theorem sc_l_refused : FnScope N_l_refused P_l_refused (defScope s_l_refused) := ⟨rfl, rfl, rfl, by decide +kernel, rfl, by decide +kernel, by decide +kernel⟩
abbrev s_l_kept : Stmt := top 24
abbrev N_l_kept : List Str := ["_law_book_here", "_law_spot"]
abbrev P_l_kept : List Str := ["_law_book_here"]
theorem sc_l_kept : FnScope N_l_kept P_l_kept (defScope s_l_kept) := ⟨rfl, rfl, rfl, by decide +kernel, rfl, by decide +kernel, by decide +kernel⟩
abbrev s_f_law : Stmt := top 25
abbrev N_f_law : List Str := ["_law_script", "_law_bag_here", "_law_entries_here", "_law_book_here", "_law_turn", "_law_day", "_law_number", "_law_entry", "_law_before", "_law_far", "_law_after", "_law_item"]
abbrev P_f_law : List Str := ["_law_script"]
theorem sc_f_law : FnScope N_f_law P_f_law (defScope s_f_law) := ⟨rfl, rfl, rfl, by decide +kernel, rfl, by decide +kernel, by decide +kernel⟩
/-- no __iop__ in the class's chain -/
def noI (K : PySem.W.Frag) (C : Addr) (nm : String) : Bool := (PySem.W.clsIn K C).any fun cd => cd.mro.all fun c => PySem.W.findIn K c (dunderI nm) == some none
/-- C.m is a staticmethod: its record at p, its def at g -/
structure SMet (K : PySem.W.Frag) (C : Addr) (m : Str) (p g : Addr) : Prop where
  rd : PySem.W.readsIn K C (.type "type") = true
  ga : PySem.W.specialIn K (.ref C) "__getattribute__" = some (some (.builtin "type.__getattribute__"))
  at_ : PySem.W.findCls K (.ref C) (.type "type") m = some (.get (.builtin "staticmethod.__get__") (.ref p) .none (.ref C))
  rc : ∃ rest, PySem.W.recIn K p "staticmethod" = some (.ref g :: rest)
  kp : PySem.W.keepIn K (.ref g) = true
/-- each of the classes cs is itself alone among them, and under CE and ValueError -/
def kitAll (K : PySem.W.Frag) (cs : List Addr) (CE : Addr) : Bool := cs.all fun C => cs.count C == 1 && (cs.all fun D => PySem.W.kitOne K (.ref C) (.ref D) == some (C == D)) && PySem.W.kitOne K (.ref C) (.ref CE) == some true && PySem.W.kitOne K (.ref C) (.type "ValueError") == some true
structure Ad where
  CostError : Addr
  BadEntry : Addr
  NoEntry : Addr
  Book : Addr
  m_BadEntry_init : Addr
  fd_m_BadEntry_init : FuncData
  m_NoEntry_init : Addr
  fd_m_NoEntry_init : FuncData
  f_is_name : Addr
  fd_f_is_name : FuncData
  f_is_number : Addr
  fd_f_is_number : FuncData
  f_is_entry : Addr
  fd_f_is_entry : FuncData
  m_Book_init : Addr
  fd_m_Book_init : FuncData
  m_Book_iter : Addr
  fd_m_Book_iter : FuncData
  m_Book_contains : Addr
  fd_m_Book_contains : FuncData
  m_Book_len : Addr
  fd_m_Book_len : FuncData
  m_Book_getitem : Addr
  fd_m_Book_getitem : FuncData
  m_Book_setitem : Addr
  fd_m_Book_setitem : FuncData
  m_Book_places : Addr
  fd_m_Book_places : FuncData
  l_bag : Addr
  fd_l_bag : FuncData
  l_draw : Addr
  fd_l_draw : FuncData
  l_names : Addr
  fd_l_names : FuncData
  l_pick : Addr
  fd_l_pick : FuncData
  l_next : Addr
  fd_l_next : FuncData
  l_entries : Addr
  fd_l_entries : FuncData
  l_book : Addr
  fd_l_book : FuncData
  l_wrong_name : Addr
  fd_l_wrong_name : FuncData
  l_spoilt : Addr
  fd_l_spoilt : FuncData
  l_refused : Addr
  fd_l_refused : FuncData
  l_kept : Addr
  fd_l_kept : FuncData
  f_law : Addr
  fd_f_law : FuncData
structure Txt (K : PySem.W.Frag) (mg : Str → Option Value) (A : Ad) : Prop where
  z_TypeError : mg "TypeError" = none
  z_abs : mg "abs" = none
  z_all : mg "all" = none
  z_bool : mg "bool" = none
  z_int : mg "int" = none
  z_isinstance : mg "isinstance" = none
  z_len : mg "len" = none
  z_list : mg "list" = none
  z_min : mg "min" = none
  z_range : mg "range" = none
  z_sorted : mg "sorted" = none
  z_str : mg "str" = none
  z_tuple : mg "tuple" = none
  g_CostError : mg "CostError" = some (.ref A.CostError)
  ek_CostError : PySem.W.keepIn K (.ref A.CostError) = true
  eb_CostError : PySem.W.subIn K (.ref A.CostError) (.type "BaseException") = some true
  et_CostError : PySem.W.typeIn K (.ref A.CostError) = some (.type "type")
  eh_CostError : PySem.W.hasDictIn K A.CostError = true
  eic_CostError : PySem.W.isClsIn K A.CostError = true
  es_CostError : PySem.W.subIn K (.ref A.CostError) (.ref A.CostError) = some true
  xg_CostError : PySem.W.findIn K (.ref A.CostError) "__getattribute__" = some (some (.builtin "BaseException.__getattribute__"))
  xk_CostError : PySem.W.findIn K (.ref A.CostError) "__getattr__" = some none
  xa_CostError : PySem.W.findIn K (.ref A.CostError) "__class__" = some (some (.builtin "object.__class__"))
  xn_CostError : PySem.W.specialIn K (.builtin "object.__class__") "__get__" = some (some (.builtin "getset_descriptor.__get__"))
  xt_CostError : PySem.W.takesIn K (.builtin "object.__class__") = some true
  xm_CostError : PySem.W.mroIn K A.CostError (.type "object") = some true
  rd_CostError : PySem.W.readsIn K A.CostError (.type "type") = true
  cg_CostError : PySem.W.specialIn K (.ref A.CostError) "__getattribute__" = some (some (.builtin "type.__getattribute__"))
  vi_CostError : PySem.W.findCls K (.ref A.CostError) (.type "type") "__init__" = some (.val (.builtin "ValueError.__init__"))
  g_BadEntry : mg "BadEntry" = some (.ref A.BadEntry)
  ek_BadEntry : PySem.W.keepIn K (.ref A.BadEntry) = true
  eb_BadEntry : PySem.W.subIn K (.ref A.BadEntry) (.type "BaseException") = some true
  et_BadEntry : PySem.W.typeIn K (.ref A.BadEntry) = some (.type "type")
  eh_BadEntry : PySem.W.hasDictIn K A.BadEntry = true
  eic_BadEntry : PySem.W.isClsIn K A.BadEntry = true
  es_BadEntry : PySem.W.subIn K (.ref A.BadEntry) (.ref A.BadEntry) = some true
  xg_BadEntry : PySem.W.findIn K (.ref A.BadEntry) "__getattribute__" = some (some (.builtin "BaseException.__getattribute__"))
  xk_BadEntry : PySem.W.findIn K (.ref A.BadEntry) "__getattr__" = some none
  xa_BadEntry : PySem.W.findIn K (.ref A.BadEntry) "__class__" = some (some (.builtin "object.__class__"))
  xn_BadEntry : PySem.W.specialIn K (.builtin "object.__class__") "__get__" = some (some (.builtin "getset_descriptor.__get__"))
  xt_BadEntry : PySem.W.takesIn K (.builtin "object.__class__") = some true
  xm_BadEntry : PySem.W.mroIn K A.BadEntry (.type "object") = some true
  xc_BadEntry : PySem.W.kitOne K (.ref A.BadEntry) (.ref A.CostError) = some true
  n_BadEntry_day : PySem.W.findIn K (.ref A.BadEntry) "day" = some none
  n_BadEntry_number : PySem.W.findIn K (.ref A.BadEntry) "number" = some none
  oi_BadEntry : PySem.W.findIn K (.ref A.BadEntry) "__init__" = some (some (.ref A.m_BadEntry_init))
  ot_BadEntry : PySem.W.typeIn K (.ref A.m_BadEntry_init) = some (.type "function")
  ox_BadEntry : OexC K A.BadEntry
  g_NoEntry : mg "NoEntry" = some (.ref A.NoEntry)
  ek_NoEntry : PySem.W.keepIn K (.ref A.NoEntry) = true
  eb_NoEntry : PySem.W.subIn K (.ref A.NoEntry) (.type "BaseException") = some true
  et_NoEntry : PySem.W.typeIn K (.ref A.NoEntry) = some (.type "type")
  eh_NoEntry : PySem.W.hasDictIn K A.NoEntry = true
  eic_NoEntry : PySem.W.isClsIn K A.NoEntry = true
  es_NoEntry : PySem.W.subIn K (.ref A.NoEntry) (.ref A.NoEntry) = some true
  xg_NoEntry : PySem.W.findIn K (.ref A.NoEntry) "__getattribute__" = some (some (.builtin "BaseException.__getattribute__"))
  xk_NoEntry : PySem.W.findIn K (.ref A.NoEntry) "__getattr__" = some none
  xa_NoEntry : PySem.W.findIn K (.ref A.NoEntry) "__class__" = some (some (.builtin "object.__class__"))
  xn_NoEntry : PySem.W.specialIn K (.builtin "object.__class__") "__get__" = some (some (.builtin "getset_descriptor.__get__"))
  xt_NoEntry : PySem.W.takesIn K (.builtin "object.__class__") = some true
  xm_NoEntry : PySem.W.mroIn K A.NoEntry (.type "object") = some true
  n_NoEntry_day : PySem.W.findIn K (.ref A.NoEntry) "day" = some none
  n_NoEntry_number : PySem.W.findIn K (.ref A.NoEntry) "number" = some none
  oi_NoEntry : PySem.W.findIn K (.ref A.NoEntry) "__init__" = some (some (.ref A.m_NoEntry_init))
  ot_NoEntry : PySem.W.typeIn K (.ref A.m_NoEntry_init) = some (.type "function")
  ox_NoEntry : OexC K A.NoEntry
  g_Book : mg "Book" = some (.ref A.Book)
  cl_Book : Cls K A.Book
  n_Book_entries : NoAttr K A.Book "entries"
  mk_Book : Mk K A.Book A.m_Book_init
  m_Book___iter__ : Meth K A.Book "__iter__" A.m_Book_iter
  m_Book___contains__ : Meth K A.Book "__contains__" A.m_Book_contains
  m_Book___len__ : Meth K A.Book "__len__" A.m_Book_len
  m_Book___getitem__ : Meth K A.Book "__getitem__" A.m_Book_getitem
  m_Book___setitem__ : Meth K A.Book "__setitem__" A.m_Book_setitem
  m_Book_places : Meth K A.Book "places" A.m_Book_places
  fgi_Book : PySem.W.fnIn K A.m_Book_getitem = true
  nsq_Book : PySem.W.noSeq K A.Book = true
  g_LETTERS : ∃ t, mg "LETTERS" = some (.str "abcdefghijklmnopqrstuvwxyz" t)
  g_LONGEST : ∃ t, mg "LONGEST" = some (.int 12 t)
  g_MOST : ∃ t, mg "MOST" = some (.int 1000000 t)
  F_m_BadEntry_init : Fun K "__init__" "BadEntry.__init__" s_m_BadEntry_init A.m_BadEntry_init A.fd_m_BadEntry_init
  b_m_BadEntry_init : Binds K A.fd_m_BadEntry_init P_m_BadEntry_init []
  F_m_NoEntry_init : Fun K "__init__" "NoEntry.__init__" s_m_NoEntry_init A.m_NoEntry_init A.fd_m_NoEntry_init
  b_m_NoEntry_init : Binds K A.fd_m_NoEntry_init P_m_NoEntry_init []
  F_f_is_name : Fun K "is_name" "is_name" s_f_is_name A.f_is_name A.fd_f_is_name
  b_f_is_name : Binds K A.fd_f_is_name P_f_is_name []
  g_is_name : mg "is_name" = some (.ref A.f_is_name)
  F_f_is_number : Fun K "is_number" "is_number" s_f_is_number A.f_is_number A.fd_f_is_number
  b_f_is_number : Binds K A.fd_f_is_number P_f_is_number []
  g_is_number : mg "is_number" = some (.ref A.f_is_number)
  F_f_is_entry : Fun K "is_entry" "is_entry" s_f_is_entry A.f_is_entry A.fd_f_is_entry
  b_f_is_entry : Binds K A.fd_f_is_entry P_f_is_entry []
  g_is_entry : mg "is_entry" = some (.ref A.f_is_entry)
  F_m_Book_init : Fun K "__init__" "Book.__init__" s_m_Book_init A.m_Book_init A.fd_m_Book_init
  b_m_Book_init : Binds K A.fd_m_Book_init P_m_Book_init []
  F_m_Book_iter : Fun K "__iter__" "Book.__iter__" s_m_Book_iter A.m_Book_iter A.fd_m_Book_iter
  b_m_Book_iter : Binds K A.fd_m_Book_iter P_m_Book_iter []
  F_m_Book_contains : Fun K "__contains__" "Book.__contains__" s_m_Book_contains A.m_Book_contains A.fd_m_Book_contains
  b_m_Book_contains : Binds K A.fd_m_Book_contains P_m_Book_contains []
  F_m_Book_len : Fun K "__len__" "Book.__len__" s_m_Book_len A.m_Book_len A.fd_m_Book_len
  b_m_Book_len : Binds K A.fd_m_Book_len P_m_Book_len []
  F_m_Book_getitem : Fun K "__getitem__" "Book.__getitem__" s_m_Book_getitem A.m_Book_getitem A.fd_m_Book_getitem
  b_m_Book_getitem : Binds K A.fd_m_Book_getitem P_m_Book_getitem []
  F_m_Book_setitem : Fun K "__setitem__" "Book.__setitem__" s_m_Book_setitem A.m_Book_setitem A.fd_m_Book_setitem
  b_m_Book_setitem : Binds K A.fd_m_Book_setitem P_m_Book_setitem []
  F_m_Book_places : Fun K "places" "Book.places" s_m_Book_places A.m_Book_places A.fd_m_Book_places
  b_m_Book_places : Binds K A.fd_m_Book_places P_m_Book_places []
  F_l_bag : Fun K "_law_bag" "_law_bag" s_l_bag A.l_bag A.fd_l_bag
  b_l_bag : Binds K A.fd_l_bag P_l_bag []
  g__law_bag : mg "_law_bag" = some (.ref A.l_bag)
  F_l_draw : Fun K "_law_draw" "_law_draw" s_l_draw A.l_draw A.fd_l_draw
  b_l_draw : Binds K A.fd_l_draw P_l_draw []
  g__law_draw : mg "_law_draw" = some (.ref A.l_draw)
  F_l_names : Fun K "_law_names" "_law_names" s_l_names A.l_names A.fd_l_names
  b_l_names : Binds K A.fd_l_names P_l_names []
  g__law_names : mg "_law_names" = some (.ref A.l_names)
  F_l_pick : Fun K "_law_pick" "_law_pick" s_l_pick A.l_pick A.fd_l_pick
  b_l_pick : Binds K A.fd_l_pick P_l_pick []
  g__law_pick : mg "_law_pick" = some (.ref A.l_pick)
  F_l_next : Fun K "_law_next" "_law_next" s_l_next A.l_next A.fd_l_next
  b_l_next : Binds K A.fd_l_next P_l_next []
  g__law_next : mg "_law_next" = some (.ref A.l_next)
  F_l_entries : Fun K "_law_entries" "_law_entries" s_l_entries A.l_entries A.fd_l_entries
  b_l_entries : Binds K A.fd_l_entries P_l_entries []
  g__law_entries : mg "_law_entries" = some (.ref A.l_entries)
  F_l_book : Fun K "_law_book" "_law_book" s_l_book A.l_book A.fd_l_book
  b_l_book : Binds K A.fd_l_book P_l_book []
  g__law_book : mg "_law_book" = some (.ref A.l_book)
  F_l_wrong_name : Fun K "_law_wrong_name" "_law_wrong_name" s_l_wrong_name A.l_wrong_name A.fd_l_wrong_name
  b_l_wrong_name : Binds K A.fd_l_wrong_name P_l_wrong_name []
  g__law_wrong_name : mg "_law_wrong_name" = some (.ref A.l_wrong_name)
  F_l_spoilt : Fun K "_law_spoilt" "_law_spoilt" s_l_spoilt A.l_spoilt A.fd_l_spoilt
  b_l_spoilt : Binds K A.fd_l_spoilt P_l_spoilt []
  g__law_spoilt : mg "_law_spoilt" = some (.ref A.l_spoilt)
  F_l_refused : Fun K "_law_refused" "_law_refused" s_l_refused A.l_refused A.fd_l_refused
  b_l_refused : Binds K A.fd_l_refused P_l_refused []
  g__law_refused : mg "_law_refused" = some (.ref A.l_refused)
  F_l_kept : Fun K "_law_kept" "_law_kept" s_l_kept A.l_kept A.fd_l_kept
  b_l_kept : Binds K A.fd_l_kept P_l_kept []
  g__law_kept : mg "_law_kept" = some (.ref A.l_kept)
  F_f_law : Fun K "law" "law" s_f_law A.f_law A.fd_f_law
  b_f_law : Binds K A.fd_f_law P_f_law []
  g_law : mg "law" = some (.ref A.f_law)
/-- a word that the steps don't open -/
structure Wd (p : Prop) : Prop where
  ok : p
section
variable {X : Cx}
def tG (t : TS) : TS := fun D σ H => Wd (t D σ H)
def tGE (t : TE) : TE := fun σ H Q => Wd (t σ H Q)
theorem ps_g {st : Stmt} {t : TS} (h : PS X st t) : PS X st (tG t) := ⟨fun pins s σ H D I hw => h.run pins s σ H D I hw.ok⟩
theorem pss_g {st : List Stmt} {t : TS} (h : PSs X st t) : PSs X st (tG t) := ⟨fun pins s σ H D I hw => h.run pins s σ H D I hw.ok⟩
theorem pe_g {e : Expr} {t : TE} (h : PE X e t) : PE X e (tGE t) := ⟨fun pins s σ H Q I hw => h.run pins s σ H Q I hw.ok⟩
end
theorem if_int {i j : Int} {A B : Prop} (h1 : i = j → A) (h2 : i ≠ j → B) : if decide (V.int i = V.int j) = true then A else B := by
  by_cases e : i = j
  · rw [if_pos (decide_eq_true (congrArg V.int e))]
    exact h1 e
  · rw [if_neg fun z => e (V.int.inj (of_decide_eq_true z))]
    exact h2 e
theorem if_intN {i j : Int} {A B : Prop} (h1 : i ≠ j → A) (h2 : i = j → B) : if (!decide (V.int i = V.int j)) = true then A else B := by
  by_cases e : i = j
  · rw [decide_eq_true (congrArg V.int e)]
    exact iteF (h2 e)
  · rw [decide_eq_false fun z => e (V.int.inj z)]
    exact iteT (h1 e)
theorem if_dec {p A B : Prop} [Decidable p] (h1 : p → A) (h2 : ¬ p → B) : if decide p = true then A else B := by
  by_cases e : p
  · rw [if_pos (decide_eq_true e)]
    exact h1 e
  · rw [if_neg fun z => e (of_decide_eq_true z)]
    exact h2 e
theorem ifT {p A B : Prop} [Decidable p] (hp : p) (h : A) : if decide p = true then A else B := by
  rw [if_pos (decide_eq_true hp)]
  exact h
theorem ifF {p A B : Prop} [Decidable p] (hp : ¬ p) (h : B) : if decide p = true then A else B := by
  rw [if_neg fun z => hp (of_decide_eq_true z)]
  exact h
theorem ifNT {p A B : Prop} [Decidable p] (hp : p) (h : B) : if (!decide p) = true then A else B := by
  rw [decide_eq_true hp]
  exact iteF h
theorem ifNF {p A B : Prop} [Decidable p] (hp : ¬ p) (h : A) : if (!decide p) = true then A else B := by
  rw [decide_eq_false hp]
  exact iteT h
theorem if_bl {b : Bool} {A B : Prop} (h1 : b = true → A) (h2 : b = false → B) : if b = true then A else B := by
  cases b with
  | true => exact h1 rfl
  | false => exact iteF (h2 rfl)
/-- all but what stands at g is kept -/
def Kp (g : Addr) (H H' : Hp) : Prop := ∀ b o, H b = some o → b ≠ g → H' b = some o
theorem Kp.refl (g : Addr) (H : Hp) : Kp g H H := fun _ _ h _ => h
theorem Kp.trans {g : Addr} {H H1 H2 : Hp} (a : Kp g H H1) (b : Kp g H1 H2) : Kp g H H2 := fun c o h n => b c o (a c o h n) n
theorem Kp.up {g : Addr} {H H' : Hp} {o : HO} (k : Kp g H H') : Kp g H (upd H' g o) := fun b u e n => by
  rw [upd_ne n]
  exact k b u e n

/-! ### the bag of draws -/
structure Bag (H : Hp) (g l : Addr) : Prop where
  ex : ∃ (i r s c : Int) (ns : List Int), H g = some (.lst [.ref l, .int i, .int r, .int s, .int c]) ∧ H l = some (.lst (ns.map V.int)) ∧ 0 ≤ i
def spDraw : Sp := fun vs H Q _ => ∃ (g l : Addr) (z : Int), vs = [.ref g, .int z] ∧ Bag H g l ∧ 0 < z ∧ z.natAbs < 2 ^ 9000 ∧
  ∀ (n : Int) (H' : Hp), 0 ≤ n → n < z → Bag H' g l → Kp g H H' → Q (.int n) H'
theorem at_ints {ns : List Int} {i : Int} (h0 : 0 ≤ i) (h1 : i < (ns.length : Int)) : ∃ n, atI (ns.map V.int) i = some (.int n) := by
  obtain ⟨j, rfl⟩ := Int.eq_ofNat_of_zero_le h0
  have hj : j < ns.length := by omega
  exact ⟨ns[j], atI_nat (by rw [List.getElem?_map, List.getElem?_eq_getElem hj]; rfl)⟩
theorem cmul_r {i j : Int} (h : -(2 ^ 64) < j ∧ j < 2 ^ 64) : CMul i j := .inr h
theorem cmul_l {i j : Int} (h : -(2 ^ 64) < i ∧ i < 2 ^ 64) : CMul i j := .inl h
theorem cpow_of {i j : Int} (h1 : 0 ≤ j ∧ j ≤ 1000000) (h2 : -(2 ^ 63) < i ∧ i < 2 ^ 63) : CPow i j := ⟨h1.1, h1.2, by omega⟩
section
variable {P : Program} {w : World} {K : PySem.W.Frag} {mg : Str → Option Value} {base : Heap} {A : Ad}
theorem ok_l_draw (T : Txt K mg A) : FnOk P w K mg base CX0 1 A.l_draw A.fd_l_draw P_l_draw spDraw := by
  refine T.F_l_draw.ok sc_l_draw (fun vs H Q E h => ?_) (fun cdv Ar outer s H vs Q E hr h => ?_)
  · obtain ⟨g, l, z, rfl, _⟩ := h
    rfl
  · obtain ⟨g, l, z, rfl, ⟨i, r, sd, c, ns, hg, hl, hi⟩, hz, hz2, k⟩ := h
    have nlg : l ≠ g := ne_of hl hg (by intro q; cases ns <;> cases q)
    refine ⟨_, (pss_cons (ps_asg (pe_op op_add (pe_ix ix_list (pv 0) pe_int (fun _ _ => rfl)) pe_int) (pg_sub (pv 0) pe_int set_list))
      (pss_g (Evl.pss_cut (ps_if (PW.pt (pw_and (pt_cmpR op_eq (pe_ix ix_list (pv 0) pe_int (fun _ _ => rfl)) pe_int (nomark _)) (pw_and1 (pt_cmpR op_lt (pe_ix ix_list (pv 0) pe_int (fun _ _ => rfl)) (pe_callB call_len_seq (by rfl) T.z_len (by decide +kernel) (pa_cons (pe_ix ix_list (pv 0) pe_int (fun _ _ => rfl)) pa_nil)) (nomark _))))) (pss_cons (ps_set (i := 2) sc_l_draw.nd rfl (Or.inl rfl) (pe_ix ix_list (pe_ix ix_list (pv 0) pe_int (fun _ _ => rfl)) (pe_ix ix_list (pv 0) pe_int (fun _ _ => rfl)) (fun _ _ => rfl)))
      (pss_cons (ps_asg (pe_op op_add (pe_ix ix_list (pv 0) pe_int (fun _ _ => rfl)) pe_int) (pg_sub (pv 0) pe_int set_list))
      (pss_cons (ps_asg (pe_op op_mul (pe_op op_add (pe_op op_mul pe_int (pe_callB call_abs (by rfl) T.z_abs (by decide +kernel) (pa_cons (pv 2) pa_nil))) (pe_callTy call_int1 (by rfl) T.z_int (by decide +kernel) (pa_cons (pe_cmpR op_lt (pv 2) pe_int (nomark _)) pa_nil))) (pe_callTy call_int1 (by rfl) T.z_int (by decide +kernel) (pa_cons (pe_cmpR op_ge (pe_callB call_abs (by rfl) T.z_abs (by decide +kernel) (pa_cons (pv 2) pa_nil)) (pe_op op_pow pe_int pe_int) (nomark _)) pa_nil))) (pg_sub (pv 0) pe_int set_list))
      (pss_one (ps_asg (pe_op op_mod (pe_callTy call_int1 (by rfl) T.z_int (by decide +kernel) (pa_cons (pe_op op_add (pe_op op_add (pe_op op_mul (pe_ix ix_list (pv 0) pe_int (fun _ _ => rfl)) pe_int) (pe_op op_mul (pv 2) pe_int)) pe_int) pa_nil)) pe_int) (pg_sub (pv 0) pe_int set_list)))))) pss_nil)
      (pss_cons (ps_set (i := 3) sc_l_draw.nd rfl (Or.inl rfl) (pe_op op_mod (pe_callTy call_int1 (by rfl) T.z_int (by decide +kernel) (pa_cons (pe_ix ix_list (pv 0) pe_int (fun _ _ => rfl)) pa_nil)) (pv 1)))
      (pss_cons (ps_if (pt_cmpR op_gt (pe_ix ix_list (pv 0) pe_int (fun _ _ => rfl)) pe_int (nomark _)) (pss_cons (ps_asg (pe_op op_fdivW (pe_ix ix_list (pv 0) pe_int (fun _ _ => rfl)) (pv 1)) (pg_sub (pv 0) pe_int set_list))
      (pss_one (ps_ret (pv 3)))) pss_nil)
      (pss_cons (ps_set (i := 4) sc_l_draw.nd rfl (Or.inl rfl) (pe_op op_mod (pe_callTy call_int1 (by rfl) T.z_int (by decide +kernel) (pa_cons (pe_op op_add (pe_ix ix_list (pv 0) pe_int (fun _ _ => rfl)) (pe_op op_mul (pe_ix ix_list (pv 0) pe_int (fun _ _ => rfl)) pe_int)) pa_nil)) pe_int))
      (pss_cons (ps_set (i := 4) sc_l_draw.nd rfl (Or.inl rfl) (pe_op op_mod (pe_callTy call_int1 (by rfl) T.z_int (by decide +kernel) (pa_cons (pe_op op_add (pe_op op_add (pe_op op_pow (pv 4) pe_int) (pe_op op_mul (pe_ix ix_list (pv 0) pe_int (fun _ _ => rfl)) pe_int)) pe_int) pa_nil)) pe_int))
      (pss_one (ps_ret (pe_op op_mod (pe_op op_fdiv (pe_op op_mod (pe_callTy call_int1 (by rfl) T.z_int (by decide +kernel) (pa_cons (pe_op op_pow (pv 4) pe_int) pa_nil)) pe_int) pe_int) (pv 1))))))))))), ?_⟩
    refine ⟨_, rfl, g, _, _, _, rfl, rfl, SqL.of hg, rfl, _, _, rfl, rfl, _, rfl, g, _, _, _, rfl, rfl, hg, rfl, ?_⟩
    refine ⟨⟨fun σ' H' => Wd (∃ (i r s c : Int) (v : Option V), σ' = [some (.ref g), some (.int z), v, none, none] ∧ 0 ≤ i ∧ H' g = some (.lst [.ref l, .int i, .int r, .int s, .int c]) ∧ H' l = some (.lst (ns.map V.int)) ∧ Kp g H H'), ?_, ?_⟩⟩
    · walk_at "go"
      refine if_int (fun e0 => ?_) (fun e0 => ?_)
      · walk_at "go"
        refine if_dec (fun e1 => ?_) (fun e1 => ?_)
        · obtain ⟨n, hn⟩ := at_ints (ns := ns) hi (by simpa using e1)
          walk_at "go"
          exact ⟨i + 1, _, _, c + 1, _, rfl, by omega, upd_same, by walk_at "at", (((Kp.refl g H).up.up.up.up))⟩
        · exact ⟨i, r, sd, c + 1, none, rfl, hi, upd_same, by walk_at "at", (Kp.refl g H).up⟩
      · refine iteF ?_
        exact ⟨i, r, sd, c + 1, none, rfl, hi, upd_same, by walk_at "at", (Kp.refl g H).up⟩
    · rintro σ' H' ⟨i, r, s, c, v, rfl, hi, hg, hl, kp⟩
      walk_at "go"
      refine if_dec (fun e1 => ?_) (fun e1 => ?_)
      · walk_at "go"
        exact k _ _ (Int.emod_nonneg _ (by omega)) (Int.emod_lt_of_pos _ hz) ⟨i, _, s, c, ns, upd_same, by walk_at "at", hi⟩ kp.up
      · walk_at "go"
        exact k _ _ (Int.emod_nonneg _ (by omega)) (Int.emod_lt_of_pos _ hz) ⟨i, r, s, c, ns, hg, hl, hi⟩ kp
end

/-! ### calls in the body of a try: what they raise is wished for at the slots as they stand -/
section
open PySem.Spec PyProof.Rows
variable {X : Cx} {CX : CXT} {k : Nat} {f C : Addr} {fd : FuncData} {ps : List Str} {sp : Sp} {dvs : List V} {ds : List Value} {E : L2.St → XK} {x m : Str} {p pos apos : Pos} {e o : Expr} {es : List Expr} {ta : TE} {t : TA}
theorem run_mkS {pins : List (Addr × Obj)} {σ : L2.St} {H : Hp} {s : Shared} {Q : VK} {us : List Value} {vs : List V} (M : Mk X.K C f) (F : FnOk X.prog X.w X.K X.mg X.base CX k f fd ps sp)
    (hr : Room (k + 1) X.A) (hb : Binds X.K fd ps ds) (hd : Vals dvs ds) (hx : PassesAt CX X σ (E σ)) (I : Inv X pins σ H s) (r : Vals vs us)
    (h : ∀ x dx, H x = none → H dx = none → dx ≠ x → sp (.ref x :: (vs ++ dvs)) (upd (upd H dx (.own x)) x (.ins C dx [])) (fun v H2 => v = .non ∧ Q (.ref x) H2) (E σ)) :
    wpAny (model X.prog X.w) X.A (call (.ref C) us) (EP X pins σ Q) X.xe s := by
  have a1 := h (s.heap.objs.size + 1) s.heap.objs.size (I.hok.fresh (Nat.le_succ _)) (I.hok.fresh (Nat.le_refl _)) (Nat.ne_of_lt (Nat.lt_succ_self _))
  have J := Inv.made (C := C) I
  have a2 : Vals (V.ref (s.heap.objs.size + 1) :: (vs ++ dvs)) (Value.ref (s.heap.objs.size + 1) :: (us ++ ds)) := .cons rfl (r.append hd)
  have a3 : (Value.ref (s.heap.objs.size + 1) :: us ++ ds).length = ps.length := by
    have z := a2.length
    rw [F.len _ _ _ _ a1] at z
    exact z.symm
  refine wpAny_call (make_map (f := f) I.kIn M.makes M.init (beq_iff_eq.mp M.fn) (codeAny_mono (F.run _ X.stack _ _ ⟨Value.ref (s.heap.objs.size + 1) :: us, []⟩
    (Value.ref (s.heap.objs.size + 1) :: (us ++ ds)) _ _ (E σ) (hr.make C us []) (J.env0.make C us []) (hb _ (Value.ref (s.heap.objs.size + 1) :: us) J.kIn a3) a2 a1) fun r s' z => ?_))
  cases r with
  | error u => exact hx pins _ _ u s' J z
  | ok fl =>
    cases fl with
    | ret u =>
      obtain ⟨v, H', J3, rv, ev, q3⟩ := J.after z
      subst ev
      exact ⟨rv, V.ref (s.heap.objs.size + 1), H', J3, rfl, q3⟩
    | next => exact z.elim
    | brk => exact z.elim
    | cont => exact z.elim
def tMakeS (C : Addr) (sp : Sp) (dvs : List V) (E : L2.St → XK) (t : TA) : TE := fun σ H Q => t σ H fun vs H1 => ∀ x dx, H1 x = none → H1 dx = none → dx ≠ x →
  sp (.ref x :: (vs ++ dvs)) (upd (upd H1 dx (.own x)) x (.ins C dx [])) (fun v H2 => v = .non ∧ Q (.ref x) H2) (E σ)
theorem pe_makeS (M : Mk X.K C f) (F : FnOk X.prog X.w X.K X.mg X.base CX k f fd ps sp) (hr : Room (k + 1) X.A) (hg : Gl X x) (hm : X.mg x = some (.ref C)) (hb : Binds X.K fd ps ds) (hd : Vals dvs ds) (hx : ∀ σ, PassesAt CX X σ (E σ))
    (ha : PA X (e :: es) t) (hdb : (x == ("__debug__" : Str)) = false := by decide) (he : starEach (e :: es) X.env = (false, eval e X.env) :: starEach es X.env := by rfl)
    (hpl : (backTo pos (starEach es X.env)).any (·.1) = false := by rfl) : PE X (.Call (.Name x p) (e :: es) [] pos) (tMakeS C sp dvs E t) := ⟨fun pins s σ H Q I h =>
  wpAny_Call_Name_kw (ld_glob I hg hm (PySem.W.callWith_K (h₀ := X.base) I.ok.mod.kin M.kp (thn (ha.run pos pins s σ H _ I h) fun us s1 ⟨vs, H1, I1, r, q⟩ => ⟨I1.kIn, run_mkS M F hr hb hd (hx σ) I1 r q⟩) he hpl) hdb)⟩
def tMethS (C : Addr) (m : Str) (sp : Sp) (E : L2.St → XK) (ta : TE) (t : TA) : TE := fun σ H Q => ta σ H fun x H1 => ∃ a dx fs, x = .ref a ∧ H1 a = some (.ins C dx fs) ∧ fs.lookup m = none ∧
  t σ H1 fun vs H2 => sp (.ref a :: vs) H2 Q (E σ)
theorem pe_methA {pl : Sem Bool} (he : PE X o ta) (c : Cls X.K C) (hm : Meth X.K C m f) (F : FnOk X.prog X.w X.K X.mg X.base CX k f fd ps sp) (hr : Room k X.A) (hb : Binds X.K fd ps []) (hx : ∀ σ, PassesAt CX X σ (E σ)) (ha : PA X (e :: es) t)
    (hst : starEach (e :: es) X.env = (false, eval e X.env) :: starEach es X.env := by rfl) (hpl : (backTo pos (starEach es X.env)).any (·.1) = false := by rfl)
    (ht : eval (.Call (.Attribute o m apos) (e :: es) [] pos) X.env = (eval o X.env >>= fun ov => standAt apos.atName >>= fun _ => holding [ov] (getMethod ov m pl) >>= fun (f, first) =>
      callWith pos f first (backTo pos (starEach (e :: es) X.env)) (backToKw pos (keywordEach [] X.env))) := by rfl) :
    PE X (.Call (.Attribute o m apos) (e :: es) [] pos) (tMethS C m sp E ta t) := by
  refine ⟨fun pins s σ H Q I h => ?_⟩
  refine PySem.W.methodCall_KW (pl := pl) (thn (he.run pins s σ H _ I h) fun u s1 ⟨x, H1, I1, rx, a, dx, fs, ex, ea, l, q⟩ => ?_) ht
  cases ex
  obtain rfl : u = Value.ref a := rx
  exact getmeth_ok I1 ea c hm l (PySem.W.callWith_K (first := [.ref a]) (h₀ := X.base) I.ok.mod.kin hm.kp (thn (ha.run pos pins s1 σ H1 _ I1 q) fun us s2 ⟨vs, H2, I2, r, q2⟩ =>
    ⟨I2.kIn, run_fnS (E := E) (us := .ref a :: us) (vs := .ref a :: vs) F hr hb (hx σ) I2 (.cons rfl r) q2⟩) hst hpl)

def oe0 : Obj := { cls := .none, data := .fields #[] }
variable {n : Str} {c : Value} {i : Nat} {body suite : List Stmt} {b0 : Stmt} {np pos' : Pos} {Wout : WX}
  {tb : WX → List (Addr × Obj) → (Value → Shared → Prop) → TS} {ts : Addr → Obj → Value → Option Addr → List (Addr × Obj) → TS}
/-- try: .. except x as n: .., the readings of the body and of the suite free of what they can't hang on (both shown by rfl) -/
theorem ps_tryV (hs : X.stack = X.env :: X.outer) (hf : X.env.frame = some X.env.locals) (hN : X.N.Nodup) (hi : X.N[i]? = some n) (hln : X.env.kindOf n = some .local) (hc : Names X x c) (tk : Takes X Wout)
    (hb : ∀ (W : WX) (pn : List (Addr × Obj)) (xe : Value → Shared → Prop), Takes (X.tr pn xe) W → PassesOwn (model X.prog X.w) X.A X.env xe → PSs (X.tr pn xe) body (tb W pn xe))
    (hsu : ∀ (a : Addr) (oe : Obj) (cls : Value) (d : Option Addr) (pn : List (Addr × Obj)), Zc cls d oe → (∃ vs, oe.data = .fields vs) → PSs (X.suite a ((a, oe) :: pn)) (b0 :: suite) (ts a oe cls d pn))
    (e1 : ∀ W pn xe, tb W pn xe = tb W [] (fun _ _ => False)) (e2 : ∀ a oe cls d pn, ts a oe cls d pn = ts a oe0 cls d []) :
    PS X (.Try body [.ExceptHandler (some (.Name x np)) (some n) (b0 :: suite) pos'] [] [] pos) (fun D σ H => tb (wAs X.K c i (fun a cls d => ts a oe0 cls d []) Wout D) [] (fun _ _ => False) D σ H) :=
  ps_try_as (tb := fun W => tb W [] (fun _ _ => False)) (ts := fun a cls d => ts a oe0 cls d []) hs hf hN hi hln hc tk (fun W pn xe k po => by rw [← e1 W pn xe]; exact hb W pn xe k po)
    (fun a oe cls d pn z f => by rw [← e2 a oe cls d pn]; exact hsu a oe cls d pn z f)
/-- isinstance(e, C) of the error that the suite holds, one without a dict of its own -/
def rIsEV (K : PySem.W.Frag) (cls : Value) (d : Option Addr) (a : Addr) : List V → Hp → VK → Prop := fun xs H Q => ∃ (D : Addr) (c : V) (cv : Value) (b : Bool), cls = .ref D ∧ d = none ∧ ExcC K D ∧ xs = [.ref a, c] ∧ (∀ u, RelV c u → u = cv) ∧ PySem.W.kitOne K (.ref D) cv = some b ∧ Q (.bl b) H
theorem call_isEV {a : Addr} {oe : Obj} {cls : Value} {d : Option Addr} {pn : List (Addr × Obj)} (hz : Zc cls d oe) (hf : ∃ vs, oe.data = .fields vs) : CallR (X.suite a ((a, oe) :: pn)) (.builtin "isinstance") (rIsEV X.K cls d a) := by
  intro pins s σ H xs us Q I r h
  obtain ⟨D, c, cv, b, rfl, rfl, C, h⟩ := h
  exact call_isE C hz hf pins s σ H xs us Q I r ⟨c, cv, b, h⟩
end
/-! ### list comprehensions: the readings of their parts free of what they can't hang on -/
section
open PySem.Spec PyProof.Rows
variable {X : Cx} {elt tg iter : Expr} {ifs : List Expr} {scope : Scope} {own : List (Str × Nat)} {pos spos py : Pos} {wi : TI} {i : Nat} {y : Str}
abbrev Bk (α : Type) := Shared → Hp → Addr → List (Str × Addr) → List Addr → α
abbrev Bk.at0 {α : Type} (f : Bk α) (X : Cx) : α := f X.s_0 X.H_0 0 [] []
variable {g : Bk TG} {tt : Bk TT} {te : Bk TE}
theorem pe_lcV (hc : X.calm = true) (hN : X.N.Nodup) (hi : PI X tg iter wi) (ok : BlkOk X.N X.env.scope scope own)
    (hg : ∀ s H C cl fp, PG (X.blk s H scope (compEnvC scope cl C X.env) fp) tg (g s H C cl fp)) (ht : ∀ s H C cl fp, PTs (X.blk s H scope (compEnvC scope cl C X.env) fp) ifs (tt s H C cl fp))
    (he : ∀ s H C cl fp, PE (X.blk s H scope (compEnvC scope cl C X.env) fp) elt (te s H C cl fp)) (e1 : ∀ s H C cl fp, g s H C cl fp = g.at0 X) (e2 : ∀ s H C cl fp, tt s H C cl fp = tt.at0 X)
    (e3 : ∀ s H C cl fp, te s H C cl fp = te.at0 X) (hs : ∀ x, foldedSetIterable iter X.env x = pure x := by intro _; rfl) :
    PE X (.ListComp elt [⟨tg, iter, ifs, 0⟩] scope pos) (tLc wi (g.at0 X) (tt.at0 X) (te.at0 X) (own.map (·.2))) :=
  pe_lc hc hN hi ok (fun s H C cl fp => by rw [← e1 s H C cl fp]; exact hg s H C cl fp) (fun s H C cl fp => by rw [← e2 s H C cl fp]; exact ht s H C cl fp) (fun s H C cl fp => by rw [← e3 s H C cl fp]; exact he s H C cl fp) hs
theorem ps_setLcV (hc : X.calm = true) (hN : X.N.Nodup) (hy : X.N[i]? = some y) (hyl : X.env.scope.names.lookup y = some .local)
    (hsw : swapsWith (.ListComp elt [⟨tg, iter, ifs, 0⟩] scope pos) (some (.Name y py)) spos.line X.env = pure true) (hi : PI X tg iter wi) (ok : BlkOk X.N X.env.scope scope own)
    (hg : ∀ s H C cl fp, PG (X.blk s H scope (compEnvC scope cl C X.env) fp) tg (g s H C cl fp)) (ht : ∀ s H C cl fp, PTs (X.blk s H scope (compEnvC scope cl C X.env) fp) ifs (tt s H C cl fp))
    (he : ∀ s H C cl fp, PE (X.blk s H scope (compEnvC scope cl C X.env) fp) elt (te s H C cl fp)) (e1 : ∀ s H C cl fp, g s H C cl fp = g.at0 X) (e2 : ∀ s H C cl fp, tt s H C cl fp = tt.at0 X)
    (e3 : ∀ s H C cl fp, te s H C cl fp = te.at0 X) (hs : ∀ x, foldedSetIterable iter X.env x = pure x := by intro _; rfl) :
    PS X (.Assign [.Name y py] (.ListComp elt [⟨tg, iter, ifs, 0⟩] scope pos) spos) (tAsg (tLc wi (g.at0 X) (tt.at0 X) (te.at0 X) (own.map (·.2))) (gName i)) :=
  ps_setLc hc hN hy hyl hsw hi ok (fun s H C cl fp => by rw [← e1 s H C cl fp]; exact hg s H C cl fp) (fun s H C cl fp => by rw [← e2 s H C cl fp]; exact ht s H C cl fp) (fun s H C cl fp => by rw [← e3 s H C cl fp]; exact he s H C cl fp) hs
end

/-! ### errors of own classes with fields -/
section
open PySem.Spec PyProof.Rows
variable {X : Cx} {CX : CXT} {k n : Nat} {f C CE : Addr} {fd : FuncData} {ps ks : List Str} {sp : Sp} {ds : List Value} {dvs : List V} {x : Str} {p p1 p2 pos : Pos} {e : Expr} {es : List Expr} {kws : List Keyword} {ta t tk : TA} {te : TE}
/-- B.__init__(self, ..), B an own class that has it from ValueError -/
theorem pe_ceinit {pl : Sem Bool} (hg : Gl X x) (hm : X.mg x = some (.ref CE)) (rd : PySem.W.readsIn X.K CE (.type "type") = true) (ga : PySem.W.specialIn X.K (.ref CE) "__getattribute__" = some (some (.builtin "type.__getattribute__")))
    (vV : PySem.W.findCls X.K (.ref CE) (.type "type") "__init__" = some (.val (.builtin "ValueError.__init__"))) (ha : PA X (e :: es) ta) (hdb : (x == ("__debug__" : Str)) = false := by decide)
    (hc : eval (.Call (.Attribute (.Name x p1) "__init__" p2) (e :: es) [] pos) X.env = (eval (.Name x p1) X.env >>= fun ov => standAt p2.atName >>= fun _ => holding [ov] (getMethod ov "__init__" pl) >>= fun (f, first) =>
      callWith pos f first (backTo pos (starEach (e :: es) X.env)) (backToKw pos (keywordEach [] X.env))) := by rfl)
    (he : starEach (e :: es) X.env = (false, eval e X.env) :: starEach es X.env := by rfl) (hpl : (backTo pos (starEach es X.env)).any (·.1) = false := by rfl) :
    PE X (.Call (.Attribute (.Name x p1) "__init__" p2) (e :: es) [] pos) (tVeI X.K ta) := by
  refine ⟨fun pins s σ H Q I h => ?_⟩
  refine PySem.W.methodCall_KW (ld_glob I hg hm ?_ hdb) hc
  refine PySem.W.method_cls I.kIn ga (PySem.W.cls_value I.kIn rd vV (by decide +kernel) ?_)
  refine callWith_method1 (first := []) (id := "ValueError.__init__") (thn (ha.run pos pins _ σ H _ (I.tok _) h) fun us s1 z => ?_) he hpl
  obtain ⟨vs, H1, J, r1, a, C, ws, rfl, hl, T, ea, q⟩ := z
  obtain ⟨u0, ur, rfl, ra, rr⟩ : ∃ u0 ur, us = u0 :: ur ∧ RelV (.ref a) u0 ∧ Vals ws ur := by
    cases r1 with
    | cons a1 b1 => exact ⟨_, _, rfl, a1, b1⟩
  obtain rfl : u0 = Value.ref a := ra
  exact oinit_ok T J ea (by rw [← rr.length, sizeLine_eq]; omega) fun s' J' => ⟨.non, H1, J', rfl, q⟩
/-- isinstance(e, C) of the error that the suite holds, one with a dict of its own -/
def rIsEW (K : PySem.W.Frag) (cls : Value) (d : Option Addr) (a : Addr) : List V → Hp → VK → Prop := fun xs H Q => ∃ (D dd : Addr) (fs : List (Str × V)) (c : V) (cv : Value) (b : Bool), cls = .ref D ∧ d = some dd ∧ H dd = some (.xd fs) ∧ ExcC K D ∧ xs = [.ref a, c] ∧
  (∀ u, RelV c u → u = cv) ∧ PySem.W.kitOne K (.ref D) cv = some b ∧ Q (.bl b) H
theorem call_isEW {a : Addr} {oe : Obj} {cls : Value} {d : Option Addr} {pn : List (Addr × Obj)} (hz : Zc cls d oe) (hf : ∃ vs, oe.data = .fields vs) : CallR (X.suite a ((a, oe) :: pn)) (.builtin "isinstance") (rIsEW X.K cls d a) := by
  intro pins s σ H xs us Q I r h
  obtain ⟨D, dd, fs, c, cv, b, rfl, rfl, hd, Z, rfl, hcv, hk, q⟩ := h
  obtain ⟨u1, u2, rfl, r1, r2⟩ : ∃ u1 u2, us = [u1, u2] ∧ RelV (.ref a) u1 ∧ RelV c u2 := by
    cases r with
    | cons a1 b1 =>
      cases b1 with
      | cons a2 b2 =>
        cases b2
        exact ⟨_, _, rfl, a1, a2⟩
  obtain rfl : u1 = Value.ref a := r1
  obtain rfl := hcv _ r2
  obtain ⟨hget, _⟩ := I.pin (a, oe) (List.mem_append_left _ List.mem_cons_self)
  obtain ⟨vs, hv⟩ := hf
  obtain ⟨mA, hns, _⟩ := (show ObjOk X.prog X.w H s.heap dd (.xd fs) from I.hok dd _ hd)
  obtain ⟨od, ho, _⟩ := lookIn_ns hns
  have J : PySem.W.InstAt s.heap a oe D (some od) := ⟨hget, hz.1, by unfold PySem.W.notCls; rw [hv] <;> rfl, by rw [hz.2]; exact ho⟩
  obtain ⟨cd, hcd, _⟩ := PySem.W.any_some Z.hd
  exact PySem.W.kia_one (PySem.W.kitx_exc (by rw [hcd]; rfl) Z.hg Z.hk Z.hs Z.ha Z.hn Z.ht Z.hm) I.kIn J hk (fun z => nomatch z) fun tk => ⟨.bl b, H, I.kept (t' := tk) fun _ _ z => z, rfl, q⟩
/-- C(.., k = v, ..) in the body of a try -/
def tMakeKS (C : Addr) (n m : Nat) (sp : Sp) (gV : List V → List V → List V) (E : L2.St → XK) (t tk : TA) : TE := fun σ H Q => t σ H fun vs H1 => tk σ H1 fun zs H2 => vs.length = n ∧ zs.length = m ∧ ∀ x dx, H2 x = none → H2 dx = none → dx ≠ x →
  sp (gV (.ref x :: vs) zs) (upd (upd H2 dx (.own x)) x (.ins C dx [])) (fun v H3 => v = .non ∧ Q (.ref x) H3) (E σ)
theorem pe_makeKS {g : List Value → List Value → List Value} {gV : List V → List V → List V} {E : L2.St → XK} (M : Mk X.K C f) (F : FnOk X.prog X.w X.K X.mg X.base CX k f fd ps sp) (hr : Room (k + 1) X.A) (hg : Gl X x) (hm : X.mg x = some (.ref C)) (hb : KBn X.K fd ps (n + 1) ks g gV)
    (hx : ∀ σ, PassesAt CX X σ (E σ)) (ha : PA X (e :: es) t) (hkw : PK X kws tk)
    (hall : (backToKw pos (keywordEach kws X.env)).all (·.1.isSome) = true := by rfl) (hks : (backToKw pos (keywordEach kws X.env)).filterMap (·.1) = ks := by rfl) (hdb : (x == ("__debug__" : Str)) = false := by decide)
    (he : starEach (e :: es) X.env = (false, eval e X.env) :: starEach es X.env := by rfl) (hpl : ((backTo pos (starEach (e :: es) X.env)).any (·.1) || (backToKw pos (keywordEach kws X.env)).any (·.1.isNone)) = false := by rfl) :
    PE X (.Call (.Name x p) (e :: es) kws pos) (tMakeKS C n ks.length sp gV E t tk) := by
  refine ⟨fun pins s σ H Q I h => wpAny_Call_Name_kw (ld_glob I hg hm (PySem.W.callWith_KW (h₀ := X.base) I.ok.mod.kin M.kp hall (thn (ha.run pos pins s σ H _ I h) fun us s1 z => ?_) hpl he) hdb)⟩
  obtain ⟨vs, H1, I1, r, q⟩ := z
  refine thn (hkw.run pos pins s1 σ H1 _ I1 q) fun ws s2 z => ?_
  obtain ⟨zs, H2, I2, rz, l1, l2, q2⟩ := z
  refine ⟨I2.kIn, ?_⟩
  rw [hks]
  have a1 := q2 (s2.heap.objs.size + 1) s2.heap.objs.size (I2.hok.fresh (Nat.le_succ _)) (I2.hok.fresh (Nat.le_refl _)) (Nat.ne_of_lt (Nat.lt_succ_self _))
  have J := Inv.made (C := C) I2
  have r1 : Vals (V.ref (s2.heap.objs.size + 1) :: vs) (Value.ref (s2.heap.objs.size + 1) :: us) := .cons rfl r
  refine wpAny_call (make_map (f := f) I2.kIn M.makes M.init (beq_iff_eq.mp M.fn) (codeAny_mono (F.run _ X.stack _ _ ⟨Value.ref (s2.heap.objs.size + 1) :: us, ks.zip ws⟩ (g (Value.ref (s2.heap.objs.size + 1) :: us) ws) _ _ (E σ) (hr.make C us (ks.zip ws))
    (J.env0.make C us (ks.zip ws)) (hb.to _ (Value.ref (s2.heap.objs.size + 1) :: us) ws J.kIn (by rw [List.length_cons, ← r.length, l1]) (rz.length.symm.trans l2)) (hb.rel r1 rz) a1) fun o s' z => ?_))
  cases o with
  | error u => exact hx σ pins _ _ u s' J z
  | ok fl =>
    cases fl with
    | ret u =>
      obtain ⟨v, H', J3, rv, ev, q3⟩ := J.after z
      subst ev
      exact ⟨rv, V.ref (s2.heap.objs.size + 1), H', J3, rfl, q3⟩
    | next => exact z.elim
    | brk => exact z.elim
    | cont => exact z.elim
end
/-- C.__init__(self, v): the error gets its dict with one field -/
def spExc1 (C : Addr) (f : Str) : Sp := fun vs H Q _ => ∃ (a : Addr) (v : V), vs = [.ref a, v] ∧ H a = some (exo a C none) ∧ ∀ d, H d = none → d ≠ a → Q .non (upd (upd H d (exd d [(f, v)])) a (exo a C (some d)))

/-! ### lists side by side -/
section
variable {α β : Type} {R S : α → β → Prop} {xs us : List α} {ys vs : List β} {x : α} {y : β} {i : Nat}
def All2 (R : α → β → Prop) (xs : List α) (ys : List β) : Prop := xs.length = ys.length ∧ ∀ (i : Nat) x y, xs[i]? = some x → ys[i]? = some y → R x y
theorem All2.nil : All2 R [] [] := ⟨rfl, fun i x y h => by simp at h⟩
theorem All2.mono (h : All2 R xs ys) (k : ∀ x y, R x y → S x y) : All2 S xs ys := ⟨h.1, fun i x y a b => k _ _ (h.2 i x y a b)⟩
theorem All2.cons (h : R x y) (k : All2 R xs ys) : All2 R (x :: xs) (y :: ys) := ⟨by rw [List.length_cons, List.length_cons, k.1], fun i a b ha hb => by
  cases i with
  | zero => simp at ha hb; subst ha; subst hb; exact h
  | succ i => simp at ha hb; exact k.2 i a b ha hb⟩
theorem All2.one (h : R x y) : All2 R [x] [y] := .cons h .nil
theorem All2.app (h : All2 R xs ys) (k : All2 R us vs) : All2 R (xs ++ us) (ys ++ vs) := ⟨by rw [List.length_append, List.length_append, h.1, k.1], fun i a b ha hb => by
  by_cases hi : i < xs.length
  · rw [List.getElem?_append_left hi] at ha
    rw [List.getElem?_append_left (by rw [← h.1]; exact hi)] at hb
    exact h.2 i a b ha hb
  · rw [List.getElem?_append_right (by omega)] at ha
    rw [List.getElem?_append_right (by rw [← h.1]; omega), ← h.1] at hb
    exact k.2 _ a b ha hb⟩
theorem All2.take (h : All2 R xs ys) (n : Nat) : All2 R (xs.take n) (ys.take n) := ⟨by rw [List.length_take, List.length_take, h.1], fun i a b ha hb => by
  rw [List.getElem?_take] at ha hb
  by_cases hi : i < n
  · rw [if_pos hi] at ha hb
    exact h.2 i a b ha hb
  · rw [if_neg hi] at ha
    cases ha⟩
theorem All2.drop (h : All2 R xs ys) (n : Nat) : All2 R (xs.drop n) (ys.drop n) := ⟨by rw [List.length_drop, List.length_drop, h.1], fun i a b ha hb => by
  rw [List.getElem?_drop] at ha hb
  exact h.2 _ a b ha hb⟩
theorem All2.get (h : All2 R xs ys) (hi : xs[i]? = some x) : ∃ y, ys[i]? = some y ∧ R x y := by
  have hl : i < ys.length := by
    rw [← h.1]
    exact (List.getElem?_eq_some_iff.mp hi).1
  have e : ys[i]? = some ys[i] := List.getElem?_eq_getElem hl
  exact ⟨_, e, h.2 i _ _ hi e⟩
theorem take_more {α : Type} {ys : List α} {y : α} {i : Nat} (h : ys[i]? = some y) : ys.take (i + 1) = ys.take i ++ [y] := by
  rw [List.take_add_one, h]
  rfl
end
section
open PySem.Spec PyProof.Rows
variable {X : Cx}
/-- one operator, two ways to read it -/
theorem op_mix {f : Value → Value → Sem Value} {r1 r2 : R2} (h1 : OpR X f r1) (h2 : OpR X f r2) : OpR X f (fun x y H Q => Wd (r1 x y H Q ∨ r2 x y H Q)) := by
  intro pins s σ H x y v u Q I rx ry h
  rcases h.ok with h | h
  · exact h1 pins s σ H x y v u Q I rx ry h
  · exact h2 pins s σ H x y v u Q I rx ry h
theorem vals_same {A : Around} {s : Shared} {xs : List V} (hx : ∀ x ∈ xs, flatB x = true ∨ ∃ a, x = .ref a) : ∀ {us ws : List Value}, Vals xs us → Vals xs ws → ∀ j (h1 : j < us.length) (h2 : j < ws.length), SeqAt.EqAt A s us[j] ws[j] true := by
  induction xs with
  | nil =>
    intro us ws r1 r2 j h1 h2
    cases r1
    exact absurd h1 (Nat.not_lt_zero j)
  | cons x xs ih =>
    intro us ws r1 r2 j h1 h2
    cases r1 with
    | cons a1 b1 =>
      cases r2 with
      | cons a2 b2 =>
        cases j with
        | zero =>
          rcases hx x List.mem_cons_self with f | ⟨a, rfl⟩
          · exact eqAt_same a1 a2 f
          · cases a1
            cases a2
            exact SeqAt.EqAt.same _
        | succ j => exact ih (fun y hy => hx y (List.mem_cons_of_mem _ hy)) b1 b2 j (Nat.lt_of_succ_lt_succ h1) (Nat.lt_of_succ_lt_succ h2)
/-- a != b, two lists of the same items -/
theorem op_neL (hu : X.A.units + 64 < cLine) : OpR X (compareOp .NotEq) (fun x y H Q => Wd (∃ (a b : Addr) (xs : List V), x = .ref a ∧ y = .ref b ∧ SqL X.K H a xs ∧ SqL X.K H b xs ∧ (∀ x ∈ xs, flatB x = true ∨ ∃ a, x = .ref a) ∧ Q (.bl false) H)) := by
  intro pins s σ H x y v u Q I rx ry h
  obtain ⟨a, b, xs, rfl, rfl, ha, hb, hx, q⟩ := h.ok
  cases rx
  cases ry
  obtain ⟨us, r1, p1, _⟩ := I.list ha
  obtain ⟨ws, r2, p2, _⟩ := I.list hb
  have hsz : us.toArray.size = ws.toArray.size := by
    rw [List.size_toArray, List.size_toArray, ← r1.length, ← r2.length]
  have k := SeqAt.RcNeAt.lists (A := X.A) (e := fun _ => true) p1.isList p2.isList hsz (by omega) (fun j h1 h2 => by
    have k := vals_same (A := X.A.in1) (s := s) hx r1 r2 j (by simpa using h1) (by simpa using h2)
    simpa using k)
  refine k X.prog X.w _ _ ?_
  rw [show ((List.range us.toArray.size).all fun _ => true) = true from List.all_eq_true.mpr fun _ _ => rfl]
  exact ⟨.bl false, H, I, rfl, q⟩
/-- a != b, two tuples of the same items -/
theorem op_neT (hu : X.A.units + 64 < cLine) : OpR X (compareOp .NotEq) (fun x y H Q => Wd (∃ (a b : Addr) (xs : List V), x = .ref a ∧ y = .ref b ∧ SqT X.K H a xs ∧ SqT X.K H b xs ∧ (∀ x ∈ xs, flatB x = true ∨ ∃ a, x = .ref a) ∧ Q (.bl false) H)) := by
  intro pins s σ H x y v u Q I rx ry h
  obtain ⟨a, b, xs, rfl, rfl, ha, hb, hx, q⟩ := h.ok
  cases rx
  cases ry
  obtain ⟨us, r1, p1, _⟩ := I.tuple ha
  obtain ⟨ws, r2, p2, _⟩ := I.tuple hb
  have hsz : us.toArray.size = ws.toArray.size := by
    rw [List.size_toArray, List.size_toArray, ← r1.length, ← r2.length]
  have k := SeqAt.RcNeAt.tuples (A := X.A) (e := fun _ => true) p1 p2 (by omega) (fun j h1 h2 => by
    have k := vals_same (A := X.A.in1) (s := s) hx r1 r2 j (by simpa using h1) (by simpa using h2)
    simpa using k)
  refine k X.prog X.w _ _ ?_
  refine ⟨.bl false, H, I, ?_, q⟩
  show Value.bool _ = Value.bool false
  simp [hsz]
end

/-! ### == and != of data of any depth, texts of any signs -/
section
open PySem.Spec PyProof.Rows
variable {X : Cx}
def rEqP (K : PySem.W.Frag) : R2 := fun x y H Q => Wd (∃ d e, Dp K H x d ∧ Dp K H y e ∧ d.plain = true ∧ e.plain = true ∧ d.depth ≤ 64 ∧ Q (.bl (PyData.eqv d e)) H)
def rNeP (K : PySem.W.Frag) : R2 := fun x y H Q => Wd (∃ d e, Dp K H x d ∧ Dp K H y e ∧ d.plain = true ∧ e.plain = true ∧ d.depth ≤ 64 ∧ Q (.bl (!PyData.eqv d e)) H)
theorem op_eqP (hu : X.A.units + 64 < cLine) : OpR X (compareOp .Eq) (rEqP X.K) := by
  intro pins s σ H x y v u Q I rx ry h
  obtain ⟨d, e, hd, he, sd, se, dp, q⟩ := h.ok
  obtain ⟨as, r1⟩ := Dp.reads I d x v hd rx
  obtain ⟨bs, r2⟩ := Dp.reads I e y u he ry
  have := Nat.min_le_left d.depth e.depth
  exact SeqAt.eq_plain r1 r2 sd se (by omega) ⟨.bl _, H, I, rfl, q⟩
theorem op_neP (hu : X.A.units + 64 < cLine) : OpR X (compareOp .NotEq) (rNeP X.K) := by
  intro pins s σ H x y v u Q I rx ry h
  obtain ⟨d, e, hd, he, sd, se, dp, q⟩ := h.ok
  obtain ⟨as, r1⟩ := Dp.reads I d x v hd rx
  obtain ⟨bs, r2⟩ := Dp.reads I e y u he ry
  have := Nat.min_le_left d.depth e.depth
  exact SeqAt.ne_plain r1 r2 sd se (by omega) ⟨.bl _, H, I, rfl, q⟩
theorem eqP_same {K : PySem.W.Frag} {x y : V} {H : Hp} {Q : VK} {d : PyData} (hx : Dp K H x d) (hy : Dp K H y d) (hp : d.plain = true) (hd : d.depth ≤ 64) (h : Q (.bl true) H) : rEqP K x y H Q :=
  ⟨d, d, hx, hy, hp, hp, hd, by rw [SeqAt.eqv_refl_plain d hp]; exact h⟩
theorem neP_same {K : PySem.W.Frag} {x y : V} {H : Hp} {Q : VK} {d : PyData} (hx : Dp K H x d) (hy : Dp K H y d) (hp : d.plain = true) (hd : d.depth ≤ 64) (h : Q (.bl false) H) : rNeP K x y H Q :=
  ⟨d, d, hx, hy, hp, hp, hd, by rw [SeqAt.eqv_refl_plain d hp]; exact h⟩
end

/-! ### operators that an own class defines -/
section
open PySem.W PySem.Calls PyProof.Rows
variable {prog : Program} {w : World} {A : Around} {E : Value → Shared → Prop} {s : Shared} {K : PySem.W.Frag} {x y C f r : Addr} {ox oy : Obj} {od : Option Obj} {nm : String}
/-- a op b, two instances of one class -/
theorem b1_same {b : Value} {Q : Value → Shared → Prop} (X : K.In s.heap) (I : InstAt s.heap x ox C od) (hb : Looks (model prog w) s.heap (typeOf b) (.ref C)) (hc : selfFirst K C = true)
    (hs : findIn K (.ref C) (PySem.dunder nm) = some (some (.ref f))) (hf : isFn K (.ref f) = true) (h : wpAny (model prog w) A (call (.ref f) [.ref x, b]) (PySem.W.CmpBack Q) E s) :
    wpAny (model prog w) A (binaryOp1 nm (.ref x) b) (fun o s' => ∃ v, o = some v ∧ Q v s') E s := by
  obtain ⟨cd, rest, hcd, hm⟩ := ksp_first hc
  have one := ksp_try X I hs hf h
  unfold binaryOp1
  refine wpAny_bind (I.type.here (wpAny_bind (hb.here (wpAny_bind ((fills_K X hcd hm hs).here ?_)))))
  simp only [beq_self_eq_true, if_true]
  refine wpAny_bind (wpAny_pure ?_)
  simp only [Bool.and_false, Bool.false_eq_true, if_false, Bool.false_and]
  refine wpAny_bind (wpAny_pure ?_)
  simp only [Bool.false_eq_true, if_false]
  refine wpAny_bind (wpAny_mono one (fun o s' ho => ?_) fun _ _ e => e)
  obtain ⟨v, rfl, hq⟩ := ho
  exact wpAny_pure ⟨v, rfl, hq⟩
/-- a op n, n an int -/
theorem b1_int {i : Int} {t : Tok} {fo ro rc : Option Value} {Q : Value → Shared → Prop} (X : K.In s.heap) (I : InstAt s.heap x ox C od) (hc : selfFirst K C = true)
    (hs : findIn K (.ref C) (PySem.dunder nm) = some (some (.ref f))) (hf : isFn K (.ref f) = true) (hr : findIn K (.ref C) (dunderR nm) = some rc) (hp : rc = none ∨ ∃ g : Addr, rc = some (.ref g))
    (h1 : findIn K (.type "int") (PySem.dunder nm) = some fo) (h2 : findIn K (.type "int") (dunderR nm) = some ro) (hsub : subIn K (.type "int") (.ref C) = some false)
    (h : wpAny (model prog w) A (call (.ref f) [.ref x, .int i t]) (PySem.W.CmpBack Q) E s) : wpAny (model prog w) A (binaryOp1 nm (.ref x) (.int i t)) (fun o s' => ∃ v, o = some v ∧ Q v s') E s := by
  obtain ⟨cd, rest, hcd, hm⟩ := ksp_first hc
  have one := ksp_try X I hs hf h
  obtain ⟨hh, g, d, tt, os⟩ := s
  have L1 : Looks (model prog w) hh (typeOf (.ref x)) (.ref C) := I.type
  have L2 : Looks (model prog w) hh (typeOf (.int i t)) (.type "int") := Looks.of_pure rfl
  have L3 : Looks (model prog w) hh (fillsNumberSlot (.ref C) nm) true := fills_K X hcd hm hs
  have L4 : Looks (model prog w) hh (fillsNumberSlot (.type "int") nm) ((fo.isSome && !isSeqSlot fo) || (ro.isSome && !isSeqSlot ro)) := ksp_fillsT X h1 h2
  have L5 : Looks (model prog w) hh (isSubtype (.type "int") (.ref C)) false := looks_subIn X hsub
  have L6 : Looks (model prog w) hh (numberSlotInPython (.ref C) nm) true := ksp_inPy X hs hr hp
  have L7 : Looks (model prog w) hh (numberSlotInPython (.type "int") nm) false := Looks.of_pure rfl
  have L8 : Looks (model prog w) hh (typeLookup (.type "int") (dunderR nm)) ro := looks_findIn X h2
  generalize ((fo.isSome && !isSeqSlot fo) || (ro.isSome && !isSeqSlot ro)) = right at L4
  have hne : (Value.ref C == Value.type "int") = false := Bool.eq_false_iff.mpr fun q => by cases beq_iff_eq.mp q
  unfold binaryOp1
  refine wpAny_bind (L1.at (wpAny_bind (L2.at (wpAny_bind (L3.at ?_)))))
  simp only [hne, Bool.false_eq_true, if_false]
  cases right with
  | false =>
    ksp_lk
    refine wpAny_mono one (fun o s' ho => ?_) fun _ _ e => e
    obtain ⟨v, rfl, hq⟩ := ho
    ksp_lk
    exact ⟨v, rfl, hq⟩
  | true =>
    ksp_lk
    refine wpAny_mono one (fun o s' ho => ?_) fun _ _ e => e
    obtain ⟨v, rfl, hq⟩ := ho
    ksp_lk
    exact ⟨v, rfl, hq⟩
/-- n op a, n an int: int's own way declines, the reflected one serves -/
theorem b1_rint {i : Int} {t : Tok} {id : String} {bi : Builtin} {Q : Value → Shared → Prop} (X : K.In s.heap) (I : InstAt s.heap y oy C od) (hc : selfFirst K C = true)
    (hs : findIn K (.ref C) (PySem.dunder nm) = some (some (.ref f))) (hr : findIn K (.ref C) (dunderR nm) = some (some (.ref r))) (hf : isFn K (.ref r) = true)
    (hfi : fillsNumberSlot (.type "int") nm = pure true) (hsub : subIn K (.ref C) (.type "int") = some false) (slot : Slot "int" (PySem.dunder nm) id) (entry : entryFor table id = some bi)
    (args : argsOk id ⟨[.int i t, .ref y], []⟩) (dec : wpAny (model prog w) A.in1 (bi ⟨[.int i t, .ref y], []⟩) (fun fin s' => fin = .done (.ret .notImplemented) ∧ s' = s) E s)
    (h : wpAny (model prog w) A (call (.ref r) [.ref y, .int i t]) (PySem.W.CmpBack Q) E s) : wpAny (model prog w) A (binaryOp1 nm (.int i t) (.ref y)) (fun o s' => ∃ v, o = some v ∧ Q v s') E s := by
  obtain ⟨cd, rest, hcd, hm⟩ := ksp_first hc
  have one := ksp_try X I hr hf h
  have two : wpAny (model prog w) A (call (.builtin id) [.int i t, .ref y]) (fun v s' => v = .notImplemented ∧ s' = s) E s :=
    wpAny_call_entry slot rfl entry (wpAny_mono dec (fun fin s' z => ⟨_, z.1, rfl, z.2⟩) fun _ _ e => e) args
  obtain ⟨hh, g, d, tt, os⟩ := s
  have L1 : Looks (model prog w) hh (typeOf (.ref y)) (.ref C) := I.type
  have L2 : Looks (model prog w) hh (typeOf (.int i t)) (.type "int") := Looks.of_pure rfl
  have L3 : Looks (model prog w) hh (fillsNumberSlot (.ref C) nm) true := fills_K X hcd hm hs
  have L4 : Looks (model prog w) hh (fillsNumberSlot (.type "int") nm) true := Looks.of_pure hfi
  have L5 : Looks (model prog w) hh (isSubtype (.ref C) (.type "int")) false := looks_subIn X hsub
  have L7 : Looks (model prog w) hh (numberSlotInPython (.type "int") nm) false := Looks.of_pure rfl
  have hne : (Value.type "int" == Value.ref C) = false := Bool.eq_false_iff.mpr fun q => by cases beq_iff_eq.mp q
  unfold binaryOp1
  refine wpAny_bind (L2.at (wpAny_bind (L1.at (wpAny_bind (L4.at ?_)))))
  simp only [hne, Bool.false_eq_true, if_false]
  ksp_lk
  refine wpAny_tryMethod_declines (s := ⟨hh, g, d, tt, os⟩) (T := "int") rfl slot (wpAny_mono two (fun v s' z => ⟨z.1, ?_⟩) fun _ _ e => e)
  obtain ⟨_, rfl⟩ := z
  ksp_lk
  refine wpAny_mono one (fun o s' ho => ?_) fun _ _ e => e
  obtain ⟨v, rfl, hq⟩ := ho
  ksp_lk
  exact ⟨v, rfl, hq⟩
/-- int's own way with an instance declines -/
theorem int_declines {i : Int} {t : Tok} {dx : Addr} {name : String} {g : Int → Int → Sem Fin} (hy : s.heap.get? y = some (instObj C dx)) :
    wpAny (model prog w) A (Builtin.Int.intBinary name g false ⟨[.int i t, .ref y], []⟩) (fun fin s' => fin = .done (.ret .notImplemented) ∧ s' = s) E s := by
  obtain ⟨hh, gg, d, tt, os⟩ := s
  wp_walk using wpAny_load hy
  exact ⟨rfl, rfl⟩
theorem fillsI_no {M : Model} {h : Heap} {add : Bool} (X : K.In h) (hn : noI K C nm = true) : Looks M h (fillsInplaceSlot (.ref C) nm add) false := by
  obtain ⟨cd, hcd, hall⟩ := any_some hn
  intro A Q E s k q
  have Lm : Looks M h (mroOf (.ref C)) cd.mro := (looks_clsIn X hcd).andThen (f := fun cd => pure cd.mro) .now
  unfold fillsInplaceSlot
  refine wpAny_bind (Lm A _ E s k ?_)
  have X' : K.In s.heap := X.keeps k
  generalize cd.mro = l at hall
  induction l with
  | nil => exact wpAny_pure q
  | cons c l ih =>
    rw [List.all_cons, Bool.and_eq_true] at hall
    rw [List.anyM_cons]
    refine wpAny_bind (wpAny_bind ((looks_findIn X' (beq_iff_eq.mp hall.1)).here ?_))
    refine wpAny_pure ?_
    exact ih hall.2
end
section
open PySem.Spec PyProof.Rows
variable {X : Cx} {CX : CXT} {k : Nat} {f r C : Addr} {fd : FuncData} {ps : List Str} {sp : Sp} {E : XK} {nm : String} {op : Operator}
/-- what the written part says of a class with __op__ (f) and __rop__ (r) -/
structure OwnOp (K : PySem.W.Frag) (C f r : Addr) (nm : String) : Prop where
  hc : PySem.W.selfFirst K C = true
  hs : PySem.W.findIn K (.ref C) (PySem.dunder nm) = some (some (.ref f))
  hf : PySem.W.isFn K (.ref f) = true
  hr : PySem.W.findIn K (.ref C) (dunderR nm) = some (some (.ref r))
  hg : PySem.W.isFn K (.ref r) = true
  h1 : ∃ fo, PySem.W.findIn K (.type "int") (PySem.dunder nm) = some fo
  h2 : ∃ ro, PySem.W.findIn K (.type "int") (dunderR nm) = some ro
  sub : PySem.W.subIn K (.type "int") (.ref C) = some false
  sub2 : PySem.W.subIn K (.ref C) (.type "int") = some false
theorem back_of {pins : List (Addr × Obj)} {σ : L2.St} {Q : VK} {u : Value} {s : Shared} (h : EP X pins σ Q u s) : PySem.W.CmpBack (EP X pins σ Q) u s := by
  obtain ⟨v, H', I, rv, q⟩ := h
  have h : EP X pins σ Q u s := ⟨v, H', I, rv, q⟩
  cases v with
  | non => cases rv; exact h
  | bl b => cases rv; exact h
  | int i => obtain ⟨t, rfl⟩ := rv; exact h
  | str i => obtain ⟨t, rfl⟩ := rv; exact h
  | byt i => obtain ⟨t, rfl⟩ := rv; exact h
  | flt i => obtain ⟨t, rfl⟩ := rv; exact h
  | ref a => cases rv; exact h
  | ty n => cases rv; exact h
/-- a op b: the operand's own method -/
def rOwn (C : Addr) (sp : Sp) (E : XK) : R2 := fun x y H Q => Wd (∃ a dx fs, x = .ref a ∧ H a = some (.ins C dx fs) ∧ ((∃ i, y = .int i) ∨ ∃ b dy gs, y = .ref b ∧ H b = some (.ins C dy gs)) ∧ sp [x, y] H Q E)
theorem own1 (O : OwnOp X.K C f r nm) (F : FnOk X.prog X.w X.K X.mg X.base CX k f fd ps sp) (hrm : Room k X.A) (hb : Binds X.K fd ps []) (hx : Passes CX X E) {pins : List (Addr × Obj)} {s : Shared} {σ : L2.St} {H : Hp} {x y : V} {v u : Value} {Q : VK}
    (I : Inv X pins σ H s) (rx : RelV x v) (ry : RelV y u) (h : rOwn C sp E x y H Q) : wpAny (model X.prog X.w) X.A (binaryOp1 nm v u) (fun o s' => ∃ z, o = some z ∧ EP X pins σ Q z s') X.xe s := by
  obtain ⟨a, dx, fs, rfl, ha, hy, h⟩ := h.ok
  obtain rfl : v = Value.ref a := rx
  obtain ⟨mA, O1, _⟩ := ins_get I.hok ha
  obtain ⟨od, J, _⟩ := O1.look
  have fin : wpAny (model X.prog X.w) X.A (call (.ref f) [.ref a, u]) (PySem.W.CmpBack (EP X pins σ Q)) X.xe s :=
    thn (run_fn (us := [.ref a, u]) (vs := [.ref a, y]) F hrm hb .nil hx I (.cons rfl (.cons ry .nil)) h) fun _ _ z => back_of z
  rcases hy with ⟨i, rfl⟩ | ⟨b, dy, gs, rfl, hb2⟩
  · obtain ⟨t, rfl⟩ := ry
    obtain ⟨fo, h1⟩ := O.h1
    obtain ⟨ro, h2⟩ := O.h2
    exact b1_int I.kIn J O.hc O.hs O.hf O.hr (.inr ⟨r, rfl⟩) h1 h2 O.sub fin
  · obtain rfl : u = Value.ref b := ry
    obtain ⟨mB, O2, _⟩ := ins_get I.hok hb2
    obtain ⟨od2, J2, _⟩ := O2.look
    exact b1_same I.kIn J J2.type O.hc O.hs O.hf fin
theorem op_own (hop : op.info.2 = nm) (O : OwnOp X.K C f r nm) (F : FnOk X.prog X.w X.K X.mg X.base CX k f fd ps sp) (hrm : Room k X.A) (hb : Binds X.K fd ps []) (hx : Passes CX X E) : OpR X (binaryOp op) (rOwn C sp E) := by
  intro pins s σ H x y v u Q I rx ry h
  have one := own1 O F hrm hb hx I rx ry h
  rcases hi : op.info with ⟨sym, nm'⟩
  rw [hi] at hop
  cases hop
  simp only [binaryOp, hi]
  refine wpAny_holding (wpAny_bind (wpAny_mono one (fun o s' ho => ?_) fun _ _ e => e))
  obtain ⟨z, rfl, q⟩ := ho
  exact wpAny_pure q
theorem iop_own (hop : op.info.2 = nm) (O : OwnOp X.K C f r nm) (hn : noI X.K C nm = true) (F : FnOk X.prog X.w X.K X.mg X.base CX k f fd ps sp) (hrm : Room k X.A) (hb : Binds X.K fd ps []) (hx : Passes CX X E) : PIp X op (rOwn C sp E) := by
  intro pins s σ H x y v u Q I rx ry h
  have one := own1 O F hrm hb hx I rx ry h
  obtain ⟨a, dx, fs, rfl, ha, hy, h⟩ := h.ok
  obtain rfl : v = Value.ref a := rx
  obtain ⟨mA, O1, _⟩ := ins_get I.hok ha
  obtain ⟨od, J, _⟩ := O1.look
  subst hop
  unfold inplaceOp
  refine wpAny_holding (wpAny_bind (J.type.here (wpAny_bind ((fillsI_no I.kIn hn).here ?_))))
  simp only [Bool.false_eq_true, if_false]
  refine wpAny_bind (wpAny_mono one (fun o s' ho => ?_) fun _ _ e => e)
  obtain ⟨z, rfl, q⟩ := ho
  exact wpAny_pure q
/-- n op a: the reflected method -/
def rROwn (C : Addr) (sp : Sp) (E : XK) : R2 := fun x y H Q => Wd (∃ (i : Int) (b dy : Addr) (gs : List (Str × V)), x = .int i ∧ y = .ref b ∧ H b = some (.ins C dy gs) ∧ sp [y, x] H Q E)
theorem op_rown {id : String} {bi : Builtin} {nm2 : String} {g : Int → Int → Sem PySem.Fin} (hop : op.info.2 = nm) (O : OwnOp X.K C f r nm) (hfi : fillsNumberSlot (.type "int") nm = pure true) (slot : Slot "int" (PySem.dunder nm) id) (entry : entryFor table id = some bi)
    (args : ∀ p q, argsOk id ⟨[p, q], []⟩) (hbi : bi = Builtin.Int.intBinary nm2 g false) (F : FnOk X.prog X.w X.K X.mg X.base CX k r fd ps sp) (hrm : Room k X.A) (hb : Binds X.K fd ps []) (hx : Passes CX X E) : OpR X (binaryOp op) (rROwn C sp E) := by
  intro pins s σ H x y v u Q I rx ry h
  obtain ⟨i, b, dy, gs, rfl, rfl, hb2, h⟩ := h.ok
  obtain ⟨t, rfl⟩ := rx
  obtain rfl : u = Value.ref b := ry
  obtain ⟨mB, O2, _⟩ := ins_get I.hok hb2
  obtain ⟨od2, J2, _⟩ := O2.look
  have fin : wpAny (model X.prog X.w) X.A (call (.ref r) [.ref b, .int i t]) (PySem.W.CmpBack (EP X pins σ Q)) X.xe s :=
    thn (run_fn (us := [.ref b, .int i t]) (vs := [.ref b, .int i]) F hrm hb .nil hx I (.cons rfl (.cons ⟨t, rfl⟩ .nil)) h) fun _ _ z => back_of z
  rcases hi : op.info with ⟨sym, nm'⟩
  rw [hi] at hop
  cases hop
  subst hbi
  have one := b1_rint (prog := X.prog) (w := X.w) (A := X.A) (E := X.xe) (Q := EP X pins σ Q) I.kIn J2 O.hc O.hs O.hr O.hg hfi O.sub2 slot entry (args _ _) (int_declines J2.at_) fin
  simp only [binaryOp, hi]
  refine wpAny_holding (wpAny_bind (wpAny_mono one (fun o s' ho => ?_) fun _ _ e => e))
  obtain ⟨z, rfl, q⟩ := ho
  exact wpAny_pure q
/-- -a -/
theorem un_own (hs : PySem.W.findIn X.K (.ref C) "__neg__" = some (some (.ref f))) (hf : PySem.W.isFn X.K (.ref f) = true) (F : FnOk X.prog X.w X.K X.mg X.base CX k f fd ps sp) (hrm : Room k X.A) (hb : Binds X.K fd ps []) (hx : Passes CX X E) :
    UnR X (unaryOp .USub) (fun x H Q => Wd (∃ a dx fs, x = .ref a ∧ H a = some (.ins C dx fs) ∧ sp [x] H Q E)) := by
  intro pins s σ H x v Q I rx h
  obtain ⟨a, dx, fs, rfl, ha, h⟩ := h.ok
  obtain rfl : v = Value.ref a := rx
  obtain ⟨mA, O1, _⟩ := ins_get I.hok ha
  obtain ⟨od, J, _⟩ := O1.look
  obtain ⟨m, fr⟩ := I.fr
  exact PySem.W.ksp_neg fr I.mod.kin J hs hf (run_fn (us := [.ref a]) (vs := [.ref a]) F hrm hb .nil hx I (.cons rfl .nil) h)
theorem run_fn1 {pins : List (Addr × Obj)} {σ : L2.St} {H : Hp} {s : Shared} {Q : VK} {us : List Value} {vs : List V} (F : FnOk X.prog X.w X.K X.mg X.base CX k f fd ps sp) (hr : Room (k + 1) X.A) (hb : Binds X.K fd ps []) (hx : Passes CX X E)
    (I : Inv X pins σ H s) (rv : Vals vs us) (h : sp vs H Q E) : wpAny (model X.prog X.w) X.A.in1 (call (.ref f) us) (EP X pins σ Q) X.xe s := by
  have hl : us.length = ps.length := by rw [← rv.length]; exact F.len _ _ _ _ h
  have b := hb s us I.kIn (by rw [List.append_nil]; exact hl)
  rw [List.append_nil] at b
  refine wpAny_call (codeAny_mono (F.run X.A.in1 X.stack s H ⟨us, []⟩ us vs Q E hr.in1 I.env0.in1 b rv h) fun o s' z => ?_)
  cases o with
  | error e => exact hx pins σ H s e s' I z
  | ok fl =>
    cases fl with
    | ret u => exact I.after z
    | next => exact z.elim
    | brk => exact z.elim
    | cont => exact z.elim
/-- abs(a) -/
theorem call_absO (hs : PySem.W.findIn X.K (.ref C) "__abs__" = some (some (.ref f))) (hf : PySem.W.isFn X.K (.ref f) = true) (F : FnOk X.prog X.w X.K X.mg X.base CX k f fd ps sp) (hrm : Room (k + 1) X.A) (hb : Binds X.K fd ps []) (hx : Passes CX X E) :
    CallR X (.builtin "abs") (fun xs H Q => Wd (∃ a dx fs, xs = [.ref a] ∧ H a = some (.ins C dx fs) ∧ sp [.ref a] H Q E)) := by
  intro pins s σ H xs us Q I rv h
  obtain ⟨a, dx, fs, rfl, ha, h⟩ := h.ok
  obtain ⟨u, rfl, ru⟩ := vals1 rv
  obtain rfl : u = Value.ref a := ru
  obtain ⟨mA, O1, _⟩ := ins_get I.hok ha
  obtain ⟨od, J, _⟩ := O1.look
  refine PySem.Calls.call_function_entry kind_abs plain_abs entry_abs (args_abs _) ?_
  unfold Builtin.abs
  refine wpAny_bind (m := oneArg "abs" _) (wpAny_pure ?_)
  refine wpAny_bind (m := callSpecial? (.ref a) (Str.ofString "__abs__")) (PySem.W.special_fn I.kIn J hs (beq_iff_eq.mp hf) ?_)
  exact thn (run_fn1 (us := [.ref a]) (vs := [.ref a]) F hrm hb hx I (.cons rfl .nil) h) fun v s' z => wpAny_pure ⟨v, rfl, z⟩
def tSMeth (C : Addr) (sp : Sp) (E : XK) (ta : TE) (t : TA) : TE := fun σ H Q => ta σ H fun x H1 => x = .ref C ∧ t σ H1 fun vs H2 => sp vs H2 Q E
theorem pe_smeth {pl : Sem Bool} {p : Addr} {o e : Expr} {es : List Expr} {m : Str} {apos pos : Pos} {ta : TE} {t : TA} (he : PE X o ta) (S : SMet X.K C m p f) (F : FnOk X.prog X.w X.K X.mg X.base CX k f fd ps sp) (hrm : Room k X.A) (hb : Binds X.K fd ps [])
    (hx : Passes CX X E) (ha : PA X (e :: es) t) (hst : starEach (e :: es) X.env = (false, eval e X.env) :: starEach es X.env := by rfl) (hpl : (backTo pos (starEach es X.env)).any (·.1) = false := by rfl)
    (ht : eval (.Call (.Attribute o m apos) (e :: es) [] pos) X.env = (eval o X.env >>= fun ov => standAt apos.atName >>= fun _ => holding [ov] (getMethod ov m pl) >>= fun (f, first) =>
      callWith pos f first (backTo pos (starEach (e :: es) X.env)) (backToKw pos (keywordEach [] X.env))) := by rfl) :
    PE X (.Call (.Attribute o m apos) (e :: es) [] pos) (tSMeth C sp E ta t) := by
  refine ⟨fun pins s σ H Q I h => ?_⟩
  refine PySem.W.methodCall_KW (pl := pl) (thn (he.run pins s σ H _ I h) fun u s1 ⟨x, H1, I1, rx, ex, q⟩ => ?_) ht
  subst ex
  obtain rfl : u = Value.ref C := rx
  obtain ⟨rest, hp⟩ := S.rc
  refine PySem.W.method_cls I1.kIn S.ga (PySem.W.cls_bind I1.kIn S.rd S.at_ (wpAny_call (PySem.W.sm_get (s := { s1 with toks := s1.toks + 1 }) I1.kIn hp (PySem.W.handed_on rfl ?_))))
  have I2 := I1.tok (s1.toks + 1)
  refine PySem.W.callWith_K (first := []) (h₀ := X.base) I.ok.mod.kin S.kp (thn (ha.run pos pins _ σ H1 _ I2 q) fun us s2 ⟨vs, H2, I3, rv, q2⟩ => ⟨I3.kIn, ?_⟩) hst hpl
  exact run_fn (us := us) (vs := vs) F hrm hb .nil hx I3 rv (by rw [List.append_nil]; exact q2)
end

/-! ### dicts with tuple keys: pop(k), del d[k], sorted(d) -/
section
open PySem DT L2.DX
variable {prog : Program} {w : World} {K : Type} [DecidableEq K] {knd : HeapKind prog w K}
theorem meetsPop1 {d b : Addr} {k : K} (hd : (d == sysModules) = false) :
    MeetsIn prog w (Builtin.«dict.pop» ⟨[.ref d, .ref b], []⟩) (fun A R s => ∃ xs, knd.room A.in1 ∧ knd.is s.heap k b ∧ s.heap.DictOfH knd d xs ∧ xs.length ≤ sizeLine ∧ atKey xs k ≠ none ∧
      ∀ p, atKey xs k = some p → ∀ h' tk, h'.DictOfH knd d (dropH xs k) → Heap.SameBut d s.heap h' → R (.ok (.ret p.2)) { s with heap := h', toks := tk }) :=
  .of_wp fun A R s ⟨xs, hu, hkey, hm, hsz, hthere, hsome⟩ => by
    obtain ⟨o, es, ep, ho, hc, hdat, he, his, hn⟩ := id hm
    have hes : es.size = xs.length := size_of_entries he
    have hpart : (keyPart (Value.ref b)).isSome = false := rfl
    unfold Builtin.«dict.pop»
    refine wpAny_bind ?_
    unfold Builtin.Dict.keyAndDefault
    refine wpAny_bind (wpAny_notOrdered_dict hm.typeIs ?_)
    show wpAny _ _ (pure (d, Value.ref b, none)) _ _ s
    refine wpAny_pure ?_
    simp only [hpart, Bool.false_eq_true, if_false]
    refine wpAny_bind (wpAny_dictEntries ho hdat (wpAny_bind (wpAny_pure ?_)))
    cases hem : es.isEmpty with
    | true =>
      have z : es.size = 0 := by simpa using hem
      have h0 : xs = [] := List.length_eq_zero_iff.mp (by omega)
      exact absurd (by rw [h0]; rfl) hthere
    | false =>
      simp only [Bool.false_eq_true, if_false]
      refine wpAny_bind (takeH hu hkey hm hsz (fun hno => absurd hno hthere) fun p e hp hev h' hm' hs' => ?_)
      simp only [Option.isNone_some, Bool.false_eq_true, if_false]
      exact wpAny_bind (wpAny_letGo (wpAny_pure ⟨e.val, rfl, by rw [hev]; exact hsome p hp h' _ hm' hs'⟩))
theorem meetsDelT {d b : Addr} {k : K} :
    MeetsIn prog w (Builtin.«dict.__delitem__» ⟨[.ref d, .ref b], []⟩) (fun A R s => ∃ xs, knd.room A.in1 ∧ knd.is s.heap k b ∧ s.heap.DictOfH knd d xs ∧ xs.length ≤ sizeLine ∧ atKey xs k ≠ none ∧
      ∀ h' tk, h'.DictOfH knd d (dropH xs k) → Heap.SameBut d s.heap h' → R (.ok (.ret .none)) { s with heap := h', toks := tk }) :=
  .of_wp fun A R s ⟨xs, hu, hkey, hm, hsz, hthere, h⟩ => by
    unfold Builtin.«dict.__delitem__»
    refine wpAny_bind ?_
    unfold Builtin.Dict.dictSlotArgs
    refine wpAny_bind (wpAny_notOrdered_dict hm.typeIs ?_)
    show wpAny _ _ (pure (Value.ref d, Value.ref b)) _ _ s
    refine wpAny_pure ?_
    show wpAny _ _ (Builtin.Dict.takeOut d (.ref b) >>= _) _ _ s
    refine wpAny_bind (takeH hu hkey hm hsz (fun hno => absurd hno hthere) fun p e hp hev h' hm' hs' => ?_)
    exact wpAny_bind (wpAny_letGo (wpAny_pure ⟨.none, rfl, h h' _ hm' hs'⟩))
end
section
open PySem.Spec PyProof.Rows L2.DX
variable {X : Cx}
def rPopT1 : V → List V → Hp → VK → Prop := fun x xs H Q => ∃ (a : Addr) (kvs : List (List L2.Key × V)) (k : List L2.Key) (b : Addr) (v : V), x = .ref a ∧ xs = [.ref b] ∧ H a = some (.dT kvs) ∧ H b = some (.tup (k.map kV)) ∧ valV kvs k = some v ∧ Q v (upd H a (.dT (dropK kvs k)))
theorem mt_popT1 (hu : X.A.units + 1 < cLine) : MtR X "dict.pop" rPopT1 := by
  intro pins s σ H x xs v us Q I rx rxs h
  obtain ⟨a, kvs, k, b, v0, rfl, rfl, ha, hb, ev, q⟩ := h
  cases rx
  obtain ⟨u1, rfl, r1⟩ := vals1 rxs
  cases r1
  obtain ⟨z, hd, xs', rel, dd⟩ := dt_of I.hok ha
  have hz : xs'.length ≤ sizeLine := by rw [← Paired.length rel]; exact z
  have r := rel.val k
  rw [ev] at r
  refine call_meetsIn PySem.F.slot_dict_pop dd.typeIs PySem.F.entry_dict_pop (PySem.F.args_dict_pop_2 _ _) (meetsPop1 (knd := tupleKind (mixKind X.prog X.w)) (k := k) hd)
    ⟨xs', tupleKind_room_in1 hu, key_of I.hok hb, dd, hz, fun e => ?_, fun p hp h' tk dd' hs => ?_⟩
  · rw [e] at r
    exact r
  · rw [hp] at r
    obtain ⟨o, es, ep, hq, h2, h3, h4, _, h5⟩ := dd'
    have I2 : Inv X pins σ (upd H a (.dT (dropK kvs k))) { s with heap := h', toks := tk } :=
      d_write I (by rw [ha]; exact True.intro) hs ⟨o, hq⟩ ⟨Nat.le_trans (dropK_le kvs k) z, hd, _, (KT_drop k rel).keeps (fun c ys ec => (by rw [upd_ne (ne_of ec ha (fun z => nomatch z))]; exact ec)), o, es, ep, hq, h2, h3, h4, h5⟩
    exact ⟨v0, _, I2, r, q⟩
variable {o i : Expr} {tpos pos : Pos} {td ty : TE}
/-- del d[k], k a tuple -/
def sDDelT (td ty : TE) : TS := fun D σ H => td σ H fun x H1 => ty σ H1 fun y H2 => ∃ (a b : Addr) (kvs : List (List L2.Key × V)) (k : List L2.Key), x = .ref a ∧ y = .ref b ∧ H2 a = some (.dT kvs) ∧ H2 b = some (.tup (k.map kV)) ∧ (valV kvs k).isSome = true ∧ D.nx σ (upd H2 a (.dT (dropK kvs k)))
theorem ps_ddelT (hu : X.A.units + 1 < cLine) (ho : PE X o td) (hi : PE X i ty) : PS X (.Delete [.Subscript o i tpos] pos) (sDDelT td ty) := by
  refine ⟨fun pins s σ H D I h => ?_⟩
  refine wpAny_Delete (wpAny_deleteEach_cons (wpAny_delete_Subscript (thn (ho.run pins s σ H _ I h) fun u s1 ⟨x, H1, I1, rx, q1⟩ => thn (hi.run pins s1 σ H1 _ I1 q1) fun iv s2 ⟨y, H2, I2, ry, a, b, kvs, k, ex, ey, ha, hb, l, q2⟩ => ?_)))
  subst ex ey
  obtain rfl : u = Value.ref a := rx
  obtain rfl : iv = Value.ref b := ry
  obtain ⟨z, hd, xs', rel, dd⟩ := dt_of I2.hok ha
  have hz : xs'.length ≤ sizeLine := by rw [← Paired.length rel]; exact z
  have r := rel.val k
  refine wpAny_delItem_slot dd.typeIs (by decide) PySem.F.slot_dict_delitem
    (call_meetsIn PySem.F.slot_dict_delitem dd.typeIs PySem.F.entry_dict_delitem (PySem.F.args_dict_delitem_2 _ _) (meetsDelT (knd := tupleKind (mixKind X.prog X.w)) (k := k))
      ⟨xs', tupleKind_room_in1 hu, key_of I2.hok hb, dd, hz, fun e => ?_, fun h' tk dd' hs => wpAny_deleteEach_nil ⟨σ, _, ?_, q2⟩⟩)
  · rw [e] at r
    cases ev : valV kvs k with
    | none => rw [ev] at l; cases l
    | some v0 => rw [ev] at r; exact r
  · obtain ⟨o, es, ep, hq, h2, h3, h4, _, h5⟩ := dd'
    exact d_write I2 (by rw [ha]; exact True.intro) hs ⟨o, hq⟩ ⟨Nat.le_trans (dropK_le kvs k) z, hd, _, (KT_drop k rel).keeps (fun c ys ec => (by rw [upd_ne (ne_of ec ha (fun z => nomatch z))]; exact ec)), o, es, ep, hq, h2, h3, h4, h5⟩
end
/-- the two ints of the tuple that v is -/
def pairOf (H : Hp) : V → Int × Int
  | .ref b => match H b with
    | some (.tup [.int i, .int j]) => (i, j)
    | _ => (0, 0)
  | _ => (0, 0)
def adOf : Value → Addr
  | .ref a => a
  | _ => 0
theorem pairOf_at {H : Hp} {b : Addr} {i j : Int} (h : H b = some (.tup [.int i, .int j])) : pairOf H (.ref b) = (i, j) := by
  show (match H b with | some (.tup [.int i, .int j]) => (i, j) | _ => ((0, 0) : Int × Int)) = (i, j)
  rw [h]
abbrev kvT (es : List (Int × Int × V)) : List (List L2.Key × V) := es.map fun e => ([.inl e.1, .inl e.2.1], e.2.2)
theorem keysT {H : Hp} : ∀ {es : List (Int × Int × V)} {ks : List (List L2.Key × Addr × Value)}, Paired (fun (p : List L2.Key × V) (q : List L2.Key × Addr × Value) => p.1 = q.1 ∧ H q.2.1 = some (.tup (p.1.map kV)) ∧ RelV p.2 q.2.2) (kvT es) ks →
    (ks.map fun x => pairOf H (.ref x.2.1)) = es.map (fun e => (e.1, e.2.1)) ∧ ∀ x ∈ ks, ∃ i j, H x.2.1 = some (.tup [.int i, .int j])
  | [], ks, h => by
    cases h
    exact ⟨rfl, fun x hx => by cases hx⟩
  | e :: es, ks, h => by
    cases h with
    | cons a t =>
      obtain ⟨h1, h2⟩ := keysT t
      have hq := a.2.1
      refine ⟨?_, fun x hx => ?_⟩
      · rw [List.map_cons, List.map_cons, h1, pairOf_at hq]
      · rcases List.mem_cons.mp hx with rfl | hx
        · exact ⟨_, _, hq⟩
        · exact h2 x hx
section
open PySem.Spec PyProof.Rows L2.DX
variable {X : Cx}
/-- sorted(d), its keys pairs of ints -/
def rSortDT : List V → Hp → VK → Prop := fun xs H Q => Wd (∃ (d : Addr) (es : List (Int × Int × V)), xs = [.ref d] ∧ H d = some (.dT (kvT es)) ∧ ∀ (bs : List Addr) (ps : List (Int × Int)) (p : Addr), H p = none →
  All2 (fun b q => H b = some (.tup [.int q.1, .int q.2])) bs ps → ps.Perm (es.map fun e => (e.1, e.2.1)) → ps.Pairwise (fun a b => SrtO.lexB b a = false) → Q (.ref p) (upd H p (.lst (bs.map V.ref))))
theorem cr_sortedDT (hc : X.calm = true) : CallR X (.builtin "sorted") rSortDT := by
  intro pins s σ H xs us Q I r h
  obtain ⟨d, es, rfl, hd, q⟩ := h.ok
  obtain ⟨u, rfl, rx⟩ := vals1 r
  cases rx
  obtain ⟨z, hs, ks, pr, o, ens, ep, ho, hx, hdt, he, hn⟩ := (show ObjOk X.prog X.w H s.heap d (.dT (kvT es)) from I.hok d _ hd)
  have l1 : ens.size = ks.length := size_of_entries he
  have l2 : (kvT es).length = ks.length := Paired.length pr
  obtain ⟨k1, k2⟩ := keysT pr
  refine Calls.call_function_entry PyProof.Rows.kind_sorted PyProof.Rows.plain_sorted PyProof.Rows.entry_sorted (PyProof.Rows.args_sorted1 _) ?_
  unfold Builtin.«sorted»
  refine wpAny_bind (m := checkCount "sorted" 1 1 _) (wpAny_pure ?_)
  refine wpAny_bind (PySem.W.kdu_collect (A := X.A.in1) (kdl_raw hs hx hdt) (I.ok.hd hc) ho (by omega) fun h' tk acc hk it => ?_)
  have ea : acc.toList = ks.map fun x => Value.ref x.2.1 := by
    have hl : acc.toList.length = ks.length := by rw [Array.length_toList, it.1]; exact l1
    apply List.ext_getElem?
    intro j
    rw [List.getElem?_map]
    cases hj : acc.toList[j]? with
    | none =>
      have h1 := List.getElem?_eq_none_iff.mp hj
      rw [List.getElem?_eq_none (by omega)]
      rfl
    | some v =>
      obtain ⟨en, hen, hv⟩ := it.2 j v (by rw [← Array.getElem?_toList]; exact hj)
      have qe := entry_at he j
      rw [hen] at qe
      cases hb : ks[j]? with
      | none =>
        rw [hb] at qe
        exact nomatch (show some en = none from qe)
      | some b =>
        rw [hb] at qe
        have e2 : en = entryOfKey (tupleKind (mixKind X.prog X.w)) b := Option.some.inj qe
        rw [hv, e2]
        rfl
  have I1 : Inv X pins σ H { s with heap := h', toks := tk } := I.kept hk
  have hz : acc.toList.length ≤ sizeLine := by rw [ea, List.length_map]; omega
  refine wpAny_bind (wpAny_newList ?_ hz)
  have hoL : (h'.push (seqObj "list" acc.toList.toArray 0)).get? h'.objs.size = some (seqObj "list" acc.toList.toArray 0) := Heap.get?_push_size _ rfl
  show wpAny _ _ _ _ _ { s with heap := h'.push (seqObj "list" acc.toList.toArray 0), toks := tk }
  have hmem : ∀ v ∈ acc.toList, ∃ b i j, v = Value.ref b ∧ H b = some (.tup [.int i, .int j]) := fun v hv => by
    rw [ea] at hv
    obtain ⟨x, hx, rfl⟩ := List.mem_map.mp hv
    obtain ⟨i, j, e⟩ := k2 x hx
    exact ⟨_, i, j, rfl, e⟩
  refine wpAny_bind (wpAny_holding (wpAny_call_entry PyProof.Rows.slot_list_sort ⟨_, hoL, rfl⟩ PyProof.Rows.entry_list_sort
    (SrtO.list_sort_ord (SrtO.swo_lex fun u => pairOf H (backV u)) hoL hz (fun h2 => SrtO.pairs_sortableO (by omega) (fun v hv => ?_) fun o e c => ?_) fun out so sb => ⟨_, rfl, ?_⟩) (PyProof.Rows.args_list_sort _)))
  · obtain ⟨b, i, j, rfl, e⟩ := hmem v hv
    obtain ⟨_, its2, r2, o, ho, hc, n, hd⟩ := I1.hok _ _ e
    obtain ⟨u1, u2, rfl, ri, rj⟩ := vals2 r2
    obtain ⟨t1, rfl⟩ := ri
    obtain ⟨t2, rfl⟩ := rj
    have e3 : pairOf H (backV (Value.ref b)) = (i, j) := pairOf_at e
    rw [e3]
    exact ⟨b, o, t1, t2, n, rfl, Heap.get?_push_of_some _ ho, hc, hd⟩
  · rw [hoL] at e
    cases e
    exact absurd (Value.type.inj c) (by decide)
  · obtain ⟨e', he'⟩ := PyProof.Rows.sortedHeap_at (vs := acc.toList) (out := out.toArray) hoL
    have h3 : ∀ u ∈ out, ∃ b i j, u = Value.ref b ∧ H b = some (.tup [.int i, .int j]) := fun u hu => hmem u (sb.perm.mem_iff.mp hu)
    have hlen : (out.map backV).length ≤ sizeLine := by
      rw [List.length_map, sb.perm.length_eq]
      exact hz
    have eo : (out.map adOf).map V.ref = out.map backV := by
      rw [List.map_map]
      refine List.map_congr_left fun u hu => ?_
      obtain ⟨b, i, j, rfl, _⟩ := h3 u hu
      rfl
    have qq := q (out.map adOf) (out.map fun u => pairOf H (backV u)) h'.objs.size (I1.hok.fresh (Nat.le_refl _)) ⟨by rw [List.length_map, List.length_map], fun i x y hx hy => ?_⟩ ?_ ?_
    · rw [eo] at qq
      refine wpAny_pure ⟨_, rfl, .ref h'.objs.size, upd H h'.objs.size (.lst (out.map backV)), I1.laid (t' := tk) (fun b u e => ?_) (Nat.le_refl _)
        (show ObjOk X.prog X.w _ _ _ (.lst (out.map backV)) from ⟨hlen, out, e', vals_back (fun u hu => by obtain ⟨b, _, _, e, _⟩ := h3 u hu; exact ⟨b, e⟩), he'⟩), rfl, qq⟩
      have hb : b < h'.objs.size := Heap.lt_size e
      rw [PyProof.Rows.sortedHeap_old (Nat.ne_of_lt hb) (by rw [size_push']; exact Nat.lt_succ_of_lt hb)]
      exact Heap.get?_push_of_some _ e
    · rw [List.getElem?_map] at hx hy
      cases ho : out[i]? with
      | none => rw [ho] at hx; cases hx
      | some u =>
        rw [ho] at hx hy
        obtain ⟨b, m, n, rfl, e⟩ := h3 u (List.mem_of_getElem? ho)
        have hx : b = x := Option.some.inj hx
        have hy : pairOf H (.ref b) = y := Option.some.inj hy
        rw [pairOf_at e] at hy
        subst hx hy
        exact e
    · have p1 := sb.perm.map (fun u => pairOf H (backV u))
      rw [ea, List.map_map] at p1
      rw [← k1]
      exact p1
    · exact List.pairwise_map.mpr so
end

/-! ### x in o, o[i], o[i] = v, len(o) of an own class; a call of a local that holds a def -/
section
open PySem.Spec PyProof.Rows
variable {X : Cx} {CX : CXT} {k : Nat} {f C : Addr} {fd : FuncData} {ps : List Str} {sp : Sp} {E : L2.St → XK} {a b o i value : Expr} {ta tb td ty tv : TE} {pos pos' : Pos}
/-- the class's special method nm stands at f -/
structure OwnM (K : PySem.W.Frag) (C f : Addr) (nm : Str) : Prop where
  hs : PySem.W.findIn K (.ref C) nm = some (some (.ref f))
  hf : PySem.W.isFn K (.ref f) = true
theorem passAll {E : XK} (h : Passes CX X E) : ∀ σ : L2.St, PassesAt CX X σ ((fun _ => E) σ) := fun σ pins H s e s' I c => h pins σ H s e s' I c
theorem run_fn1S {pins : List (Addr × Obj)} {σ : L2.St} {H : Hp} {s : Shared} {Q : VK} {us : List Value} {vs : List V} (F : FnOk X.prog X.w X.K X.mg X.base CX k f fd ps sp) (hr : Room (k + 1) X.A) (hb : Binds X.K fd ps []) (hx : PassesAt CX X σ (E σ))
    (I : Inv X pins σ H s) (rv : Vals vs us) (h : sp vs H Q (E σ)) : wpAny (model X.prog X.w) X.A.in1 (call (.ref f) us) (EP X pins σ Q) X.xe s := by
  have hl : us.length = ps.length := by rw [← rv.length]; exact F.len _ _ _ _ h
  have b := hb s us I.kIn (by rw [List.append_nil]; exact hl)
  rw [List.append_nil] at b
  refine wpAny_call (codeAny_mono (F.run X.A.in1 X.stack s H ⟨us, []⟩ us vs Q (E σ) hr.in1 I.env0.in1 b rv h) fun o s' z => ?_)
  cases o with
  | error e => exact hx pins H s e s' I z
  | ok fl =>
    cases fl with
    | ret u => exact I.after z
    | next => exact z.elim
    | brk => exact z.elim
    | cont => exact z.elim
/-- x in o -/
def rOwnIn (C : Addr) (sp : Sp) (E : XK) : R2 := fun x y H Q => Wd (∃ p dx fs, y = .ref p ∧ H p = some (.ins C dx fs) ∧ sp [y, x] H (fun v H' => ∃ c, v = .bl c ∧ Q (.bl c) H') E)
theorem op_ownIn {E : XK} (O : OwnM X.K C f "__contains__") (F : FnOk X.prog X.w X.K X.mg X.base CX k f fd ps sp) (hr : Room k X.A) (hb : Binds X.K fd ps []) (hx : Passes CX X E) : OpR X (compareOp .In) (rOwnIn C sp E) := by
  intro pins s σ H x y v u Q I rx ry h
  obtain ⟨p, dx, fs, rfl, hp, h⟩ := h.ok
  obtain rfl : u = Value.ref p := ry
  obtain ⟨mA, O1, _⟩ := ins_get I.hok hp
  obtain ⟨od, J, _⟩ := O1.look
  obtain ⟨m, fr⟩ := I.fr
  refine PySem.W.in_K fr I.mod.kin J O.hs O.hf (thn (run_fn (us := [.ref p, v]) (vs := [.ref p, x]) F hr hb .nil hx I (.cons rfl (.cons rx .nil)) h) fun r s' z => ?_)
  obtain ⟨y, H', J', ry, c, rfl, q⟩ := z
  cases ry
  exact wpAny_truthy_bool ⟨.bl c, H', J', rfl, q⟩
/-- len(o) -/
def rOwnLen (C : Addr) (sp : Sp) (E : XK) : List V → Hp → VK → Prop := fun xs H Q => Wd (∃ p dx fs, xs = [.ref p] ∧ H p = some (.ins C dx fs) ∧ sp [.ref p] H (fun v H' => ∃ n : Int, v = .int n ∧ 0 ≤ n ∧ n < 2 ^ 63 ∧ Q (.int n) H') E)
theorem call_ownLen {E : XK} (O : OwnM X.K C f "__len__") (F : FnOk X.prog X.w X.K X.mg X.base CX k f fd ps sp) (hr : Room (k + 1) X.A) (hb : Binds X.K fd ps []) (hx : Passes CX X E) : CallR X (.builtin "len") (rOwnLen C sp E) := by
  intro pins s σ H xs us Q I r h
  obtain ⟨p, dx, fs, rfl, hp, h⟩ := h.ok
  rw [Vals.ref1 r]
  obtain ⟨mA, O1, _⟩ := ins_get I.hok hp
  obtain ⟨od, J, _⟩ := O1.look
  obtain ⟨m, fr⟩ := I.fr
  refine PySem.W.len_K fr I.mod.kin J O.hs O.hf (thn (run_fn1 (us := [.ref p]) (vs := [.ref p]) F hr hb hx I (.cons rfl .nil) h) fun r s' z => ?_)
  obtain ⟨y, H', J', ry, n, rfl, h0, h1, q⟩ := z
  obtain ⟨t, rfl⟩ := ry
  exact ⟨⟨h0, h1⟩, .int n, H', J'.tok _, ⟨_, rfl⟩, q⟩
/-- o[i] -/
def tOwnIx (C : Addr) (sp : Sp) (E : L2.St → XK) (ta tb : TE) : TE := fun σ H Q => ta σ H fun x H1 => tb σ H1 fun y H2 => ∃ p dx fs, x = .ref p ∧ H2 p = some (.ins C dx fs) ∧ sp [x, y] H2 Q (E σ)
theorem pe_ownIx (O : OwnM X.K C f "__getitem__") (hfn : PySem.W.fnIn X.K f = true) (F : FnOk X.prog X.w X.K X.mg X.base CX k f fd ps sp) (hr : Room (k + 1) X.A) (hb : Binds X.K fd ps []) (hx : ∀ σ, PassesAt CX X σ (E σ)) (ha : PE X a ta) (hi : PE X b tb)
    (hsl : ∀ x i, subscripted b true (.ref x) i = runValue (.builtin "lifetime.subscript" ⟨[.ref x, i], []⟩) := by intro _ _; with_unfolding_all rfl) : PE X (.Subscript a b pos) (tOwnIx C sp E ta tb) := by
  refine ⟨fun pins s σ H Q I h => ?_⟩
  refine Subscript_ (binT ha hi I h fun v u s2 x y H2 I2 rx ry q => ?_)
  obtain ⟨p, dx, fs, rfl, hp, q⟩ := q
  obtain rfl : v = Value.ref p := rx
  obtain ⟨mA, O1, _⟩ := ins_get I2.hok hp
  obtain ⟨od, J, _⟩ := O1.look
  obtain ⟨m, fr⟩ := I2.fr
  exact PySem.W.sub_K fr I2.mod.kin J O.hs hfn O.hf (run_fn1S (us := [.ref p, u]) (vs := [.ref p, y]) F hr hb (hx σ) I2 (.cons rfl (.cons ry .nil)) q) (hsl _ _)
/-- o[i] = v -/
def sOwnSet (C : Addr) (sp : Sp) (E : L2.St → XK) (td ty tv : TE) : TS := fun D σ H => tv σ H fun v H1 => td σ H1 fun x H2 => ty σ H2 fun y H3 => ∃ p dx fs, x = .ref p ∧ H3 p = some (.ins C dx fs) ∧ sp [x, y, v] H3 (fun _ H4 => D.nx σ H4) (E σ)
theorem ps_ownSet (O : OwnM X.K C f "__setitem__") (hq : PySem.W.noSeq X.K C = true) (F : FnOk X.prog X.w X.K X.mg X.base CX k f fd ps sp) (hr : Room k X.A) (hb : Binds X.K fd ps []) (hx : ∀ σ, PassesAt CX X σ (E σ)) (ho : PE X o td) (hi : PE X i ty) (hv : PE X value tv)
    (hs : swapsWith value (some (.Subscript o i pos')) pos.line X.env = pure false) : PS X (.Assign [.Subscript o i pos'] value pos) (sOwnSet C sp E td ty tv) := by
  refine ⟨fun pins s σ H D I h => ?_⟩
  refine wpAny_Assign_Subscript (thn (hv.run pins s σ H _ I h) fun r s1 ⟨v, H1, I1, rv, q1⟩ => thn (ho.run pins s1 σ H1 _ I1 q1) fun u s2 ⟨x, H2, I2, rx, q2⟩ => thn (hi.run pins s2 σ H2 _ I2 q2) fun iv s3 ⟨y, H3, I3, ry, p, dx, fs, ex, hp, q3⟩ => ?_) hs
  subst ex
  obtain rfl : u = Value.ref p := rx
  obtain ⟨mA, O1, _⟩ := ins_get I3.hok hp
  obtain ⟨od, J, _⟩ := O1.look
  obtain ⟨m, fr⟩ := I3.fr
  refine PySem.W.ksp_setItem fr I3.mod.kin J hq O.hs O.hf (thn (run_fnS (E := E) (us := [.ref p, iv, r]) (vs := [.ref p, y, v]) F hr hb (hx σ) I3 (.cons rfl (.cons ry (.cons rv .nil))) q3) fun _ s4 z => ?_)
  obtain ⟨_, H4, I4, _, q4⟩ := z
  exact ⟨σ, H4, I4, q4⟩
end
section
open PySem.Spec PyProof.Rows
variable {X : Cx} {CX : CXT} {k1 k2 i : Nat} {f1 f2 : Addr} {fd1 fd2 : FuncData} {ps1 ps2 : List Str} {sp : Sp} {E : L2.St → XK} {x : Str} {p pos : Pos} {e : Expr} {es : List Expr} {t : TA}
/-- f(e, ..), f a local that holds one of two defs with one promise -/
def tCall2S (i : Nat) (f1 f2 : Addr) (sp : Sp) (E : L2.St → XK) (t : TA) : TE := fun σ H Q => (σ[i]? = some (some (.ref f1)) ∨ σ[i]? = some (some (.ref f2))) ∧ t σ H fun vs H1 => sp vs H1 Q (E σ)
theorem pe_call2S (F1 : FnOk X.prog X.w X.K X.mg X.base CX k1 f1 fd1 ps1 sp) (F2 : FnOk X.prog X.w X.K X.mg X.base CX k2 f2 fd2 ps2 sp) (hr1 : Room k1 X.A) (hr2 : Room k2 X.A) (hN : X.N[i]? = some x) (hv : Vis X.env.scope x) (hk1 : PySem.W.keepIn X.K (.ref f1) = true) (hk2 : PySem.W.keepIn X.K (.ref f2) = true)
    (hb1 : Binds X.K fd1 ps1 []) (hb2 : Binds X.K fd2 ps2 []) (hx : ∀ σ, PassesAt CX X σ (E σ)) (ha : PA X (e :: es) t) (hdb : (x == ("__debug__" : Str)) = false := by decide) (hcd : (x == ("__classdict__" : Str)) = false := by decide)
    (he : starEach (e :: es) X.env = (false, eval e X.env) :: starEach es X.env := by rfl) (hpl : (backTo pos (starEach es X.env)).any (·.1) = false := by rfl) : PE X (.Call (.Name x p) (e :: es) [] pos) (tCall2S i f1 f2 sp E t) := by
  refine ⟨fun pins s σ H Q I h => ?_⟩
  obtain ⟨hs, ht⟩ := h
  rcases hs with hs | hs
  · refine wpAny_Call_Name_kw (thn ((pe_var (pos := p) hN hv hdb hcd).run pins s σ H (fun v H1 => v = .ref f1 ∧ H1 = H) I ⟨.ref f1, hs, rfl, rfl⟩) fun u s1 ⟨v, H1, I1, r1, q1⟩ => ?_)
    obtain ⟨rfl, rfl⟩ := q1
    cases r1
    exact PySem.W.callWith_K (h₀ := X.base) I.ok.mod.kin hk1 (thn (ha.run pos pins s1 σ _ _ I1 ht) fun us s2 ⟨vs, H2, I2, r, q⟩ => ⟨I2.kIn, run_fnS F1 hr1 hb1 (hx σ) I2 r q⟩) he hpl
  · refine wpAny_Call_Name_kw (thn ((pe_var (pos := p) hN hv hdb hcd).run pins s σ H (fun v H1 => v = .ref f2 ∧ H1 = H) I ⟨.ref f2, hs, rfl, rfl⟩) fun u s1 ⟨v, H1, I1, r1, q1⟩ => ?_)
    obtain ⟨rfl, rfl⟩ := q1
    cases r1
    exact PySem.W.callWith_K (h₀ := X.base) I.ok.mod.kin hk2 (thn (ha.run pos pins s1 σ _ _ I1 ht) fun us s2 ⟨vs, H2, I2, r, q⟩ => ⟨I2.kIn, run_fnS F2 hr2 hb2 (hx σ) I2 r q⟩) he hpl
end

/-! ### xs == [], xs != [] -/
section
open PySem.Spec PyProof.Rows
variable {X : Cx}
def rNil (K : PySem.W.Frag) (neg : Bool) : R2 := fun x y H Q => Wd (∃ (a b : Addr) (xs : List V), x = .ref a ∧ y = .ref b ∧ SqL K H a xs ∧ SqL K H b [] ∧ Q (.bl (if neg then !xs.isEmpty else xs.isEmpty)) H)
theorem nil_sizes {xs : List V} {us ws : List Value} (r1 : Vals xs us) (r2 : Vals [] ws) : us.toArray.size = xs.length ∧ ws.toArray.size = 0 := by
  cases r2
  exact ⟨by rw [List.size_toArray, r1.length], rfl⟩
theorem op_eqNil (hu : X.A.units + 64 < cLine) : OpR X (compareOp .Eq) (rNil X.K false) := by
  intro pins s σ H x y v u Q I rx ry h
  obtain ⟨a, b, xs, rfl, rfl, ha, hb, q⟩ := h.ok
  cases rx
  cases ry
  obtain ⟨us, r1, p1, _⟩ := I.list ha
  obtain ⟨ws, r2, p2, _⟩ := I.list hb
  obtain ⟨e1, e2⟩ := nil_sizes r1 r2
  cases xs with
  | nil =>
    have k := SeqAt.RcAt.lists (A := X.A) (e := fun _ => true) p1.isList p2.isList (by rw [e1, e2]; rfl) (by omega) (fun j h1 h2 => by omega)
    refine k X.prog X.w _ _ ?_
    rw [show ((List.range us.toArray.size).all fun _ => true) = true from List.all_eq_true.mpr fun _ _ => rfl]
    exact ⟨.bl true, H, I, rfl, q⟩
  | cons z zs =>
    have k := SeqAt.RcAt.lists_lengths (A := X.A) p1.isList p2.isList (by rw [e1, e2]; rfl) (by omega)
    exact k X.prog X.w _ _ ⟨.bl false, H, I, rfl, q⟩
theorem op_neNil (hu : X.A.units + 64 < cLine) : OpR X (compareOp .NotEq) (rNil X.K true) := by
  intro pins s σ H x y v u Q I rx ry h
  obtain ⟨a, b, xs, rfl, rfl, ha, hb, q⟩ := h.ok
  cases rx
  cases ry
  obtain ⟨us, r1, p1, _⟩ := I.list ha
  obtain ⟨ws, r2, p2, _⟩ := I.list hb
  obtain ⟨e1, e2⟩ := nil_sizes r1 r2
  cases xs with
  | nil =>
    have k := SeqAt.RcNeAt.lists (A := X.A) (e := fun _ => true) p1.isList p2.isList (by rw [e1, e2]; rfl) (by omega) (fun j h1 h2 => by omega)
    refine k X.prog X.w _ _ ?_
    rw [show ((List.range us.toArray.size).all fun _ => true) = true from List.all_eq_true.mpr fun _ _ => rfl]
    exact ⟨.bl false, H, I, rfl, q⟩
  | cons z zs =>
    have k := SeqAt.RcNeAt.lists_lengths (A := X.A) p1.isList p2.isList (by rw [e1, e2]; rfl) (by omega)
    exact k X.prog X.w _ _ ⟨.bl true, H, I, rfl, q⟩
end

/-! ### match o: case ['a' | 'b' | 'c', _, n]: .. case ['d', _, m]: .. -/
section
open PySem.Spec PyProof.Rows
variable {X : Cx}
/-- a written text as a pattern, beside a flat value -/
theorem mp_val {pins : List (Addr × Obj)} {σ : L2.St} {H : Hp} {s : Shared} {v0 : V} {u0 : Value} {z : Str} {j : Nat} {q r : Pos} {Q : Option (List (Str × Value)) → Shared → Prop} (I : Inv X pins σ H s) (r0 : RelV v0 u0) (fl : flatV v0 = true) (hu : X.A.units + 64 < cLine)
    (h : ∀ s', Inv X pins σ H s' → if eqV v0 (.str z) = true then Q (some []) s' else Q none s') : wpAny (model X.prog X.w) X.A (matchPattern (.MatchValue (.Constant (.str z) j q) r) X.env u0) Q X.xe s := by
  refine wpAny_matchPattern_Value (thn ((pe_str (X := X) (x := z) (j := j) (pos := q)).run pins s σ H (fun v H1 => v = .str z ∧ H1 = H) I ⟨rfl, rfl⟩) fun x s1 ⟨v, H1, I1, r1, q1⟩ => ?_)
  obtain ⟨rfl, rfl⟩ := q1
  obtain ⟨d, hd, e⟩ : ∃ d : PyData, Dp X.K H1 v0 d ∧ d.plain = true ∧ d.depth ≤ 64 ∧ PyData.eqv d (.str z) = eqV v0 (.str z) := by
    cases v0 with
    | non => exact ⟨_, .non, rfl, Nat.le_of_ble_eq_true rfl, rfl⟩
    | bl b => exact ⟨_, .bl b, rfl, Nat.le_of_ble_eq_true rfl, rfl⟩
    | int i => exact ⟨_, .int i, rfl, Nat.le_of_ble_eq_true rfl, rfl⟩
    | str y => exact ⟨_, .str y, rfl, Nat.le_of_ble_eq_true rfl, rfl⟩
    | byt _ => cases fl
    | flt _ => cases fl
    | ref _ => cases fl
    | ty _ => cases fl
  refine thn (op_eqP hu pins s1 σ H1 v0 (.str z) u0 x (fun v H2 => v = .bl (eqV v0 (.str z)) ∧ H2 = H1) I1 r0 r1 ⟨d, .str z, hd, .str z, e.1, rfl, e.2.1, by rw [e.2.2], rfl⟩) fun c s2 ⟨v, H2, I2, r2, q2⟩ => ?_
  obtain ⟨rfl, rfl⟩ := q2
  cases r2
  exact wpAny_truthy_bool (h s2 I2)
variable {te : TE} {e : Expr} {t1 t2 : TS} {b1 b2 : List Stmt} {w1 w2 w3 w4 n1 n2 : Str} {j1 j2 j3 j4 : Nat} {q1 q2 q3 q4 r1 r2 r3 r4 p1 p2 p3 p4 p5 p6 p7 pos : Pos} {i1 i2 : Nat}
def tMatch3 (te : TE) (w1 w2 w3 w4 : Str) (i1 i2 : Nat) (t1 t2 : TS) : TS := fun D σ H => te σ H fun x H1 => ∃ (p : Addr) (v0 v1 v2 : V), x = .ref p ∧ H1 p = some (.tup [v0, v1, v2]) ∧ flatV v0 = true ∧
  if (eqV v0 (.str w1) || eqV v0 (.str w2) || eqV v0 (.str w3)) = true then t1 D (σ.set i1 (some v2)) H1 else if eqV v0 (.str w4) = true then t2 D (σ.set i2 (some v2)) H1 else D.nx σ H1
theorem bind_ok {pins : List (Addr × Obj)} {σ : L2.St} {H : Hp} {s : Shared} {i : Nat} {x : Str} {v : V} {u : Value} {Q : Unit → Shared → Prop} (I : Inv X pins σ H s) (hN : X.N.Nodup) (hi : X.N[i]? = some x) (hx : Loc X.env.scope x)
    (hf : X.fn x = true ∨ X.env.scope.names.lookup x = some .local) (r : RelV v u) (h : ∀ s', Inv X pins (σ.set i (some v)) H s' → Q () s') :
    wpAny (model X.prog X.w) X.A (assignInOrder ([(x, u)].map fun (n, _) => bindName X.env n) ([(x, u)].map (·.2))) Q X.xe s :=
  wpAny_assignInOrder_more (wpAny_bindName (store_ok I hN hi hx r (fun s1 I1 => wpAny_assignInOrder_none (h s1 I1)) hf))
theorem ps_match3 (hc : X.calm = true) (hu : X.A.units + 64 < cLine) (hN : X.N.Nodup) (hi1 : X.N[i1]? = some n1) (hx1 : Loc X.env.scope n1) (hi2 : X.N[i2]? = some n2) (hx2 : Loc X.env.scope n2) (he : PE X e te) (h1 : PSs X b1 t1) (h2 : PSs X b2 t2)
    (hf1 : X.fn n1 = true ∨ X.env.scope.names.lookup n1 = some .local := by first | exact .inl rfl | exact .inr rfl) (hf2 : X.fn n2 = true ∨ X.env.scope.names.lookup n2 = some .local := by first | exact .inl rfl | exact .inr rfl) :
    PS X (.Match e [⟨.MatchSequence [.MatchOr [.MatchValue (.Constant (.str w1) j1 q1) r1, .MatchValue (.Constant (.str w2) j2 q2) r2, .MatchValue (.Constant (.str w3) j3 q3) r3] p1, .MatchAs none none p2, .MatchAs none (some n1) p3] p4, none, b1⟩,
      ⟨.MatchSequence [.MatchValue (.Constant (.str w4) j4 q4) r4, .MatchAs none none p5, .MatchAs none (some n2) p6] p7, none, b2⟩] pos) (tMatch3 te w1 w2 w3 w4 i1 i2 t1 t2) := by
  refine ⟨fun pins s σ H D I h => ?_⟩
  refine wpAny_Match (thn (he.run pins s σ H _ I h) fun u s1 ⟨x, H1, I1, rx, p, v0, v1, v2, ex, hp, fl, q⟩ => ?_)
  subst ex
  obtain rfl : u = Value.ref p := rx
  have hit : ∀ {ps : List Pattern} {pos : Pos} {Q : Option (List (Str × Value)) → Shared → Prop} {s : Shared}, Inv X pins σ H1 s → ps.length = 3 → (∀ u0 u1 u2 s', Inv X pins σ H1 s' → RelV v0 u0 → RelV v1 u1 → RelV v2 u2 → wpAny (model X.prog X.w) X.A (matchEach ps X.env [u0, u1, u2]) Q X.xe s') →
      (ps.findIdx? (·.isStar) = none) → ((ps.all fun p => p.isWildcard || (p.isStar && p.names.isEmpty)) = false) → wpAny (model X.prog X.w) X.A (matchPattern (.MatchSequence ps pos) X.env (.ref p)) Q X.xe s := by
    intro ps pos Q s I hl h3 hs hw
    obtain ⟨its, rv, ht, hz⟩ := I.tuple (SqT.of hp)
    obtain ⟨u0, u1, u2, rfl, a0, a1, a2⟩ : ∃ u0 u1 u2, its = [u0, u1, u2] ∧ RelV v0 u0 ∧ RelV v1 u1 ∧ RelV v2 u2 := by
      cases rv with
      | cons a0 t0 =>
        cases t0 with
        | cons a1 t1 =>
          cases t1 with
          | cons a2 t2 =>
            cases t2
            exact ⟨_, _, _, rfl, a0, a1, a2⟩
    refine matchSeq_tuple_hit ht (show ((3 : Nat) : Int) < 2 ^ 63 by decide) (by rw [hl]; rfl) ?_ hs hw
    rw [hl]
    refine unpackItems_tuple (items := #[u0, u1, u2]) (I.ok.hd hc) ht fun h' hx => ?_
    exact h3 u0 u1 u2 _ (I.kept (t' := s.toks + 1 + 1) fun b o e => hx b o (Nat.ne_of_lt (Heap.lt_size e)) e) a0 a1 a2
  refine wpAny_matchCases_cons (hit I1 rfl ?_ rfl rfl)
  intro u0 u1 u2 s2 I2 a0 a1 a2
  have no : (eqV v0 (.str w1) || eqV v0 (.str w2) || eqV v0 (.str w3)) = false → ∀ s3, Inv X pins σ H1 s3 →
      wpAny (model X.prog X.w) X.A (matchCases [⟨.MatchSequence [.MatchValue (.Constant (.str w4) j4 q4) r4, .MatchAs none none p5, .MatchAs none (some n2) p6] p7, none, b2⟩] X.env (.ref p) false) (SP X pins D) X.xe s3 := by
    intro hn s3 I3
    rw [hn] at q
    refine wpAny_matchCases_cons (hit I3 rfl ?_ rfl rfl)
    intro u0 u1 u2 s4 I4 a0 a1 a2
    refine wpAny_matchEach_cons (mp_val I4 a0 fl hu fun s5 I5 => ?_)
    split
    · next h4 =>
      refine wpAny_matchEach_cons (wpAny_matchPattern_Capture (wpAny_matchEach_cons (wpAny_matchPattern_Capture (wpAny_matchEach_nil ?_))))
      refine bind_ok I5 hN hi2 hx2 hf2 a2 fun s6 I6 => ?_
      rw [h4] at q
      exact h2.run pins s6 _ H1 D I6 q
    · next h4 =>
      rw [if_neg h4] at q
      exact wpAny_matchCases_nil ⟨σ, H1, I5, q⟩
  have yes : (eqV v0 (.str w1) || eqV v0 (.str w2) || eqV v0 (.str w3)) = true → ∀ s3, Inv X pins σ H1 s3 →
      wpAny (model X.prog X.w) X.A (matchEach [.MatchAs none none p2, .MatchAs none (some n1) p3] X.env [u1, u2]) (fun (r' : Option (List (Str × Value))) s₂ => match r' with
        | none => wpAny (model X.prog X.w) X.A (matchCases [⟨.MatchSequence [.MatchValue (.Constant (.str w4) j4 q4) r4, .MatchAs none none p5, .MatchAs none (some n2) p6] p7, none, b2⟩] X.env (.ref p) false) (SP X pins D) X.xe s₂
        | some more => wpAny (model X.prog X.w) X.A (assignInOrder ((([] : List (Str × Value)) ++ more).map fun (n, _) => bindName X.env n) ((([] : List (Str × Value)) ++ more).map (·.2))) (fun _ s₂ => wpAny (model X.prog X.w) X.A (execs b1 X.env) (SP X pins D) X.xe s₂) X.xe s₂) X.xe s3 := by
    intro hy s3 I3
    rw [hy] at q
    refine wpAny_matchEach_cons (wpAny_matchPattern_Capture (wpAny_matchEach_cons (wpAny_matchPattern_Capture (wpAny_matchEach_nil ?_))))
    exact bind_ok I3 hN hi1 hx1 hf1 a2 fun s6 I6 => h1.run pins s6 _ H1 D I6 q
  refine wpAny_matchEach_cons (wpAny_matchPattern_Or (wpAny_matchFirst_cons (mp_val I2 a0 fl hu fun s3 I3 => ?_)))
  split
  · next h4 => exact yes (by rw [h4]; rfl) s3 I3
  · next h4 =>
    refine wpAny_matchFirst_cons (mp_val I3 a0 fl hu fun s5 I5 => ?_)
    split
    · next h5 => exact yes (by rw [h5]; simp) s5 I5
    · next h5 =>
      refine wpAny_matchFirst_cons (mp_val I5 a0 fl hu fun s6 I6 => ?_)
      split
      · next h6 => exact yes (by rw [h6]; simp) s6 I6
      · next h6 => exact wpAny_matchFirst_nil (no (by simp [h4, h5, h6]) s6 I6)
end

/-! ### the law's own helpers: bag, integer, divisor, lowest -/
def spBag (K : PySem.W.Frag) : Sp := fun vs H Q _ => ∃ (a : Addr) (ns : List Int), vs = [.ref a] ∧ SqL K H a (ns.map V.int) ∧ ∀ (g l : Addr) (H' : Hp), Same H H' → H g = none → H l = none → Bag H' g l → Q (.ref g) H'
def spInteger : Sp := fun vs H Q _ => ∃ g l : Addr, vs = [.ref g] ∧ Bag H g l ∧ ∀ (n : Int) (H' : Hp), n.natAbs ≤ 10 ^ 49 → Bag H' g l → Kp g H H' → Q (.int n) H'
def spLowest : Sp := fun vs H Q _ => ∃ t b : Int, vs = [.int t, .int b] ∧ b ≠ 0 ∧ b.natAbs < 2 ^ 9000 ∧ ∀ p, H p = none → Q (.ref p) (upd H p (.tup [.int (Rat.divInt t b).num, .int ((Rat.divInt t b).den : Int)]))
theorem Bag.keep {H H' : Hp} {g l : Addr} (b : Bag H g l) (s : Same H H') : Bag H' g l := by
  obtain ⟨i, r, sd, c, ns, hg, hl, hi⟩ := b
  exact ⟨i, r, sd, c, ns, s _ _ hg, s _ _ hl, hi⟩
theorem Bag.lst {H : Hp} {g l : Addr} (b : Bag H g l) : ∃ xs, H g = some (.lst xs) := by
  obtain ⟨i, r, sd, c, ns, hg, hl, hi⟩ := b
  exact ⟨_, hg⟩
theorem Bag.ne {H : Hp} {g l p : Addr} (b : Bag H g l) (hp : H p = none) : p ≠ g ∧ p ≠ l := by
  obtain ⟨i, r, sd, c, ns, hg, hl, hi⟩ := b
  exact ⟨(ne_of_none hg hp).symm, (ne_of_none hl hp).symm⟩
/-- a bag stands where nothing of it is written -/
theorem Bag.put {H : Hp} {g l p : Addr} {o : HO} (b : Bag H g l) (n : p ≠ g ∧ p ≠ l) : Bag (upd H p o) g l := by
  obtain ⟨i, r, sd, c, ns, hg, hl, hi⟩ := b
  exact ⟨i, r, sd, c, ns, by rw [upd_ne n.1.symm]; exact hg, by rw [upd_ne n.2.symm]; exact hl, hi⟩
theorem Bag.new {H : Hp} {g l p : Addr} {o : HO} (b : Bag H g l) (hp : H p = none) : Bag (upd H p o) g l := b.keep fun c u e => by
  rw [upd_ne (ne_of_none e hp)]
  exact e
theorem Kp.new {g p : Addr} {H H' : Hp} {o : HO} (k : Kp g H H') (hp : H' p = none) : Kp g H (upd H' p o) := fun b u e n => by
  have e1 := k b u e n
  rw [upd_ne (ne_of_none e1 hp)]
  exact e1
theorem Kp.put {g p : Addr} {H H' : Hp} {o : HO} (k : Kp g H H') (hp : H p = none) : Kp g H (upd H' p o) := fun b u e n => by
  rw [upd_ne (ne_of_none e hp)]
  exact k b u e n
theorem Kp.same {g : Addr} {H H' : Hp} (s : Same H H') : Kp g H H' := fun b u e _ => s b u e
theorem Same.new {H : Hp} {p : Addr} {o : HO} (hp : H p = none) : Same H (upd H p o) := fun b u e => by
  rw [upd_ne (ne_of_none e hp)]
  exact e
theorem size_at {c : Int} (h0 : 0 ≤ c) (h6 : c < 6) (hc : c ≠ 0) : ∃ z : Int, atI [V.int 1, V.int 2, V.int 3, V.int 12, V.int 1000, V.int (10 ^ (49 : Int).toNat)] c = some (.int z) ∧ 0 < z ∧ z ≤ 10 ^ 49 := by
  have : c = 1 ∨ c = 2 ∨ c = 3 ∨ c = 4 ∨ c = 5 := by omega
  rcases this with rfl | rfl | rfl | rfl | rfl
  · exact ⟨2, rfl, by decide, by decide⟩
  · exact ⟨3, rfl, by decide, by decide⟩
  · exact ⟨12, rfl, by decide, by decide⟩
  · exact ⟨1000, rfl, by decide, by decide⟩
  · exact ⟨10 ^ 49, rfl, by decide, by decide⟩
theorem big49 : (10 : Nat) ^ 49 < 2 ^ 200 := by decide
theorem pow_mono {a b : Nat} (h : a ≤ b) : (2 : Nat) ^ a ≤ 2 ^ b := Nat.pow_le_pow_right (by decide) h
theorem lt_pow {n a b : Nat} (h : n < 2 ^ a) (hab : a ≤ b) : n < 2 ^ b := Nat.lt_of_lt_of_le h (pow_mono hab)
theorem lt200 {n : Nat} (h : n ≤ 10 ^ 49) : n < 2 ^ 200 := Nat.lt_of_le_of_lt h big49
theorem lt9000 {n : Nat} (h : n ≤ 10 ^ 49) : n < 2 ^ 9000 := lt_pow (lt200 h) (by decide)
def spLaw (K : PySem.W.Frag) : Sp := fun vs H Q _ => ∃ (a : Addr) (ns : List Int), vs = [.ref a] ∧ SqL K H a (ns.map V.int) ∧ ns.length ≤ 63 ∧ ∀ H', Q (.bl true) H'
theorem neD_same {K : PySem.W.Frag} {H : Hp} {p q : Addr} {a b : Int} {Q : VK} (hp : H p = some (.tup [.int a, .int b])) (hq : H q = some (.tup [.int a, .int b])) (h : Q (.bl false) H) : rNeD K (.ref p) (.ref q) H Q := by
  refine ⟨.tuple [.int a, .int b], .tuple [.int a, .int b], .tup (SqT.of hp) (.cons (.int a) (.cons (.int b) .nil)), .tup (SqT.of hq) (.cons (.int a) (.cons (.int b) .nil)), rfl, rfl, ?_⟩
  have e : PyData.eqv (.tuple [.int a, .int b]) (.tuple [.int a, .int b]) = true := by simp [PyData.eqv, PyData.eqvAll]
  rw [e]
  exact h
theorem or_go {K : PySem.W.Frag} {H : Hp} {σ : L2.St} {Q : VK} {n d : Int} (hd : d ≠ 0) (h : ∀ m : Int, m ≠ 0 → (m = n ∨ m = d) → Q (.int m) H) : ∃ k, TruV K (.int n) H k ∧ if k = true then Q (.int n) H else tC (.int d) σ H Q := by
  by_cases e : n = 0
  · exact ⟨false, by rw [e]; rfl, iteF (h d hd (.inr rfl))⟩
  · exact ⟨true, (show true = (n != 0) by simp [e]), iteT (h n e (.inl rfl))⟩
theorem kit_self {K : PySem.W.Frag} {C : Addr} : PySem.W.kitOne K (.ref C) (.ref C) = some true := by simp [PySem.W.kitOne]
def spNumber : Sp := fun vs H Q _ => ∃ n : Int, vs = [.int n] ∧ Q (.bl true) H
section
variable {P : Program} {w : World} {K : PySem.W.Frag} {mg : Str → Option Value} {base : Heap} {A : Ad}
theorem ok_l_bag (T : Txt K mg A) : FnOk P w K mg base CX0 1 A.l_bag A.fd_l_bag P_l_bag (spBag K) := by
  refine T.F_l_bag.ok sc_l_bag (fun vs H Q E h => ?_) (fun cdv Ar outer s H vs Q E hr h => ?_)
  · obtain ⟨a, ns, rfl, _⟩ := h
    rfl
  · obtain ⟨a, ns, rfl, hS, k⟩ := h
    refine ⟨_, (pss_one (ps_ret (pe_lst (pa_cons (pe_callTy call_list_of (by rfl) T.z_list (by decide +kernel) (pa_cons (pv 0) pa_nil)) (pa_cons pe_int (pa_cons pe_int (pa_cons pe_int (pa_cons pe_int pa_nil)))))))), ?_⟩
    refine ⟨_, rfl, a, _, rfl, .inl hS, fun l hl => ⟨by walk_at "fact", fun g hg => ?_⟩⟩
    have nlg : l ≠ g := fun z => by
      rw [z, upd_same] at hg
      cases hg
    have hg0 : H g = none := by
      rw [upd_ne nlg.symm] at hg
      exact hg
    exact k g l _ ((Same.new hl).trans (Same.new hg)) hg0 hl ⟨0, 0, 17, 0, ns, upd_same, by rw [upd_ne nlg]; exact upd_same, by decide⟩
end

theorem Same.at_new {H H' : Hp} {D : Addr} {o : HO} (hD : H D = none) (s : Same H H') : Same H (upd H' D o) := fun b u e => by
  rw [upd_ne (ne_of_none e hD)]
  exact s b u e
/-- [.. for .. in a list], its parts keep what stands -/
theorem lc_same {K : PySem.W.Frag} {a : Addr} {xs : List V} {g : TG} {tt : TT} {te : TE} {vs : List Nat} {σ : L2.St} {H1 : Hp} {D : Addr} {Qd : Hp → Prop} (f : Nat → V) (hl : H1 a = some (.lst xs)) (hz : xs.length ≤ 1000) (hD : H1 D = none)
    (hs : ∀ i x H' (N : VK) (M : Hp → Prop), xs[i]? = some x → Same H1 H' → (∀ H4, Same H' H4 → N (f i) H4) → g x (wipe σ vs) H' fun σ2 H2 => wipe σ2 vs = wipe σ vs ∧ tt σ2 H2 fun b H3 => if b = true then te σ2 H3 N else M H3)
    (hd : ∀ H', Same H1 H' → H' D = some (.lst ((List.range xs.length).map f)) → Qd H') :
    ∃ W : Nat → Nat → Hp → Prop, (∃ m, W 0 m (upd H1 D (.lst []))) ∧ ∀ i m H, W i m H →
      ((Itl K a).stop i H ∧ Qd H) ∨ ((Itl K a).go i H ∧ ∃ Nx : Hp → Prop, (∀ H', Nx H' → ∃ m', m' < m ∧ W (i + 1) m' H') ∧ ∀ x H', (Itl K a).yld i H x H' → g x (wipe σ vs) H' fun σ2 H2 => wipe σ2 vs = wipe σ vs ∧ tt σ2 H2 fun b H3 =>
        if b = true then te σ2 H3 fun y H4 => ∃ acc, H4 D = some (.lst acc) ∧ acc.length < sizeLine ∧ Nx (upd H4 D (.lst (acc ++ [y]))) else Nx H3) := by
  refine lc_list (K := K) (a := a) (xs := xs) (fun i H' => Wd (Same H1 H' ∧ H' D = some (.lst ((List.range i).map f)))) ⟨Same.new hD, upd_same⟩ (fun i H' _ h => SqL.of (h.ok.1 _ _ hl)) ?_ (fun H' h => hd H' h.ok.1 h.ok.2)
  rintro i x H' hi ⟨s, hd'⟩
  refine hs i x H' _ _ hi s fun H4 s4 => ⟨_, s4 _ _ hd', ?_, Same.at_new hD (s.trans s4), ?_⟩
  · rw [List.length_map, List.length_range]
    have := (List.getElem?_eq_some_iff.mp hi).1
    exact Nat.lt_of_lt_of_le (Nat.lt_of_lt_of_le this hz) (by decide)
  · rw [upd_same, List.range_succ, List.map_append]
    rfl
theorem Same.none {H H' : Hp} {p : Addr} (s : Same H H') (h : H' p = none) : H p = none := by
  cases e : H p with
  | none => rfl
  | some o =>
    rw [s _ _ e] at h
    cases h

/-- what stands anywhere but at the list D is kept -/
theorem kp_of_same {D : Addr} {H H' : Hp} (s : Same H H') : Kp D H H' := fun b o e _ => s b o e
/-- [.. for .. in a list], its parts keep what stands; R tells of each item that is made -/
theorem lc_sameP {K : PySem.W.Frag} {a : Addr} {xs : List V} {g : TG} {tt : TT} {te : TE} {vs : List Nat} {σ : L2.St} {H1 : Hp} {D : Addr} {Qd : Hp → Prop} (R : Nat → V → Hp → Prop) (hl : H1 a = some (.lst xs)) (hz : xs.length ≤ 1000) (hD : H1 D = none)
    (mono : ∀ i y H H' acc, H D = some (.lst acc) → Kp D H H' → R i y H → R i y H')
    (hs : ∀ i x H' (N : VK) (M : Hp → Prop), xs[i]? = some x → Same H1 H' → (∀ y H4, Same H' H4 → R i y H4 → N y H4) → g x (wipe σ vs) H' fun σ2 H2 => wipe σ2 vs = wipe σ vs ∧ tt σ2 H2 fun b H3 => if b = true then te σ2 H3 N else M H3)
    (hd : ∀ ys H', Same H1 H' → ys.length = xs.length → (∀ i y, ys[i]? = some y → R i y H') → H' D = some (.lst ys) → Qd H') :
    ∃ W : Nat → Nat → Hp → Prop, (∃ m, W 0 m (upd H1 D (.lst []))) ∧ ∀ i m H, W i m H →
      ((Itl K a).stop i H ∧ Qd H) ∨ ((Itl K a).go i H ∧ ∃ Nx : Hp → Prop, (∀ H', Nx H' → ∃ m', m' < m ∧ W (i + 1) m' H') ∧ ∀ x H', (Itl K a).yld i H x H' → g x (wipe σ vs) H' fun σ2 H2 => wipe σ2 vs = wipe σ vs ∧ tt σ2 H2 fun b H3 =>
        if b = true then te σ2 H3 fun y H4 => ∃ acc, H4 D = some (.lst acc) ∧ acc.length < sizeLine ∧ Nx (upd H4 D (.lst (acc ++ [y]))) else Nx H3) := by
  refine lc_list (K := K) (a := a) (xs := xs) (fun i H' => Wd (∃ ys : List V, Same H1 H' ∧ ys.length = i ∧ H' D = some (.lst ys) ∧ ∀ j y, ys[j]? = some y → R j y H')) ⟨[], Same.new hD, rfl, upd_same, fun j y h => by cases h⟩ (fun i H' _ h => ?_) ?_ (fun H' h => ?_)
  · obtain ⟨ys, s, _⟩ := h.ok
    exact SqL.of (s _ _ hl)
  · rintro i x H' hi ⟨ys, s, hyl, hd', hR⟩
    refine hs i x H' _ _ hi s fun y H4 s4 r4 => ⟨_, s4 _ _ hd', ?_, ys ++ [y], Same.at_new hD (s.trans s4), ?_, upd_same, fun j z hz => ?_⟩
    · rw [hyl]
      have := (List.getElem?_eq_some_iff.mp hi).1
      exact Nat.lt_of_lt_of_le (Nat.lt_of_lt_of_le this hz) (by decide)
    · rw [List.length_append, hyl]
      rfl
    · have kp : Kp D H4 (upd H4 D (.lst (ys ++ [y]))) := (Kp.refl D H4).up
      rw [List.getElem?_append] at hz
      split at hz
      · exact mono _ _ _ _ _ (s4 _ _ hd') kp (mono _ _ _ _ _ hd' (kp_of_same s4) (hR j z hz))
      · have e : j - ys.length = 0 := by
          cases e : j - ys.length with
          | zero => rfl
          | succ n => rw [e] at hz; cases hz
        rw [e] at hz
        cases hz
        have : j = i := by omega
        subst this
        exact mono _ _ _ _ _ (s4 _ _ hd') kp r4
  · obtain ⟨ys, s, hyl, hd', hR⟩ := h.ok
    exact hd ys H' s hyl hR hd'

/-! ### the __init__ of the errors -/
/-- C.__init__(self, v, ..): the error gets its dict; fs: the fields, the last one first -/
def spExcF (C : Addr) (n : Nat) (fs : List V → List (Str × V)) : Sp := fun vs H Q _ => ∃ (a : Addr) (ws : List V), vs = .ref a :: ws ∧ ws.length = n ∧ H a = some (exo a C none) ∧
  ∀ (d : Addr) (H' : Hp), H d = none → d ≠ a → (∀ b o, H b = some o → b ≠ a → H' b = some o) → H' a = some (exo a C (some d)) → H' d = some (exd d (fs ws)) → Q .non H'
section
variable {P : Program} {w : World} {K : PySem.W.Frag} {mg : Str → Option Value} {base : Heap} {A : Ad}
def fs_BadEntry : List V → List (Str × V)
  | [v0, v1] => [("number", v1), ("day", v0)]
  | _ => []
theorem ok_m_BadEntry_init (T : Txt K mg A) : FnOk P w K mg base CX0 3 A.m_BadEntry_init A.fd_m_BadEntry_init P_m_BadEntry_init (spExcF A.BadEntry 2 fs_BadEntry) := by
  refine T.F_m_BadEntry_init.ok sc_m_BadEntry_init (fun vs H Q E h => ?_) (fun cdv Ar outer s H vs Q E hr h => ?_)
  · obtain ⟨a, ws, rfl, hl, _⟩ := h
    rw [List.length_cons, hl]
    rfl
  · obtain ⟨a, ws, rfl, hl, ha, k⟩ := h
    match ws, hl with
    | [v0, v1], _ =>
      refine ⟨_, (pss_cons (ps_expr (pe_ceinit (by rfl) T.g_CostError T.rd_CostError T.cg_CostError T.vi_CostError (pa_cons (pv 0) (pa_cons pe_str pa_nil))))
      (pss_cons (ps_ost (pv 0) (pv 1))
      (pss_one (ps_ost (pv 0) (pv 2))))), ?_⟩
      refine ⟨_, rfl, a, A.BadEntry, _, rfl, by show 1 ≤ 1000; decide, T.ox_BadEntry, ha, ?_⟩
      refine ⟨_, rfl, _, rfl, a, A.BadEntry, rfl, T.ox_BadEntry, T.n_BadEntry_day, .inl ⟨ha, fun d hd nd => ?_⟩⟩
      have ea : upd (upd H d (exd d [("day", v0)])) a (exo a A.BadEntry (some d)) a = some (exo a A.BadEntry (some d)) := upd_same
      have ed : upd (upd H d (exd d [("day", v0)])) a (exo a A.BadEntry (some d)) d = some (exd d [("day", v0)]) := by rw [upd_ne nd, upd_same]
      refine ⟨_, rfl, _, rfl, a, A.BadEntry, rfl, T.ox_BadEntry, T.n_BadEntry_number, .inr ⟨d, _, ea, ed, by show 1 ≤ 900; decide, ?_⟩⟩
      exact k d _ hd nd (fun b o e n => by rw [upd_ne (ne_of_none e hd), upd_ne n, upd_ne (ne_of_none e hd)]; exact e) (by rw [upd_ne nd.symm]; exact ea) upd_same
def fs_NoEntry : List V → List (Str × V)
  | [v0, v1] => [("number", v1), ("day", v0)]
  | _ => []
theorem ok_m_NoEntry_init (T : Txt K mg A) : FnOk P w K mg base CX0 3 A.m_NoEntry_init A.fd_m_NoEntry_init P_m_NoEntry_init (spExcF A.NoEntry 2 fs_NoEntry) := by
  refine T.F_m_NoEntry_init.ok sc_m_NoEntry_init (fun vs H Q E h => ?_) (fun cdv Ar outer s H vs Q E hr h => ?_)
  · obtain ⟨a, ws, rfl, hl, _⟩ := h
    rw [List.length_cons, hl]
    rfl
  · obtain ⟨a, ws, rfl, hl, ha, k⟩ := h
    match ws, hl with
    | [v0, v1], _ =>
      refine ⟨_, (pss_cons (ps_expr (pe_ceinit (by rfl) T.g_CostError T.rd_CostError T.cg_CostError T.vi_CostError (pa_cons (pv 0) (pa_cons pe_str pa_nil))))
      (pss_cons (ps_ost (pv 0) (pv 1))
      (pss_one (ps_ost (pv 0) (pv 2))))), ?_⟩
      refine ⟨_, rfl, a, A.NoEntry, _, rfl, by show 1 ≤ 1000; decide, T.ox_NoEntry, ha, ?_⟩
      refine ⟨_, rfl, _, rfl, a, A.NoEntry, rfl, T.ox_NoEntry, T.n_NoEntry_day, .inl ⟨ha, fun d hd nd => ?_⟩⟩
      have ea : upd (upd H d (exd d [("day", v0)])) a (exo a A.NoEntry (some d)) a = some (exo a A.NoEntry (some d)) := upd_same
      have ed : upd (upd H d (exd d [("day", v0)])) a (exo a A.NoEntry (some d)) d = some (exd d [("day", v0)]) := by rw [upd_ne nd, upd_same]
      refine ⟨_, rfl, _, rfl, a, A.NoEntry, rfl, T.ox_NoEntry, T.n_NoEntry_number, .inr ⟨d, _, ea, ed, by show 1 ≤ 900; decide, ?_⟩⟩
      exact k d _ hd nd (fun b o e n => by rw [upd_ne (ne_of_none e hd), upd_ne n, upd_ne (ne_of_none e hd)]; exact e) (by rw [upd_ne nd.symm]; exact ea) upd_same
end

/-! ### names that the law draws -/
section
open PySem.Spec PyProof.Rows
variable {X : Cx}
/-- a text times 0 or 1 -/
theorem op_mul01 : OpR X (binaryOp .Mult) (fun x y H Q => ∃ (z : Str) (n : Int), x = .str z ∧ y = .int n ∧ (n = 0 ∨ n = 1) ∧ Q (.str (if n = 0 then Str.empty else z)) H) := by
  intro pins s σ H x y v u Q I rx ry h
  obtain ⟨z, n, rfl, rfl, hn, q⟩ := h
  obtain ⟨t, rfl⟩ := rx
  obtain ⟨t', rfl⟩ := ry
  rcases hn with rfl | rfl
  · exact PySem.P.mul_str_none (by decide) (by decide) ⟨.str Str.empty, H, I.tok _, ⟨_, rfl⟩, q⟩
  · refine PySem.P.mul_str (by decide) (fun _ h => absurd h (by simp)) (fun _ h => absurd h (by simp)) ?_
    show (Made.val (.str z t)).post _ s
    exact ⟨.str z, H, I, ⟨_, rfl⟩, q⟩
end
/-- a name: a few small letters -/
def NmOk (n : List Nat) : Prop := 1 ≤ n.length ∧ n.length ≤ 12 ∧ ∀ c ∈ n, 97 ≤ c ∧ c < 123
def vS (l : List Nat) : V := .str (SX.S l)
/-- the k-th name -/
def nmAt (st : List Nat) (wh : Nat) (sh lo : Int) (k : Nat) : List Nat := st.take wh ++ [97 + ((sh + 7 * (k : Int)) % 26).toNat] ++ st.drop wh ++ (if (k : Int) % 3 = lo then [97 + sh.toNat] else [])
theorem nm_len {st : List Nat} {wh : Nat} {sh lo : Int} {k : Nat} : (nmAt st wh sh lo k).length = st.length + 1 + (if (k : Int) % 3 = lo then 1 else 0) := by
  unfold nmAt
  rw [List.length_append, List.length_append, List.length_append, List.length_take, List.length_drop, List.length_singleton]
  split
  · rw [List.length_singleton]
    omega
  · rw [List.length_nil]
    omega
theorem nm_at {st : List Nat} {wh : Nat} {sh lo : Int} {k : Nat} (hw : wh ≤ st.length) : (nmAt st wh sh lo k)[wh]? = some (97 + ((sh + 7 * (k : Int)) % 26).toNat) := by
  have h1 : (st.take wh).length = wh := by
    rw [List.length_take]
    omega
  unfold nmAt
  rw [List.append_assoc, List.append_assoc, List.getElem?_append_right (by omega), h1, Nat.sub_self]
  rfl
theorem nm_inj {st : List Nat} {wh : Nat} {sh lo : Int} {k j : Nat} (hw : wh ≤ st.length) (hk : k < 26) (hj : j < 26) (e : nmAt st wh sh lo k = nmAt st wh sh lo j) : k = j := by
  have h := nm_at (sh := sh) (lo := lo) (k := k) hw
  rw [e, nm_at hw] at h
  have h := Option.some.inj h
  omega
theorem nm_ok {st : List Nat} {wh : Nat} {sh lo : Int} {k : Nat} (hs : st.length ≤ 10) (hc : ∀ c ∈ st, 97 ≤ c ∧ c < 123) (h0 : 0 ≤ sh) (h1 : sh < 26) : NmOk (nmAt st wh sh lo k) := by
  refine ⟨by rw [nm_len]; omega, by rw [nm_len]; split <;> omega, fun c hm => ?_⟩
  unfold nmAt at hm
  simp only [List.mem_append, List.mem_singleton] at hm
  rcases hm with ((hm | hm) | hm) | hm
  · exact hc c (List.mem_of_mem_take hm)
  · omega
  · exact hc c (List.mem_of_mem_drop hm)
  · split at hm
    · rw [List.mem_singleton] at hm
      omega
    · cases hm
def lettersZ : Str := "abcdefghijklmnopqrstuvwxyz"
theorem letter_at {c : Int} (h0 : 0 ≤ c) (h1 : c < 26) : atI lettersZ.cps.toList c = some (97 + c.toNat) := by
  have : ∀ n : Fin 26, atI lettersZ.cps.toList ((n.val : Nat) : Int) = some (97 + n.val) := by decide +kernel
  have h := this ⟨c.toNat, by omega⟩
  rw [show ((c.toNat : Nat) : Int) = c by omega] at h
  exact h
def spNames : Sp := fun vs H Q _ => ∃ (g l q : Addr) (cnt : Int) (ws : List (List Nat)), vs = [.ref g, .int cnt, .ref q] ∧ Bag H g l ∧ q ≠ g ∧ 1 ≤ cnt ∧ cnt ≤ 26 ∧ H q = some (.lst (ws.map vS)) ∧ 1 ≤ ws.length ∧ ws.length ≤ 1000 ∧ (∀ w ∈ ws, w.length ≤ 1000) ∧
  ∀ (p : Addr) (ns : List (List Nat)) (H' : Hp), H p = none → H' p = some (.lst (ns.map vS)) → ns.length = cnt.toNat → ns.Nodup → (∀ n ∈ ns, NmOk n ∨ n ∈ ws) → Bag H' g l → Kp g H H' → Q (.ref p) H'
theorem len_at {c : Int} (h0 : 0 ≤ c) (h5 : c < 5) : ∃ z : Int, atI [V.int 0, .int 1, .int 2, .int 3, .int 10] c = some (.int z) ∧ 0 ≤ z ∧ z ≤ 10 := by
  have : c = 0 ∨ c = 1 ∨ c = 2 ∨ c = 3 ∨ c = 4 := by omega
  rcases this with rfl | rfl | rfl | rfl | rfl
  · exact ⟨0, rfl, by decide, by decide⟩
  · exact ⟨1, rfl, by decide, by decide⟩
  · exact ⟨2, rfl, by decide, by decide⟩
  · exact ⟨3, rfl, by decide, by decide⟩
  · exact ⟨10, rfl, by decide, by decide⟩
theorem kp_none {g p : Addr} {H H' : Hp} (k : Kp g H H') (h : H' p = none) (n : p ≠ g) : H p = none := by
  cases e : H p with
  | none => rfl
  | some o =>
    rw [k _ _ e n] at h
    cases h
theorem joinL_chars : ∀ cs : List Nat, TL.joinL [] (cs.map fun c => [c]) = cs
  | [] => rfl
  | [c] => rfl
  | c :: d :: cs => by
    have ih := joinL_chars (d :: cs)
    show [c] ++ ([] ++ TL.joinL [] ((d :: cs).map fun c => [c])) = _
    rw [ih]
    rfl
theorem join_chars (cs : List Nat) : Txt.join (Str.ofString "") (cs.map fun c => SX.S [c]) = SX.S cs := by
  have h := SX.join_S [] (cs.map fun c => [c])
  rw [List.map_map, joinL_chars] at h
  exact h
theorem cut_to {st : List Nat} {wh : Int} (h0 : 0 ≤ wh) (h1 : wh.toNat ≤ st.length) : cutS (SX.S st) none (some wh) = SX.S (st.take wh.toNat) := by
  have e : HT.sIx (SX.S st).length (SX.S st).length (some wh) = wh.toNat := by
    show (if wh < 0 then _ else min wh.toNat _) = _
    rw [if_neg (by omega), SX.S_len]
    omega
  unfold cutS
  rw [HT.sIx_none, e, Nat.sub_zero, List.drop_zero]
theorem cut_from {st : List Nat} {wh : Int} (h0 : 0 ≤ wh) (h1 : wh.toNat ≤ st.length) : cutS (SX.S st) (some wh) none = SX.S (st.drop wh.toNat) := by
  have e : HT.sIx (SX.S st).length 0 (some wh) = wh.toNat := by
    show (if wh < 0 then _ else min wh.toNat _) = _
    rw [if_neg (by omega), SX.S_len]
    omega
  unfold cutS
  rw [HT.sIx_none, e, SX.S_len, List.take_of_length_le (by rw [List.length_drop]; exact Nat.le_refl _)]
theorem nodup_set {α : Type} {l : List α} {j : Nat} {x : α} (h : l.Nodup) (hx : x ∉ l) : (l.set j x).Nodup := by
  unfold List.Nodup at *
  rw [List.pairwise_iff_getElem] at *
  intro a b ha hb hab
  rw [List.length_set] at ha hb
  rw [List.getElem_set, List.getElem_set]
  split
  · rw [if_neg (by omega)]
    exact fun e => hx (e ▸ List.getElem_mem _)
  · split
    · exact fun e => hx (e ▸ List.getElem_mem _)
    · exact h a b ha hb hab
theorem ixN_in {n : Nat} {i : Int} (h0 : 0 ≤ i) (h1 : i < (n : Int)) : ixN n i = some i.toNat := by
  unfold ixN
  rw [if_pos h0, if_pos h1]
theorem mem_set_of {α : Type} {l : List α} {j : Nat} {x y : α} (h : y ∈ l.set j x) : y = x ∨ y ∈ l := by
  rcases List.mem_or_eq_of_mem_set h with h | h
  · exact .inr h
  · exact .inl h
theorem inV_names {ns : List (List Nat)} {x : List Nat} : inV (vS x) (ns.map vS) = decide (x ∈ ns) := by
  unfold inV
  rw [List.any_map, Bool.eq_iff_iff, List.any_eq_true, decide_eq_true_iff]
  constructor
  · rintro ⟨y, hy, e⟩
    have e2 : (SX.S y == SX.S x) = true := e
    rw [SX.S_beq, beq_iff_eq] at e2
    exact e2 ▸ hy
  · intro h
    refine ⟨x, h, ?_⟩
    show (SX.S x == SX.S x) = true
    rw [SX.S_beq, beq_iff_eq]
theorem flat_names (ns : List (List Nat)) : (ns.map vS).all flatV = true := by
  rw [List.all_map, List.all_eq_true]
  intro x _
  rfl
/-- what the names are, once they stand -/
def NmsOk (ns ws : List (List Nat)) (cnt : Int) : Prop := ns.length = cnt.toNat ∧ ns.Nodup ∧ ∀ n ∈ ns, NmOk n ∨ n ∈ ws
theorem nms_set {ns ws : List (List Nat)} {cnt : Int} {j : Nat} {x : List Nat} (h : NmsOk ns ws cnt) (hx : x ∉ ns) (ok : NmOk x ∨ x ∈ ws) : NmsOk (ns.set j x) ws cnt :=
  ⟨by rw [List.length_set]; exact h.1, nodup_set h.2.1 hx, fun n hn => by
    rcases mem_set_of hn with rfl | hn
    · exact ok
    · exact h.2.2 n hn⟩
theorem nms_range {st : List Nat} {wh : Nat} {sh lo cnt : Int} {ws : List (List Nat)} (hw : wh ≤ st.length) (hs : st.length ≤ 10) (hc : ∀ c ∈ st, 97 ≤ c ∧ c < 123) (h0 : 0 ≤ sh) (h1 : sh < 26) (hcn : cnt ≤ 26) :
    NmsOk ((List.range cnt.toNat).map fun k => nmAt st wh sh lo k) ws cnt := by
  refine ⟨by rw [List.length_map, List.length_range], ?_, fun n hn => ?_⟩
  · unfold List.Nodup
    rw [List.pairwise_map]
    refine List.Pairwise.imp_of_mem ?_ List.nodup_range
    intro a b ha hb hab e
    rw [List.mem_range] at ha hb
    exact hab (nm_inj hw (by omega) (by omega) e)
  · obtain ⟨k, _, rfl⟩ := List.mem_map.mp hn
    exact .inl (nm_ok hs hc h0 h1)
section
variable {P : Program} {w : World} {K : PySem.W.Frag} {mg : Str → Option Value} {base : Heap} {A : Ad}
theorem ok_l_names (T : Txt K mg A) : FnOk P w K mg base CX0 2 A.l_names A.fd_l_names P_l_names spNames := by
  refine T.F_l_names.ok sc_l_names (fun vs H Q E h => ?_) (fun cdv Ar outer s H vs Q E hr h => ?_)
  · obtain ⟨g, l, q, cnt, ws, rfl, _⟩ := h
    rfl
  · obtain ⟨g, l, q, cnt, ws, rfl, hB, nqg, hc1, hc26, hq, hw1, hw2, hw3, k⟩ := h
    refine ⟨_, (pss_cons (ps_set (i := 3) sc_l_names.nd rfl (Or.inr rfl) pe_str)
      (pss_cons (ps_set (i := 4) sc_l_names.nd rfl (Or.inl rfl) (pe_ix ix_list (pe_lst (pa_cons pe_int (pa_cons pe_int (pa_cons pe_int (pa_cons pe_int (pa_cons pe_int pa_nil)))))) (pe_call (ok_l_draw T) (hr.mono (by decide)) (by rfl) T.g__law_draw T.F_l_draw.kp T.b_l_draw .nil pass0 (pa_cons (pv 0) (pa_cons pe_int pa_nil))) (fun _ _ => rfl)))
      (pss_cons (ps_set (i := 5) sc_l_names.nd rfl (Or.inl rfl) (pe_join pe_str (pe_g (pe_lcV (own := [("_law_k", 10)]) rfl sc_l_names.nd (pi_range1 rfl T.z_range (pa_cons (pv 4) pa_nil)) (blkOk_by (own := [("_law_k", 10)]) (N := N_l_names) (sc := defScope s_l_names) (by decide +kernel)) (fun _ _ _ _ _ => (pg_name (i := 10) sc_l_names.nd rfl (Or.inl rfl))) (fun _ _ _ _ _ => pts_nil) (fun _ _ _ _ _ => (pe_ix ix_str (pv 3) (pe_call (ok_l_draw T) (hr.mono (by decide)) (by rfl) T.g__law_draw T.F_l_draw.kp T.b_l_draw .nil pass0 (pa_cons (pv 0) (pa_cons pe_int pa_nil))) (fun _ _ => rfl))) (fun _ _ _ _ _ => rfl) (fun _ _ _ _ _ => rfl) (fun _ _ _ _ _ => rfl)))))
      (pss_cons (ps_set (i := 6) sc_l_names.nd rfl (Or.inl rfl) (pe_call (ok_l_draw T) (hr.mono (by decide)) (by rfl) T.g__law_draw T.F_l_draw.kp T.b_l_draw .nil pass0 (pa_cons (pv 0) (pa_cons (pe_op op_add (pv 4) pe_int) pa_nil))))
      (pss_cons (ps_set (i := 7) sc_l_names.nd rfl (Or.inl rfl) (pe_call (ok_l_draw T) (hr.mono (by decide)) (by rfl) T.g__law_draw T.F_l_draw.kp T.b_l_draw .nil pass0 (pa_cons (pv 0) (pa_cons pe_int pa_nil))))
      (pss_cons (ps_set (i := 8) sc_l_names.nd rfl (Or.inl rfl) (pe_call (ok_l_draw T) (hr.mono (by decide)) (by rfl) T.g__law_draw T.F_l_draw.kp T.b_l_draw .nil pass0 (pa_cons (pv 0) (pa_cons pe_int pa_nil))))
      (pss_cons (ps_set (i := 9) sc_l_names.nd rfl (Or.inl rfl) (pe_lst pa_nil))
      (pss_cons (ps_g (ps_for PassesOwn.never rfl (pi_range1 rfl T.z_range (pa_cons (pv 1) pa_nil)) (pg_name (i := 10) sc_l_names.nd rfl (Or.inl rfl)) (pss_cons (ps_set (i := 11) sc_l_names.nd rfl (Or.inl rfl) (pe_op op_add_str (pe_op op_add_str (pe_slice sl_str (pv 5) po_none (po_some (pv 6))) (pe_ix ix_str (pv 3) (pe_op op_mod (pe_callTy call_int1 (by rfl) T.z_int (by decide +kernel) (pa_cons (pe_op op_add (pv 7) (pe_op op_mul pe_int (pv 10))) pa_nil)) pe_int) (fun _ _ => rfl))) (pe_slice sl_str (pv 5) (po_some (pv 6)) po_none)))
      (pss_one (ps_expr (pe_bm PySem.F.plainAttrs_list PySem.F.slot_list_append PySem.F.type_list_append mt_append (pv 9) (pa_cons (pe_op op_add_str (pv 11) (pe_op op_mul01 (pe_ix ix_str (pv 3) (pv 7) (fun _ _ => rfl)) (pe_callTy call_int1 (by rfl) T.z_int (by decide +kernel) (pa_cons (pe_cmpR op_eq (pe_op op_mod (pe_callTy call_int1 (by rfl) T.z_int (by decide +kernel) (pa_cons (pv 10) pa_nil)) pe_int) (pv 8) (nomark _)) pa_nil)))) pa_nil)))))))
      (pss_g (Evl.pss_cut (ps_if (PW.pt (pw_and (pt_cmpR op_gt (pv 1) pe_int (nomark _)) (pw_and (pt_cmpR op_lt (pv 4) pe_int (nomark _)) (pw_and1 (pt_cmpR op_eq (pv 8) pe_int (nomark _)))))) (pss_one (ps_asg (pe_op op_add_str (pe_ix ix_list (pv 9) pe_int (fun _ _ => rfl)) (pe_ix ix_str (pv 3) (pe_call (ok_l_draw T) (hr.mono (by decide)) (by rfl) T.g__law_draw T.F_l_draw.kp T.b_l_draw .nil pass0 (pa_cons (pv 0) (pa_cons pe_int pa_nil))) (fun _ _ => rfl))) (pg_sub (pv 9) pe_int set_list))) pss_nil)
      (pss_cons (ps_set (i := 12) sc_l_names.nd rfl (Or.inl rfl) (pe_call (ok_l_draw T) (hr.mono (by decide)) (by rfl) T.g__law_draw T.F_l_draw.kp T.b_l_draw .nil pass0 (pa_cons (pv 0) (pa_cons (pe_op op_mul pe_int (pv 1)) pa_nil))))
      (pss_cons (ps_set (i := 13) sc_l_names.nd rfl (Or.inl rfl) (pe_ix ix_list (pv 2) (pe_call (ok_l_draw T) (hr.mono (by decide)) (by rfl) T.g__law_draw T.F_l_draw.kp T.b_l_draw .nil pass0 (pa_cons (pv 0) (pa_cons (pe_callB call_len_seq (by rfl) T.z_len (by decide +kernel) (pa_cons (pv 2) pa_nil)) pa_nil))) (fun _ _ => rfl)))
      (pss_g (Evl.pss_cut (ps_if (PW.pt (pw_and (pt_cmpR op_lt (pv 12) (pv 1) (nomark _)) (pw_and1 (pt_cmpR op_notIn_seq (pv 13) (pv 9) (by rfl))))) (pss_one (ps_asg (pv 13) (pg_sub (pv 9) (pv 12) set_list))) pss_nil)
      (pss_one (ps_ret (pv 9))))))))))))))))), ?_⟩
    walk_at "go"
    intro p1 hp1
    have B1 := hB.new (o := .lst [V.int 0, .int 1, .int 2, .int 3, .int 10]) hp1
    have nq1 := ne_of_none hq hp1
    have hq1 := Same.new (o := .lst [V.int 0, .int 1, .int 2, .int 3, .int 10]) hp1 _ _ hq
    walk_at "go"
    intro c0 H2 c00 c01 B2 K2
    obtain ⟨sz, hsz, hsz0, hsz1⟩ := len_at c00 c01
    have hl2 := K2 _ _ upd_same (hB.ne hp1).1
    have hq2 := K2 _ _ hq1 nqg
    have K02 : Kp g H H2 := (Kp.same (Same.new hp1)).trans K2
    refine ⟨p1, _, _, _, rfl, rfl, SqL.of hl2, hsz, ?_⟩
    refine ⟨⟨_, rfl⟩, ?_⟩
    refine ⟨⟨_, rfl, _, rfl, by omega, by omega, fun D hD => ?_⟩⟩
    have nD := (B2.ne hD).1
    have hD0 : H D = none := kp_none K02 hD nD
    refine lc_range (fun i H' => Wd (∃ cs : List Nat, cs.length = i ∧ (∀ c ∈ cs, 97 ≤ c ∧ c < 123) ∧ H' D = some (.lst (cs.map fun c => vS [c])) ∧ Bag H' g l ∧ Kp g H H')) ⟨[], rfl, fun c h => (by cases h), upd_same, B2.new hD, K02.new hD⟩ ?_ ?_
    · rintro i H3 hi ⟨cs, hcl, hcs, hD3, B3, K3⟩
      refine ⟨rfl, ⟨_, rfl, _, rfl, g, l, _, rfl, B3, by decide, by decide, fun n H4 n0 n1 B4 K4 => ?_⟩⟩
      refine ⟨_, _, _, rfl, rfl, (by decide : lettersZ.length ≤ sizeLine), letter_at n0 n1, _, K4 _ _ hD3 nD, ?_, ?_⟩
      · rw [List.length_map, hcl]
        exact Nat.lt_of_lt_of_le (by omega : i < 100) (by decide)
      · refine ⟨cs ++ [97 + n.toNat], by rw [List.length_append, hcl]; rfl, fun c hm => ?_, ?_, B4.put (B2.ne hD), (K3.trans K4).put hD0⟩
        · rcases List.mem_append.mp hm with hm | hm
          · exact hcs c hm
          · rw [List.mem_singleton] at hm
            omega
        · rw [upd_same, List.map_append]
          rfl
    · rintro H3 ⟨st, hsl, hst, hD3, B3, K3⟩
      have hq3 := K3 _ _ hq nqg
      refine ⟨_, D, st.map fun c => SX.S [c], rfl, rfl, .inl (SqL.of (by rw [List.map_map]; exact hD3)), ?_, ?_⟩
      · have e : ∀ cs : List Nat, ((cs.map fun c => SX.S [c]).map (·.length)).sum = cs.length := fun cs => by
          induction cs with
          | nil => rfl
          | cons c cs ih =>
            rw [List.map_cons, List.map_cons, List.sum_cons, ih, List.length_cons, Nat.add_comm]
            rfl
        rw [e, List.length_map, hsl]
        show sz.toNat + sz.toNat * 0 ≤ _
        omega
      · rw [join_chars]
        have hz9 : (sz + 1).natAbs < 2 ^ 9000 := lt_pow (a := 10) (by omega) (by decide)
        walk_at "go"
        intro wh H4 wh0 wh1 B4 K4
        walk_at "go"
        intro sh H5 sh0 sh1 B5 K5
        walk_at "go"
        intro lo H6 lo0 lo1 B6 K6
        walk_at "go"
        intro f hf
        have K36 := K4.trans (K5.trans K6)
        have K6' := K3.trans K36
        have nf := B6.ne hf
        have hf0 : H f = none := kp_none K6' hf nf.1
        have hq6 := K6' _ _ hq nqg
        have hwl : wh.toNat ≤ st.length := by omega
        have c1 : cutS (SX.S st) none (some wh) = SX.S (st.take wh.toNat) := cut_to wh0 hwl
        have c2 : cutS (SX.S st) (some wh) none = SX.S (st.drop wh.toNat) := cut_from wh0 hwl
        have sl : ∀ l : List Nat, l.length ≤ 1000 → (SX.S l).length ≤ sizeLine := fun l h => by
          rw [SX.S_len]
          exact Nat.le_trans h (by decide)
        refine ⟨⟨_, rfl, _, rfl, by omega, by omega, for_range (lo := 0) (n := cnt.toNat) (fun i σ' H' => Wd (∃ o10 o11 : Option V, σ' = [some (.ref g), some (.int cnt), some (.ref q), some (.str lettersZ), some (.int sz), some (vS st), some (.int wh), some (.int sh), some (.int lo), some (.ref f), o10, o11, none, none] ∧
          H' = upd H6 f (.lst ((List.range i).map fun k => vS (nmAt st wh.toNat sh lo k))))) ⟨none, none, rfl, rfl⟩ ?_ ?_⟩⟩
        · rintro i σ' H7 hi ⟨o10, o11, rfl, rfl⟩
          refine ⟨_, rfl, _, rfl, wh, rfl, _, rfl, sl st (by omega), ?_⟩
          rw [c1]
          have hi26 : (i : Int) < 26 := by omega
          refine ⟨_, rfl, _, rfl, _, rfl, _, _, rfl, rfl, .inl ⟨by decide, by decide⟩, _, _, rfl, rfl, .inl ⟨_, rfl, _, _, rfl, rfl, (show (0 : Int) < 26 by decide), _, _, _, rfl, rfl, (by decide : lettersZ.length ≤ sizeLine), letter_at (Int.emod_nonneg _ (by decide)) (Int.emod_lt_of_pos _ (by decide)), ?_⟩⟩
          have e1 : SX.S (st.take wh.toNat) ++ (⟨#[97 + ((sh + 7 * (0 + (i : Int))) % 26).toNat]⟩ : Str) = SX.S (st.take wh.toNat ++ [97 + ((sh + 7 * (i : Int)) % 26).toNat]) := by
            rw [Int.zero_add]
            exact SX.S_cat _ _
          have l1 : (st.take wh.toNat).length ≤ 10 := by
            rw [List.length_take]
            omega
          have l2 : (st.drop wh.toNat).length ≤ 10 := by
            rw [List.length_drop]
            omega
          refine ⟨_, _, rfl, rfl, ?_, ?_⟩
          · rw [SX.S_len]
            exact Nat.le_trans (by show _ + 1 ≤ 1000; omega) (by decide : 1000 ≤ sizeLine)
          rw [e1]
          refine ⟨_, rfl, _, rfl, wh, rfl, _, rfl, sl st (by omega), ?_⟩
          rw [c2]
          refine ⟨_, _, rfl, rfl, ?_, ?_⟩
          · rw [SX.S_len, SX.S_len, List.length_append]
            exact Nat.le_trans (by rw [List.length_singleton]; omega) (by decide : 1000 ≤ sizeLine)
          rw [SX.S_cat]
          refine ⟨_, rfl, .inl ⟨rfl, _, SqL.of upd_same⟩, _, rfl, _, rfl, _, rfl, _, _, _, rfl, rfl, (by decide : lettersZ.length ≤ sizeLine), letter_at sh0 sh1, ?_⟩
          refine ⟨_, rfl, .inl ⟨_, rfl, _, _, rfl, rfl, (show (0 : Int) < 3 by decide), _, rfl, rfl, .inr ⟨_, rfl, ?_⟩⟩⟩
          refine ⟨_, _, rfl, rfl, ?_, ?_⟩
          · split
            · exact .inr rfl
            · exact .inl rfl
          have e2 : SX.S (st.take wh.toNat ++ [97 + ((sh + 7 * (i : Int)) % 26).toNat] ++ st.drop wh.toNat) ++ (if (if (decide (V.int ((0 + (i : Int)) % 3) = V.int lo)) = true then (1 : Int) else 0) = 0 then Str.empty else (⟨#[97 + sh.toNat]⟩ : Str)) = SX.S (nmAt st wh.toNat sh lo i) := by
            unfold nmAt
            rw [Int.zero_add]
            by_cases e : (i : Int) % 3 = lo
            · rw [if_pos (decide_eq_true (congrArg V.int e)), if_neg (by decide), if_pos e]
              exact SX.S_cat _ _
            · rw [if_neg (fun z => e (V.int.inj (of_decide_eq_true z))), if_pos rfl, if_neg e]
              exact SX.S_cat _ []
          refine ⟨_, _, rfl, rfl, ?_, ?_⟩
          · rw [SX.S_len, List.length_append, List.length_append, List.length_singleton]
            refine Nat.le_trans (Nat.add_le_add_left (m := 1) ?_ _) (Nat.le_trans (by omega : _ ≤ 1000) (by decide : 1000 ≤ sizeLine))
            split
            · rw [if_neg (by decide)]
              exact Nat.le_refl 1
            · rw [if_pos rfl]
              exact Nat.zero_le 1
          rw [e2]
          refine ⟨f, _, _, rfl, rfl, upd_same, ?_, _, _, rfl, ?_⟩
          · rw [List.length_map, List.length_range]
            exact Nat.lt_of_lt_of_le (by omega : i < 1000) (by decide)
          · rw [upd_upd, List.range_succ, List.map_append]
            rfl
        · rintro σ' H7 ⟨o10, o11, rfl, rfl⟩
          have hnm := nms_range (st := st) (wh := wh.toNat) (sh := sh) (lo := lo) (cnt := cnt) (ws := ws) hwl (by omega) hst sh0 sh1 hc26
          have nfq : f ≠ q := fun e => by rw [e, hq6] at hf; cases hf
          refine ⟨⟨fun σ' H' => Wd (∃ (ns : List (List Nat)), σ' = [some (.ref g), some (.int cnt), some (.ref q), some (.str lettersZ), some (.int sz), some (vS st), some (.int wh), some (.int sh), some (.int lo), some (.ref f), o10, o11, none, none] ∧
            H' f = some (.lst (ns.map vS)) ∧ NmsOk ns ws cnt ∧ Bag H' g l ∧ Kp g H H'), ?_, ?_⟩⟩
          · have B7 := B6.new (o := .lst ((List.range cnt.toNat).map fun k => vS (nmAt st wh.toNat sh lo k))) hf
            have K7 : Kp g H (upd H6 f (.lst ((List.range cnt.toNat).map fun k => vS (nmAt st wh.toNat sh lo k)))) := K6'.put hf0
            have stay : Wd (∃ (ns : List (List Nat)), [some (.ref g), some (.int cnt), some (.ref q), some (.str lettersZ), some (.int sz), some (vS st), some (.int wh), some (.int sh), some (.int lo), some (.ref f), o10, o11, none, none] = [some (.ref g), some (.int cnt), some (.ref q), some (.str lettersZ), some (.int sz), some (vS st), some (.int wh), some (.int sh), some (.int lo), some (.ref f), o10, o11, none, none] ∧
              (upd H6 f (.lst ((List.range cnt.toNat).map fun k => vS (nmAt st wh.toNat sh lo k)))) f = some (.lst (ns.map vS)) ∧ NmsOk ns ws cnt ∧ Bag (upd H6 f (.lst ((List.range cnt.toNat).map fun k => vS (nmAt st wh.toNat sh lo k)))) g l ∧ Kp g H (upd H6 f (.lst ((List.range cnt.toNat).map fun k => vS (nmAt st wh.toNat sh lo k))))) :=
              ⟨_, rfl, by rw [upd_same, List.map_map]; rfl, hnm, B7, K7⟩
            walk_at "go"
            refine if_dec (fun e1 => ?_) (fun _ => stay)
            walk_at "go"
            refine if_dec (fun e2 => ?_) (fun _ => stay)
            walk_at "go"
            refine if_int (fun e3 => ?_) (fun _ => stay)
            subst e3
            obtain ⟨m, hm⟩ : ∃ m, cnt.toNat = m + 2 := ⟨cnt.toNat - 2, by omega⟩
            refine ⟨_, rfl, f, _, _, vS (nmAt st wh.toNat sh 3 0), rfl, rfl, SqL.of upd_same, ?_, _, rfl, _, rfl, g, l, _, rfl, B7, by decide, by decide, fun n H8 n0 n1 B8 K8 => ?_⟩
            · refine atI_nat (j := 0) ?_
              rw [List.getElem?_map, List.getElem?_range (by omega)]
              rfl
            have hf8 := K8 _ _ upd_same nf.1
            refine ⟨_, _, _, rfl, rfl, (by decide : lettersZ.length ≤ sizeLine), letter_at n0 n1, _, _, rfl, rfl, ?_, ?_⟩
            · show (SX.S _).length + 1 ≤ _
              rw [SX.S_len, nm_len]
              refine Nat.le_trans ?_ (by decide : 1000 ≤ sizeLine)
              split <;> omega
            have e4 : SX.S (nmAt st wh.toNat sh 3 0) ++ (⟨#[97 + n.toNat]⟩ : Str) = SX.S (nmAt st wh.toNat sh 3 0 ++ [97 + n.toNat]) := SX.S_cat _ _
            have n3 : ∀ k : Nat, ((k : Int) % 3 = 3) = False := fun k => by
              rw [eq_iff_iff]
              exact ⟨fun h => by omega, fun h => h.elim⟩
            have le : ∀ k, (nmAt st wh.toNat sh 3 k).length = st.length + 1 := fun k => by
              rw [nm_len, if_neg (by rw [n3]; exact fun h => h)]
            refine ⟨_, rfl, f, _, _, 1, rfl, rfl, hf8, ?_, ?_⟩
            · rw [List.length_map, List.length_range, hm]
              exact ixN_in (by decide) (by show (1 : Int) < ((m + 2 : Nat) : Int); omega)
            · refine ⟨((List.range cnt.toNat).map fun k => nmAt st wh.toNat sh 3 k).set 1 (nmAt st wh.toNat sh 3 0 ++ [97 + n.toNat]), rfl, ?_, nms_set hnm ?_ (.inl ?_), B8.put nf, (K7.trans K8).put hf0⟩
              · rw [upd_same, List.map_set, List.map_map]
                show some (HO.lst (List.set _ 1 (V.str (SX.S (nmAt st wh.toNat sh 3 0) ++ (⟨#[97 + n.toNat]⟩ : Str))))) = _
                rw [e4]
                rfl
              · intro hm
                obtain ⟨k, _, e⟩ := List.mem_map.mp hm
                have e5 := congrArg List.length e
                rw [List.length_append, le, le, List.length_singleton] at e5
                omega
              · have ok := nm_ok (st := st) (wh := wh.toNat) (sh := sh) (lo := 3) (k := 0) (by omega) hst sh0 sh1
                refine ⟨by rw [List.length_append, le]; omega, by rw [List.length_append, le, List.length_singleton]; omega, fun c hc => ?_⟩
                rcases List.mem_append.mp hc with hc | hc
                · exact ok.2.2 c hc
                · rw [List.mem_singleton] at hc
                  omega
          · rintro σ' H8 ⟨ns, rfl, hf8, hnm8, B8, K8⟩
            have hc9 : (4 * cnt).natAbs < 2 ^ 9000 := lt_pow (a := 10) (by omega) (by decide)
            walk_at "go"
            intro sp H9 sp0 sp1 B9 K9
            have hq9 := (K8.trans K9) _ _ hq nqg
            have hf9 := K9 _ _ hf8 nf.1
            have hw9 : ((ws.map vS).length : Int).natAbs < 2 ^ 9000 := lt_pow (a := 10) (by rw [List.length_map]; omega) (by decide)
            refine ⟨_, rfl, _, rfl, _, rfl, q, _, rfl, .inl (SqL.of hq9), g, l, _, rfl, B9, ?_, hw9, fun wi H10 wi0 wi1 B10 K10 => ?_⟩
            · rw [List.length_map]
              omega
            rw [List.length_map] at wi1
            obtain ⟨j, rfl⟩ := Int.eq_ofNat_of_zero_le wi0
            have hj : j < ws.length := by omega
            have hwj : (ws.map vS)[j]? = some (vS ws[j]) := by rw [List.getElem?_map, List.getElem?_eq_getElem hj]; rfl
            have hq10 := K10 _ _ hq9 nqg
            have hf10 := K10 _ _ hf9 nf.1
            have K10' := (K8.trans K9).trans K10
            refine ⟨q, _, _, _, rfl, rfl, SqL.of hq10, atI_nat hwj, ?_⟩
            refine ⟨⟨fun σ' H' => Wd (∃ (ns : List (List Nat)) (o : List (Option V)), σ' = [some (.ref g), some (.int cnt), some (.ref q), some (.str lettersZ), some (.int sz), some (vS st), some (.int wh), some (.int sh), some (.int lo), some (.ref f)] ++ o ∧
              H' f = some (.lst (ns.map vS)) ∧ NmsOk ns ws cnt ∧ Bag H' g l ∧ Kp g H H'), ?_, ?_⟩⟩
            · walk_at "go"
              refine if_dec (fun e1 => ?_) (fun _ => ⟨ns, [_, _, _, _], rfl, hf10, hnm8, B10, K10'⟩)
              refine ⟨_, rfl, _, rfl, f, _, rfl, .inl (SqL.of hf10), rfl, flat_names ns, _, rfl, ?_⟩
              show if (!inV (vS ws[j]) (ns.map vS)) = true then _ else _
              rw [inV_names]
              by_cases hm : ws[j] ∈ ns
              · rw [decide_eq_true hm]
                exact iteF ⟨ns, [_, _, _, _], rfl, hf10, hnm8, B10, K10'⟩
              · rw [decide_eq_false hm]
                refine iteT ⟨_, rfl, _, rfl, _, rfl, f, _, _, sp.toNat, rfl, rfl, hf10, ?_, ?_⟩
                · rw [List.length_map, hnm8.1]
                  exact ixN_in sp0 (by omega)
                · refine ⟨ns.set sp.toNat ws[j], [_, _, _, _], rfl, ?_, nms_set hnm8 hm (.inr (List.getElem_mem _)), B10.put nf, K10'.put hf0⟩
                  rw [upd_same, List.map_set]
            · rintro σ' H11 ⟨ns, o, rfl, hf11, hnm11, B11, K11⟩
              exact ⟨_, rfl, k f ns H11 hf0 hf11 hnm11.1 hnm11.2.1 hnm11.2.2 B11 K11⟩
end

/-! ### is_name, is_number -/
/-- a plain value: an int, a text or nothing -/
inductive Pl : V → Prop
  | int (i : Int) : Pl (.int i)
  | str (s : Str) : Pl (.str s)
  | non : Pl .non
theorem Pl.flat {v : V} (h : Pl v) : flatV v = true := by cases h <;> rfl
def nameL (cs : List Nat) : Bool := decide (1 ≤ cs.length) && (decide (cs.length ≤ 12) && cs.all fun c => decide (c ∈ lettersZ.cps.toList))
def nameV : V → Bool
  | .str z => nameL z.cps.toList
  | _ => false
def numV (lo : Int) : V → Bool
  | .int n => decide (lo ≤ n) && decide (n ≤ 1000000)
  | _ => false
def spIsName : Sp := fun vs H Q _ => ∃ v : V, vs = [v] ∧ Pl v ∧ (∀ z, v = .str z → z.length ≤ 1000) ∧ ∀ H', Same H H' → Q (.bl (nameV v)) H'
/-- a plain value or a tuple -/
def Pn (H : Hp) (v : V) : Prop := Pl v ∨ ∃ p xs, v = .ref p ∧ H p = some (.tup xs)
def spIsNumber : Sp := fun vs H Q _ => ∃ (v : V) (lo : Int), vs = [v, .int lo] ∧ Pn H v ∧ Q (.bl (numV lo v)) H
section
variable {P : Program} {w : World} {K : PySem.W.Frag} {mg : Str → Option Value} {base : Heap} {A : Ad}
theorem ok_f_is_number (T : Txt K mg A) : FnOk P w K mg base CX0 1 A.f_is_number A.fd_f_is_number P_f_is_number spIsNumber := by
  refine T.F_f_is_number.ok sc_f_is_number (fun vs H Q E h => ?_) (fun cdv Ar outer s H vs Q E hr h => ?_)
  · obtain ⟨v, lo, rfl, _⟩ := h
    rfl
  · obtain ⟨v, lo, rfl, hv, k⟩ := h
    refine ⟨_, (pss_one (ps_ret (pe_and (pe_callB call_isi (by rfl) T.z_isinstance (by decide +kernel) (pa_cons (pv 0) (pa_cons (pe_bltn (v := .ty "int") (by rfl) T.z_int (by decide +kernel) rfl) pa_nil))) (pe_and (pe_not (pe_callB call_isi (by rfl) T.z_isinstance (by decide +kernel) (pa_cons (pv 0) (pa_cons (pe_bltn (v := .ty "bool") (by rfl) T.z_bool (by decide +kernel) rfl) pa_nil)))) (pe_one (pe_chain op_le op_le (pv 1) (pv 0) (pe_glob (v := .int 1000000) (by rfl) T.g_MOST.choose_spec ⟨_, rfl⟩))))))), ?_⟩
    rcases hv with hv | ⟨p, xs, rfl, hp⟩
    case inr => exact ⟨_, rfl, _, _, _, _, _, rfl, .ty "int", .base (.tup hp), kit_ty (b := "int") (r := false) (by decide +kernel), false, rfl, iteF k⟩
    cases hv with
    | int i =>
      refine ⟨_, rfl, _, _, _, _, _, rfl, .ty "int", .base (.int i), kit_ty (b := "int") (r := true) (by decide +kernel), true, rfl, iteT ?_⟩
      refine ⟨_, rfl, _, _, _, _, _, rfl, .ty "bool", .base (.int i), kit_ty (b := "bool") (r := false) (by decide +kernel), ?_⟩
      refine ⟨_, rfl, true, rfl, iteT ?_⟩
      have e : numV lo (.int i) = (decide (lo ≤ i) && decide (i ≤ 1000000)) := rfl
      by_cases h0 : lo ≤ i
      · refine ⟨_, rfl, _, rfl, _, _, rfl, rfl, true, congrArg V.bl (decide_eq_true h0), iteT ?_⟩
        rw [e, decide_eq_true h0, Bool.true_and] at k
        exact ⟨_, _, rfl, rfl, k⟩
      · refine ⟨_, rfl, _, rfl, _, _, rfl, rfl, false, congrArg V.bl (decide_eq_false h0), iteF ?_⟩
        rw [e, decide_eq_false h0, Bool.false_and] at k
        exact k
    | str z => exact ⟨_, rfl, _, _, _, _, _, rfl, .ty "int", .base (.str z), kit_ty (b := "int") (r := false) (by decide +kernel), false, rfl, iteF k⟩
    | non => exact ⟨_, rfl, _, _, _, _, _, rfl, .ty "int", .base .non, kit_ty (b := "int") (r := false) (by decide +kernel), false, rfl, iteF k⟩
theorem ok_f_is_name (T : Txt K mg A) : FnOk P w K mg base CX0 1 A.f_is_name A.fd_f_is_name P_f_is_name spIsName := by
  refine T.F_f_is_name.ok sc_f_is_name (fun vs H Q E h => ?_) (fun cdv Ar outer s H vs Q E hr h => ?_)
  · obtain ⟨v, rfl, _⟩ := h
    rfl
  · obtain ⟨v, rfl, hv, hz, k⟩ := h
    refine ⟨_, (pss_one (ps_ret (pe_and (pe_callB call_isi (by rfl) T.z_isinstance (by decide +kernel) (pa_cons (pv 0) (pa_cons (pe_bltn (v := .ty "str") (by rfl) T.z_str (by decide +kernel) rfl) pa_nil))) (pe_and (pe_chain op_le op_le pe_int (pe_callB (call_len_str) (by rfl) T.z_len (by decide +kernel) (pa_cons (pv 0) pa_nil)) (pe_glob (v := .int 12) (by rfl) T.g_LONGEST.choose_spec ⟨_, rfl⟩)) (pe_one (pe_callB (cr_all rfl) (by rfl) T.z_all (by decide +kernel) (pa_cons (pe_g (pe_lcV (own := [("letter", 1)]) rfl sc_f_is_name.nd (pi_str (pv 0)) (blkOk_by (own := [("letter", 1)]) (N := N_f_is_name) (sc := defScope s_f_is_name) (by decide +kernel)) (fun _ _ _ _ _ => (pg_name (i := 1) sc_f_is_name.nd rfl (Or.inl rfl))) (fun _ _ _ _ _ => pts_nil) (fun _ _ _ _ _ => (pe_cmpR op_in_sign (pv 1) (pe_glob (v := .str "abcdefghijklmnopqrstuvwxyz") (by rfl) T.g_LETTERS.choose_spec ⟨_, rfl⟩) (by rfl))) (fun _ _ _ _ _ => rfl) (fun _ _ _ _ _ => rfl) (fun _ _ _ _ _ => rfl))) pa_nil))))))), ?_⟩
    cases hv with
    | int i => exact ⟨_, rfl, _, _, _, _, _, rfl, .ty "str", .base (.int i), kit_ty (b := "str") (r := false) (by decide +kernel), false, rfl, iteF (k H fun _ _ h => h)⟩
    | non => exact ⟨_, rfl, _, _, _, _, _, rfl, .ty "str", .base .non, kit_ty (b := "str") (r := false) (by decide +kernel), false, rfl, iteF (k H fun _ _ h => h)⟩
    | str z =>
      have hz := hz z rfl
      have hzs : z.length ≤ sizeLine := Nat.le_trans hz (by decide)
      refine ⟨_, rfl, _, _, _, _, _, rfl, .ty "str", .base (.str z), kit_ty (b := "str") (r := true) (by decide +kernel), true, rfl, iteT ?_⟩
      have e : nameV (.str z) = (decide (1 ≤ z.length) && (decide (z.length ≤ 12) && z.cps.toList.all fun c => decide (c ∈ lettersZ.cps.toList))) := rfl
      have e1 : decide ((1 : Int) ≤ (z.length : Int)) = decide (1 ≤ z.length) := by
        rw [decide_eq_decide]
        omega
      have e2 : decide ((z.length : Int) ≤ 12) = decide (z.length ≤ 12) := by
        rw [decide_eq_decide]
        omega
      refine ⟨_, rfl, _, rfl, hzs, _, _, rfl, rfl, decide (1 ≤ z.length), congrArg V.bl e1, ?_⟩
      by_cases h1 : 1 ≤ z.length
      · rw [decide_eq_true h1]
        refine iteT ⟨_, _, rfl, rfl, decide (z.length ≤ 12), congrArg V.bl e2, ?_⟩
        by_cases h2 : z.length ≤ 12
        · rw [decide_eq_true h2]
          refine iteT ⟨⟨_, rfl, z, rfl, fun D hD => ?_⟩⟩
          refine lc_it walk_str (fun i H' => Wd (Same H H' ∧ H' D = some (.lst ((z.cps.toList.take i).map fun c => V.bl (decide (c ∈ lettersZ.cps.toList)))))) ⟨Same.new hD, upd_same⟩ (fun _ _ _ _ => trivial) ?_ ?_
          · rintro i x H1 H2 hi ⟨s1, h1'⟩ ⟨rfl, c, hc, rfl⟩
            have hi' : i < z.cps.toList.length := by simpa using hi
            have hc' : z.cps.toList[i]? = some c := by rw [Array.getElem?_toList]; exact hc
            refine ⟨rfl, _, rfl, c, _, rfl, rfl, _, h1', ?_, Same.at_new hD s1, ?_⟩
            · rw [List.length_map, List.length_take]
              exact Nat.lt_of_lt_of_le (by have : z.cps.toList.length = z.length := by simp [Str.length]
                                           omega : _ < 1000) (by decide)
            · rw [upd_same, take_more hc', List.map_append]
              rfl
          · rintro H1 ⟨s1, h1'⟩
            refine ⟨D, z.cps.toList.map fun c => decide (c ∈ lettersZ.cps.toList), rfl, SqL.of ?_, ?_⟩
            · rw [h1', List.take_of_length_le (by simp), List.map_map]
              rfl
            · have kk := k H1 s1
              rw [e, decide_eq_true h1, decide_eq_true h2, Bool.true_and, Bool.true_and] at kk
              rw [List.all_map]
              exact kk
        · rw [decide_eq_false h2]
          refine iteF ?_
          have kk := k H fun _ _ h => h
          rw [e, decide_eq_false h2, Bool.false_and, Bool.and_false] at kk
          exact kk
      · rw [decide_eq_false h1]
        refine iteF ⟨_, rfl, iteF ?_⟩
        have kk := k H fun _ _ h => h
        rw [e, decide_eq_false h1, Bool.false_and] at kk
        exact kk
end

/-! ### is_entry -/
def entOk (v0 v1 v2 : V) : Bool := nameV v1 && (if (eqV v0 (.str "buy") || eqV v0 (.str "sell") || eqV v0 (.str "back")) = true then numV 1 v2 else if eqV v0 (.str "late") = true then nameV v2 else false)
def shortV (v : V) : Prop := ∀ z, v = .str z → z.length ≤ 1000
def EntTup (H : Hp) (v v0 v1 v2 : V) : Prop := ∃ p, v = .ref p ∧ H p = some (.tup [v0, v1, v2]) ∧ Pl v0 ∧ Pl v1 ∧ Pl v2 ∧ shortV v1 ∧ shortV v2
/-- what is no tuple of three things -/
def NoEnt (H : Hp) (v : V) : Prop := Pl v ∨ ∃ p xs, v = .ref p ∧ (H p = some (.lst xs) ∨ (H p = some (.tup xs) ∧ xs.length ≠ 3 ∧ xs.length ≤ 1000))
def spIsEntry : Sp := fun vs H Q _ => ∃ v : V, vs = [v] ∧ ((∃ v0 v1 v2, EntTup H v v0 v1 v2 ∧ ∀ H', Same H H' → Q (.bl (entOk v0 v1 v2)) H') ∨ (NoEnt H v ∧ ∀ H', Same H H' → Q (.bl false) H'))
section
variable {P : Program} {w : World} {K : PySem.W.Frag} {mg : Str → Option Value} {base : Heap} {A : Ad}
theorem ok_f_is_entry (T : Txt K mg A) : FnOk P w K mg base CX0 2 A.f_is_entry A.fd_f_is_entry P_f_is_entry spIsEntry := by
  refine T.F_f_is_entry.ok sc_f_is_entry (fun vs H Q E h => ?_) (fun cdv Ar outer s H vs Q E hr h => ?_)
  · obtain ⟨v, rfl, _⟩ := h
    rfl
  · obtain ⟨v, rfl, h⟩ := h
    refine ⟨_, (pss_cons (ps_if (PW.pt (pw_or (pt_not (pt_val (pe_callB call_isi (by rfl) T.z_isinstance (by decide +kernel) (pa_cons (pv 0) (pa_cons (pe_bltn (v := .ty "tuple") (by rfl) T.z_tuple (by decide +kernel) rfl) pa_nil))))) (pw_or (pt_cmpR op_ne (pe_callB call_len_seq (by rfl) T.z_len (by decide +kernel) (pa_cons (pv 0) pa_nil)) pe_int (nomark _)) (pw_or1 (pt_not (pt_val (pe_call (ok_f_is_name T) (hr.mono (by decide)) (by rfl) T.g_is_name T.F_f_is_name.kp T.b_f_is_name .nil pass0 (pa_cons (pe_ix ix_tup (pv 0) pe_int (fun _ _ => rfl)) pa_nil)))))))) (pss_one (ps_ret pe_bl)) pss_nil)
      (pss_cons (ps_match3 (w1 := "buy") (w2 := "sell") (w3 := "back") (w4 := "late") (i1 := 1) (i2 := 2) rfl hr.units sc_f_is_entry.nd rfl (Or.inl rfl) rfl (Or.inl rfl) (pv 0) (pss_one (ps_ret (pe_call (ok_f_is_number T) (hr.mono (by decide)) (by rfl) T.g_is_number T.F_f_is_number.kp T.b_f_is_number .nil pass0 (pa_cons (pv 1) (pa_cons pe_int pa_nil))))) (pss_one (ps_ret (pe_call (ok_f_is_name T) (hr.mono (by decide)) (by rfl) T.g_is_name T.F_f_is_name.kp T.b_f_is_name .nil pass0 (pa_cons (pv 2) pa_nil)))))
      (pss_one (ps_ret pe_bl)))), ?_⟩
    rcases h with ⟨v0, v1, v2, ⟨p, rfl, hp, h0, h1, h2, s1, s2⟩, k⟩ | ⟨hN, k⟩
    · refine ⟨_, rfl, _, _, _, _, _, rfl, .ty "tuple", .base (.tup hp), kit_ty (b := "tuple") (r := true) (by decide +kernel), _, rfl, iteF ?_⟩
      refine ⟨_, rfl, p, _, rfl, .inr (SqT.of hp), rfl, _, rfl, iteF ?_⟩
      refine ⟨_, rfl, p, _, _, v1, rfl, rfl, SqT.of hp, rfl, v1, rfl, h1, s1, fun H1 e1 => ⟨_, rfl, ?_⟩⟩
      cases n1 : nameV v1 with
      | false =>
        refine iteT ?_
        have kk := k H1 e1
        unfold entOk at kk
        rw [n1, Bool.false_and] at kk
        exact kk
      | true =>
        have hp1 := e1 _ _ hp
        refine iteF ⟨_, rfl, p, v0, v1, v2, rfl, hp1, h0.flat, ?_⟩
        have kk := fun H' (e : Same H1 H') => k H' (e1.trans e)
        unfold entOk at kk
        rw [n1, Bool.true_and] at kk
        split
        · next e =>
          rw [if_pos e] at kk
          exact ⟨_, rfl, v2, 1, rfl, .inl h2, kk H1 fun _ _ h => h⟩
        · next e =>
          rw [if_neg e] at kk
          split
          · next e' =>
            rw [if_pos e'] at kk
            exact ⟨_, rfl, v2, rfl, h2, s2, fun H' s' => kk H' s'⟩
          · next e' =>
            rw [if_neg e'] at kk
            exact kk H1 fun _ _ h => h
    · rcases hN with hv | ⟨p, xs, rfl, hp | ⟨hp, hl, hz⟩⟩
      · cases hv with
        | int i => exact ⟨_, rfl, _, _, _, _, _, rfl, .ty "tuple", .base (.int i), kit_ty (b := "tuple") (r := false) (by decide +kernel), _, rfl, iteT (k H fun _ _ h => h)⟩
        | str z => exact ⟨_, rfl, _, _, _, _, _, rfl, .ty "tuple", .base (.str z), kit_ty (b := "tuple") (r := false) (by decide +kernel), _, rfl, iteT (k H fun _ _ h => h)⟩
        | non => exact ⟨_, rfl, _, _, _, _, _, rfl, .ty "tuple", .base .non, kit_ty (b := "tuple") (r := false) (by decide +kernel), _, rfl, iteT (k H fun _ _ h => h)⟩
      · exact ⟨_, rfl, _, _, _, _, _, rfl, .ty "tuple", .base (.lst hp), kit_ty (b := "tuple") (r := false) (by decide +kernel), _, rfl, iteT (k H fun _ _ h => h)⟩
      · refine ⟨_, rfl, _, _, _, _, _, rfl, .ty "tuple", .base (.tup hp), kit_ty (b := "tuple") (r := true) (by decide +kernel), _, rfl, iteF ?_⟩
        refine ⟨_, rfl, p, _, rfl, .inr (SqT.of hp), rfl, _, rfl, ?_⟩
        refine ifNF (fun e => hl ?_) (k H fun _ _ h => h)
        have := V.int.inj e
        omega
end

/-! ### a book's entries -/
structure En where
  d : Int
  n : Int
  e : Addr
  kd : Str
  nm : Str
  x : V
def kvE (es : List En) : List (List L2.Key × V) := kvT (es.map fun t => (t.d, t.n, V.ref t.e))
abbrev keyE (d n : Int) : List L2.Key := [.inl d, .inl n]
def isE (d n : Int) (t : En) : Bool := decide (t.d = d) && decide (t.n = n)
theorem isE_iff {d n : Int} {t : En} : isE d n t = true ↔ t.d = d ∧ t.n = n := by
  unfold isE
  rw [Bool.and_eq_true, decide_eq_true_iff, decide_eq_true_iff]
theorem keyE_eq {d n : Int} {t : En} : (([.inl t.d, .inl t.n] : List L2.Key) = keyE d n) ↔ isE d n t = true := by
  rw [isE_iff]
  constructor
  · intro h
    injection h with h1 h2
    injection h2 with h2 _
    exact ⟨Sum.inl.inj h1, Sum.inl.inj h2⟩
  · rintro ⟨rfl, rfl⟩
    rfl
def atE (es : List En) (d n : Int) : Option En := es.find? (isE d n)
def dropE (es : List En) (d n : Int) : List En := es.filter fun t => !isE d n t
def putE (es : List En) (t : En) : List En := if (atE es t.d t.n).isSome = true then es.map (fun u => if isE t.d t.n u = true then t else u) else es ++ [t]
theorem val_kvE {d n : Int} : ∀ es : List En, valV (kvE es) (keyE d n) = (atE es d n).map fun t => V.ref t.e
  | [] => rfl
  | t :: es => by
    have ih := val_kvE (d := d) (n := n) es
    by_cases h : isE d n t = true
    · rw [show kvE (t :: es) = ([.inl t.d, .inl t.n], V.ref t.e) :: kvE es from rfl, valV_pos (keyE_eq.mpr h)]
      unfold atE
      rw [List.find?_cons, h]
      rfl
    · rw [show kvE (t :: es) = ([.inl t.d, .inl t.n], V.ref t.e) :: kvE es from rfl, valV_neg (fun e => h (keyE_eq.mp e)), ih]
      unfold atE
      rw [List.find?_cons, (by simpa using h : isE d n t = false)]
theorem drop_kvE {d n : Int} : ∀ es : List En, dropK (kvE es) (keyE d n) = kvE (dropE es d n)
  | [] => rfl
  | t :: es => by
    have ih := drop_kvE (d := d) (n := n) es
    unfold dropK at ih ⊢
    unfold dropE at ih ⊢
    rw [show kvE (t :: es) = ([.inl t.d, .inl t.n], V.ref t.e) :: kvE es from rfl]
    by_cases h : isE d n t = true
    · rw [List.filter_cons_of_neg (by simp [keyE_eq.mpr h]), List.filter_cons_of_neg (by simp [h]), ih]
    · have hk : decide ((([.inl t.d, .inl t.n] : List L2.Key), V.ref t.e).1 ≠ keyE d n) = true := decide_eq_true fun e => h (keyE_eq.mp e)
      rw [List.filter_cons_of_pos (p := fun kv : List L2.Key × V => decide (kv.1 ≠ keyE d n)) hk, List.filter_cons_of_pos (by simpa using h), ih]
      rfl
theorem put_kvE {es : List En} {t : En} : putK (kvE es) (keyE t.d t.n) (.ref t.e) = kvE (putE es t) := by
  have hany : ((kvE es).any fun kv => decide (kv.1 = keyE t.d t.n)) = (atE es t.d t.n).isSome := by
    rw [valV_any, val_kvE, Option.isSome_map]
  unfold putK putE
  rw [hany]
  split
  · unfold kvE kvT
    rw [List.map_map, List.map_map, List.map_map, List.map_map]
    refine List.map_congr_left fun u _ => ?_
    show (if ([.inl u.d, .inl u.n] : List L2.Key) = keyE t.d t.n then _ else _) = _
    by_cases h : isE t.d t.n u = true
    · rw [if_pos (keyE_eq.mpr h)]
      show _ = (fun t : En => (([.inl t.d, .inl t.n] : List L2.Key), V.ref t.e)) (if isE t.d t.n u = true then t else u)
      rw [if_pos h]
      show (([.inl u.d, .inl u.n] : List L2.Key), V.ref t.e) = ([.inl t.d, .inl t.n], V.ref t.e)
      rw [(isE_iff.mp h).1, (isE_iff.mp h).2]
    · rw [if_neg (fun e => h (keyE_eq.mp e))]
      show _ = (fun t : En => (([.inl t.d, .inl t.n] : List L2.Key), V.ref t.e)) (if isE t.d t.n u = true then t else u)
      rw [if_neg h]
  · unfold kvE kvT
    rw [List.map_append, List.map_append]
    rfl
/-- by day and number -/
def leK (a b : Int × Int) : Bool := !SrtO.lexB b a
theorem leK_iff {a b : Int × Int} : leK a b = true ↔ a.1 < b.1 ∨ (a.1 = b.1 ∧ a.2 ≤ b.2) := by
  unfold leK
  rw [Bool.not_eq_true', SrtO.lexB_no]
  omega
def keysE (es : List En) : List (Int × Int) := es.map fun t => (t.d, t.n)
def srtK (es : List En) : List (Int × Int) := (keysE es).mergeSort leK
theorem srtK_uniq {es : List En} {ps : List (Int × Int)} (h : ps.Perm (keysE es)) (hs : ps.Pairwise (fun a b => SrtO.lexB b a = false)) : ps = srtK es := by
  refine List.Perm.eq_of_pairwise (le := fun a b => leK a b = true) (fun a b _ _ h1 h2 => ?_) (hs.imp fun {a b} z => by unfold leK; rw [z]; rfl) ?_ (h.trans (List.mergeSort_perm _ _).symm)
  · rw [leK_iff] at h1 h2
    exact Prod.ext (by omega) (by omega)
  · refine List.pairwise_mergeSort (le := leK) (fun a b c h1 h2 => ?_) (fun a b => ?_) _
    · rw [leK_iff] at h1 h2 ⊢
      omega
    · rw [Bool.or_eq_true, leK_iff, leK_iff]
      omega
theorem mem_srtK {es : List En} {p : Int × Int} : p ∈ srtK es ↔ ∃ t ∈ es, (t.d, t.n) = p := by
  unfold srtK
  rw [(List.mergeSort_perm _ _).mem_iff]
  unfold keysE
  rw [List.mem_map]
theorem len_srtK {es : List En} : (srtK es).length = es.length := by
  unfold srtK keysE
  rw [List.length_mergeSort, List.length_map]
theorem atE_some {es : List En} {d n : Int} {t : En} (h : atE es d n = some t) : t ∈ es ∧ t.d = d ∧ t.n = n := by
  have h1 := List.find?_some h
  exact ⟨List.mem_of_find?_eq_some h, isE_iff.mp h1⟩
theorem atE_mem {es : List En} {t : En} (h : t ∈ es) : ∃ u, atE es t.d t.n = some u := by
  cases e : atE es t.d t.n with
  | some u => exact ⟨u, rfl⟩
  | none =>
    have := List.find?_eq_none.mp e t h
    exact absurd (isE_iff.mpr ⟨rfl, rfl⟩) this
/-- the names of a kind, in the order of the places, each once -/
def namedE (es : List En) (kd : Str) : List (Int × Int) → List Str → List Str
  | [], acc => acc
  | p :: ps, acc => namedE es kd ps (match atE es p.1 p.2 with
    | some t => if t.kd = kd ∧ t.nm ∉ acc then acc ++ [t.nm] else acc
    | none => acc)
def EntsAt (H : Hp) (es : List En) : Prop := ∀ t ∈ es, H t.e = some (.tup [.str t.kd, .str t.nm, t.x])
theorem EntsAt.keep {H H' : Hp} {es : List En} (h : EntsAt H es) (s : ∀ b xs, H b = some (.tup xs) → H' b = some (.tup xs)) : EntsAt H' es := fun t ht => s _ _ (h t ht)
/-- the book at b, its dict at dd -/
def BookAt (C : Addr) (H : Hp) (b dd : Addr) (es : List En) : Prop := (∃ dx, H b = some (.ins C dx [("entries", .ref dd)])) ∧ H dd = some (.dT (kvE es))
theorem BookAt.same {C : Addr} {H H' : Hp} {b dd : Addr} {es : List En} (h : BookAt C H b dd es) (s : Same H H') : BookAt C H' b dd es := by
  obtain ⟨⟨dx, h1⟩, h2⟩ := h
  exact ⟨⟨dx, s _ _ h1⟩, s _ _ h2⟩
theorem mk_excF {C : Addr} {n : Nat} {fs : List V → List (Str × V)} {H : Hp} {ws : List V} {Q : XK} (h : ∀ d H', Same H H' → H d = none → H' d = some (.xd (fs ws)) → Q (.ref C) (some d) H') {a : Addr} (ha : H a = none) (hl : ws.length = n := by rfl) :
    spExcF C n fs (.ref a :: ws) (upd H a (exo a C none)) (fun v H2 => v = .non ∧ ∃ (d : Addr) (fs : List (Str × V)), H2 a = some (exo a C (some d)) ∧ H2 d = some (exd d fs) ∧ H d = none ∧ Q (.ref C) (some d) (upd (del H2 a) d (.xd fs))) (fun _ _ _ => False) := by
  refine ⟨a, ws, rfl, hl, upd_same, fun d H' hd nd keep ea ed => ⟨rfl, d, _, ea, ed, ?_, ?_⟩⟩
  · rw [upd_ne nd] at hd
    exact hd
  · rw [upd_ne nd] at hd
    refine h d _ (fun b o e => ?_) hd upd_same
    have n1 := ne_of_none e ha
    have n2 := ne_of_none e hd
    rw [upd_ne n2, del_ne n1]
    exact keep b o (by rw [upd_ne n1]; exact e) n1
theorem mem_putE {es : List En} {t u : En} (h : u ∈ putE es t) : u = t ∨ u ∈ es := by
  unfold putE at h
  split at h
  · obtain ⟨v, hv, e⟩ := List.mem_map.mp h
    split at e
    · exact .inl e.symm
    · exact .inr (e ▸ hv)
  · rcases List.mem_append.mp h with h | h
    · exact .inr h
    · exact .inl (List.mem_singleton.mp h)
theorem len_putE {es : List En} {t : En} : (putE es t).length ≤ es.length + 1 := by
  unfold putE
  split
  · rw [List.length_map]
    exact Nat.le_succ _
  · rw [List.length_append]
    exact Nat.le_refl _

/-! ### the book -/
section
variable {P : Program} {w : World} {K : PySem.W.Frag} {mg : Str → Option Value} {base : Heap} {A : Ad}
def spBookInit (C : Addr) : Sp := fun vs H Q _ => ∃ b dx, vs = [.ref b] ∧ H b = some (.ins C dx []) ∧ ∀ d, H d = none → Q .non (upd (upd H d (.dT [])) b (.ins C dx [("entries", .ref d)]))
theorem ok_m_Book_init (T : Txt K mg A) : FnOk P w K mg base CX0 1 A.m_Book_init A.fd_m_Book_init P_m_Book_init (spBookInit A.Book) := by
  refine T.F_m_Book_init.ok sc_m_Book_init (fun vs H Q E h => ?_) (fun cdv Ar outer s H vs Q E hr h => ?_)
  · obtain ⟨b, dx, rfl, _⟩ := h
    rfl
  · obtain ⟨b, dx, rfl, hb, k⟩ := h
    refine ⟨_, (pss_one (ps_fld (pv 0) (pe_dnewT) rfl)), ?_⟩
    intro d hd
    exact ⟨_, rfl, b, A.Book, dx, [], rfl, by rw [upd_ne (ne_of_none hb hd)]; exact hb, T.cl_Book, T.n_Book_entries, by show 0 < 1000; decide, k d hd⟩
def spContains (C : Addr) : Sp := fun vs H Q _ => ∃ b dd t es d n, vs = [.ref b, .ref t] ∧ BookAt C H b dd es ∧ H t = some (.tup [.int d, .int n]) ∧ Q (.bl (atE es d n).isSome) H
theorem ok_m_Book_contains (T : Txt K mg A) : FnOk P w K mg base CX0 1 A.m_Book_contains A.fd_m_Book_contains P_m_Book_contains (spContains A.Book) := by
  refine T.F_m_Book_contains.ok sc_m_Book_contains (fun vs H Q E h => ?_) (fun cdv Ar outer s H vs Q E hr h => ?_)
  · obtain ⟨b, dd, t, es, d, n, rfl, _⟩ := h
    rfl
  · obtain ⟨b, dd, t, es, d, n, rfl, ⟨⟨dx, hb⟩, hd⟩, ht, k⟩ := h
    refine ⟨_, (pss_one (ps_ret (pe_cmp (pc_din (hu_of hr) (pv 1) (pe_fld (pv 0) rfl)) rfl))), ?_⟩
    refine ⟨_, rfl, _, rfl, b, A.Book, dx, _, _, rfl, hb, T.cl_Book, T.n_Book_entries, rfl, dd, _, rfl, DGet.t (k := keyE d n) hd ht, ?_⟩
    rw [val_kvE, Option.isSome_map]
    exact k
def spLen (C : Addr) : Sp := fun vs H Q _ => ∃ b dd es, vs = [.ref b] ∧ BookAt C H b dd es ∧ Q (.int (es.length : Nat)) H
theorem ok_m_Book_len (T : Txt K mg A) : FnOk P w K mg base CX0 1 A.m_Book_len A.fd_m_Book_len P_m_Book_len (spLen A.Book) := by
  refine T.F_m_Book_len.ok sc_m_Book_len (fun vs H Q E h => ?_) (fun cdv Ar outer s H vs Q E hr h => ?_)
  · obtain ⟨b, dd, es, rfl, _⟩ := h
    rfl
  · obtain ⟨b, dd, es, rfl, ⟨⟨dx, hb⟩, hd⟩, k⟩ := h
    refine ⟨_, (pss_one (ps_ret (pe_callB (call_len_dT) (by rfl) T.z_len (by decide +kernel) (pa_cons (pe_fld (pv 0) rfl) pa_nil)))), ?_⟩
    refine ⟨_, rfl, b, A.Book, dx, _, _, rfl, hb, T.cl_Book, T.n_Book_entries, rfl, dd, _, rfl, hd, ?_⟩
    have e : (kvE es).length = es.length := by unfold kvE kvT; rw [List.length_map, List.length_map]
    rw [e]
    exact k
def noE (n d : V) : List (Str × V) := [("number", n), ("day", d)]
def spGetItem (C CE : Addr) : Sp := fun vs H Q E => ∃ b dd t es d n, vs = [.ref b, .ref t] ∧ BookAt C H b dd es ∧ H t = some (.tup [.int d, .int n]) ∧ (∀ u, atE es d n = some u → Q (.ref u.e) H) ∧
  (atE es d n = none → ∀ x H', Same H H' → H' x = some (.xd (noE (.int n) (.int d))) → E (.ref CE) (some x) H')
theorem ok_m_Book_getitem (T : Txt K mg A) : FnOk P w K mg base (L2.CX P w) 5 A.m_Book_getitem A.fd_m_Book_getitem P_m_Book_getitem (spGetItem A.Book A.NoEntry) := by
  refine T.F_m_Book_getitem.okX sc_m_Book_getitem (fun vs H Q E h => ?_) (fun cdv Ar outer s H vs Q E hr h => ?_)
  · obtain ⟨b, dd, t, es, d, n, rfl, _⟩ := h
    rfl
  · obtain ⟨b, dd, t, es, d, n, rfl, ⟨⟨dx, hb⟩, hd⟩, ht, k1, k2⟩ := h
    refine ⟨_, (pss_cons (ps_asg (pv 1) (pg_tup (n := 2) rfl (pgs_cons (pg_name (i := 2) sc_m_Book_getitem.nd rfl (Or.inl rfl)) (pgs_cons (pg_name (i := 3) sc_m_Book_getitem.nd rfl (Or.inl rfl)) pgs_nil))))
      (pss_cons (ps_if (pt_cmp (pc_dnotin (hu_of hr) (pv 1) (pe_fld (pv 0) rfl))) (pss_one (ps_raise rfl (takes_of rfl rfl rfl rfl) (pmk_oex T.ox_NoEntry T.oi_NoEntry T.ot_NoEntry (ok_m_NoEntry_init T) (hr.mono (by decide)) T.b_m_NoEntry_init .nil pass0 (by rfl) T.g_NoEntry (pa_cons (pv 2) (pa_cons (pv 3) pa_nil))))) pss_nil)
      (pss_one (ps_ret (pe_dget (hu_of hr) (pe_fld (pv 0) rfl) (pv 1) (fun _ _ => rfl)))))), ?_⟩
    refine ⟨_, rfl, t, _, rfl, SqT.of ht, rfl, _, _, rfl, _, _, rfl, rfl, ?_⟩
    refine ⟨_, rfl, _, rfl, b, A.Book, dx, _, _, rfl, hb, T.cl_Book, T.n_Book_entries, rfl, dd, _, rfl, DGet.t (k := keyE d n) hd ht, _, rfl, ?_⟩
    rw [val_kvE, Option.isSome_map]
    cases e : atE es d n with
    | none => exact iteT ⟨_, rfl, _, rfl, (by show 2 ≤ 1000; decide), fun a ha => mk_excF (fun x H' s _ h => k2 e x H' s h) ha⟩
    | some u =>
      refine iteF ⟨_, rfl, b, A.Book, dx, _, _, rfl, hb, T.cl_Book, T.n_Book_entries, rfl, _, rfl, dd, V.ref u.e, rfl, ?_, k1 u e⟩
      have g := DGet.t (k := keyE d n) hd ht
      rw [val_kvE, e] at g
      exact g
def spPlaces (C : Addr) : Sp := fun vs H Q _ => ∃ b dd es, vs = [.ref b] ∧ BookAt C H b dd es ∧ ∀ bs p, H p = none → All2 (fun b q => H b = some (.tup [.int q.1, .int q.2])) bs (srtK es) → Q (.ref p) (upd H p (.lst (bs.map V.ref)))
theorem ok_m_Book_places (T : Txt K mg A) : FnOk P w K mg base CX0 1 A.m_Book_places A.fd_m_Book_places P_m_Book_places (spPlaces A.Book) := by
  refine T.F_m_Book_places.ok sc_m_Book_places (fun vs H Q E h => ?_) (fun cdv Ar outer s H vs Q E hr h => ?_)
  · obtain ⟨b, dd, es, rfl, _⟩ := h
    rfl
  · obtain ⟨b, dd, es, rfl, ⟨⟨dx, hb⟩, hd⟩, k⟩ := h
    refine ⟨_, (pss_one (ps_ret (pe_callB (cr_sortedDT rfl) (by rfl) T.z_sorted (by decide +kernel) (pa_cons (pe_fld (pv 0) rfl) pa_nil)))), ?_⟩
    refine ⟨_, rfl, b, A.Book, dx, _, _, rfl, hb, T.cl_Book, T.n_Book_entries, rfl, ⟨dd, es.map fun t : En => (t.d, t.n, V.ref t.e), rfl, hd, fun bs ps p hp h2 hperm hs => ?_⟩⟩
    rw [List.map_map] at hperm
    have e := srtK_uniq (es := es) hperm hs
    subst e
    exact k bs p hp h2
def SetOk (H : Hp) (v : V) (ok : Bool) : Prop := (∃ v0 v1 v2, EntTup H v v0 v1 v2 ∧ ok = entOk v0 v1 v2) ∨ (NoEnt H v ∧ ok = false)
def spSetItem (C CE : Addr) : Sp := fun vs H Q E => ∃ b dd t es vd vn v ok, vs = [.ref b, .ref t, v] ∧ BookAt C H b dd es ∧ es.length < 1000 ∧ H t = some (.tup [vd, vn]) ∧ Pn H vd ∧ Pn H vn ∧ SetOk H v ok ∧
  (∀ d n, vd = .int d → vn = .int n → (numV 0 vd && (numV 0 vn && ok)) = true → ∀ H', Same H H' → Q .non (upd H' dd (.dT (putK (kvE es) (keyE d n) v)))) ∧
  ((numV 0 vd && (numV 0 vn && ok)) = false → ∀ x H', Same H H' → H' x = some (.xd (noE vn vd)) → E (.ref CE) (some x) H')
theorem num_int {lo : Int} {v : V} (h : numV lo v = true) : ∃ i, v = .int i := by
  cases v with
  | int i => exact ⟨i, rfl⟩
  | _ => cases h
theorem ok_m_Book_setitem (T : Txt K mg A) : FnOk P w K mg base (L2.CX P w) 5 A.m_Book_setitem A.fd_m_Book_setitem P_m_Book_setitem (spSetItem A.Book A.BadEntry) := by
  refine T.F_m_Book_setitem.okX sc_m_Book_setitem (fun vs H Q E h => ?_) (fun cdv Ar outer s H vs Q E hr h => ?_)
  · obtain ⟨b, dd, t, es, vd, vn, v, ok, rfl, _⟩ := h
    rfl
  · obtain ⟨b, dd, t, es, vd, vn, v, ok, rfl, ⟨⟨dx, hb⟩, hd⟩, hz, ht, hvd, hvn, hok, k1, k2⟩ := h
    refine ⟨_, (pss_cons (ps_asg (pv 1) (pg_tup (n := 2) rfl (pgs_cons (pg_name (i := 3) sc_m_Book_setitem.nd rfl (Or.inl rfl)) (pgs_cons (pg_name (i := 4) sc_m_Book_setitem.nd rfl (Or.inl rfl)) pgs_nil))))
      (pss_cons (ps_if (PW.pt (pw_or (pt_not (pt_val (pe_call (ok_f_is_number T) (hr.mono (by decide)) (by rfl) T.g_is_number T.F_f_is_number.kp T.b_f_is_number .nil pass0 (pa_cons (pv 3) (pa_cons pe_int pa_nil))))) (pw_or (pt_not (pt_val (pe_call (ok_f_is_number T) (hr.mono (by decide)) (by rfl) T.g_is_number T.F_f_is_number.kp T.b_f_is_number .nil pass0 (pa_cons (pv 4) (pa_cons pe_int pa_nil))))) (pw_or1 (pt_not (pt_val (pe_call (ok_f_is_entry T) (hr.mono (by decide)) (by rfl) T.g_is_entry T.F_f_is_entry.kp T.b_f_is_entry .nil pass0 (pa_cons (pv 2) pa_nil)))))))) (pss_one (ps_raise rfl (takes_of rfl rfl rfl rfl) (pmk_oex T.ox_BadEntry T.oi_BadEntry T.ot_BadEntry (ok_m_BadEntry_init T) (hr.mono (by decide)) T.b_m_BadEntry_init .nil pass0 (by rfl) T.g_BadEntry (pa_cons (pv 3) (pa_cons (pv 4) pa_nil))))) pss_nil)
      (pss_one (ps_dput (hu_of hr) (pe_fld (pv 0) rfl) (pv 1) (pv 2) rfl)))), ?_⟩
    refine ⟨_, rfl, t, _, rfl, SqT.of ht, rfl, _, _, rfl, _, _, rfl, rfl, ?_⟩
    refine ⟨_, rfl, vd, 0, rfl, hvd, _, rfl, ?_⟩
    have bad : (numV 0 vd && (numV 0 vn && ok)) = false → ∀ H1, Same H H1 → ∀ a, H1 a = none → _ := fun e H1 s1 a ha => mk_excF (C := A.BadEntry) (n := 2) (fs := fs_BadEntry) (H := H1) (ws := [vd, vn]) (Q := E) (fun x H' s _ h => k2 e x H' (s1.trans s) h) ha
    cases n1 : numV 0 vd with
    | false => exact iteT ⟨_, rfl, _, rfl, (by show 2 ≤ 1000; decide), bad (by rw [n1]; rfl) H fun _ _ h => h⟩
    | true =>
      refine iteF ⟨_, rfl, vn, 0, rfl, hvn, _, rfl, ?_⟩
      cases n2 : numV 0 vn with
      | false => exact iteT ⟨_, rfl, _, rfl, (by show 2 ≤ 1000; decide), bad (by rw [n1, n2]; rfl) H fun _ _ h => h⟩
      | true =>
        refine iteF ⟨_, rfl, v, rfl, ?_⟩
        obtain ⟨d, rfl⟩ := num_int n1
        obtain ⟨n, rfl⟩ := num_int n2
        have hzl : (kvE es).length < sizeLine := by
          unfold kvE kvT
          rw [List.length_map, List.length_map]
          exact Nat.lt_of_lt_of_le hz (by decide)
        rcases hok with ⟨v0, v1, v2, hE, rfl⟩ | ⟨hN, rfl⟩
        · refine .inl ⟨v0, v1, v2, hE, fun H1 s1 => ⟨_, rfl, ?_⟩⟩
          cases e : entOk v0 v1 v2 with
          | false => exact iteT ⟨_, rfl, _, rfl, (by show 2 ≤ 1000; decide), bad (by rw [n1, n2, e]; rfl) H1 s1⟩
          | true =>
            refine iteF ⟨_, rfl, _, rfl, b, A.Book, dx, _, _, rfl, s1 _ _ hb, T.cl_Book, T.n_Book_entries, rfl, _, rfl, dd, _, rfl, DPut.t (k := keyE d n) (s1 _ _ hd) (s1 _ _ ht) hzl, ?_⟩
            exact k1 d n rfl rfl (by rw [n1, n2, e]; rfl) H1 s1
        · refine .inr ⟨hN, fun H1 s1 => ⟨_, rfl, iteT ⟨_, rfl, _, rfl, (by show 2 ≤ 1000; decide), bad (by rw [n1, n2]; rfl) H1 s1⟩⟩⟩
theorem upd_idem {H : Hp} {a : Addr} {o : HO} (h : H a = some o) : H = upd H a o := funext fun b => by
  by_cases e : b = a
  · rw [e, upd_same, h]
  · rw [upd_ne e]
def stepE (es : List En) (kd : Str) (acc : List Str) (p : Int × Int) : List Str := match atE es p.1 p.2 with
  | some t => if t.kd = kd ∧ t.nm ∉ acc then acc ++ [t.nm] else acc
  | none => acc
theorem named_app {es : List En} {kd : Str} {p : Int × Int} : ∀ {ps : List (Int × Int)} {acc : List Str}, namedE es kd (ps ++ [p]) acc = stepE es kd (namedE es kd ps acc) p
  | [], acc => rfl
  | q :: ps, acc => named_app (ps := ps)
theorem step_len {es : List En} {kd : Str} {acc : List Str} {p : Int × Int} : (stepE es kd acc p).length ≤ acc.length + 1 := by
  unfold stepE
  split
  · split
    · rw [List.length_append, List.length_singleton]
      exact Nat.le_refl _
    · exact Nat.le_succ _
  · exact Nat.le_succ _
theorem named_len {es : List En} {kd : Str} : ∀ (ps : List (Int × Int)) {acc : List Str}, (namedE es kd ps acc).length ≤ ps.length + acc.length
  | [], acc => by rw [List.length_nil, Nat.zero_add]; exact Nat.le_refl _
  | p :: ps, acc => by
    have h := named_len (es := es) (kd := kd) ps (acc := stepE es kd acc p)
    have h2 := step_len (es := es) (kd := kd) (acc := acc) (p := p)
    rw [List.length_cons]
    exact Nat.le_trans h (by omega)
theorem inV_strs {ns : List Str} {x : Str} : inV (.str x) (ns.map V.str) = decide (x ∈ ns) := by
  unfold inV
  rw [List.any_map, Bool.eq_iff_iff, List.any_eq_true, decide_eq_true_iff]
  constructor
  · rintro ⟨y, hy, e⟩
    have e2 : (y == x) = true := e
    rw [beq_iff_eq] at e2
    exact e2 ▸ hy
  · intro h
    refine ⟨x, h, ?_⟩
    show (x == x) = true
    rw [beq_iff_eq]
theorem flat_strs (ns : List Str) : (ns.map V.str).all flatV = true := by
  rw [List.all_map, List.all_eq_true]
  intro x _
  rfl
end

/-! ### names that are valid; what is picked -/
theorem letter_mem {c : Nat} (h : 97 ≤ c ∧ c < 123) : c ∈ lettersZ.cps.toList := by
  have : ∀ n : Fin 26, (97 + n.val) ∈ lettersZ.cps.toList := by decide +kernel
  have h2 := this ⟨c - 97, by omega⟩
  rw [show 97 + (c - 97) = c by omega] at h2
  exact h2
theorem name_ok {n : List Nat} (h : NmOk n) : nameV (vS n) = true := by
  show nameL (SX.S n).cps.toList = true
  have e : (SX.S n).cps.toList = n := rfl
  rw [e]
  unfold nameL
  rw [decide_eq_true h.1, decide_eq_true h.2.1, Bool.true_and, Bool.true_and, List.all_eq_true]
  intro c hc
  exact decide_eq_true (letter_mem (h.2.2 c hc))
def spPick : Sp := fun vs H Q _ => ∃ (g l q : Addr) (xs : List V), vs = [.ref g, .ref q] ∧ Bag H g l ∧ q ≠ g ∧ H q = some (.lst xs) ∧ 1 ≤ xs.length ∧ xs.length ≤ 1000 ∧ ∀ (v : V) (H' : Hp), v ∈ xs → Bag H' g l → Kp g H H' → Q v H'
section
variable {P : Program} {w : World} {K : PySem.W.Frag} {mg : Str → Option Value} {base : Heap} {A : Ad}
theorem ok_l_pick (T : Txt K mg A) : FnOk P w K mg base CX0 2 A.l_pick A.fd_l_pick P_l_pick spPick := by
  refine T.F_l_pick.ok sc_l_pick (fun vs H Q E h => ?_) (fun cdv Ar outer s H vs Q E hr h => ?_)
  · obtain ⟨g, l, q, xs, rfl, _⟩ := h
    rfl
  · obtain ⟨g, l, q, xs, rfl, B, nq, hq, h1, h2, k⟩ := h
    refine ⟨_, (pss_one (ps_ret (pe_ix ix_list (pv 1) (pe_call (ok_l_draw T) (hr.mono (by decide)) (by rfl) T.g__law_draw T.F_l_draw.kp T.b_l_draw .nil pass0 (pa_cons (pv 0) (pa_cons (pe_callB call_len_seq (by rfl) T.z_len (by decide +kernel) (pa_cons (pv 1) pa_nil)) pa_nil))) (fun _ _ => rfl)))), ?_⟩
    refine ⟨_, rfl, _, rfl, _, rfl, q, _, rfl, .inl (SqL.of hq), g, l, _, rfl, B, by omega, lt_pow (a := 10) (by omega) (by decide), fun c H1 c0 c1 B1 K1 => ?_⟩
    have hq1 := K1 _ _ hq nq
    obtain ⟨j, rfl⟩ := Int.eq_ofNat_of_zero_le c0
    have hj : j < xs.length := by omega
    exact ⟨q, _, _, _, rfl, rfl, SqL.of hq1, atI_nat (List.getElem?_eq_getElem hj), k _ H1 (List.getElem_mem hj) B1 K1⟩
end

/-! ### the law's next place -/
/-- the drawn entries: a list of triples -/
def Tri (H : Hp) (t : Addr) (u : En) : Prop := H t = some (.tup [.int u.d, .int u.n, .ref u.e])
def ltE (a b : En) : Prop := a.d < b.d ∨ (a.d = b.d ∧ a.n < b.n)
def spNext : Sp := fun vs H Q _ => ∃ (g l q : Addr) (ts : List Addr) (es : List En), vs = [.ref g, .ref q] ∧ Bag H g l ∧ q ≠ g ∧ H q = some (.lst (ts.map V.ref)) ∧ All2 (Tri H) ts es ∧ (∀ u ∈ es, 0 ≤ u.d ∧ 0 ≤ u.n) ∧
  ∀ (p : Addr) (d n : Int) (H' : Hp), H' p = some (.tup [.int d, .int n]) → 0 ≤ d → 0 ≤ n → (es = [] → d ≤ 3 ∧ n ≤ 2) → (∀ u, es.getLast? = some u → (u.d < d ∨ (u.d = d ∧ u.n < n)) ∧ d ≤ u.d + 9 ∧ n ≤ u.n + 3) → Bag H' g l → Kp g H H' → Q (.ref p) H'
theorem last_at {α : Type} {xs : List α} {x : α} (h : xs.getLast? = some x) : atI xs (-1) = some x := by
  have hl : 0 < xs.length := List.length_pos_iff.mpr fun e => by rw [e] at h; cases h
  unfold atI ixN
  rw [if_neg (by decide), if_pos (by omega)]
  rw [List.getLast?_eq_getElem?] at h
  show xs[(-1 + (xs.length : Int)).toNat]? = _
  rw [show (-1 + (xs.length : Int)).toNat = xs.length - 1 by omega]
  exact h
theorem All2.last {α β : Type} {R : α → β → Prop} {xs : List α} {ys : List β} {y : β} (h : All2 R xs ys) (hy : ys.getLast? = some y) : ∃ x, xs.getLast? = some x ∧ R x y := by
  rw [List.getLast?_eq_getElem?] at hy
  have hl : 0 < ys.length := List.length_pos_iff.mpr fun e => by rw [e] at hy; cases hy
  have hx : ys.length - 1 < xs.length := by rw [h.1]; omega
  refine ⟨xs[ys.length - 1], ?_, h.2 _ _ _ (List.getElem?_eq_getElem hx) hy⟩
  rw [List.getLast?_eq_getElem?, h.1]
  exact List.getElem?_eq_getElem hx
section
variable {P : Program} {w : World} {K : PySem.W.Frag} {mg : Str → Option Value} {base : Heap} {A : Ad}
theorem ok_l_next (T : Txt K mg A) : FnOk P w K mg base CX0 2 A.l_next A.fd_l_next P_l_next spNext := by
  refine T.F_l_next.ok sc_l_next (fun vs H Q E h => ?_) (fun cdv Ar outer s H vs Q E hr h => ?_)
  · obtain ⟨g, l, q, ts, es, rfl, _⟩ := h
    rfl
  · obtain ⟨g, l, q, ts, es, rfl, B, nq, hq, h2, hp, k⟩ := h
    refine ⟨_, (pss_cons (ps_if (pt_cmpR (op_eqNil hr.units) (pv 1) (pe_lst pa_nil) (nomark _)) (pss_one (ps_ret (pe_tup (pa_cons (pe_call (ok_l_draw T) (hr.mono (by decide)) (by rfl) T.g__law_draw T.F_l_draw.kp T.b_l_draw .nil pass0 (pa_cons (pv 0) (pa_cons pe_int pa_nil))) (pa_cons (pe_call (ok_l_draw T) (hr.mono (by decide)) (by rfl) T.g__law_draw T.F_l_draw.kp T.b_l_draw .nil pass0 (pa_cons (pv 0) (pa_cons pe_int pa_nil))) pa_nil))))) pss_nil)
      (pss_cons (ps_set (i := 2) sc_l_next.nd rfl (Or.inl rfl) (pe_ix ix_list (pe_lst (pa_cons pe_int (pa_cons pe_int (pa_cons pe_int (pa_cons pe_int (pa_cons pe_int (pa_cons pe_int (pa_cons pe_int pa_nil)))))))) (pe_call (ok_l_draw T) (hr.mono (by decide)) (by rfl) T.g__law_draw T.F_l_draw.kp T.b_l_draw .nil pass0 (pa_cons (pv 0) (pa_cons pe_int pa_nil))) (fun _ _ => rfl)))
      (pss_cons (ps_if (pt_cmpR op_eq (pv 2) pe_int (nomark _)) (pss_one (ps_ret (pe_tup (pa_cons (pe_ix ix_tup (pe_ix ix_list (pv 1) (pe_un un_neg pe_int) (fun _ _ => rfl)) pe_int (fun _ _ => rfl)) (pa_cons (pe_op op_add (pe_op op_add (pe_ix ix_tup (pe_ix ix_list (pv 1) (pe_un un_neg pe_int) (fun _ _ => rfl)) pe_int (fun _ _ => rfl)) pe_int) (pe_call (ok_l_draw T) (hr.mono (by decide)) (by rfl) T.g__law_draw T.F_l_draw.kp T.b_l_draw .nil pass0 (pa_cons (pv 0) (pa_cons pe_int pa_nil)))) pa_nil))))) pss_nil)
      (pss_one (ps_ret (pe_tup (pa_cons (pe_op op_add (pe_ix ix_tup (pe_ix ix_list (pv 1) (pe_un un_neg pe_int) (fun _ _ => rfl)) pe_int (fun _ _ => rfl)) (pv 2)) (pa_cons (pe_call (ok_l_draw T) (hr.mono (by decide)) (by rfl) T.g__law_draw T.F_l_draw.kp T.b_l_draw .nil pass0 (pa_cons (pv 0) (pa_cons pe_int pa_nil))) pa_nil)))))))), ?_⟩
    refine ⟨_, rfl, Nat.zero_le _, fun z hz => ⟨q, z, _, rfl, rfl, SqL.of (Same.new hz _ _ hq), SqL.of upd_same, _, rfl, ?_⟩⟩
    have B1 := B.new (o := .lst []) hz
    have s1 := Same.new (o := .lst []) hz
    have hq1 := s1 _ _ hq
    rcases hes : es with _ | ⟨u0, us⟩
    · have ht : ts = [] := List.eq_nil_of_length_eq_zero (by rw [h2.1, hes]; rfl)
      subst ht
      refine iteT ⟨_, rfl, g, l, _, rfl, B1, by decide, by decide, fun d H2 d0 d1 B2 K2 => ?_⟩
      refine ⟨_, rfl, g, l, _, rfl, B2, by decide, by decide, fun n H3 n0 n1 B3 K3 => ⟨(by show 2 ≤ sizeLine; decide), fun p hp' => ?_⟩⟩
      exact k p d n _ upd_same d0 n0 (fun _ => ⟨by omega, by omega⟩) (fun u hu => by rw [hes] at hu; cases hu) (B3.new hp') (((Kp.same s1).trans (K2.trans K3)).new hp')
    · obtain ⟨u, hu⟩ : ∃ u, es.getLast? = some u := ⟨_, by rw [hes]; exact List.getLast?_eq_some_getLast (by simp)⟩
      obtain ⟨t, htl, htu⟩ := h2.last hu
      have hum : u ∈ es := List.mem_of_getLast? hu
      have hn : ts ≠ [] := fun e => by rw [e] at htl; cases htl
      have he : (ts.map V.ref).isEmpty = false := by
        cases ts with
        | nil => exact absurd rfl hn
        | cons _ _ => rfl
      have htl' : (ts.map V.ref).getLast? = some (.ref t) := by rw [List.getLast?_map, htl]; rfl
      show if (ts.map V.ref).isEmpty = true then _ else _
      rw [he]
      refine iteF ⟨(by show 7 ≤ sizeLine; decide), fun z2 hz2 => ?_⟩
      have s2 := Same.new (o := .lst [V.int 0, .int 0, .int 0, .int 1, .int 1, .int 2, .int 9]) hz2
      have B2 := B1.new (o := .lst [V.int 0, .int 0, .int 0, .int 1, .int 1, .int 2, .int 9]) hz2
      refine ⟨_, rfl, g, l, _, rfl, B2, by decide, by decide, fun c H3 c0 c1 B3 K3 => ?_⟩
      have hz3 := K3 _ _ upd_same (B1.ne hz2).1
      have K03 : Kp g H H3 := (Kp.same (s1.trans s2)).trans K3
      have hq3 := K03 _ _ hq nq
      obtain ⟨xs, hg⟩ := B.lst
      have ht3 : H3 t = some (.tup [.int u.d, .int u.n, .ref u.e]) := K03 _ _ htu (ne_of htu hg (by intro z; cases z))
      obtain ⟨st, hst, st0, st9⟩ : ∃ st : Int, atI [V.int 0, .int 0, .int 0, .int 1, .int 1, .int 2, .int 9] c = some (.int st) ∧ 0 ≤ st ∧ st ≤ 9 := by
        have : c = 0 ∨ c = 1 ∨ c = 2 ∨ c = 3 ∨ c = 4 ∨ c = 5 ∨ c = 6 := by omega
        rcases this with rfl | rfl | rfl | rfl | rfl | rfl | rfl <;> exact ⟨_, rfl, by decide, by decide⟩
      refine ⟨z2, _, _, _, rfl, rfl, SqL.of hz3, hst, _, rfl, rfl, _, rfl, if_int (fun e => ?_) (fun e => ?_)⟩
      · refine ⟨_, rfl, 1, rfl, q, _, _, _, rfl, rfl, SqL.of hq3, last_at htl', t, _, _, _, rfl, rfl, SqT.of ht3, rfl, ?_⟩
        refine ⟨_, rfl, 1, rfl, q, _, _, _, rfl, rfl, SqL.of hq3, last_at htl', t, _, _, _, rfl, rfl, SqT.of ht3, rfl, _, _, rfl, rfl, ?_⟩
        refine ⟨_, rfl, g, l, _, rfl, B3, by decide, by decide, fun c2 H4 e0 e1 B4 K4 => ⟨_, _, rfl, rfl, (by show 2 ≤ sizeLine; decide), fun p hp' => ?_⟩⟩
        refine k p u.d (u.n + 1 + c2) _ upd_same (hp u hum).1 (by have := (hp u hum).2; omega) (fun z => by rw [hes] at z; cases z) (fun u' hu' => ?_) (B4.new hp') ((K03.trans K4).new hp')
        rw [hu] at hu'
        cases hu'
        exact ⟨.inr ⟨rfl, by omega⟩, by omega, by omega⟩
      · refine ⟨_, rfl, 1, rfl, q, _, _, _, rfl, rfl, SqL.of hq3, last_at htl', t, _, _, _, rfl, rfl, SqT.of ht3, rfl, _, rfl, _, _, rfl, rfl, ?_⟩
        refine ⟨_, rfl, g, l, _, rfl, B3, by decide, by decide, fun c2 H4 e0 e1 B4 K4 => ⟨(by show 2 ≤ sizeLine; decide), fun p hp' => ?_⟩⟩
        have hs1 : 1 ≤ st := by omega
        refine k p (u.d + st) c2 _ upd_same (by have := (hp u hum).1; omega) e0 (fun z => by rw [hes] at z; cases z) (fun u' hu' => ?_) (B4.new hp') ((K03.trans K4).new hp')
        rw [hu] at hu'
        cases hu'
        have := (hp u hum).2
        exact ⟨.inl (by omega), by omega, by omega⟩
end

def words4 : List (List Nat) := [[98, 117, 121], [115, 101, 108, 108], [98, 97, 99, 107], [108, 97, 116, 101]]
theorem words_ok : ∀ n ∈ words4, nameV (vS n) = true ∧ n.length ≤ 1000 := by
  intro n hn
  simp only [words4, List.mem_cons, List.not_mem_nil, or_false] at hn
  rcases hn with rfl | rfl | rfl | rfl <;> exact ⟨by decide +kernel, by decide⟩
theorem late_no : (eqV (.str "late") (.str "buy") || eqV (.str "late") (.str "sell") || eqV (.str "late") (.str "back")) = false := by decide +kernel
theorem late_yes : eqV (.str "late") (.str "late") = true := by decide +kernel
theorem ent_units {kd nm : Str} {i : Int} (hk : (eqV (.str kd) (.str "buy") || eqV (.str kd) (.str "sell") || eqV (.str kd) (.str "back")) = true) (hn : nameV (.str nm) = true) (h1 : 1 ≤ i) (h2 : i ≤ 1000000) : entOk (.str kd) (.str nm) (.int i) = true := by
  unfold entOk
  rw [hn, if_pos hk]
  show (true && (decide (1 ≤ i) && decide (i ≤ 1000000))) = true
  rw [decide_eq_true h1, decide_eq_true h2]
  rfl
theorem ent_late {nm lot : Str} (hn : nameV (.str nm) = true) (hl : nameV (.str lot) = true) : entOk (.str "late") (.str nm) (.str lot) = true := by
  unfold entOk
  rw [hn, if_neg (by rw [late_no]; decide), if_pos late_yes, hl]
  rfl

/-! ### the entries that the law draws -/
def NamesOk (ns : List (List Nat)) : Prop := ∀ n ∈ ns, nameV (vS n) = true ∧ n.length ≤ 1000
def EnOk (u : En) : Prop := entOk (.str u.kd) (.str u.nm) u.x = true ∧ Pl u.x ∧ shortV (.str u.nm) ∧ shortV u.x
structure EL (H : Hp) (g l nq sq eq bq lq : Addr) (ns bs : List (List Nat)) (ts : List Addr) (es : List En) (kvs : List (L2.Key × V)) : Prop where
  bag : Bag H g l
  N : H nq = some (.lst (ns.map vS))
  S : H sq = some (.lst (ns.map vS).reverse)
  E : H eq = some (.lst (ts.map V.ref))
  T : All2 (Tri H) ts es
  ent : EntsAt H es
  B : H bq = some (.lst (bs.map vS))
  L : H lq = some (.dK kvs)
  gn : nq ≠ g ∧ sq ≠ g
  ge : eq ≠ g ∧ eq ≠ l
  gb : bq ≠ g ∧ bq ≠ l
  dd : eq ≠ nq ∧ eq ≠ sq ∧ eq ≠ bq ∧ bq ≠ nq ∧ bq ≠ sq
structure ELp (ns bs : List (List Nat)) (es : List En) (kvs : List (L2.Key × V)) (i : Nat) (stock costs : Int) : Prop where
  nl : ns.length = 9
  nok : NamesOk ns
  bl : bs.length ≤ 6
  bm : ∀ b ∈ bs, b ∈ ns
  eok : ∀ u ∈ es, EnOk u
  rng : ∀ u ∈ es, 0 ≤ u.d ∧ 0 ≤ u.n ∧ u.d ≤ 9 * i + 3 ∧ u.n ≤ 3 * i + 3
  inc : es.Pairwise ltE
  el : es.length ≤ i
  kl : kvs.length ≤ i
  kv : ∀ p ∈ kvs, ∃ m ∈ ns, p.1 = Sum.inr (SX.S m) ∧ ∃ j : Int, p.2 = .int j ∧ 0 ≤ j ∧ j ≤ 1000000
  s0 : 0 ≤ stock
  s1 : stock ≤ i * 1000000
  c0 : 0 ≤ costs
  c3 : costs ≤ 3
  z : i = 0 → stock = 0 ∧ bs = []
theorem EL.move {H H' : Hp} {g l nq sq eq bq lq : Addr} {ns bs : List (List Nat)} {ts : List Addr} {es : List En} {kvs : List (L2.Key × V)} (h : EL H g l nq sq eq bq lq ns bs ts es kvs) (bag : Bag H' g l) (k : Kp g H H') : EL H' g l nq sq eq bq lq ns bs ts es kvs := by
  obtain ⟨xs, hg⟩ := h.bag.lst
  exact ⟨bag, k _ _ h.N h.gn.1, k _ _ h.S h.gn.2, k _ _ h.E h.ge.1, h.T.mono fun x y z => k _ _ z (ne_of z hg (by intro z; cases z)), fun t ht => k _ _ (h.ent t ht) (ne_of (h.ent t ht) hg (by intro z; cases z)), k _ _ h.B h.gb.1, k _ _ h.L (ne_of h.L hg (by intro z; cases z)), h.gn, h.ge, h.gb, h.dd⟩
theorem EL.same {H H' : Hp} {g l nq sq eq bq lq : Addr} {ns bs : List (List Nat)} {ts : List Addr} {es : List En} {kvs : List (L2.Key × V)} (h : EL H g l nq sq eq bq lq ns bs ts es kvs) (s : Same H H') : EL H' g l nq sq eq bq lq ns bs ts es kvs := h.move (h.bag.keep s) (Kp.same s)
theorem EL.bput {H : Hp} {g l nq sq eq bq lq : Addr} {ns bs : List (List Nat)} {ts : List Addr} {es : List En} {kvs : List (L2.Key × V)} (h : EL H g l nq sq eq bq lq ns bs ts es kvs) (bs' : List (List Nat)) : EL (upd H bq (.lst (bs'.map vS))) g l nq sq eq bq lq ns bs' ts es kvs := by
  have n : ∀ {a : Addr} {xs : List V}, H a = some (.tup xs) → a ≠ bq := fun z => ne_of z h.B (by intro z; cases z)
  exact ⟨h.bag.put h.gb, by rw [upd_ne h.dd.2.2.2.1.symm]; exact h.N, by rw [upd_ne h.dd.2.2.2.2.symm]; exact h.S, by rw [upd_ne h.dd.2.2.1]; exact h.E, h.T.mono fun x y z => (by unfold Tri; rw [upd_ne (n z)]; exact z), fun t ht => by rw [upd_ne (n (h.ent t ht))]; exact h.ent t ht, upd_same, by rw [upd_ne (ne_of h.L h.B (by intro z; cases z))]; exact h.L, h.gn, h.ge, h.gb, h.dd⟩
theorem EL.lput {H : Hp} {g l nq sq eq bq lq : Addr} {ns bs : List (List Nat)} {ts : List Addr} {es : List En} {kvs : List (L2.Key × V)} (h : EL H g l nq sq eq bq lq ns bs ts es kvs) (kvs' : List (L2.Key × V)) : EL (upd H lq (.dK kvs')) g l nq sq eq bq lq ns bs ts es kvs' := by
  have k : ∀ c o, H c = some o → (∀ kvs, o ≠ .dK kvs) → upd H lq (.dK kvs') c = some o := fun c o e n => by
    rw [upd_ne fun z => by rw [z, h.L] at e; exact n _ (Option.some.inj e).symm]
    exact e
  obtain ⟨i, r, s, c, xs, h1, h2, h3⟩ := h.bag.ex
  exact ⟨⟨i, r, s, c, xs, k _ _ h1 (by intro _ z; cases z), k _ _ h2 (by intro _ z; cases z), h3⟩, k _ _ h.N (by intro _ z; cases z), k _ _ h.S (by intro _ z; cases z), k _ _ h.E (by intro _ z; cases z), h.T.mono fun x y z => k _ _ z (by intro _ z; cases z), fun t ht => k _ _ (h.ent t ht) (by intro _ z; cases z), k _ _ h.B (by intro _ z; cases z), upd_same, h.gn, h.ge, h.gb, h.dd⟩
theorem EL.eput {H : Hp} {g l nq sq eq bq lq t : Addr} {ns bs : List (List Nat)} {ts : List Addr} {es : List En} {kvs : List (L2.Key × V)} {u : En} (h : EL H g l nq sq eq bq lq ns bs ts es kvs) (ht : Tri H t u) (hu : H u.e = some (.tup [.str u.kd, .str u.nm, u.x])) : EL (upd H eq (.lst ((ts ++ [t]).map V.ref))) g l nq sq eq bq lq ns bs (ts ++ [t]) (es ++ [u]) kvs := by
  have n : ∀ {a : Addr} {xs : List V}, H a = some (.tup xs) → a ≠ eq := fun z => ne_of z h.E (by intro z; cases z)
  refine ⟨h.bag.put h.ge, by rw [upd_ne h.dd.1.symm]; exact h.N, by rw [upd_ne h.dd.2.1.symm]; exact h.S, upd_same, (h.T.app (.one ht)).mono fun x y z => (by unfold Tri; rw [upd_ne (n z)]; exact z), fun v hv => ?_, by rw [upd_ne h.dd.2.2.1.symm]; exact h.B, by rw [upd_ne (ne_of h.L h.E (by intro z; cases z))]; exact h.L, h.gn, h.ge, h.gb, h.dd⟩
  rcases List.mem_append.mp hv with hv | hv
  · rw [upd_ne (n (h.ent v hv))]
    exact h.ent v hv
  · rw [List.mem_singleton] at hv
    subst hv
    rw [upd_ne (n hu)]
    exact hu
theorem upd_back {H : Hp} {a d : Addr} {u x y : HO} (h : H a = some u) (n : d ≠ a) : upd (upd (upd H a x) d y) a u = upd H d y := funext fun b => by
  by_cases e : b = a
  · rw [e, upd_same, upd_ne n.symm, h]
  · rw [upd_ne e]
    by_cases e2 : b = d
    · rw [e2, upd_same, upd_same]
    · rw [upd_ne e2, upd_ne e2, upd_ne e]
theorem mem_putK {kvs : List (L2.Key × V)} {k : L2.Key} {v : V} {p : L2.Key × V} (h : p ∈ putK kvs k v) : p = (k, v) ∨ p ∈ kvs := by
  unfold putK at h
  split at h
  · obtain ⟨q, hq, e⟩ := List.mem_map.mp h
    split at e
    · next ek => exact .inl (by rw [← e, ek])
    · exact .inr (e ▸ hq)
  · rcases List.mem_append.mp h with h | h
    · exact .inr h
    · exact .inl (List.mem_singleton.mp h)
theorem len_putK {kvs : List (L2.Key × V)} {k : L2.Key} {v : V} : (putK kvs k v).length ≤ kvs.length + 1 := by
  unfold putK
  split
  · rw [List.length_map]
    exact Nat.le_succ _
  · rw [List.length_append]
    exact Nat.le_refl _
theorem valV_mem {kvs : List (L2.Key × V)} {k : L2.Key} {v : V} (h : valV kvs k = some v) : (k, v) ∈ kvs := by
  unfold valV at h
  obtain ⟨p, hp, rfl⟩ := Option.map_eq_some_iff.mp h
  have h1 := List.find?_some hp
  have h2 : p.1 = k := of_decide_eq_true h1
  rw [← h2]
  exact List.mem_of_find?_eq_some hp
theorem mem_valV {kvs : List (L2.Key × V)} {k : L2.Key} {v : V} (h : (k, v) ∈ kvs) : ∃ v', valV kvs k = some v' := by
  cases e : valV kvs k with
  | some v' => exact ⟨v', rfl⟩
  | none =>
    unfold valV at e
    rw [Option.map_eq_none_iff] at e
    have := List.find?_eq_none.mp e _ h
    exact absurd (decide_eq_true rfl) this
/-- an if by a question whose answer is p; the heap may grow -/
theorem tIf_of {t : TT} {a b : TS} {D : Ends} {σ : L2.St} {H : Hp} {p : Prop} (ht : ∀ Q : Bool → Hp → Prop, (∀ H', Same H H' → p → Q true H') → (∀ H', Same H H' → ¬ p → Q false H') → t σ H Q) (ha : ∀ H', Same H H' → p → a D σ H') (hb : ∀ H', Same H H' → ¬ p → b D σ H') : tIfS t a b D σ H :=
  ht _ (fun H' s hp => iteT (ha H' s hp)) (fun H' s hn => iteF (hb H' s hn))
theorem q_dec {p : Prop} [Decidable p] {Q : Bool → Hp → Prop} {H : Hp} (h1 : p → Q true H) (h2 : ¬ p → Q false H) : Q (decide p) H := by
  by_cases e : p
  · rw [decide_eq_true e]
    exact h1 e
  · rw [decide_eq_false e]
    exact h2 e
theorem buy_yes : (eqV (.str "buy") (.str "buy") || eqV (.str "buy") (.str "sell") || eqV (.str "buy") (.str "back")) = true := by decide +kernel
theorem sell_yes : (eqV (.str "sell") (.str "buy") || eqV (.str "sell") (.str "sell") || eqV (.str "sell") (.str "back")) = true := by decide +kernel
theorem back_yes : (eqV (.str "back") (.str "buy") || eqV (.str "back") (.str "sell") || eqV (.str "back") (.str "back")) = true := by decide +kernel
theorem at_mem {xs : List V} {j : Nat} (h : j < xs.length) : ∃ x ∈ xs, atI xs (j : Int) = some x := ⟨xs[j], List.getElem_mem h, atI_nat (List.getElem?_eq_getElem h)⟩
theorem lt_last {es : List En} {u : En} {v : En} (hp : es.Pairwise ltE) (hu : u ∈ es) (h : ∀ w, es.getLast? = some w → w.d < v.d ∨ (w.d = v.d ∧ w.n < v.n)) : ltE u v := by
  cases hl : es.getLast? with
  | none => rw [List.getLast?_eq_none_iff.mp hl] at hu; cases hu
  | some w =>
    have hw := h w hl
    by_cases e : u = w
    · rw [e]
      exact hw
    · obtain ⟨l, rfl⟩ := List.getLast?_eq_some_iff.mp hl
      rw [List.pairwise_append] at hp
      have hul : u ∈ l := by
        rcases List.mem_append.mp hu with z | z
        · exact z
        · exact absurd (List.mem_singleton.mp z) e
      have := hp.2.2 u hul w (List.mem_singleton.mpr rfl)
      unfold ltE at this ⊢
      omega
def spEntries : Sp := fun vs H Q _ => ∃ (g l : Addr) (most : Int), vs = [.ref g, .int most] ∧ Bag H g l ∧ 1 ≤ most ∧ most ≤ 100 ∧
  ∀ (q : Addr) (ts : List Addr) (es : List En) (H' : Hp), H q = none → H' q = some (.lst (ts.map V.ref)) → All2 (Tri H') ts es → EntsAt H' es → (∀ u ∈ es, EnOk u) → (∀ u ∈ es, 0 ≤ u.d ∧ 0 ≤ u.n ∧ u.d ≤ 1000 ∧ u.n ≤ 1000) → es.Pairwise ltE → es ≠ [] → (es.length : Int) ≤ most → Bag H' g l → Kp g H H' → Q (.ref q) H'
section
variable {P : Program} {w : World} {K : PySem.W.Frag} {mg : Str → Option Value} {base : Heap} {A : Ad}
theorem ok_l_entries (T : Txt K mg A) : FnOk P w K mg base CX0 3 A.l_entries A.fd_l_entries P_l_entries spEntries := by
  refine T.F_l_entries.ok sc_l_entries (fun vs H Q E h => ?_) (fun cdv Ar outer s H vs Q E hr h => ?_)
  · obtain ⟨g, l, most, rfl, _⟩ := h
    rfl
  · obtain ⟨g, l, most, rfl, B, m1, m2, k⟩ := h
    refine ⟨_, (pss_cons (ps_set (i := 2) sc_l_entries.nd rfl (Or.inl rfl) (pe_op op_add pe_int (pe_call (ok_l_draw T) (hr.mono (by decide)) (by rfl) T.g__law_draw T.F_l_draw.kp T.b_l_draw .nil pass0 (pa_cons (pv 0) (pa_cons (pv 1) pa_nil)))))
      (pss_cons (ps_set (i := 3) sc_l_entries.nd rfl (Or.inl rfl) (pe_ix ix_list (pe_lst (pa_cons pe_int (pa_cons pe_int pa_nil))) (pe_op op_fdiv (pe_call (ok_l_draw T) (hr.mono (by decide)) (by rfl) T.g__law_draw T.F_l_draw.kp T.b_l_draw .nil pass0 (pa_cons (pv 0) (pa_cons pe_int pa_nil))) pe_int) (fun _ _ => rfl)))
      (pss_cons (ps_set (i := 4) sc_l_entries.nd rfl (Or.inl rfl) (pe_call (ok_l_names T) (hr.mono (by decide)) (by rfl) T.g__law_names T.F_l_names.kp T.b_l_names .nil pass0 (pa_cons (pv 0) (pa_cons pe_int (pa_cons (pe_lst (pa_cons pe_str (pa_cons pe_str (pa_cons pe_str (pa_cons pe_str pa_nil))))) pa_nil)))))
      (pss_cons (ps_set (i := 5) sc_l_entries.nd rfl (Or.inl rfl) (pe_revL (pv 4)))
      (pss_cons (ps_set (i := 6) sc_l_entries.nd rfl (Or.inl rfl) (pe_lst pa_nil))
      (pss_cons (ps_set (i := 7) sc_l_entries.nd rfl (Or.inl rfl) (pe_lst pa_nil))
      (pss_cons (ps_set (i := 8) sc_l_entries.nd rfl (Or.inr rfl) (pe_dnewK))
      (pss_cons (ps_set (i := 9) sc_l_entries.nd rfl (Or.inl rfl) pe_int)
      (pss_cons (ps_set (i := 10) sc_l_entries.nd rfl (Or.inl rfl) pe_int)
      (pss_cons (ps_g (ps_for PassesOwn.never rfl (pi_range1 rfl T.z_range (pa_cons (pv 2) pa_nil)) (pg_name (i := 11) sc_l_entries.nd rfl (Or.inl rfl)) (pss_cons (ps_set (i := 12) sc_l_entries.nd rfl (Or.inl rfl) (pe_call (ok_l_draw T) (hr.mono (by decide)) (by rfl) T.g__law_draw T.F_l_draw.kp T.b_l_draw .nil pass0 (pa_cons (pv 0) (pa_cons pe_int pa_nil))))
      (pss_cons (ps_g (ps_lock (ps_setLcV (i := 13) (own := [("_law_sale", 16)]) rfl sc_l_entries.nd rfl rfl (sw_true rfl rfl rfl (by decide +kernel)) (pi_keys (pv 8)) (blkOk_by (own := [("_law_sale", 16)]) (N := N_l_entries) (sc := defScope s_l_entries) (by decide +kernel)) (fun _ _ _ _ _ => (pg_name (i := 16) sc_l_entries.nd rfl (Or.inl rfl))) (fun _ _ _ _ _ => (pts_one (pt_cmpR op_gt (pe_dget (hu_of hr) (pv 8) (pv 16) (fun _ _ => rfl)) pe_int (nomark _)))) (fun _ _ _ _ _ => (pv 16)) (fun _ _ _ _ _ => rfl) (fun _ _ _ _ _ => rfl) (fun _ _ _ _ _ => rfl))))
      (pss_cons (ps_set (i := 14) sc_l_entries.nd rfl (Or.inl rfl) pe_non)
      (pss_g (Evl.pss_cut (ps_if (PW.pt (pw_and (pt_cmpR op_lt (pe_callB call_len_seq (by rfl) T.z_len (by decide +kernel) (pa_cons (pv 7) pa_nil)) pe_int (nomark _)) (pw_and1 (PW.pt (pw_or (pt_cmpR op_eq (pv 9) pe_int (nomark _)) (pw_or1 (pt_cmpR op_lt (pv 12) pe_int (nomark _)))))))) (pss_cons (ps_set (i := 15) sc_l_entries.nd rfl (Or.inl rfl) (pe_op op_add pe_int (pe_call (ok_l_draw T) (hr.mono (by decide)) (by rfl) T.g__law_draw T.F_l_draw.kp T.b_l_draw .nil pass0 (pa_cons (pv 0) (pa_cons (pv 3) pa_nil)))))
      (pss_cons (ps_set (i := 14) sc_l_entries.nd rfl (Or.inl rfl) (pe_tup (pa_cons pe_str (pa_cons (pe_ix ix_list (pv 4) (pe_callB call_len_seq (by rfl) T.z_len (by decide +kernel) (pa_cons (pv 7) pa_nil)) (fun _ _ => rfl)) (pa_cons (pv 15) pa_nil)))))
      (pss_cons (ps_expr (pe_bm PySem.F.plainAttrs_list PySem.F.slot_list_append PySem.F.type_list_append mt_append (pv 7) (pa_cons (pe_ix ix_list (pv 4) (pe_callB call_len_seq (by rfl) T.z_len (by decide +kernel) (pa_cons (pv 7) pa_nil)) (fun _ _ => rfl)) pa_nil)))
      (pss_one (ps_set (i := 9) sc_l_entries.nd rfl (Or.inl rfl) (pe_op op_add (pv 9) (pv 15))))))) (pss_one (ps_if (PW.pt (pw_and (pt_cmpR op_gt (pv 9) pe_int (nomark _)) (pw_and (pt_cmpR op_lt (pv 12) pe_int (nomark _)) (pw_and1 (pt_cmpR op_lt (pe_callB (call_lenD) (by rfl) T.z_len (by decide +kernel) (pa_cons (pv 8) pa_nil)) pe_int (nomark _)))))) (pss_cons (ps_set (i := 15) sc_l_entries.nd rfl (Or.inl rfl) (pe_op op_add pe_int (pe_call (ok_l_draw T) (hr.mono (by decide)) (by rfl) T.g__law_draw T.F_l_draw.kp T.b_l_draw .nil pass0 (pa_cons (pv 0) (pa_cons (pv 9) pa_nil)))))
      (pss_g (Evl.pss_cut (ps_if (PW.pt (pw_and (pt_cmpR op_eq (pv 12) pe_int (nomark _)) (pw_and1 (pt_cmpR op_le (pv 9) pe_int (nomark _))))) (pss_one (ps_set (i := 15) sc_l_entries.nd rfl (Or.inl rfl) (pv 9))) pss_nil)
      (pss_cons (ps_set (i := 15) sc_l_entries.nd rfl (Or.inl rfl) (pe_callB (call_min2 rfl) (by rfl) T.z_min (by decide +kernel) (pa_cons (pv 15) (pa_cons pe_int pa_nil))))
      (pss_cons (ps_set (i := 14) sc_l_entries.nd rfl (Or.inl rfl) (pe_tup (pa_cons pe_str (pa_cons (pe_ix ix_list (pv 5) (pe_callB (call_lenD) (by rfl) T.z_len (by decide +kernel) (pa_cons (pv 8) pa_nil)) (fun _ _ => rfl)) (pa_cons (pv 15) pa_nil)))))
      (pss_cons (ps_dput (hu_of hr) (pv 8) (pe_ix ix_list (pv 5) (pe_callB call_lenD (by rfl) T.z_len (by decide +kernel) (pa_cons (pv 8) pa_nil)) (fun _ _ => rfl)) (pv 15) rfl)
      (pss_one (ps_set (i := 9) sc_l_entries.nd rfl (Or.inl rfl) (pe_op op_sub (pv 9) (pv 15)))))))))) (pss_one (ps_if (PW.pt (pw_and (pt_cmpR (op_neNil hr.units) (pv 13) (pe_lst pa_nil) (nomark _)) (pw_and1 (pt_cmpR op_lt (pv 12) pe_int (nomark _))))) (pss_cons (ps_set (i := 16) sc_l_entries.nd rfl (Or.inl rfl) (pe_call (ok_l_pick T) (hr.mono (by decide)) (by rfl) T.g__law_pick T.F_l_pick.kp T.b_l_pick .nil pass0 (pa_cons (pv 0) (pa_cons (pv 13) pa_nil))))
      (pss_cons (ps_set (i := 15) sc_l_entries.nd rfl (Or.inl rfl) (pe_op op_add pe_int (pe_call (ok_l_draw T) (hr.mono (by decide)) (by rfl) T.g__law_draw T.F_l_draw.kp T.b_l_draw .nil pass0 (pa_cons (pv 0) (pa_cons (pe_dget (hu_of hr) (pv 8) (pv 16) (fun _ _ => rfl)) pa_nil)))))
      (pss_cons (ps_set (i := 14) sc_l_entries.nd rfl (Or.inl rfl) (pe_tup (pa_cons pe_str (pa_cons (pv 16) (pa_cons (pv 15) pa_nil)))))
      (pss_cons (ps_dput (hu_of hr) (pv 8) (pv 16) (pe_op op_sub (pe_dget (hu_of hr) (pv 8) (pv 16) (fun _ _ => rfl)) (pv 15)) rfl)
      (pss_one (ps_set (i := 9) sc_l_entries.nd rfl (Or.inl rfl) (pe_op op_add (pv 9) (pv 15)))))))) (pss_one (ps_if (PW.pt (pw_and (pt_cmpR (op_neNil hr.units) (pv 7) (pe_lst pa_nil) (nomark _)) (pw_and1 (pt_cmpR op_lt (pv 10) pe_int (nomark _))))) (pss_cons (ps_set (i := 14) sc_l_entries.nd rfl (Or.inl rfl) (pe_tup (pa_cons pe_str (pa_cons (pe_ix ix_list (pv 4) (pe_op op_add pe_int (pv 10)) (fun _ _ => rfl)) (pa_cons (pe_call (ok_l_pick T) (hr.mono (by decide)) (by rfl) T.g__law_pick T.F_l_pick.kp T.b_l_pick .nil pass0 (pa_cons (pv 0) (pa_cons (pv 7) pa_nil))) pa_nil)))))
      (pss_one (ps_set (i := 10) sc_l_entries.nd rfl (Or.inl rfl) (pe_op op_add (pv 10) pe_int)))) pss_nil)))))))
      (pss_one (ps_if (pt_cmpR op_notN (pv 14) pe_non (nomark _)) (pss_cons (ps_asg (pe_call (ok_l_next T) (hr.mono (by decide)) (by rfl) T.g__law_next T.F_l_next.kp T.b_l_next .nil pass0 (pa_cons (pv 0) (pa_cons (pv 6) pa_nil))) (pg_tup (n := 2) rfl (pgs_cons (pg_name (i := 17) sc_l_entries.nd rfl (Or.inl rfl)) (pgs_cons (pg_name (i := 18) sc_l_entries.nd rfl (Or.inl rfl)) pgs_nil))))
      (pss_one (ps_expr (pe_bm PySem.F.plainAttrs_list PySem.F.slot_list_append PySem.F.type_list_append mt_append (pv 6) (pa_cons (pe_tup (pa_cons (pv 17) (pa_cons (pv 18) (pa_cons (pv 14) pa_nil)))) pa_nil))))) pss_nil)))))))))
      (pss_one (ps_ret (pv 6))))))))))))), ?_⟩
    refine ⟨_, rfl, _, rfl, g, l, _, rfl, B, by omega, lt_pow (a := 10) (by omega) (by decide), fun c1 H1 c10 c11 B1 K1 => ⟨_, _, rfl, rfl, ?_⟩⟩
    refine ⟨(by show 2 ≤ sizeLine; decide), fun z1 hz1 => ?_⟩
    have B1' := B1.new (o := .lst [V.int 6, .int 1000000]) hz1
    refine ⟨_, rfl, g, l, _, rfl, B1', by decide, by decide, fun c2 H2 c20 c21 B2 K2 => ?_⟩
    have hz2 := K2 _ _ upd_same (B1.ne hz1).1
    have K02 : Kp g H H2 := (K1.new hz1).trans K2
    obtain ⟨sz, hsz, sz1, sz2⟩ : ∃ sz : Int, atI [V.int 6, .int 1000000] (c2 / 7) = some (.int sz) ∧ 1 ≤ sz ∧ sz ≤ 1000000 := by
      have : c2 / 7 = 0 ∨ c2 / 7 = 1 := by omega
      rcases this with h | h <;> rw [h] <;> exact ⟨_, rfl, by decide, by decide⟩
    refine ⟨_, _, rfl, rfl, ⟨by decide, by decide⟩, z1, _, _, _, rfl, rfl, SqL.of hz2, hsz, ?_⟩
    refine ⟨_, rfl, (by show 4 ≤ sizeLine; decide), fun wq hwq => ?_⟩
    have B2' := B2.new (o := .lst [V.str "buy", .str "sell", .str "back", .str "late"]) hwq
    refine ⟨g, l, wq, 9, words4, rfl, B2', (B2.ne hwq).1, by decide, by decide, upd_same, by decide, by decide, by decide, fun nq ns H3 nnq hnq hnl hnd hno B3 K3 => ?_⟩
    have NO : NamesOk ns := fun n hn => by
      rcases hno n hn with h | h
      · exact ⟨name_ok h, Nat.le_trans h.2.1 (by decide)⟩
      · exact words_ok n h
    have K03 : Kp g H H3 := (K02.new hwq).trans K3
    have nqg : nq ≠ g := fun e => by
      obtain ⟨xs, hg⟩ := B2'.lst
      rw [e, hg] at nnq
      cases nnq
    refine ⟨_, rfl, nq, _, rfl, SqL.of hnq, fun sq hsq => ?_⟩
    refine ⟨Nat.zero_le _, fun eq heq => ⟨Nat.zero_le _, fun bq hbq lq hlq => ?_⟩⟩
    have v1 := Same.new (o := .lst (ns.map vS).reverse) hsq
    have v2 := Same.new (o := .lst []) heq
    have v3 := Same.new (o := .lst []) hbq
    have v4 := Same.new (o := .dK []) hlq
    have v14 := v1.trans (v2.trans (v3.trans v4))
    have q1 : H3 eq = none := Same.none v1 heq
    have q2 : H3 bq = none := Same.none (v1.trans v2) hbq
    have st : EL (upd (upd (upd (upd H3 sq (.lst (ns.map vS).reverse)) eq (.lst [])) bq (.lst [])) lq (.dK [])) g l nq sq eq bq lq ns [] [] [] [] :=
      ⟨B3.keep v14, v14 _ _ hnq, (v2.trans (v3.trans v4)) _ _ upd_same, (v3.trans v4) _ _ upd_same, .nil, fun t ht => (by cases ht), v4 _ _ upd_same, upd_same, ⟨nqg, (B3.ne hsq).1⟩, B3.ne q1, B3.ne q2,
        ⟨(ne_of_none hnq q1).symm, (ne_of_none upd_same heq).symm, ne_of_none upd_same hbq, (ne_of_none hnq q2).symm, (ne_of_none (v2 _ _ upd_same) hbq).symm⟩⟩
    have KS : Kp g H (upd (upd (upd (upd H3 sq (.lst (ns.map vS).reverse)) eq (.lst [])) bq (.lst [])) lq (.dK [])) := K03.trans (Kp.same v14)
    have feq : H eq = none := kp_none K03 q1 (B3.ne q1).1
    have fbq : H bq = none := kp_none K03 q2 (B3.ne q2).1
    have flq : H lq = none := kp_none (K03.trans (Kp.same (v1.trans (v2.trans v3)))) hlq ((B3.keep (v1.trans (v2.trans v3))).ne hlq).1
    generalize upd (upd (upd (upd H3 sq (.lst (ns.map vS).reverse)) eq (.lst [])) bq (.lst [])) lq (.dK []) = H4 at st KS ⊢
    have pp : ELp ns [] [] [] 0 0 0 := ⟨hnl, NO, by decide, fun b hb => (by cases hb), fun u hu => (by cases hu), fun u hu => (by cases hu), .nil, Nat.le_refl _, Nat.le_refl _, fun p hp => (by cases hp), by decide, by decide, by decide, by decide, fun _ => ⟨rfl, rfl⟩⟩
    refine ⟨⟨_, rfl, 1 + c1, rfl, by omega, by omega, for_range (lo := 0) (n := (1 + c1).toNat) (fun i σ' H' => Wd (∃ (bs : List (List Nat)) (ts : List Addr) (es : List En) (kvs : List (L2.Key × V)) (stock costs : Int) (o : List (Option V)), o.length = 8 ∧
      σ' = [some (.ref g), some (.int most), some (.int (1 + c1)), some (.int sz), some (.ref nq), some (.ref sq), some (.ref eq), some (.ref bq), some (.ref lq), some (.int stock), some (.int costs)] ++ o ∧ EL H' g l nq sq eq bq lq ns bs ts es kvs ∧ ELp ns bs es kvs i stock costs ∧ (i = 0 ∨ es ≠ []) ∧ Kp g H H'))
      ⟨[], [], [], [], 0, 0, [none, none, none, none, none, none, none, none], rfl, rfl, st, pp, .inl rfl, KS⟩ ?_ ?_⟩⟩
    · rintro i σ' H5 hi ⟨bs, ts, es, kvs, stock, costs, o, hol, rfl, st, pp, hne, KH⟩
      match o, hol with
      | [o11, o12, o13, o14, o15, o16, o17, o18], _ =>
        have i100 : i < 100 := by omega
        refine ⟨_, rfl, g, l, _, rfl, st.bag, by decide, by decide, fun ch H6 ch0 ch1 B6 K6 => ?_⟩
        have st6 := st.move B6 K6
        refine ⟨⟨lq, _, st6.L, trivial, fun od => ⟨_, rfl, lq, od, rfl, .inl ⟨kvs, upd_same, fun D hD => ?_⟩⟩⟩⟩
        have nDl : D ≠ lq := fun e => by rw [e, upd_same] at hD; cases hD
        refine lc_it walk_keys (fun j H' => Wd (∃ zs : List Str, zs.length ≤ j ∧ (∀ z ∈ zs, ∃ n : Int, valV kvs (.inr z) = some (.int n) ∧ 0 < n) ∧ H' = upd (upd H6 lq (.frz od (.dK kvs))) D (.lst (zs.map V.str)))) ⟨[], Nat.le_refl _, fun z hz => (by cases hz), rfl⟩ (fun j H' _ h => ?_) ?_ ?_
        · obtain ⟨zs, _, _, rfl⟩ := h.ok
          rw [upd_ne nDl.symm, upd_same]
        · rintro j x H7 H8 hj ⟨zs, hzl, hz, rfl⟩ ⟨rfl, kk, v, hkv, rfl⟩
          obtain ⟨m, hm, ek, _⟩ := pp.kv (kk, v) (List.mem_of_getElem? hkv)
          obtain ⟨v', hv'⟩ := mem_valV (List.mem_of_getElem? hkv)
          obtain ⟨_, _, _, n', ev', n0', n1'⟩ := pp.kv _ (valV_mem hv')
          have ek : kk = Sum.inr (SX.S m) := ek
          have ev' : v' = .int n' := ev'
          subst ek ev'
          have gg : DGet (upd (upd H6 lq (.frz od (.dK kvs))) D (.lst (zs.map V.str))) lq (.str (SX.S m)) (some (.int n')) := .inl ⟨kvs, Sum.inr (SX.S m), .inr ⟨od, by rw [upd_ne nDl.symm, upd_same]⟩, rfl, hv'.symm⟩
          refine ⟨rfl, _, rfl, _, rfl, lq, .int n', rfl, gg, _, _, rfl, rfl, _, rfl, if_dec (fun e => ?_) (fun e => ?_)⟩
          · refine ⟨_, rfl, _, upd_same, ?_, zs ++ [SX.S m], by rw [List.length_append]; exact Nat.succ_le_succ hzl, fun z hz' => ?_, by rw [upd_upd, List.map_append]; rfl⟩
            · rw [List.length_map]
              exact Nat.lt_of_lt_of_le (by have := pp.kl; omega : zs.length < 1000) (by decide)
            · rcases List.mem_append.mp hz' with hz' | hz'
              · exact hz z hz'
              · rw [List.mem_singleton] at hz'
                subst hz'
                exact ⟨n', hv', e⟩
          · exact ⟨zs, Nat.le_succ_of_le hzl, hz, rfl⟩
        rintro H7 ⟨zs, hzl, hz, rfl⟩
        refine ⟨by rw [upd_ne nDl.symm, upd_same], ?_⟩
        rw [upd_back st6.L nDl]
        have hD6 : H6 D = none := by
          rw [upd_ne nDl] at hD
          exact hD
        have sD := Same.new (o := .lst (zs.map V.str)) hD6
        have st7 := st6.same sD
        have KD : Kp g H (upd H6 D (.lst (zs.map V.str))) := (KH.trans K6).trans (Kp.same sD)
        have hDD : upd H6 D (.lst (zs.map V.str)) D = some (.lst (zs.map V.str)) := upd_same
        have nDg := B6.ne hD6
        generalize upd H6 D (.lst (zs.map V.str)) = H7 at st7 KD hDD ⊢
        clear sD hD st6 hD6
        have rng' : ∀ u ∈ es, 0 ≤ u.d ∧ 0 ≤ u.n ∧ u.d ≤ 9 * ((i + 1 : Nat) : Int) + 3 ∧ u.n ≤ 3 * ((i + 1 : Nat) : Int) + 3 := fun u hu => by
          have := pp.rng u hu
          refine ⟨this.1, this.2.1, by omega, by omega⟩
        have s1i := pp.s1
        have s0i := pp.s0
        have mid : ∀ (bs' : List (List Nat)) (kvs' : List (L2.Key × V)) (stock' costs' : Int), bs'.length ≤ 6 → (∀ b ∈ bs', b ∈ ns) → kvs'.length ≤ i + 1 → (∀ p ∈ kvs', ∃ m ∈ ns, p.1 = Sum.inr (SX.S m) ∧ ∃ j : Int, p.2 = .int j ∧ 0 ≤ j ∧ j ≤ 1000000) → 0 ≤ stock' → stock' ≤ stock + 1000000 → 0 ≤ costs' → costs' ≤ 3 → ELp ns bs' es kvs' (i + 1) stock' costs' := fun bs' kvs' stock' costs' a1 a2 a3 a4 a5 a6 a7 a8 =>
          ⟨pp.nl, pp.nok, a1, a2, pp.eok, rng', pp.inc, Nat.le_succ_of_le pp.el, a3, a4, a5, by omega, a7, a8, fun z => by omega⟩
        refine ⟨⟨fun σ' H' => Wd (∃ (bs' : List (List Nat)) (kvs' : List (L2.Key × V)) (stock' costs' : Int) (ev : V) (o : List (Option V)), o.length = 4 ∧
          σ' = [some (.ref g), some (.int most), some (.int (1 + c1)), some (.int sz), some (.ref nq), some (.ref sq), some (.ref eq), some (.ref bq), some (.ref lq), some (.int stock'), some (.int costs'), some (.int (0 + (i : Int))), some (.int ch), some (.ref D), some ev] ++ o ∧ EL H' g l nq sq eq bq lq ns bs' ts es kvs' ∧ ELp ns bs' es kvs' (i + 1) stock' costs' ∧
          ((ev = .non ∧ es ≠ []) ∨ ∃ e kd nm x, ev = .ref e ∧ H' e = some (.tup [.str kd, .str nm, x]) ∧ EnOk ⟨0, 0, e, kd, nm, x⟩) ∧ Kp g H H'), ?_, ?_⟩⟩
        · refine tIf_of (p := bs.length < 6 ∧ (stock = 0 ∨ ch < 2)) (H := H7) (fun Q hT hF => ?_) (fun H8 s8 hp => ?_) (fun H8 s8 hp => ?_)
          · refine ⟨_, rfl, bq, _, rfl, .inl (SqL.of st7.B), _, _, rfl, rfl, _, rfl, if_dec (fun e => ?_) (fun e => hF H7 (fun _ _ h => h) fun z => e ?_)⟩
            · have e' : bs.length < 6 := by
                rw [List.length_map] at e
                omega
              refine ⟨_, rfl, rfl, _, rfl, if_int (fun e1 => hT H7 (fun _ _ h => h) ⟨e', .inl e1⟩) (fun e1 => ?_)⟩
              exact ⟨_, rfl, _, _, rfl, rfl, _, rfl, q_dec (fun e2 => hT H7 (fun _ _ h => h) ⟨e', .inr e2⟩) (fun e2 => hF H7 (fun _ _ h => h) fun z => z.2.elim e1 e2)⟩
            · rw [List.length_map]
              have := z.1
              omega
          · have st8 := st7.same s8
            refine ⟨_, rfl, _, rfl, g, l, _, rfl, st8.bag, by omega, lt_pow (a := 20) (by omega) (by decide), fun c3 H9 c30 c31 B9 K9 => ⟨_, _, rfl, rfl, ?_⟩⟩
            have st9 := st8.move B9 K9
            have hbl := pp.nl
            have hb6 := hp.1
            have hlt : bs.length < ns.length := by omega
            have hat : atI (ns.map vS) (((bs.map vS).length : Nat) : Int) = some (vS ns[bs.length]) := by
              rw [List.length_map]
              refine atI_nat ?_
              rw [List.getElem?_map, List.getElem?_eq_getElem hlt]
              rfl
            have hmem : ns[bs.length] ∈ ns := List.getElem_mem hlt
            obtain ⟨hn1, hn2⟩ := pp.nok _ hmem
            refine ⟨_, rfl, _, rfl, bq, _, rfl, .inl (SqL.of st9.B), nq, _, _, _, rfl, rfl, SqL.of st9.N, hat, _, rfl, (by show 3 ≤ sizeLine; decide), fun e he => ?_⟩
            have sE := Same.new (o := .tup [V.str "buy", vS ns[bs.length], .int (1 + c3)]) he
            have stA := st9.same sE
            refine ⟨_, rfl, .inl ⟨rfl, _, SqL.of stA.B⟩, _, rfl, _, rfl, bq, _, rfl, .inl (SqL.of stA.B), nq, _, _, _, rfl, rfl, SqL.of stA.N, hat, bq, _, _, rfl, rfl, stA.B, ?_, ?_⟩
            · rw [List.length_map]
              exact Nat.lt_of_lt_of_le (by omega : bs.length < 1000) (by decide)
            refine ⟨_, rfl, _, rfl, _, _, rfl, rfl, bs ++ [ns[bs.length]], kvs, stock + (1 + c3), costs, .ref e, [_, _, _, _], rfl, rfl, ?_, mid _ kvs _ costs (by rw [List.length_append]; show bs.length + 1 ≤ 6; omega) (fun b hb => ?_) (Nat.le_succ_of_le pp.kl) pp.kv (by omega) (by omega) pp.c0 pp.c3, .inr ⟨e, "buy", SX.S ns[bs.length], .int (1 + c3), rfl, ?_, ent_units buy_yes hn1 (by omega) (by omega), .int _, fun z ez => by rw [← V.str.inj ez, SX.S_len]; exact hn2, fun z ez => by cases ez⟩, ?_⟩
            · have := stA.bput (bs ++ [ns[bs.length]])
              rw [List.map_append] at this
              exact this
            · rcases List.mem_append.mp hb with hb | hb
              · exact pp.bm b hb
              · rw [List.mem_singleton] at hb
                rw [hb]
                exact hmem
            · rw [upd_ne (ne_of_none st9.B he).symm, upd_same]
              rfl
            · exact (((KD.trans (Kp.same s8)).trans K9).trans (Kp.same sE)).put fbq
          · have hes : es ≠ [] := hne.resolve_left fun z => hp (by
              obtain ⟨z1, z2⟩ := pp.z z
              rw [z1, z2]
              exact ⟨by decide, .inl rfl⟩)
            have st8 := st7.same s8
            have hD8 := s8 _ _ hDD
            refine tIf_of (p := 0 < stock ∧ ch < 5 ∧ kvs.length < 9) (H := H8) (fun Q hT hF => ?_) (fun H9 s9 hp2 => ?_) (fun H9 s9 hp2 => ?_)
            · refine ⟨_, rfl, _, _, rfl, rfl, _, rfl, if_dec (fun e => ?_) (fun e => hF H8 (fun _ _ h => h) fun z => e z.1)⟩
              refine ⟨_, rfl, _, _, rfl, rfl, _, rfl, if_dec (fun e2 => ?_) (fun e2 => hF H8 (fun _ _ h => h) fun z => e2 z.2.1)⟩
              refine ⟨_, rfl, lq, _, rfl, st8.L, _, _, rfl, rfl, _, rfl, q_dec (fun e3 => hT H8 (fun _ _ h => h) ⟨e, e2, by omega⟩) (fun e3 => hF H8 (fun _ _ h => h) fun z => e3 (by have := z.2.2; omega))⟩
            · have st9 := st8.same s9
              have hk9 := hp2.2.2
              have hst : stock < 2 ^ 40 := by omega
              refine ⟨_, rfl, _, rfl, g, l, _, rfl, st9.bag, hp2.1, lt_pow (a := 40) (by omega) (by decide), fun c3 HA c30 c31 BA KA => ⟨_, _, rfl, rfl, ?_⟩⟩
              have stA := st9.move BA KA
              refine ⟨⟨fun σ' H' => Wd (∃ u : Int, 1 ≤ u ∧ u ≤ stock ∧ H' = HA ∧ σ' = [some (.ref g), some (.int most), some (.int (1 + c1)), some (.int sz), some (.ref nq), some (.ref sq), some (.ref eq), some (.ref bq), some (.ref lq), some (.int stock), some (.int costs), some (.int (0 + (i : Int))), some (.int ch), some (.ref D), some .non, some (.int u), o16, o17, o18]), ?_, ?_⟩⟩
              · refine ⟨_, rfl, rfl, _, rfl, if_int (fun e => ?_) (fun e => iteF ⟨1 + c3, by omega, by omega, rfl, rfl⟩)⟩
                exact ⟨_, rfl, _, _, rfl, rfl, _, rfl, if_dec (fun e2 => ⟨_, rfl, stock, by omega, Int.le_refl _, rfl, rfl⟩) (fun e2 => ⟨1 + c3, by omega, by omega, rfl, rfl⟩)⟩
              · rintro σ' H' ⟨u, u1, u2, rfl, rfl⟩
                refine ⟨_, rfl, _, _, rfl, ?_⟩
                obtain ⟨v, hv, v1, v2, v3⟩ : ∃ v : Int, (if (1000000 : Int) < u then 1000000 else u) = v ∧ 1 ≤ v ∧ v ≤ 1000000 ∧ v ≤ stock := by
                  split
                  · exact ⟨_, rfl, by omega, by omega, by omega⟩
                  · exact ⟨_, rfl, by omega, by omega, by omega⟩
                rw [hv]
                obtain ⟨x, hxm, hat⟩ := at_mem (xs := (ns.map vS).reverse) (j := kvs.length) (by rw [List.length_reverse, List.length_map, pp.nl]; exact hk9)
                obtain ⟨m, hm, rfl⟩ := List.mem_map.mp (List.mem_reverse.mp hxm)
                obtain ⟨hn1, hn2⟩ := pp.nok m hm
                refine ⟨_, rfl, _, rfl, lq, _, rfl, stA.L, sq, _, _, _, rfl, rfl, SqL.of stA.S, hat, _, rfl, (by show 3 ≤ sizeLine; decide), fun e he => ?_⟩
                have sE := Same.new (o := .tup [V.str "sell", vS m, .int v]) he
                have stB := stA.same sE
                have hkl := pp.kl
                refine ⟨_, rfl, _, rfl, _, rfl, _, rfl, lq, _, rfl, stB.L, sq, _, _, _, rfl, rfl, SqL.of stB.S, hat, lq, _, rfl, DPut.k (k := Sum.inr (SX.S m)) stB.L (Nat.lt_of_lt_of_le (by omega : kvs.length < 1000) (by decide)), ?_⟩
                refine ⟨_, rfl, _, rfl, _, _, rfl, rfl, bs, putK kvs (Sum.inr (SX.S m)) (.int v), stock - v, costs, .ref e, [_, _, _, _], rfl, rfl, stB.lput _, mid bs _ _ costs pp.bl pp.bm (Nat.le_trans len_putK (Nat.succ_le_succ hkl)) (fun p hp' => ?_) (by omega) (by omega) pp.c0 pp.c3, .inr ⟨e, "sell", SX.S m, .int v, rfl, ?_, ent_units sell_yes hn1 v1 v2, .int _, fun z ez => by rw [← V.str.inj ez, SX.S_len]; exact hn2, fun z ez => by cases ez⟩, ?_⟩
                · rcases mem_putK hp' with rfl | hp'
                  · exact ⟨m, hm, rfl, v, rfl, by omega, v2⟩
                  · exact pp.kv p hp'
                · rw [upd_ne (ne_of_none stA.L he).symm, upd_same]
                  rfl
                · exact ((((KD.trans (Kp.same s8)).trans (Kp.same s9)).trans KA).trans (Kp.same sE)).put flq
            · have st9 := st8.same s9
              have hD9 := s9 _ _ hD8
              refine tIf_of (p := zs ≠ [] ∧ ch < 7) (H := H9) (fun Q hT hF => ?_) (fun HA sA hp3 => ?_) (fun HA sA hp3 => ?_)
              · refine ⟨_, rfl, Nat.zero_le _, fun z hz' => ⟨D, z, _, rfl, rfl, SqL.of (Same.new hz' _ _ hD9), SqL.of upd_same, _, rfl, ?_⟩⟩
                have sz' := Same.new (o := .lst []) hz'
                cases zs with
                | nil => exact iteF (hF _ sz' fun z => z.1 rfl)
                | cons z0 zs0 => exact iteT ⟨_, rfl, _, _, rfl, rfl, _, rfl, q_dec (fun e2 => hT _ sz' ⟨by simp, e2⟩) (fun e2 => hF _ sz' fun z => e2 z.2)⟩
              · have stA := st9.same sA
                have hDA := sA _ _ hD9
                have hzl' : zs.length ≤ 1000 := by have := pp.kl; omega
                refine ⟨_, rfl, _, rfl, g, l, D, _, rfl, stA.bag, nDg.1, hDA, by rw [List.length_map]; exact List.length_pos_iff.mpr hp3.1, by rw [List.length_map]; exact hzl', fun v HB hv BB KB => ?_⟩
                obtain ⟨z, hzm, rfl⟩ := List.mem_map.mp hv
                obtain ⟨n, hn, n0⟩ := hz z hzm
                obtain ⟨m, hm, em, n', en', _, n1⟩ := pp.kv _ (valV_mem hn)
                obtain rfl : n = n' := V.int.inj en'
                obtain rfl : z = SX.S m := Sum.inr.inj em
                obtain ⟨hn1, hn2⟩ := pp.nok m hm
                have stB := stA.move BB KB
                have gB : ∀ {HH : Hp}, HH lq = some (.dK kvs) → DGet HH lq (.str (SX.S m)) (some (.int n)) := fun h => by
                  have g0 := DGet.k (k := Sum.inr (SX.S m)) h
                  rw [hn] at g0
                  exact g0
                refine ⟨_, rfl, _, rfl, _, rfl, lq, .int n, rfl, gB stB.L, g, l, _, rfl, stB.bag, n0, lt_pow (a := 40) (by omega) (by decide), fun c3 HC c30 c31 BC KC => ⟨_, _, rfl, rfl, ?_⟩⟩
                have stC := stB.move BC KC
                refine ⟨_, rfl, _, rfl, (by show 3 ≤ sizeLine; decide), fun e he => ?_⟩
                have sE := Same.new (o := .tup [V.str "back", .str (SX.S m), .int (1 + c3)]) he
                have stD := stC.same sE
                have hkl := pp.kl
                refine ⟨_, rfl, _, rfl, lq, .int n, rfl, gB stD.L, _, rfl, _, _, rfl, rfl, _, rfl, _, rfl, lq, _, rfl, DPut.k (k := Sum.inr (SX.S m)) stD.L (Nat.lt_of_lt_of_le (by omega : kvs.length < 1000) (by decide)), ?_⟩
                refine ⟨_, rfl, _, rfl, _, _, rfl, rfl, bs, putK kvs (Sum.inr (SX.S m)) (.int (n - (1 + c3))), stock + (1 + c3), costs, .ref e, [_, _, _, _], rfl, rfl, stD.lput _, mid bs _ _ costs pp.bl pp.bm (Nat.le_trans len_putK (Nat.succ_le_succ hkl)) (fun p hp' => ?_) (by omega) (by omega) pp.c0 pp.c3, .inr ⟨e, "back", SX.S m, .int (1 + c3), rfl, ?_, ent_units back_yes hn1 (by omega) (by omega), .int _, fun z ez => by rw [← V.str.inj ez, SX.S_len]; exact hn2, fun z ez => by cases ez⟩, ?_⟩
                · rcases mem_putK hp' with rfl | hp'
                  · exact ⟨m, hm, rfl, _, rfl, by omega, by omega⟩
                  · exact pp.kv p hp'
                · rw [upd_ne (ne_of_none stC.L he).symm, upd_same]
                · exact ((((((KD.trans (Kp.same s8)).trans (Kp.same s9)).trans (Kp.same sA)).trans KB).trans KC).trans (Kp.same sE)).put flq
              · have stA := st9.same sA
                refine tIf_of (p := bs ≠ [] ∧ costs < 3) (H := HA) (fun Q hT hF => ?_) (fun HB sB hp4 => ?_) (fun HB sB hp4 => ?_)
                · refine ⟨_, rfl, Nat.zero_le _, fun z hz' => ⟨bq, z, _, rfl, rfl, SqL.of (Same.new hz' _ _ stA.B), SqL.of upd_same, _, rfl, ?_⟩⟩
                  have sz' := Same.new (o := .lst []) hz'
                  cases bs with
                  | nil => exact iteF (hF _ sz' fun z => z.1 rfl)
                  | cons z0 zs0 => exact iteT ⟨_, rfl, _, _, rfl, rfl, _, rfl, q_dec (fun e2 => hT _ sz' ⟨by simp, e2⟩) (fun e2 => hF _ sz' fun z => e2 z.2)⟩
                · have stB := stA.same sB
                  have hc0 := pp.c0
                  obtain ⟨j, hj⟩ : ∃ j : Nat, 6 + costs = (j : Int) := ⟨(6 + costs).toNat, by omega⟩
                  obtain ⟨x, hxm, hat⟩ := at_mem (xs := ns.map vS) (j := j) (by rw [List.length_map, pp.nl]; have := hp4.2; omega)
                  obtain ⟨m, hm, rfl⟩ := List.mem_map.mp hxm
                  obtain ⟨hn1, hn2⟩ := pp.nok m hm
                  rw [← hj] at hat
                  refine ⟨_, rfl, _, rfl, _, _, rfl, rfl, nq, _, _, _, rfl, rfl, SqL.of stB.N, hat, _, rfl, _, rfl, g, l, bq, _, rfl, stB.bag, stB.gb.1, stB.B, by rw [List.length_map]; exact List.length_pos_iff.mpr hp4.1, by rw [List.length_map]; have := pp.bl; omega, fun v HC hv BC KC => ?_⟩
                  obtain ⟨lot, hlm, rfl⟩ := List.mem_map.mp hv
                  obtain ⟨hl1, hl2⟩ := pp.nok lot (pp.bm lot hlm)
                  have stC := stB.move BC KC
                  refine ⟨(by show 3 ≤ sizeLine; decide), fun e he => ?_⟩
                  have sE := Same.new (o := .tup [V.str "late", vS m, vS lot]) he
                  refine ⟨_, rfl, _, _, rfl, rfl, bs, kvs, stock, costs + 1, .ref e, [_, _, _, _], rfl, rfl, stC.same sE, mid bs kvs stock _ pp.bl pp.bm (Nat.le_succ_of_le pp.kl) pp.kv s0i (by omega) (by omega) (by have := hp4.2; omega), .inr ⟨e, "late", SX.S m, vS lot, rfl, upd_same, ent_late hn1 hl1, .str _, fun z ez => by rw [← V.str.inj ez, SX.S_len]; exact hn2, fun z ez => by rw [← V.str.inj ez, SX.S_len]; exact hl2⟩, ?_⟩
                  exact ((((((KD.trans (Kp.same s8)).trans (Kp.same s9)).trans (Kp.same sA)).trans (Kp.same sB)).trans KC).trans (Kp.same sE))
                · exact ⟨bs, kvs, stock, costs, .non, [_, _, _, _], rfl, rfl, stA.same sB, mid bs kvs stock costs pp.bl pp.bm (Nat.le_succ_of_le pp.kl) pp.kv s0i (by omega) pp.c0 pp.c3, .inl ⟨rfl, hes⟩, (((KD.trans (Kp.same s8)).trans (Kp.same s9)).trans (Kp.same sA)).trans (Kp.same sB)⟩
        · rintro σ' H8 ⟨bs', kvs', stock', costs', ev, o, hol, rfl, st8, pp8, hev, K8⟩
          match o, hol with
          | [p15, p16, p17, p18], _ =>
            rcases hev with ⟨rfl, hes⟩ | ⟨e, kd, nm, x, rfl, he, hok⟩
            · refine ⟨_, rfl, rfl, _, rfl, ifNT rfl ?_⟩
              exact ⟨bs', ts, es, kvs', stock', costs', [_, _, _, _, _, _, _, _], rfl, rfl, st8, pp8, .inr hes, K8⟩
            · refine ⟨_, rfl, rfl, _, rfl, ifNF (fun z => by cases z) ?_⟩
              refine ⟨_, rfl, _, rfl, g, l, eq, ts, es, rfl, st8.bag, st8.ge.1, st8.E, st8.T, fun u hu => ⟨(pp.rng u hu).1, (pp.rng u hu).2.1⟩, fun p d n H9 hp d0 n0 hnil hlast B9 K9 => ?_⟩
              have st9 := st8.move B9 K9
              obtain ⟨xs, hg⟩ := st8.bag.lst
              have he9 := K9 _ _ he (ne_of he hg (by intro z; cases z))
              refine ⟨p, _, rfl, SqT.of hp, rfl, _, _, rfl, _, _, rfl, rfl, ?_⟩
              refine ⟨_, rfl, .inl ⟨rfl, _, SqL.of st9.E⟩, _, rfl, _, rfl, _, rfl, (by show 3 ≤ sizeLine; decide), fun t ht => ?_⟩
              have sT := Same.new (o := .tup [V.int d, .int n, .ref e]) ht
              have stA := st9.same sT
              refine ⟨eq, _, _, rfl, rfl, stA.E, ?_, bs', ts ++ [t], es ++ [⟨d, n, e, kd, nm, x⟩], kvs', stock', costs', [_, _, _, _, _, _, _, _], rfl, rfl, ?_, ?_, .inr (by simp), ?_⟩
              · rw [List.length_map, st9.T.1]
                exact Nat.lt_of_lt_of_le (by have := pp.el; omega : es.length < 1000) (by decide)
              · have := stA.eput (t := t) (u := ⟨d, n, e, kd, nm, x⟩) upd_same (sT _ _ he9)
                rw [List.map_append] at this
                exact this
              · have hbound : d ≤ 9 * ((i + 1 : Nat) : Int) + 3 ∧ n ≤ 3 * ((i + 1 : Nat) : Int) + 3 := by
                  cases hl : es.getLast? with
                  | none =>
                    have := hnil (List.getLast?_eq_none_iff.mp hl)
                    omega
                  | some u =>
                    have h1 := hlast u hl
                    have h2 := pp.rng u (List.mem_of_getLast? hl)
                    omega
                refine ⟨pp8.nl, pp8.nok, pp8.bl, pp8.bm, fun u hu => ?_, fun u hu => ?_, ?_, by rw [List.length_append]; exact Nat.succ_le_succ pp.el, pp8.kl, pp8.kv, pp8.s0, pp8.s1, pp8.c0, pp8.c3, pp8.z⟩
                · rcases List.mem_append.mp hu with hu | hu
                  · exact pp.eok u hu
                  · rw [List.mem_singleton] at hu
                    subst hu
                    exact hok
                · rcases List.mem_append.mp hu with hu | hu
                  · exact rng' u hu
                  · rw [List.mem_singleton] at hu
                    subst hu
                    exact ⟨d0, n0, hbound.1, hbound.2⟩
                · rw [List.pairwise_append]
                  refine ⟨pp.inc, List.pairwise_singleton _ _, fun a ha b hb => ?_⟩
                  rw [List.mem_singleton] at hb
                  subst hb
                  exact lt_last pp.inc ha fun u hu => (hlast u hu).1
              · exact ((K8.trans K9).trans (Kp.same sT)).put feq
    · rintro σ' H5 ⟨bs, ts, es, kvs, stock, costs, o, hol, rfl, st, pp, hne, KH⟩
      refine ⟨_, rfl, k eq ts es H5 feq st.E st.T st.ent pp.eok (fun u hu => ?_) pp.inc (hne.resolve_left (by omega)) ?_ st.bag KH⟩
      · have := pp.rng u hu
        have h100 : ((1 + c1).toNat : Int) ≤ 100 := by omega
        refine ⟨this.1, this.2.1, by omega, by omega⟩
      · have := pp.el
        omega
end

/-! ### sorted(xs), xs pairs whose first part is a pair of ints, no two alike -/
theorem perm_map_back {α β : Type} {f : α → β} {us : List α} {out : List β} (h : out.Perm (us.map f)) : ∃ zs : List α, out = zs.map f ∧ zs.Perm us := by
  induction out generalizing us with
  | nil =>
    have : us = [] := by
      have := h.length_eq
      rw [List.length_map] at this
      exact List.eq_nil_of_length_eq_zero this.symm
    subst this
    exact ⟨[], rfl, .nil⟩
  | cons b out ih =>
    obtain ⟨u, hu, rfl⟩ := List.mem_map.mp (h.mem_iff.mp List.mem_cons_self)
    obtain ⟨l1, l2, rfl⟩ := List.append_of_mem hu
    rw [List.map_append, List.map_cons] at h
    have h2 : out.Perm ((l1 ++ l2).map f) := by
      rw [List.map_append]
      exact (List.perm_cons (f u)).mp (h.trans List.perm_middle)
    obtain ⟨zs, rfl, hp⟩ := ih h2
    exact ⟨u :: zs, rfl, ((List.perm_cons u).mpr hp).trans List.perm_middle.symm⟩
theorem inj_of_nodup {α β : Type} {f : α → β} {l : List α} (h : (l.map f).Nodup) {x y : α} (hx : x ∈ l) (hy : y ∈ l) (e : f x = f y) : x = y := by
  induction l with
  | nil => cases hx
  | cons a l ih =>
    rw [List.map_cons, List.nodup_cons] at h
    rcases List.mem_cons.mp hx with e1 | hx2
    · rcases List.mem_cons.mp hy with e2 | hy2
      · rw [e1, e2]
      · rw [e1] at e
        exact absurd (e ▸ List.mem_map.mpr ⟨y, hy2, rfl⟩) h.1
    · rcases List.mem_cons.mp hy with e2 | hy2
      · rw [e2] at e
        exact absurd (e ▸ List.mem_map.mpr ⟨x, hx2, rfl⟩) h.1
      · exact ih h.2 hx2 hy2
section
open PySem PySem.W PyProof.Rows SrtO
variable {prog : Program} {w : World} {A : Around} {s : Shared}
/-- v is a tuple of a pair of ints and something else -/
def IsKeyed (h : Heap) (v : Value) (x y : Int) : Prop := ∃ a o ka ba n, v = .ref a ∧ h.get? a = some o ∧ o.cls = .type "tuple" ∧ o.data = .seq #[.ref ka, .ref ba] n ∧ Srt.IsPair h (.ref ka) x y
theorem IsKeyed.keeps {h h' : Heap} {v : Value} {x y : Int} (p : IsKeyed h v x y) (k : ∀ b o, h.get? b = some o → o.cls = .type "tuple" → h'.get? b = some o) : IsKeyed h' v x y := by
  obtain ⟨a, o, ka, ba, n, e, ho, hc, hd, q⟩ := p
  exact ⟨a, o, ka, ba, n, e, k _ _ ho hc, hc, hd, q.keeps k⟩
theorem pair_reads {h : Heap} {ka : Addr} {x y : Int} (p : Srt.IsPair h (.ref ka) x y) : ∃ as, Reads h (.ref ka) (.tuple [.int x, .int y]) as := by
  obtain ⟨a, o, t, u, n, e, ho, hc, hd⟩ := p
  cases e
  exact ⟨_, .tuple ho hc hd (.cons (.int x t) (.cons (.int y u) .nil))⟩
theorem eqv_pair {x y x' y' : Int} : PyData.eqv (.tuple [.int x, .int y]) (.tuple [.int x', .int y']) = decide ((x, y) = (x', y')) := by
  show (x == x' && (y == y' && true)) = _
  rw [Bool.and_true, Bool.eq_iff_iff, Bool.and_eq_true, beq_iff_eq, beq_iff_eq, decide_eq_true_iff]
  exact ⟨fun z => Prod.ext z.1 z.2, fun z => ⟨congrArg Prod.fst z, congrArg Prod.snd z⟩⟩
theorem keyed_cmp {vs : List Value} {k : Value → Int × Int} (hp : ∀ v ∈ vs, IsKeyed s.heap v (k v).1 (k v).2) (hn : ∀ v ∈ vs, ∀ u ∈ vs, k v = k u → v = u) (hu : A.units + 64 < cLine) : Cmp prog w A s (tuples' false) (fun p => p.1 ∈ vs) (lt2 fun v u => lexB (k v) (k u)) := by
  intro p q hm hm'
  have h1 := hp _ hm
  have h2 := hp _ hm'
  show wpAny (model prog w) A (keyLt' (tuples' false) p.1 q.1) (fun r s' => s' = s ∧ r = lexB (k p.1) (k q.1)) (fun _ _ => False) s
  obtain ⟨a, o, ka, ba, n, e, ho, hc, hd, hk⟩ := h1
  obtain ⟨a', o', ka', ba', n', e', ho', hc', hd', hk'⟩ := h2
  by_cases z : p.1 = q.1
  · have irr : lexB (k p.1) (k q.1) = false := by
      rw [z]
      exact lexB_no.mpr (by omega)
    rw [irr]
    rw [z] at e
    have ea : a = a' := Value.ref.inj (e.symm.trans e')
    subst ea
    rw [ho] at ho'
    cases ho'
    rw [hd] at hd'
    cases hd'
    rw [z, e]
    refine kat_lt ho hd ho hd ?_
    show KatLex prog w A false (decide (2 < 2)) _ [(.ref ka, .ref ka), (.ref ba, .ref ba)] 0 s
    refine kat_cons (SeqAt.EqAt.same (.ref ka) prog w _ _ (kat_yes (kat_cons (SeqAt.EqAt.same (.ref ba) prog w _ _ (kat_yes (kat_nil ⟨rfl, rfl⟩))))))
  · have hne : ¬ k p.1 = k q.1 := fun t => z (hn _ hm _ hm' t)
    obtain ⟨as, r1⟩ := pair_reads hk
    obtain ⟨bs, r2⟩ := pair_reads hk'
    have q1 := SeqAt.eqAt_plain _ _ A s _ _ as bs r1 r2 rfl rfl (Nat.lt_of_le_of_lt (Nat.add_le_add_left (Nat.le_trans (Nat.min_le_left _ _) (Nat.le_of_ble_eq_true rfl : (PyData.tuple [.int (k p.1).1, .int (k p.1).2]).depth ≤ 1)) _) (by omega))
    rw [eqv_pair, decide_eq_false (show ¬ ((k p.1).1, (k p.1).2) = ((k q.1).1, (k q.1).2) from hne)] at q1
    rw [e, e'] at *
    refine kat_lt ho hd ho' hd' ?_
    show KatLex prog w A false (decide (2 < 2)) _ [(.ref ka, .ref ka'), (.ref ba, .ref ba')] 0 s
    refine kat_cons (q1 prog w _ _ (kat_no (kat_one _ _ ?_)))
    obtain ⟨a1, o1, t1, u1, n1, e1, ho1, hc1, hd1⟩ := hk
    obtain ⟨a2, o2, t2, u2, n2, e2, ho2, hc2, hd2⟩ := hk'
    cases e1
    cases e2
    refine HT.lt_tupInts ⟨o1, ho1, hc1, n1, hd1⟩ ⟨o2, ho2, hc2, n2, hd2⟩ (.cons _ _ (.cons _ _ .nil)) (.cons _ _ (.cons _ _ .nil)) (by omega) ?_
    refine ⟨rfl, ?_⟩
    show (if _ = _ then (if _ = _ then false else decide _) else decide _) = lexB _ _
    unfold lexB
    split
    · split
      · next ey => exact (decide_eq_false (by rw [ey]; exact Int.lt_irrefl _)).symm
      · rfl
    · rfl
theorem keyed_firsts {h : Heap} : ∀ {vs : List Value}, (∀ v ∈ vs, ∃ x y, IsKeyed h v x y) → ∃ fs : List Value, KatTups h vs fs ∧ fs.length = vs.length ∧ ∀ f ∈ fs, ∃ (q : Addr) (o : Obj), f = Value.ref q ∧ h.get? q = some o ∧ o.cls = .type "tuple"
  | [], _ => ⟨[], KatTups.nil, rfl, fun f hf => by simp at hf⟩
  | v :: vs, x => by
    obtain ⟨fs, k, hl, hi⟩ := keyed_firsts (vs := vs) fun u hu => x u (List.mem_cons_of_mem _ hu)
    obtain ⟨_, _, a, o, ka, ba, n, rfl, ho, hc, hd, a1, o1, t1, u1, n1, e1, ho1, hc1, hd1⟩ := x v (List.mem_cons_self ..)
    cases e1
    refine ⟨.ref ka :: fs, KatTups.cons ho hc hd rfl k, by rw [List.length_cons, List.length_cons, hl], fun f hf => ?_⟩
    rcases List.mem_cons.mp hf with rfl | hf
    · exact ⟨ka, o1, rfl, ho1, hc1⟩
    · exact hi f hf
theorem keyed_sortable {a : Addr} {vs : List Value} {k : Value → Int × Int} (h0 : 0 < vs.length) (hp : ∀ v ∈ vs, IsKeyed s.heap v (k v).1 (k v).2) (hn : ∀ v ∈ vs, ∀ u ∈ vs, k v = k u → v = u) (hu : A.units + 64 < cLine) (ha : ∀ o, s.heap.get? a = some o → o.cls ≠ .type "tuple") : SortableO prog w A s a vs fun v u => lexB (k v) (k u) := by
  intro h' keep
  have hp' : ∀ v ∈ vs, IsKeyed h' v (k v).1 (k v).2 := fun v hm => (hp v hm).keeps fun b o e c => keep b o (fun z => by subst z; exact ha o e c) e
  obtain ⟨fs, h1, h2, h3⟩ := keyed_firsts fun v hm => ⟨_, _, hp' v hm⟩
  refine ⟨tuples' false, fun Q E hq => ?_, keyed_cmp hp' hn hu⟩
  refine kat_kind (T := .type "tuple") h1 (by omega) (fun f hm => ?_) (by rfl) ?_
  · obtain ⟨q, o, rfl, ho, hc⟩ := h3 f hm
    have z : PySem.W.Looks (model prog w) h' (typeOf (.ref q)) o.cls := (PySem.W.Looks.ld ho).andThen .now
    rw [hc] at z
    exact z
  · have e : (Value.type "tuple" != Value.type "tuple") = false := by first | rfl | decide | simp
    rw [e]
    exact hq
end
section
open PySem.Spec PyProof.Rows
variable {X : Cx}
/-- sorted(xs): us tells the parts of each, by addresses: itself, the pair, the rest -/
def rSortK (K : PySem.W.Frag) : List V → Hp → VK → Prop := fun vs H Q => Wd (∃ (a : Addr) (us : List (Addr × (Int × Int))), vs = [V.ref a] ∧ SqL K H a (us.map fun u => V.ref u.1) ∧
  (∀ u ∈ us, ∃ ka ba, H u.1 = some (.tup [.ref ka, .ref ba]) ∧ H ka = some (.tup [.int u.2.1, .int u.2.2])) ∧ (us.map (·.2)).Nodup ∧ (us.map (·.1)).Nodup ∧
  ∀ (zs : List (Addr × (Int × Int))) (p : Addr), H p = none → zs.Perm us → (zs.map (·.2)).Pairwise (fun a b => SrtO.lexB b a = false) → Q (.ref p) (upd H p (.lst (zs.map fun u => V.ref u.1))))
def keyIn (us : List (Addr × (Int × Int))) : Value → Int × Int
  | .ref a => ((us.find? fun u => u.1 == a).map (·.2)).getD (0, 0)
  | _ => (0, 0)
theorem keyIn_at {us : List (Addr × (Int × Int))} {u : Addr × (Int × Int)} (hn : (us.map (·.1)).Nodup) (h : u ∈ us) : keyIn us (.ref u.1) = u.2 := by
  show ((us.find? fun v => v.1 == u.1).map (·.2)).getD (0, 0) = u.2
  induction us with
  | nil => cases h
  | cons v vs ih =>
    rw [List.map_cons, List.nodup_cons] at hn
    rw [List.find?_cons]
    rcases List.mem_cons.mp h with rfl | h
    · rw [beq_self_eq_true]
      rfl
    · have hv : (v.1 == u.1) = false := by
        rw [beq_eq_false_iff_ne]
        exact fun e => hn.1 (e ▸ List.mem_map.mpr ⟨u, h, rfl⟩)
      rw [hv]
      exact ih hn.2 h
theorem cr_sortedK (hu : X.A.units + 66 < cLine) : CallR X (.builtin "sorted") (rSortK X.K) := by
  intro pins s σ H vs ws Q I r h
  obtain ⟨a, us, rfl, hs, hx, hn2, hn1, q⟩ := h.ok
  obtain ⟨its, rv, hl, hz⟩ := I.list hs
  rw [Vals.ref1 r]
  have ei : its = us.map fun u => Value.ref u.1 := by
    clear hs hl hx hn1 hn2 q h hz
    induction us generalizing its with
    | nil => cases rv; rfl
    | cons u us ih =>
      cases rv with
      | cons r1 r2 =>
        rw [List.map_cons, ← ih _ r2]
        cases r1
        rfl
  have hmem : ∀ v ∈ its, ∃ u ∈ us, v = Value.ref u.1 := fun v hv => by
    rw [ei] at hv
    obtain ⟨u, hu, rfl⟩ := List.mem_map.mp hv
    exact ⟨u, hu, rfl⟩
  have keyed : ∀ v ∈ its, IsKeyed s.heap v (keyIn us v).1 (keyIn us v).2 := fun v hv => by
    obtain ⟨u, hum, rfl⟩ := hmem v hv
    rw [keyIn_at hn1 hum]
    obtain ⟨ka, ba, e1, e2⟩ := hx u hum
    obtain ⟨_, i2, rr, o, ho, hc, n, hd⟩ := I.hok _ _ e1
    obtain ⟨w1, w2, rfl, q1, q2⟩ := vals2 rr
    cases q1
    cases q2
    obtain ⟨_, i3, rr3, o3, ho3, hc3, n3, hd3⟩ := I.hok _ _ e2
    obtain ⟨w3, w4, rfl, q3, q4⟩ := vals2 rr3
    obtain ⟨t3, rfl⟩ := q3
    obtain ⟨t4, rfl⟩ := q4
    exact ⟨u.1, o, ka, ba, n, rfl, ho, hc, hd, ka, o3, t3, t4, n3, rfl, ho3, hc3, hd3⟩
  have inj : ∀ v ∈ its, ∀ u ∈ its, keyIn us v = keyIn us u → v = u := fun v hv u hv' e => by
    obtain ⟨x, hxm, rfl⟩ := hmem v hv
    obtain ⟨y, hym, rfl⟩ := hmem u hv'
    rw [keyIn_at hn1 hxm, keyIn_at hn1 hym] at e
    have := inj_of_nodup hn2 hxm hym e
    rw [this]
  refine SrtO.sorted_ord (SrtO.swo_lex (keyIn us)) hl.isList (by rw [← rv.length]; exact hz) (fun h2 h₁ b hb kk => ?_) fun out so sb => ?_
  · refine keyed_sortable (s := { s with heap := h₁ }) (by omega) (fun v hm => (keyed v hm).keeps fun b o e _ => (kk b o e).2) inj (by show X.A.in1.in1.units + 64 < cLine; have e1 : X.A.in1.in1.units ≤ X.A.units + 2 := Nat.le_refl _; omega) fun o e => ?_
    have e' : some o = some (seqObj "list" its.toArray 0) := e.symm.trans hb
    cases e'
    intro c
    exact absurd (Value.type.inj c) (by decide)
  · obtain ⟨zs, hzs, hperm⟩ : ∃ zs : List (Addr × (Int × Int)), out = zs.map (fun u => Value.ref u.1) ∧ zs.Perm us := by
      have hp := sb.perm
      rw [ei] at hp
      exact perm_map_back hp
    have hlen : (zs.map fun u => V.ref u.1).length ≤ sizeLine := by
      rw [List.length_map, hperm.length_eq]
      rw [List.length_map] at hz
      exact hz
    obtain ⟨n, hn⟩ := PyProof.Rows.sortedAll_at s.heap its out.toArray
    have hd : s.heap.objs.size ≤ s.heap.objs.size + 1 := Nat.le_succ _
    refine ⟨.ref (s.heap.objs.size + 1), _, I.laid (t' := s.toks) (o := .lst (zs.map fun u => V.ref u.1)) (fun b o e => PyProof.Rows.sortedAll_old e) hd ⟨hlen, out, n, ?_, hn⟩, rfl, q zs _ (I.hok.fresh hd) hperm ?_⟩
    · rw [hzs]
      clear hzs hperm hlen
      induction zs with
      | nil => exact .nil
      | cons z zs ih => exact .cons rfl ih
    · have so' : out.Pairwise fun v u => SrtO.lexB (keyIn us u) (keyIn us v) = false := so
      rw [hzs, List.pairwise_map] at so'
      rw [List.pairwise_map]
      refine List.Pairwise.imp_of_mem (fun {x y} hx' hy' e => ?_) so'
      rw [keyIn_at hn1 (hperm.mem_iff.mp hx'), keyIn_at hn1 (hperm.mem_iff.mp hy')] at e
      exact e
end

/-! ### lists as data -/
theorem depthAll_le {k : Nat} : ∀ {xs : List PyData}, (∀ x ∈ xs, x.depth ≤ k) → PyData.depthAll xs ≤ k
  | [], _ => by unfold PyData.depthAll; exact Nat.zero_le _
  | x :: xs, h => by
    unfold PyData.depthAll
    exact Nat.max_le.mpr ⟨h x List.mem_cons_self, depthAll_le fun y hy => h y (List.mem_cons_of_mem _ hy)⟩
theorem depth_list {k : Nat} {xs : List PyData} (h : ∀ x ∈ xs, x.depth ≤ k) : (PyData.list xs).depth ≤ k + 1 := by
  unfold PyData.depth
  exact Nat.succ_le_succ (depthAll_le h)
theorem plainAll_of : ∀ {xs : List PyData}, (∀ x ∈ xs, x.plain = true) → PyData.plainAll xs = true
  | [], _ => rfl
  | x :: xs, h => by
    unfold PyData.plainAll
    rw [h x List.mem_cons_self, plainAll_of fun y hy => h y (List.mem_cons_of_mem _ hy)]
    rfl
theorem dpAll_of {K : PySem.W.Frag} {H : Hp} {α : Type} {f : α → V} {g : α → PyData} : ∀ {l : List α}, (∀ x ∈ l, Dp K H (f x) (g x)) → DpAll K H (l.map f) (l.map g)
  | [], _ => .nil
  | x :: l, h => .cons (h x List.mem_cons_self) (dpAll_of fun y hy => h y (List.mem_cons_of_mem _ hy))
/-- a list whose items are data -/
structure DL (K : PySem.W.Frag) (H : Hp) (v : V) (d : PyData) (k : Nat) : Prop where
  dp : Dp K H v d
  pl : d.plain = true
  de : d.depth ≤ k
theorem dl_strs {K : PySem.W.Frag} {H : Hp} {p : Addr} {ns : List Str} (h : H p = some (.lst (ns.map V.str))) : DL K H (.ref p) (.list (ns.map PyData.str)) 1 :=
  ⟨.lst (SqL.of h) (dpAll_of fun x _ => .str x), by unfold PyData.plain; exact plainAll_of fun x hx => by obtain ⟨y, _, rfl⟩ := List.mem_map.mp hx; rfl, depth_list fun x hx => by obtain ⟨y, _, rfl⟩ := List.mem_map.mp hx; exact Nat.le_refl _⟩
def pairD (p : Int × Int) : PyData := .tuple [.int p.1, .int p.2]
theorem dpAll_pairs {K : PySem.W.Frag} {H : Hp} : ∀ {bs : List Addr} {ps : List (Int × Int)}, All2 (fun b q => H b = some (.tup [.int q.1, .int q.2])) bs ps → DpAll K H (bs.map V.ref) (ps.map pairD)
  | [], [], _ => .nil
  | [], _ :: _, h => by cases h.1
  | _ :: _, [], h => by cases h.1
  | b :: bs, p :: ps, h => .cons (.tup (SqT.of (h.2 0 b p rfl rfl)) (.cons (.int _) (.cons (.int _) .nil))) (dpAll_pairs ⟨by have := h.1; simpa using this, fun i x y hx hy => h.2 (i + 1) x y hx hy⟩)
theorem dl_pairs {K : PySem.W.Frag} {H : Hp} {p : Addr} {bs : List Addr} {ps : List (Int × Int)} (h : H p = some (.lst (bs.map V.ref))) (h2 : All2 (fun b q => H b = some (.tup [.int q.1, .int q.2])) bs ps) : DL K H (.ref p) (.list (ps.map pairD)) 2 :=
  ⟨.lst (SqL.of h) (dpAll_pairs h2), by unfold PyData.plain; exact plainAll_of fun x hx => by obtain ⟨y, _, rfl⟩ := List.mem_map.mp hx; rfl, depth_list fun x hx => by obtain ⟨y, _, rfl⟩ := List.mem_map.mp hx; exact Nat.le_of_ble_eq_true rfl⟩
theorem dl_list3 {K : PySem.W.Frag} {H : Hp} {p : Addr} {a b c : V} {da db dc : PyData} {k : Nat} (h : H p = some (.lst [a, b, c])) (ha : DL K H a da k) (hb : DL K H b db k) (hc : DL K H c dc k) : DL K H (.ref p) (.list [da, db, dc]) (k + 1) :=
  ⟨.lst (SqL.of h) (.cons ha.dp (.cons hb.dp (.cons hc.dp .nil))), by unfold PyData.plain PyData.plainAll PyData.plainAll PyData.plainAll PyData.plainAll; rw [ha.pl, hb.pl, hc.pl]; rfl, depth_list fun x hx => by
    simp only [List.mem_cons, List.not_mem_nil, or_false] at hx
    rcases hx with rfl | rfl | rfl
    · exact ha.de
    · exact hb.de
    · exact hc.de⟩
theorem ne_dl {K : PySem.W.Frag} {H : Hp} {x y : V} {d : PyData} {k : Nat} {Q : VK} (hx : DL K H x d k) (hy : DL K H y d k) (hk : k ≤ 64) (h : Q (.bl false) H) : rNeP K x y H Q := neP_same hx.dp hy.dp hx.pl (Nat.le_trans hx.de hk) h
theorem eq_dl {K : PySem.W.Frag} {H : Hp} {x y : V} {d : PyData} {k : Nat} {Q : VK} (hx : DL K H x d k) (hy : DL K H y d k) (hk : k ≤ 64) (h : Q (.bl true) H) : rEqP K x y H Q := eqP_same hx.dp hy.dp hx.pl (Nat.le_trans hx.de hk) h
def pdV : V → PyData
  | .int i => .int i
  | .str z => .str z
  | _ => .none
theorem dl_pl {K : PySem.W.Frag} {H : Hp} {v : V} (h : Pl v) : DL K H v (pdV v) 0 := by
  cases h with
  | int i => exact ⟨.int i, rfl, Nat.le_refl _⟩
  | str z => exact ⟨.str z, rfl, Nat.le_refl _⟩
  | non => exact ⟨.non, rfl, Nat.le_refl _⟩
theorem dl_ent {K : PySem.W.Frag} {H : Hp} {p : Addr} {kd nm : Str} {x : V} (h : H p = some (.tup [.str kd, .str nm, x])) (hx : Pl x) : DL K H (.ref p) (.tuple [.str kd, .str nm, pdV x]) 1 := by
  have d := dl_pl (K := K) (H := H) hx
  refine ⟨.tup (SqT.of h) (.cons (.str _) (.cons (.str _) (.cons d.dp .nil))), ?_, ?_⟩
  · unfold PyData.plain PyData.plainAll PyData.plainAll PyData.plainAll PyData.plainAll
    rw [d.pl]
    rfl
  · unfold PyData.depth
    refine Nat.succ_le_succ (depthAll_le fun y hy => ?_)
    simp only [List.mem_cons, List.not_mem_nil, or_false] at hy
    rcases hy with rfl | rfl | rfl
    · exact Nat.le_refl _
    · exact Nat.le_refl _
    · exact d.de
theorem All2.keep {H H' : Hp} {bs : List Addr} {ps : List (Int × Int)} (h : All2 (fun b q => H b = some (.tup [.int q.1, .int q.2])) bs ps) (s : Same H H') : All2 (fun b q => H' b = some (.tup [.int q.1, .int q.2])) bs ps := h.mono fun _ _ z => s _ _ z

/-! ### books of drawn entries -/
def keyN (es : List En) : Prop := (keysE es).Nodup
theorem fold_len : ∀ (es acc : List En), (es.foldl putE acc).length ≤ acc.length + es.length
  | [], acc => Nat.le_refl _
  | t :: es, acc => by
    have h := fold_len es (putE acc t)
    have h2 := len_putE (es := acc) (t := t)
    rw [List.foldl_cons, List.length_cons]
    omega
theorem atE_none {es : List En} {d n : Int} (h : ∀ u ∈ es, (u.d, u.n) ≠ (d, n)) : atE es d n = none := by
  unfold atE
  rw [List.find?_eq_none]
  intro u hu e
  exact h u hu (by rw [(isE_iff.mp e).1, (isE_iff.mp e).2])
theorem put_new {es : List En} {t : En} (h : ∀ u ∈ es, (u.d, u.n) ≠ (t.d, t.n)) : putE es t = es ++ [t] := by
  unfold putE
  rw [atE_none h]
  rfl
theorem fold_new : ∀ (es acc : List En), (keysE (acc ++ es)).Nodup → es.foldl putE acc = acc ++ es
  | [], acc, _ => by rw [List.foldl_nil, List.append_nil]
  | t :: es, acc, h => by
    have hn : ∀ u ∈ acc, (u.d, u.n) ≠ (t.d, t.n) := fun u hu e => by
      unfold keysE at h
      rw [List.map_append, List.nodup_append] at h
      exact h.2.2 _ (List.mem_map.mpr ⟨u, hu, rfl⟩) _ (List.mem_map.mpr ⟨t, List.mem_cons_self, rfl⟩) e
    rw [List.foldl_cons, put_new hn, fold_new es (acc ++ [t]) (by rw [List.append_assoc]; exact h), List.append_assoc]
    rfl
theorem inc_nodup {es : List En} (h : es.Pairwise ltE) : keyN es := by
  unfold keyN keysE List.Nodup
  rw [List.pairwise_map]
  refine h.imp fun {a b} z e => ?_
  unfold ltE at z
  have e1 := congrArg Prod.fst e
  have e2 := congrArg Prod.snd e
  simp only at e1 e2
  omega
def spBook (C : Addr) : Sp := fun vs H Q _ => ∃ (q : Addr) (ts : List Addr) (es : List En), vs = [.ref q] ∧ H q = some (.lst (ts.map V.ref)) ∧ All2 (Tri H) ts es ∧ EntsAt H es ∧ (∀ u ∈ es, EnOk u) ∧ (∀ u ∈ es, 0 ≤ u.d ∧ 0 ≤ u.n ∧ u.d ≤ 1000000 ∧ u.n ≤ 1000000) ∧ es.length < 900 ∧
  ∀ (b bd : Addr) (H' : Hp), Same H H' → H b = none → H bd = none → BookAt C H' b bd (es.foldl putE []) → Q (.ref b) H'
theorem same_mk2 {H : Hp} {x dx C : Addr} (hx : H x = none) (hd : H dx = none) : Same H (upd (upd H dx (.own x)) x (.ins C dx [])) := fun b o e => by
  rw [upd_ne (ne_of_none e hx), upd_ne (ne_of_none e hd)]
  exact e
section
variable {P : Program} {w : World} {K : PySem.W.Frag} {mg : Str → Option Value} {base : Heap} {A : Ad}
theorem own_get (T : Txt K mg A) : OwnM K A.Book A.m_Book_getitem "__getitem__" := ⟨T.m_Book___getitem__.at_, T.m_Book___getitem__.fn⟩
theorem own_set (T : Txt K mg A) : OwnM K A.Book A.m_Book_setitem "__setitem__" := ⟨T.m_Book___setitem__.at_, T.m_Book___setitem__.fn⟩
theorem ok_l_book (T : Txt K mg A) : FnOk P w K mg base CX0 9 A.l_book A.fd_l_book P_l_book (spBook A.Book) := by
  refine T.F_l_book.ok sc_l_book (fun vs H Q E h => ?_) (fun cdv Ar outer s H vs Q E hr h => ?_)
  · obtain ⟨q, ts, es, rfl, _⟩ := h
    rfl
  · obtain ⟨q, ts, es, rfl, hq, hT, hE, hok, hrg, hz, k⟩ := h
    refine ⟨_, (pss_cons (ps_set (i := 1) sc_l_book.nd rfl (Or.inl rfl) (pe_make0 T.mk_Book (ok_m_Book_init T) (hr.mono (by decide)) (by rfl) T.g_Book T.b_m_Book_init .nil pass0))
      (pss_cons (ps_g (ps_for PassesOwn.never rfl (pi_list (pv 0)) (pg_tup (n := 3) rfl (pgs_cons (pg_name (i := 2) sc_l_book.nd rfl (Or.inl rfl)) (pgs_cons (pg_name (i := 3) sc_l_book.nd rfl (Or.inl rfl)) (pgs_cons (pg_name (i := 4) sc_l_book.nd rfl (Or.inl rfl)) pgs_nil)))) (pss_one (ps_ownSet (E := fun _ => E0) (own_set T) T.nsq_Book (ok_m_Book_setitem T) (hr.mono (by decide)) T.b_m_Book_setitem (passAll passL) (pv 1) (pe_tup (pa_cons (pv 2) (pa_cons (pv 3) pa_nil))) (pv 4) rfl))))
      (pss_one (ps_ret (pv 1))))), ?_⟩
    refine fun b dx hb hdx ndx => ⟨b, dx, rfl, upd_same, fun bd hbd => ⟨rfl, ?_⟩⟩
    have u1 := same_mk2 (C := A.Book) hb hdx
    have nbb : bd ≠ b := fun e => by rw [e, upd_same] at hbd; cases hbd
    have fbd : H bd = none := Same.none u1 hbd
    have S7 : Same H (upd (upd (upd (upd H dx (.own b)) b (.ins A.Book dx [])) bd (.dT [])) b (.ins A.Book dx [("entries", .ref bd)])) := Same.at_new hb (u1.trans (Same.new hbd))
    have b7 : BookAt A.Book (upd (upd (upd (upd H dx (.own b)) b (.ins A.Book dx [])) bd (.dT [])) b (.ins A.Book dx [("entries", .ref bd)])) b bd [] := ⟨⟨dx, upd_same⟩, by rw [upd_ne nbb, upd_same]; rfl⟩
    generalize upd (upd (upd (upd H dx (.own b)) b (.ins A.Book dx [])) bd (.dT [])) b (.ins A.Book dx [("entries", .ref bd)]) = H7 at S7 b7 ⊢
    refine ⟨⟨_, rfl, q, rfl, ⟨_, SqL.of (S7 _ _ hq)⟩, for_list (xs := ts.map V.ref) (fun i σ' H' => Wd (∃ o2 o3 o4 : Option V, σ' = [some (.ref q), some (.ref b), o2, o3, o4] ∧ Same H H' ∧ BookAt A.Book H' b bd ((es.take i).foldl putE []))) ⟨none, none, none, rfl, S7, b7⟩ ?_ ?_ ?_⟩⟩
    · rintro i σ' H' _ ⟨o2, o3, o4, rfl, s8, _⟩
      exact SqL.of (s8 _ _ hq)
    · rintro i x σ' H' hx ⟨o2, o3, o4, rfl, s8, B8⟩
      rw [List.getElem?_map] at hx
      obtain ⟨t, ht, rfl⟩ := Option.map_eq_some_iff.mp hx
      obtain ⟨u, hu, htu⟩ := hT.get ht
      have hum := List.mem_of_getElem? hu
      have ht8 : H' t = some (.tup [.int u.d, .int u.n, .ref u.e]) := s8 _ _ htu
      obtain ⟨ok1, ok2, ok3, ok4⟩ := hok u hum
      have hr4 := hrg u hum
      refine ⟨t, _, rfl, SqT.of ht8, rfl, _, _, rfl, _, _, rfl, _, _, rfl, rfl, ?_⟩
      obtain ⟨⟨dx2, hb8⟩, hd8⟩ := B8
      refine ⟨_, rfl, _, rfl, _, rfl, _, rfl, (by show 2 ≤ sizeLine; decide), fun r hr' => ?_⟩
      have sr := Same.new (o := .tup [V.int u.d, .int u.n]) hr'
      have hel : ((es.take i).foldl putE []).length < 1000 := by
        have := fold_len (es.take i) []
        rw [List.length_take] at this
        simp only [List.length_nil] at this
        omega
      have e8 : H' u.e = some (.tup [.str u.kd, .str u.nm, u.x]) := s8 _ _ (hE u hum)
      refine ⟨b, dx2, _, rfl, sr _ _ hb8, b, bd, r, _, .int u.d, .int u.n, .ref u.e, true, rfl, ⟨⟨dx2, sr _ _ hb8⟩, sr _ _ hd8⟩, hel, upd_same, .inl (.int _), .inl (.int _), .inl ⟨.str u.kd, .str u.nm, u.x, ⟨u.e, rfl, sr _ _ e8, .str _, .str _, ok2, ok3, ok4⟩, ok1.symm⟩, fun d' n' e1 e2 _ Hg sg => ?_, fun e => ?_⟩
      · obtain rfl := V.int.inj e1
        obtain rfl := V.int.inj e2
        refine ⟨_, _, _, rfl, ?_, ⟨dx2, ?_⟩, ?_⟩
        · exact fun c o ec => by
            rw [upd_ne (ne_of_none ec fbd)]
            exact sg _ _ (sr _ _ (s8 _ _ ec))
        · rw [upd_ne (ne_of (sg _ _ (sr _ _ hb8)) (sg _ _ (sr _ _ hd8)) (by intro z; cases z))]
          exact sg _ _ (sr _ _ hb8)
        · rw [upd_same, put_kvE (t := u), take_more hu, List.foldl_append]
          rfl
      · have en : (numV 0 (.int u.d) && (numV 0 (.int u.n) && true)) = true := by
          show ((decide (0 ≤ u.d) && decide (u.d ≤ 1000000)) && ((decide (0 ≤ u.n) && decide (u.n ≤ 1000000)) && true)) = true
          rw [decide_eq_true hr4.1, decide_eq_true hr4.2.2.1, decide_eq_true hr4.2.1, decide_eq_true hr4.2.2.2]
          rfl
        rw [en] at e
        cases e
    · rintro σ' H' ⟨o2, o3, o4, rfl, s8, B8⟩
      rw [List.length_map, hT.1, List.take_of_length_le (Nat.le_refl _)] at B8
      exact ⟨_, rfl, k b bd H' s8 hb fbd B8⟩
end

/-! ### what a book holds, in order -/
def leEn (a b : En) : Bool := leK (a.d, a.n) (b.d, b.n)
def srtE (es : List En) : List En := es.mergeSort leEn
theorem leEn_trans (a b c : En) (h1 : leEn a b = true) (h2 : leEn b c = true) : leEn a c = true := by
  unfold leEn at *
  rw [leK_iff] at *
  simp only at *
  omega
theorem leEn_total (a b : En) : (leEn a b || leEn b a) = true := by
  unfold leEn
  rw [Bool.or_eq_true, leK_iff, leK_iff]
  simp only
  omega
theorem srtE_perm (es : List En) : (srtE es).Perm es := List.mergeSort_perm _ _
theorem srtE_sorted (es : List En) : (srtE es).Pairwise fun a b => leEn a b = true := List.pairwise_mergeSort leEn_trans leEn_total es
theorem en_inj {es : List En} (hn : keyN es) {a b : En} (ha : a ∈ es) (hb : b ∈ es) (h : (a.d, a.n) = (b.d, b.n)) : a = b := inj_of_nodup hn ha hb h
theorem srtE_uniq {es l : List En} (hn : keyN es) (h : l.Perm es) (hs : l.Pairwise fun a b => leEn a b = true) : l = srtE es := by
  refine List.Perm.eq_of_pairwise (le := fun a b => leEn a b = true) (fun a b ha hb h1 h2 => ?_) hs (srtE_sorted es) (h.trans (srtE_perm es).symm)
  refine en_inj hn (h.mem_iff.mp ha) ((srtE_perm es).mem_iff.mp hb) ?_
  unfold leEn at h1 h2
  rw [leK_iff] at h1 h2
  simp only at h1 h2
  exact Prod.ext (by simp only; omega) (by simp only; omega)
theorem srtK_srtE {es : List En} : srtK es = (srtE es).map fun t => (t.d, t.n) := by
  refine (srtK_uniq (es := es) ((srtE_perm es).map _) ?_).symm
  rw [List.pairwise_map]
  refine (srtE_sorted es).imp fun {a b} h => ?_
  unfold leEn leK at h
  rw [Bool.not_eq_true'] at h
  exact h
theorem atE_self {es : List En} (hn : keyN es) {t : En} (ht : t ∈ es) : atE es t.d t.n = some t := by
  obtain ⟨u, hu⟩ := atE_mem ht
  obtain ⟨hm, e1, e2⟩ := atE_some hu
  rw [hu, en_inj hn hm ht (by rw [e1, e2])]
/-- the list at p: pairs of a place and its entry -/
def KeptAt (H : Hp) (p : Addr) (us : List (Addr × Addr × En)) : Prop := H p = some (.lst (us.map fun u => V.ref u.1)) ∧ ∀ u ∈ us, H u.1 = some (.tup [.ref u.2.1, .ref u.2.2.e]) ∧ H u.2.1 = some (.tup [.int u.2.2.d, .int u.2.2.n])
def entD (u : En) : PyData := .tuple [.str u.kd, .str u.nm, pdV u.x]
def itemD (u : En) : PyData := .tuple [pairD (u.d, u.n), entD u]
theorem dl_kept {K : PySem.W.Frag} {H : Hp} {p : Addr} {us : List (Addr × Addr × En)} (h : KeptAt H p us) (hE : EntsAt H (us.map fun u => u.2.2)) (hx : ∀ u ∈ us, Pl u.2.2.x) : DL K H (.ref p) (.list ((us.map fun u => u.2.2).map itemD)) 3 := by
  have one : ∀ u ∈ us, DL K H (.ref u.1) (itemD u.2.2) 2 := fun u hu => by
    have e := dl_ent (K := K) (hE u.2.2 (List.mem_map.mpr ⟨u, hu, rfl⟩)) (hx u hu)
    refine ⟨.tup (SqT.of (h.2 u hu).1) (.cons (.tup (SqT.of (h.2 u hu).2) (.cons (.int _) (.cons (.int _) .nil))) (.cons e.dp .nil)), ?_, ?_⟩
    · unfold itemD PyData.plain PyData.plainAll PyData.plainAll PyData.plainAll
      unfold entD
      rw [e.pl]
      rfl
    · unfold itemD PyData.depth
      refine Nat.succ_le_succ (depthAll_le fun y hy => ?_)
      simp only [List.mem_cons, List.not_mem_nil, or_false] at hy
      rcases hy with rfl | rfl
      · exact Nat.le_of_ble_eq_true rfl
      · exact e.de
  rw [List.map_map]
  refine ⟨.lst (SqL.of h.1) (dpAll_of fun u hu => (one u hu).dp), ?_, depth_list fun y hy => ?_⟩
  · unfold PyData.plain
    refine plainAll_of fun y hy => ?_
    obtain ⟨u, hu, rfl⟩ := List.mem_map.mp hy
    exact (one u hu).pl
  · obtain ⟨u, hu, rfl⟩ := List.mem_map.mp hy
    exact (one u hu).de
def spKept (C : Addr) : Sp := fun vs H Q _ => ∃ b bd es, vs = [.ref b] ∧ BookAt C H b bd es ∧ keyN es ∧ es.length < 1000 ∧ ∀ p us H', Same H H' → H p = none → KeptAt H' p us → us.map (fun u => u.2.2) = srtE es → Q (.ref p) H'
theorem pick_list {α : Type} {R : Nat → α → Prop} {n : Nat} (h : ∀ i, i < n → ∃ x, R i x) : ∃ xs : List α, xs.length = n ∧ ∀ i x, xs[i]? = some x → R i x := by
  induction n with
  | zero => exact ⟨[], rfl, fun i x z => by cases z⟩
  | succ n ih =>
    obtain ⟨xs, hl, hx⟩ := ih fun i hi => h i (Nat.lt_succ_of_lt hi)
    obtain ⟨x, hxn⟩ := h n (Nat.lt_succ_self n)
    refine ⟨xs ++ [x], by rw [List.length_append, hl]; rfl, fun i y hy => ?_⟩
    rw [List.getElem?_append] at hy
    split at hy
    · exact hx i y hy
    · have hi : i - xs.length = 0 := by
        cases e : i - xs.length with
        | zero => rfl
        | succ m => rw [e] at hy; cases hy
      rw [hi] at hy
      cases hy
      have : i = n := by omega
      rw [this]
      exact hxn
section
variable {P : Program} {w : World} {K : PySem.W.Frag} {mg : Str → Option Value} {base : Heap} {A : Ad}
theorem ok_l_kept (T : Txt K mg A) : FnOk P w K mg base CX0 9 A.l_kept A.fd_l_kept P_l_kept (spKept A.Book) := by
  refine T.F_l_kept.ok sc_l_kept (fun vs H Q E h => ?_) (fun cdv Ar outer s H vs Q E hr h => ?_)
  · obtain ⟨b, bd, es, rfl, _⟩ := h
    rfl
  · obtain ⟨b, bd, es, rfl, B, hn, hz, k⟩ := h
    refine ⟨_, (pss_one (ps_ret (pe_g (pe_lcV (own := [("_law_spot", 1)]) rfl sc_l_kept.nd (pi_list (pe_meth0 (pv 0) T.cl_Book T.m_Book_places (ok_m_Book_places T) (hr.mono (by decide)) T.b_m_Book_places .nil pass0)) (blkOk_by (own := [("_law_spot", 1)]) (N := N_l_kept) (sc := defScope s_l_kept) (by decide +kernel)) (fun _ _ _ _ _ => (pg_name (i := 1) sc_l_kept.nd rfl (Or.inl rfl))) (fun _ _ _ _ _ => pts_nil) (fun _ _ _ _ _ => (pe_tup (pa_cons (pv 1) (pa_cons (pe_ownIx (E := fun _ => E0) (own_get T) T.fgi_Book (ok_m_Book_getitem T) (hr.mono (by decide)) T.b_m_Book_getitem (passAll passL) (pv 0) (pe_tup (pa_cons (pe_ix ix_tup (pv 1) pe_int (fun _ _ => rfl)) (pa_cons (pe_ix ix_tup (pv 1) pe_int (fun _ _ => rfl)) pa_nil)))) pa_nil)))) (fun _ _ _ _ _ => rfl) (fun _ _ _ _ _ => rfl) (fun _ _ _ _ _ => rfl))))), ?_⟩
    obtain ⟨⟨dx, hb⟩, hd⟩ := id B
    refine ⟨⟨_, rfl, b, dx, _, rfl, hb, rfl, b, bd, es, rfl, B, fun bs q hq h2 => ?_⟩⟩
    have s1 := Same.new (o := .lst (bs.map V.ref)) hq
    have hlen : bs.length = es.length := by rw [h2.1, len_srtK]
    refine ⟨q, rfl, ⟨_, SqL.of upd_same⟩, fun D hD => ?_⟩
    refine lc_sameP (fun i y H' => ∃ (a ka : Addr) (u : En), y = V.ref a ∧ (srtE es)[i]? = some u ∧ H' a = some (.tup [.ref ka, .ref u.e]) ∧ H' ka = some (.tup [.int u.d, .int u.n])) upd_same (by rw [List.length_map, hlen]; omega) hD (fun i y G G' acc hDl kp ⟨a, ka, u, e1, e2, e3, e4⟩ => ⟨a, ka, u, e1, e2, kp _ _ e3 (ne_of e3 hDl (by intro z; cases z)), kp _ _ e4 (ne_of e4 hDl (by intro z; cases z))⟩) ?_ ?_
    · intro i x H' N M hx s' hN
      rw [List.getElem?_map] at hx
      obtain ⟨t, ht, rfl⟩ := Option.map_eq_some_iff.mp hx
      obtain ⟨y, hy, hty⟩ := h2.get ht
      have ht' : H' t = some (.tup [.int y.1, .int y.2]) := (s1.trans s') _ _ hty
      rw [srtK_srtE, List.getElem?_map] at hy
      obtain ⟨u, hu, rfl⟩ := Option.map_eq_some_iff.mp hy
      have hum : u ∈ es := (srtE_perm es).mem_iff.mp (List.mem_of_getElem? hu)
      have sA := s1.trans s'
      refine ⟨rfl, _, rfl, _, rfl, _, rfl, t, _, _, _, rfl, rfl, SqT.of ht', rfl, _, rfl, t, _, _, _, rfl, rfl, SqT.of ht', rfl, (by show 2 ≤ sizeLine; decide), fun r hr' => ?_⟩
      have sr := Same.new (o := .tup [V.int u.d, .int u.n]) hr'
      refine ⟨b, dx, _, rfl, sr _ _ (sA _ _ hb), b, bd, r, es, u.d, u.n, rfl, (B.same sA).same sr, upd_same, (fun v ev => ?_), fun ev => ?_⟩
      · rw [atE_self hn hum] at ev
        cases ev
        refine ⟨(by show 2 ≤ sizeLine; decide), fun z hz' => ?_⟩
        have sz := Same.new (o := .tup [V.ref t, .ref u.e]) hz'
        exact hN _ _ (sr.trans sz) ⟨z, t, u, rfl, hu, upd_same, sz _ _ (sr _ _ ht')⟩
      · rw [atE_self hn hum] at ev
        cases ev
    · intro ys H' s' hyl hR hD'
      rw [List.length_map, hlen] at hyl
      obtain ⟨us, hul, hus⟩ := pick_list (n := es.length) (R := fun i (x : Addr × Addr × En) => ys[i]? = some (.ref x.1) ∧ (srtE es)[i]? = some x.2.2 ∧ H' x.1 = some (.tup [.ref x.2.1, .ref x.2.2.e]) ∧ H' x.2.1 = some (.tup [.int x.2.2.d, .int x.2.2.n])) fun i hi => by
        obtain ⟨a, ka, u, e1, e2, e3, e4⟩ := hR i ys[i] (List.getElem?_eq_getElem (by omega))
        exact ⟨(a, ka, u), by rw [← e1]; exact List.getElem?_eq_getElem (by omega), e2, e3, e4⟩
      have ey : ys = us.map fun u => V.ref u.1 := by
        apply List.ext_getElem?
        intro i
        rw [List.getElem?_map]
        by_cases hi : i < us.length
        · rw [List.getElem?_eq_getElem hi, (hus i _ (List.getElem?_eq_getElem hi)).1]
          rfl
        · rw [List.getElem?_eq_none (by omega), List.getElem?_eq_none (by omega)]
          rfl
      have eu : us.map (fun u => u.2.2) = srtE es := by
        have hsl : (srtE es).length = es.length := (srtE_perm es).length_eq
        apply List.ext_getElem?
        intro i
        rw [List.getElem?_map]
        by_cases hi : i < us.length
        · rw [List.getElem?_eq_getElem hi, (hus i _ (List.getElem?_eq_getElem hi)).2.1]
          rfl
        · rw [List.getElem?_eq_none (by omega), List.getElem?_eq_none (by omega)]
          rfl
      rw [ey] at hD'
      refine k D us H' (s1.trans s') (Same.none s1 hD) ⟨hD', fun u hu => ?_⟩ eu
      obtain ⟨i, hi⟩ := List.mem_iff_getElem?.mp hu
      exact (hus i u hi).2.2
end

/-! ### wrong entries -/
section
open PySem.Spec PyProof.Rows
variable {X : Cx}
/-- 'm' * 12, 'm' * 13 -/
theorem op_mulm : OpR X (binaryOp .Mult) (fun x y H Q => x = .str "m" ∧ ((y = .int 12 ∧ Q (.str "mmmmmmmmmmmm") H) ∨ (y = .int 13 ∧ Q (.str "mmmmmmmmmmmmm") H))) := by
  intro pins s σ H x y v u Q I rx ry h
  obtain ⟨rfl, h⟩ := h
  obtain ⟨t, rfl⟩ := rx
  rcases h with ⟨rfl, q⟩ | ⟨rfl, q⟩
  · obtain ⟨t', rfl⟩ := ry
    exact PySem.P.mul_str (by decide) (fun _ _ => by decide) (fun _ _ => by decide) ⟨by decide, .str "mmmmmmmmmmmm", H, I.tok _, ⟨_, rfl⟩, q⟩
  · obtain ⟨t', rfl⟩ := ry
    exact PySem.P.mul_str (by decide) (fun _ _ => by decide) (fun _ _ => by decide) ⟨by decide, .str "mmmmmmmmmmmmm", H, I.tok _, ⟨_, rfl⟩, q⟩
end
theorem EntTup.same {H H' : Hp} {v v0 v1 v2 : V} (h : EntTup H v v0 v1 v2) (s : Same H H') : EntTup H' v v0 v1 v2 := by
  obtain ⟨p, e, hp, r⟩ := h
  exact ⟨p, e, s _ _ hp, r⟩
theorem NoEnt.same {H H' : Hp} {v : V} (h : NoEnt H v) (s : Same H H') : NoEnt H' v := by
  rcases h with h | ⟨p, xs, e, h | h⟩
  · exact .inl h
  · exact .inr ⟨p, xs, e, .inl (s _ _ h)⟩
  · exact .inr ⟨p, xs, e, .inr ⟨s _ _ h.1, h.2⟩⟩
theorem SetOk.same {H H' : Hp} {v : V} {ok : Bool} (h : SetOk H v ok) (s : Same H H') : SetOk H' v ok := by
  rcases h with ⟨v0, v1, v2, h, e⟩ | ⟨h, e⟩
  · exact .inl ⟨v0, v1, v2, h.same s, e⟩
  · exact .inr ⟨h.same s, e⟩
theorem Pn.same {H H' : Hp} {v : V} (h : Pn H v) (s : Same H H') : Pn H' v := by
  rcases h with h | ⟨p, xs, e, h⟩
  · exact .inl h
  · exact .inr ⟨p, xs, e, s _ _ h⟩
def spRefused (K : PySem.W.Frag) (C : Addr) : Sp := fun vs H Q _ => ∃ b bd es vd vn v ok dd dn, vs = [.ref b, vd, vn, v] ∧ BookAt C H b bd es ∧ es.length < 1000 ∧ Pn H vd ∧ Pn H vn ∧ (∀ H', Same H H' → DL K H' vd dd 3) ∧ (∀ H', Same H H' → DL K H' vn dn 3) ∧ SetOk H v ok ∧
  ((numV 0 vd && (numV 0 vn && ok)) = false → ∀ H', Same H H' → Q (.bl true) H') ∧ (∀ d n, vd = .int d → vn = .int n → (numV 0 vd && (numV 0 vn && ok)) = true → ∀ H', Same H H' → Q (.bl false) (upd H' bd (.dT (putK (kvE es) (keyE d n) v))))
theorem dl_two {K : PySem.W.Frag} {H : Hp} {p : Addr} {a b : V} {da db : PyData} {k : Nat} (h : H p = some (.tup [a, b])) (ha : DL K H a da k) (hb : DL K H b db k) : DL K H (.ref p) (.tuple [da, db]) (k + 1) := by
  refine ⟨.tup (SqT.of h) (.cons ha.dp (.cons hb.dp .nil)), by unfold PyData.plain PyData.plainAll PyData.plainAll PyData.plainAll; rw [ha.pl, hb.pl]; rfl, ?_⟩
  unfold PyData.depth
  refine Nat.succ_le_succ (depthAll_le fun x hx => ?_)
  simp only [List.mem_cons, List.not_mem_nil, or_false] at hx
  rcases hx with rfl | rfl
  · exact ha.de
  · exact hb.de
section
variable {P : Program} {w : World} {K : PySem.W.Frag} {mg : Str → Option Value} {base : Heap} {A : Ad}
theorem xf_BadEntry (T : Txt K mg A) : XfC K A.BadEntry := ⟨T.xg_BadEntry, T.xk_BadEntry, T.eb_BadEntry, T.eh_BadEntry⟩
theorem excC_BadEntry (T : Txt K mg A) : ExcC K A.BadEntry := ⟨T.xg_BadEntry, T.xk_BadEntry, T.eb_BadEntry, T.eh_BadEntry, T.xa_BadEntry, T.xn_BadEntry, T.xt_BadEntry, T.xm_BadEntry⟩
theorem exm_BadEntry (T : Txt K mg A) : PySem.W.exmOne K (.ref A.BadEntry) (.ref A.BadEntry) = some true := PySem.W.exm_ref T.eb_BadEntry T.eh_BadEntry T.et_BadEntry T.es_BadEntry
theorem ok_l_refused (T : Txt K mg A) : FnOk P w K mg base CX0 9 A.l_refused A.fd_l_refused P_l_refused (spRefused K A.Book) := by
  refine T.F_l_refused.ok sc_l_refused (fun vs H Q E h => ?_) (fun cdv Ar outer s H vs Q E hr h => ?_)
  · obtain ⟨b, bd, es, vd, vn, v, ok, dd, dn, rfl, _⟩ := h
    rfl
  · obtain ⟨b, bd, es, vd, vn, v, ok, dd, dn, rfl, B, hz, p1, p2, d1, d2, hok, k1, k2⟩ := h
    refine ⟨_, (pss_cons (ps_tryV (i := 4) rfl rfl sc_l_refused.nd rfl rfl ⟨by rfl, by decide, .inl T.g_BadEntry⟩ takes0 (fun W pn xe tk _ => (pss_one (ps_ownSet (own_set T) T.nsq_Book (ok_m_Book_setitem T) (hr.mono (by decide)) T.b_m_Book_setitem (fun σ => passAt tk σ) (pv 0) (pe_tup (pa_cons (pv 1) (pa_cons (pv 2) pa_nil))) (pv 3) rfl))) (fun a oe cls d pn hz hf => (pss_one (ps_ret (pe_and (pe_cmpR (op_eqP hr.units) (pe_tup (pa_cons (pe_xf (xf_BadEntry T) T.n_BadEntry_day hz hf (pv 4)) (pa_cons (pe_xf (xf_BadEntry T) T.n_BadEntry_number hz hf (pv 4)) pa_nil))) (pe_tup (pa_cons (pv 1) (pa_cons (pv 2) pa_nil))) (nomark _)) (pe_one (pe_callB (call_isEW hz hf) (by rfl) T.z_isinstance (by decide +kernel) (pa_cons (pv 4) (pa_cons (pe_glob (v := .ref A.CostError) (by rfl) T.g_CostError rfl) pa_nil)))))))) (fun _ _ _ => rfl) (fun _ _ _ _ _ => rfl))
      (pss_one (ps_ret pe_bl))), ?_⟩
    obtain ⟨⟨dx, hb⟩, hd⟩ := id B
    refine ⟨_, rfl, _, rfl, _, rfl, _, rfl, (by show 2 ≤ sizeLine; decide), fun r hr' => ?_⟩
    have sr := Same.new (o := .tup [vd, vn]) hr'
    refine ⟨b, dx, _, rfl, sr _ _ hb, b, bd, r, es, vd, vn, v, ok, rfl, B.same sr, hz, upd_same, p1.same sr, p2.same sr, hok.same sr, fun d n e1 e2 ee H' s' => ?_, fun ee x H' s' hx => ?_⟩
    · exact k2 d n e1 e2 ee H' (sr.trans s')
    · have sm := sr.trans s'
      refine ⟨true, exm_BadEntry T, fun _ a _ => ?_, fun q => nomatch q⟩
      refine ⟨_, rfl, rfl, rfl, x, _, _, rfl, hx, rfl, _, rfl, rfl, rfl, x, _, _, rfl, hx, rfl, (by show 2 ≤ sizeLine; decide), fun q hq => ?_⟩
      have sq := Same.new (o := .tup [vd, vn]) hq
      refine ⟨_, rfl, _, rfl, (by show 2 ≤ sizeLine; decide), fun q2 hq2 => ?_⟩
      have sq2 := Same.new (o := .tup [vd, vn]) hq2
      have sA := sm.trans (sq.trans sq2)
      refine eq_dl (k := 4) (dl_two (sq2 _ _ upd_same) (d1 _ sA) (d2 _ sA)) (dl_two upd_same (d1 _ sA) (d2 _ sA)) (by decide) ⟨_, rfl, iteT ?_⟩
      exact ⟨_, rfl, A.BadEntry, x, _, _, _, _, rfl, rfl, (sq.trans sq2) _ _ hx, excC_BadEntry T, rfl, fun _ r => r, T.xc_BadEntry, k1 ee _ sA⟩
end

theorem all_split {l1 l2 : List Nat} {c : Nat} (hc : c ∉ lettersZ.cps.toList) : nameL (l1 ++ [c] ++ l2) = false := by
  unfold nameL
  have : ((l1 ++ [c] ++ l2).all fun c => decide (c ∈ lettersZ.cps.toList)) = false := by
    rw [List.all_eq_false]
    exact ⟨c, by simp, by simpa using hc⟩
  rw [this, Bool.and_false, Bool.and_false]
theorem sign_at {c : Int} (h0 : 0 ≤ c) (h5 : c < 5) : ∃ z : Nat, atI (" -1A_" : Str).cps.toList c = some z ∧ z ∉ lettersZ.cps.toList := by
  have : c = 0 ∨ c = 1 ∨ c = 2 ∨ c = 3 ∨ c = 4 := by omega
  rcases this with rfl | rfl | rfl | rfl | rfl
  · exact ⟨32, by decide +kernel, by decide +kernel⟩
  · exact ⟨45, by decide +kernel, by decide +kernel⟩
  · exact ⟨49, by decide +kernel, by decide +kernel⟩
  · exact ⟨65, by decide +kernel, by decide +kernel⟩
  · exact ⟨95, by decide +kernel, by decide +kernel⟩
def Wrong (v : V) : Prop := Pl v ∧ shortV v ∧ nameV v = false
def spWrongName : Sp := fun vs H Q _ => ∃ (g l : Addr) (z : List Nat), vs = [.ref g, vS z] ∧ Bag H g l ∧ z.length ≤ 900 ∧ ∀ (v : V) (H' : Hp), Wrong v → Bag H' g l → Kp g H H' → Q v H'
section
variable {P : Program} {w : World} {K : PySem.W.Frag} {mg : Str → Option Value} {base : Heap} {A : Ad}
theorem ok_l_wrong_name (T : Txt K mg A) : FnOk P w K mg base CX0 2 A.l_wrong_name A.fd_l_wrong_name P_l_wrong_name spWrongName := by
  refine T.F_l_wrong_name.ok sc_l_wrong_name (fun vs H Q E h => ?_) (fun cdv Ar outer s H vs Q E hr h => ?_)
  · obtain ⟨g, l, z, rfl, _⟩ := h
    rfl
  · obtain ⟨g, l, z, rfl, B, hz, k⟩ := h
    refine ⟨_, (pss_cons (ps_set (i := 2) sc_l_wrong_name.nd rfl (Or.inl rfl) (pe_call (ok_l_draw T) (hr.mono (by decide)) (by rfl) T.g__law_draw T.F_l_draw.kp T.b_l_draw .nil pass0 (pa_cons (pv 0) (pa_cons (pe_op op_add (pe_callB (call_len_str) (by rfl) T.z_len (by decide +kernel) (pa_cons (pv 1) pa_nil)) pe_int) pa_nil))))
      (pss_cons (ps_set (i := 3) sc_l_wrong_name.nd rfl (Or.inl rfl) (pe_ix ix_str pe_str (pe_call (ok_l_draw T) (hr.mono (by decide)) (by rfl) T.g__law_draw T.F_l_draw.kp T.b_l_draw .nil pass0 (pa_cons (pv 0) (pa_cons pe_int pa_nil))) (fun _ _ => rfl)))
      (pss_one (ps_ret (pe_ix ix_list (pe_lst (pa_cons (pe_op op_add_str (pe_op op_add_str (pe_slice sl_str (pv 1) po_none (po_some (pv 2))) (pv 3)) (pe_slice sl_str (pv 1) (po_some (pv 2)) po_none)) (pa_cons pe_str (pa_cons (pe_op op_mulm pe_str pe_int) (pa_cons (pv 3) (pa_cons pe_int (pa_cons pe_non pa_nil))))))) (pe_call (ok_l_draw T) (hr.mono (by decide)) (by rfl) T.g__law_draw T.F_l_draw.kp T.b_l_draw .nil pass0 (pa_cons (pv 0) (pa_cons pe_int pa_nil))) (fun _ _ => rfl)))))), ?_⟩
    have sl : ∀ l : List Nat, l.length ≤ 1000 → (SX.S l).length ≤ sizeLine := fun l h => by
      rw [SX.S_len]
      exact Nat.le_trans h (by decide)
    have hlen : (SX.S z).length = z.length := SX.S_len z
    refine ⟨_, rfl, _, rfl, _, rfl, sl z (by omega), _, _, rfl, rfl, g, l, _, rfl, B, by omega, lt_pow (a := 12) (by omega) (by decide), fun sp H1 sp0 sp1 B1 K1 => ?_⟩
    rw [hlen] at sp1
    refine ⟨_, rfl, g, l, _, rfl, B1, by decide, by decide, fun c H2 c0 c1 B2 K2 => ?_⟩
    obtain ⟨sg, hsg, hno⟩ := sign_at c0 c1
    refine ⟨_, _, sg, rfl, rfl, (by decide : (" -1A_" : Str).length ≤ sizeLine), hsg, ?_⟩
    refine ⟨_, rfl, _, rfl, sp, rfl, _, rfl, sl z (by omega), ?_⟩
    have c1' : cutS (SX.S z) none (some sp) = SX.S (z.take sp.toNat) := cut_to sp0 (by omega)
    have c2' : cutS (SX.S z) (some sp) none = SX.S (z.drop sp.toNat) := cut_from sp0 (by omega)
    rw [c1']
    have e1 : SX.S (z.take sp.toNat) ++ (⟨#[sg]⟩ : Str) = SX.S (z.take sp.toNat ++ [sg]) := SX.S_cat _ _
    refine ⟨_, rfl, _, _, rfl, rfl, ?_, ?_⟩
    · rw [SX.S_len, List.length_take]
      exact Nat.le_trans (by show min _ _ + 1 ≤ 1000; omega) (by decide : 1000 ≤ sizeLine)
    rw [e1]
    refine ⟨_, rfl, _, rfl, sp, rfl, _, rfl, sl z (by omega), ?_⟩
    rw [c2']
    refine ⟨_, _, rfl, rfl, ?_, ?_⟩
    · rw [SX.S_len, SX.S_len, List.length_append, List.length_take, List.length_drop, List.length_singleton]
      exact Nat.le_trans (by omega : _ ≤ 1000) (by decide)
    rw [SX.S_cat]
    refine ⟨rfl, .inr ⟨rfl, _, rfl, (by show 6 ≤ sizeLine; decide), fun p hp => ?_⟩⟩
    have B3 := B2.new (o := .lst [V.str (SX.S (z.take sp.toNat ++ [sg] ++ z.drop sp.toNat)), .str "", .str "mmmmmmmmmmmmm", .str ⟨#[sg]⟩, .int 7, .non]) hp
    refine ⟨_, rfl, g, l, _, rfl, B3, by decide, by decide, fun c3 H3 d0 d1 B4 K3 => ?_⟩
    have hp3 := K3 _ _ upd_same (B2.ne hp).1
    obtain ⟨v, hv, hw⟩ : ∃ v, atI [V.str (SX.S (z.take sp.toNat ++ [sg] ++ z.drop sp.toNat)), .str "", .str "mmmmmmmmmmmmm", .str ⟨#[sg]⟩, .int 7, .non] c3 = some v ∧ Wrong v := by
      have : c3 = 0 ∨ c3 = 1 ∨ c3 = 2 ∨ c3 = 3 ∨ c3 = 4 ∨ c3 = 5 := by omega
      rcases this with rfl | rfl | rfl | rfl | rfl | rfl
      · refine ⟨_, rfl, .str _, fun y e => ?_, all_split hno⟩
        rw [← V.str.inj e, SX.S_len, List.length_append, List.length_append, List.length_take, List.length_drop, List.length_singleton]
        omega
      · exact ⟨_, rfl, .str _, fun y e => by rw [← V.str.inj e]; decide, by decide +kernel⟩
      · exact ⟨_, rfl, .str _, fun y e => by rw [← V.str.inj e]; decide, by decide +kernel⟩
      · exact ⟨_, rfl, .str _, fun y e => by rw [← V.str.inj e]; exact Nat.le_of_ble_eq_true rfl, all_split (l1 := []) (l2 := []) hno⟩
      · exact ⟨_, rfl, .int _, fun y e => (by cases e), rfl⟩
      · exact ⟨_, rfl, .non, fun y e => (by cases e), rfl⟩
    exact ⟨p, _, _, v, rfl, rfl, SqL.of hp3, hv, k v H3 hw B4 ((K1.trans (K2.new hp)).trans K3)⟩
end

theorem name_len {z : Str} (h : nameV (.str z) = true) : z.length ≤ 12 := by
  have h : nameL z.cps.toList = true := h
  unfold nameL at h
  rw [Bool.and_eq_true, Bool.and_eq_true] at h
  have := of_decide_eq_true h.2.1
  simpa [Str.length] using this
theorem ent_name {v0 v1 v2 : V} (h : entOk v0 v1 v2 = true) : nameV v1 = true := by
  unfold entOk at h
  rw [Bool.and_eq_true] at h
  exact h.1
theorem ent_lot {v1 v2 : V} (h : entOk (.str "late") v1 v2 = true) : nameV v2 = true := by
  unfold entOk at h
  rw [Bool.and_eq_true, if_neg (by rw [late_no]; decide), if_pos late_yes] at h
  exact h.2
theorem ent_kind {kd : Str} {v1 v2 : V} (h : entOk (.str kd) v1 v2 = true) (hk : kd ≠ "late") : (eqV (.str kd) (.str "buy") || eqV (.str kd) (.str "sell") || eqV (.str kd) (.str "back")) = true := by
  unfold entOk at h
  rw [Bool.and_eq_true] at h
  cases e : (eqV (.str kd) (.str "buy") || eqV (.str kd) (.str "sell") || eqV (.str kd) (.str "back")) with
  | true => rfl
  | false =>
    rw [e, if_neg (by decide)] at h
    have : ¬ eqV (.str kd) (.str "late") = true := fun z => hk (by
      have : (kd == ("late" : Str)) = true := z
      exact beq_iff_eq.mp this)
    rw [if_neg this] at h
    exact absurd h.2 (by decide)
theorem no_name {v0 v1 v2 : V} (h : nameV v1 = false) : entOk v0 v1 v2 = false := by
  unfold entOk
  rw [h]
  rfl
theorem no_kind {v0 v1 v2 : V} (h : (eqV v0 (.str "buy") || eqV v0 (.str "sell") || eqV v0 (.str "back")) = false) (h2 : eqV v0 (.str "late") = false) : entOk v0 v1 v2 = false := by
  unfold entOk
  rw [h, h2, if_neg (by decide), if_neg (by decide), Bool.and_false]
theorem no_units {v0 v1 v2 : V} (h : (eqV v0 (.str "buy") || eqV v0 (.str "sell") || eqV v0 (.str "back")) = true) (h2 : numV 1 v2 = false) : entOk v0 v1 v2 = false := by
  unfold entOk
  rw [if_pos h, h2, Bool.and_false]
theorem no_lot {v1 v2 : V} (h2 : nameV v2 = false) : entOk (.str "late") v1 v2 = false := by
  unfold entOk
  rw [if_neg (by rw [late_no]; decide), if_pos late_yes, h2, Bool.and_false]
def spSpoilt : Sp := fun vs H Q _ => ∃ (g l e : Addr) (kd nm : Str) (x : V) (z : Str), vs = [.ref g, .ref e, .str z] ∧ Bag H g l ∧ H e = some (.tup [.str kd, .str nm, x]) ∧ entOk (.str kd) (.str nm) x = true ∧ Pl x ∧ shortV x ∧ z.length ≤ 1000 ∧ ∀ (v : V) (H' : Hp), SetOk H' v false → Bag H' g l → Kp g H H' → Q v H'
section
variable {P : Program} {w : World} {K : PySem.W.Frag} {mg : Str → Option Value} {base : Heap} {A : Ad}
theorem ok_l_spoilt (T : Txt K mg A) : FnOk P w K mg base CX0 3 A.l_spoilt A.fd_l_spoilt P_l_spoilt spSpoilt := by
  refine T.F_l_spoilt.ok sc_l_spoilt (fun vs H Q E h => ?_) (fun cdv Ar outer s H vs Q E hr h => ?_)
  · obtain ⟨g, l, e, kd, nm, x, z, rfl, _⟩ := h
    rfl
  · obtain ⟨g, l, e, kd, nm, x, z, rfl, B, he, hok, hx, sx, hzl, k⟩ := h
    refine ⟨_, (pss_cons (ps_asg (pv 1) (pg_tup (n := 3) rfl (pgs_cons (pg_name (i := 3) sc_l_spoilt.nd rfl (Or.inl rfl)) (pgs_cons (pg_name (i := 4) sc_l_spoilt.nd rfl (Or.inl rfl)) (pgs_cons (pg_name (i := 5) sc_l_spoilt.nd rfl (Or.inl rfl)) pgs_nil)))))
      (pss_cons (ps_set (i := 6) sc_l_spoilt.nd rfl (Or.inl rfl) (pe_call (ok_l_draw T) (hr.mono (by decide)) (by rfl) T.g__law_draw T.F_l_draw.kp T.b_l_draw .nil pass0 (pa_cons (pv 0) (pa_cons pe_int pa_nil))))
      (pss_cons (ps_if (pt_cmpR op_eq (pv 6) pe_int (nomark _)) (pss_one (ps_ret (pe_tup (pa_cons (pe_ix ix_list (pe_lst (pa_cons pe_str (pa_cons pe_str (pa_cons pe_str (pa_cons pe_int pa_nil))))) (pe_call (ok_l_draw T) (hr.mono (by decide)) (by rfl) T.g__law_draw T.F_l_draw.kp T.b_l_draw .nil pass0 (pa_cons (pv 0) (pa_cons pe_int pa_nil))) (fun _ _ => rfl)) (pa_cons (pv 4) (pa_cons (pv 5) pa_nil)))))) pss_nil)
      (pss_cons (ps_if (pt_cmpR op_eq (pv 6) pe_int (nomark _)) (pss_one (ps_ret (pe_tup (pa_cons (pv 3) (pa_cons (pe_call (ok_l_wrong_name T) (hr.mono (by decide)) (by rfl) T.g__law_wrong_name T.F_l_wrong_name.kp T.b_l_wrong_name .nil pass0 (pa_cons (pv 0) (pa_cons (pv 4) pa_nil))) (pa_cons (pv 5) pa_nil)))))) pss_nil)
      (pss_cons (ps_if (pt_cmpR op_eq (pv 6) pe_int (nomark _)) (pss_cons (ps_if (pt_cmpR op_eq (pe_call (ok_l_draw T) (hr.mono (by decide)) (by rfl) T.g__law_draw T.F_l_draw.kp T.b_l_draw .nil pass0 (pa_cons (pv 0) (pa_cons pe_int pa_nil))) pe_int (nomark _)) (pss_one (ps_ret (pe_ix ix_list (pe_lst (pa_cons pe_non (pa_cons pe_int (pa_cons (pv 3) (pa_cons (pe_tup pa_nil) (pa_cons (pe_tup (pa_cons (pv 3) pa_nil)) pa_nil)))))) (pe_call (ok_l_draw T) (hr.mono (by decide)) (by rfl) T.g__law_draw T.F_l_draw.kp T.b_l_draw .nil pass0 (pa_cons (pv 0) (pa_cons pe_int pa_nil))) (fun _ _ => rfl)))) pss_nil)
      (pss_one (ps_ret (pe_ix ix_list (pe_lst (pa_cons (pe_tup (pa_cons (pv 3) (pa_cons (pv 4) pa_nil))) (pa_cons (pe_tup (pa_cons (pv 3) (pa_cons (pv 4) (pa_cons (pv 5) (pa_cons (pv 5) pa_nil))))) (pa_cons (pe_lst (pa_cons (pv 3) (pa_cons (pv 4) (pa_cons (pv 5) pa_nil)))) pa_nil)))) (pe_call (ok_l_draw T) (hr.mono (by decide)) (by rfl) T.g__law_draw T.F_l_draw.kp T.b_l_draw .nil pass0 (pa_cons (pv 0) (pa_cons pe_int pa_nil))) (fun _ _ => rfl))))) pss_nil)
      (pss_cons (ps_if (pt_cmpR op_eq (pv 3) pe_str (nomark _)) (pss_one (ps_ret (pe_tup (pa_cons (pv 3) (pa_cons (pv 4) (pa_cons (pe_ix ix_list (pe_lst (pa_cons (pe_call (ok_l_wrong_name T) (hr.mono (by decide)) (by rfl) T.g__law_wrong_name T.F_l_wrong_name.kp T.b_l_wrong_name .nil pass0 (pa_cons (pv 0) (pa_cons (pv 5) pa_nil))) (pa_cons pe_int pa_nil))) (pe_call (ok_l_draw T) (hr.mono (by decide)) (by rfl) T.g__law_draw T.F_l_draw.kp T.b_l_draw .nil pass0 (pa_cons (pv 0) (pa_cons pe_int pa_nil))) (fun _ _ => rfl)) pa_nil)))))) pss_nil)
      (pss_one (ps_ret (pe_tup (pa_cons (pv 3) (pa_cons (pv 4) (pa_cons (pe_ix ix_list (pe_lst (pa_cons pe_int (pa_cons (pe_un un_neg pe_int) (pa_cons pe_int (pa_cons (pe_un un_neg pe_int) (pa_cons (pv 2) (pa_cons pe_non pa_nil))))))) (pe_call (ok_l_draw T) (hr.mono (by decide)) (by rfl) T.g__law_draw T.F_l_draw.kp T.b_l_draw .nil pass0 (pa_cons (pv 0) (pa_cons pe_int pa_nil))) (fun _ _ => rfl)) pa_nil)))))))))))), ?_⟩
    have hnm := ent_name hok
    have snm : shortV (.str nm) := fun y ey => by rw [← V.str.inj ey]; exact Nat.le_trans (name_len hnm) (by decide)
    refine ⟨_, rfl, e, _, rfl, SqT.of he, rfl, _, _, rfl, _, _, rfl, _, _, rfl, rfl, ?_⟩
    refine ⟨_, rfl, g, l, _, rfl, B, by decide, by decide, fun c H1 c0 c1 B1 K1 => ?_⟩
    refine ⟨_, rfl, rfl, _, rfl, if_int (fun e0 => ?_) (fun e0 => ?_)⟩
    · refine ⟨(by show 4 ≤ sizeLine; decide), fun p hp => ?_⟩
      have B2 := B1.new (o := .lst [V.str "bought", .str "", .str "BUY", .int 3]) hp
      refine ⟨_, rfl, g, l, _, rfl, B2, by decide, by decide, fun c2 H2 d0 d1 B3 K2 => ?_⟩
      have hp2 := K2 _ _ upd_same (B1.ne hp).1
      obtain ⟨v, hv, hv1, hv2, hv3⟩ : ∃ v, atI [V.str "bought", .str "", .str "BUY", .int 3] c2 = some v ∧ Pl v ∧ (eqV v (.str "buy") || eqV v (.str "sell") || eqV v (.str "back")) = false ∧ eqV v (.str "late") = false := by
        have : c2 = 0 ∨ c2 = 1 ∨ c2 = 2 ∨ c2 = 3 := by omega
        rcases this with rfl | rfl | rfl | rfl
        · exact ⟨_, rfl, .str _, by decide +kernel, by decide +kernel⟩
        · exact ⟨_, rfl, .str _, by decide +kernel, by decide +kernel⟩
        · exact ⟨_, rfl, .str _, by decide +kernel, by decide +kernel⟩
        · exact ⟨_, rfl, .int _, rfl, rfl⟩
      refine ⟨p, _, _, v, rfl, rfl, SqL.of hp2, hv, _, rfl, _, rfl, (by show 3 ≤ sizeLine; decide), fun t ht => ?_⟩
      exact k (.ref t) _ (.inl ⟨v, .str nm, x, ⟨t, rfl, upd_same, hv1, .str _, hx, snm, sx⟩, (no_kind hv2 hv3).symm⟩) (B3.new ht) (((K1.new hp).trans K2).new ht)
    refine ⟨_, rfl, rfl, _, rfl, if_int (fun e1 => ?_) (fun e1 => ?_)⟩
    · refine ⟨_, rfl, _, rfl, _, rfl, g, l, nm.cps.toList, ?_, B1, ?_, fun v H2 hw B2 K2 => ?_⟩
      · show [V.ref g, V.str nm] = [V.ref g, V.str (SX.S nm.cps.toList)]
        rw [SX.S_tl]
      · have := name_len hnm
        have e : nm.cps.toList.length = nm.length := by simp [Str.length]
        omega
      · refine ⟨_, rfl, (by show 3 ≤ sizeLine; decide), fun t ht => ?_⟩
        exact k (.ref t) _ (.inl ⟨.str kd, v, x, ⟨t, rfl, upd_same, .str _, hw.1, hx, hw.2.1, sx⟩, (no_name hw.2.2).symm⟩) (B2.new ht) ((K1.trans K2).new ht)
    refine ⟨_, rfl, rfl, _, rfl, if_int (fun e2 => ?_) (fun e2 => ?_)⟩
    · refine ⟨_, rfl, g, l, _, rfl, B1, by decide, by decide, fun c2 H2 d0 d1 B2 K2 => ⟨rfl, _, rfl, if_int (fun e3 => ?_) (fun e3 => ?_)⟩⟩
      · refine ⟨_, rfl, Nat.zero_le _, fun t1 ht1 => ⟨_, rfl, (by show 1 ≤ sizeLine; decide), fun t2 ht2 => ⟨(by show 5 ≤ sizeLine; decide), fun p hp => ?_⟩⟩⟩
        have s1 := Same.new (o := .tup []) ht1
        have s2 := Same.new (o := .tup [V.str kd]) ht2
        have s3 := Same.new (o := .lst [V.non, .int 7, .str kd, .ref t1, .ref t2]) hp
        have s13 := s1.trans (s2.trans s3)
        refine ⟨_, rfl, g, l, _, rfl, B2.keep s13, by decide, by decide, fun c3 H3 f0 f1 B3 K3 => ?_⟩
        have npg := ((B2.keep (s1.trans s2)).ne hp).1
        have hp3 := K3 _ _ upd_same npg
        obtain ⟨ys, hg⟩ := (B2.keep s13).lst
        have h1 := K3 _ _ (s3 _ _ (s2 _ _ upd_same)) (ne_of (s3 _ _ (s2 _ _ upd_same)) hg (by intro z; cases z))
        have h2 := K3 _ _ (s3 _ _ upd_same) (ne_of (s3 _ _ upd_same) hg (by intro z; cases z))
        obtain ⟨v, hv, hn⟩ : ∃ v, atI [V.non, .int 7, .str kd, .ref t1, .ref t2] c3 = some v ∧ NoEnt H3 v := by
          have : c3 = 0 ∨ c3 = 1 ∨ c3 = 2 ∨ c3 = 3 ∨ c3 = 4 := by omega
          rcases this with rfl | rfl | rfl | rfl | rfl
          · exact ⟨_, rfl, .inl .non⟩
          · exact ⟨_, rfl, .inl (.int _)⟩
          · exact ⟨_, rfl, .inl (.str _)⟩
          · exact ⟨_, rfl, .inr ⟨t1, [], rfl, .inr ⟨h1, by decide, by decide⟩⟩⟩
          · exact ⟨_, rfl, .inr ⟨t2, [V.str kd], rfl, .inr ⟨h2, by show 1 ≠ 3; decide, by show 1 ≤ 1000; decide⟩⟩⟩
        exact ⟨p, _, _, v, rfl, rfl, SqL.of hp3, hv, k v H3 (.inr ⟨hn, rfl⟩) B3 (((K1.trans K2).trans (Kp.same s13)).trans K3)⟩
      · refine ⟨_, rfl, _, rfl, (by show 2 ≤ sizeLine; decide), fun t1 ht1 => ⟨_, rfl, _, rfl, _, rfl, _, rfl, (by show 4 ≤ sizeLine; decide), fun t2 ht2 => ⟨_, rfl, _, rfl, _, rfl, (by show 3 ≤ sizeLine; decide), fun t3 ht3 => ⟨(by show 3 ≤ sizeLine; decide), fun p hp => ?_⟩⟩⟩⟩
        have s1 := Same.new (o := .tup [V.str kd, .str nm]) ht1
        have s2 := Same.new (o := .tup [V.str kd, .str nm, x, x]) ht2
        have s3 := Same.new (o := .lst [V.str kd, .str nm, x]) ht3
        have s4 := Same.new (o := .lst [V.ref t1, .ref t2, .ref t3]) hp
        have s14 := s1.trans (s2.trans (s3.trans s4))
        have n3g := ((B2.keep (s1.trans s2)).ne ht3).1
        have npg := ((B2.keep (s1.trans (s2.trans s3))).ne hp).1
        refine ⟨_, rfl, g, l, _, rfl, B2.keep s14, by decide, by decide, fun c3 H3 f0 f1 B3 K3 => ?_⟩
        have hp3 := K3 _ _ upd_same npg
        obtain ⟨ys, hg⟩ := (B2.keep s14).lst
        have a1 := s4 _ _ (s3 _ _ (s2 _ _ (upd_same : upd H2 t1 (.tup [V.str kd, .str nm]) t1 = _)))
        have a2 := s4 _ _ (s3 _ _ (upd_same : upd (upd H2 t1 (.tup [V.str kd, .str nm])) t2 (.tup [V.str kd, .str nm, x, x]) t2 = _))
        have h1 := K3 _ _ a1 (ne_of a1 hg (by intro z; cases z))
        have h2 := K3 _ _ a2 (ne_of a2 hg (by intro z; cases z))
        have h3 := K3 _ _ (s4 _ _ upd_same) n3g
        obtain ⟨v, hv, hn⟩ : ∃ v, atI [V.ref t1, .ref t2, .ref t3] c3 = some v ∧ NoEnt H3 v := by
          have : c3 = 0 ∨ c3 = 1 ∨ c3 = 2 := by omega
          rcases this with rfl | rfl | rfl
          · exact ⟨_, rfl, .inr ⟨t1, _, rfl, .inr ⟨h1, by show 2 ≠ 3; decide, by show 2 ≤ 1000; decide⟩⟩⟩
          · exact ⟨_, rfl, .inr ⟨t2, _, rfl, .inr ⟨h2, by show 4 ≠ 3; decide, by show 4 ≤ 1000; decide⟩⟩⟩
          · exact ⟨_, rfl, .inr ⟨t3, _, rfl, .inl h3⟩⟩
        exact ⟨p, _, _, v, rfl, rfl, SqL.of hp3, hv, k v H3 (.inr ⟨hn, rfl⟩) B3 (((K1.trans K2).trans (Kp.same s14)).trans K3)⟩
    refine ⟨_, rfl, rfl, _, rfl, if_dec (fun e3 => ?_) (fun e3 => ?_)⟩
    · have ek : kd = "late" := V.str.inj e3
      subst ek
      have hlot := ent_lot hok
      obtain ⟨lot, rfl⟩ : ∃ lot, x = .str lot := by
        cases hx with
        | str y => exact ⟨y, rfl⟩
        | int i => cases hlot
        | non => cases hlot
      refine ⟨_, rfl, _, rfl, _, rfl, _, rfl, g, l, lot.cps.toList, ?_, B1, ?_, fun v H2 hw B2 K2 => ?_⟩
      · show [V.ref g, V.str lot] = [V.ref g, V.str (SX.S lot.cps.toList)]
        rw [SX.S_tl]
      · have := name_len hlot
        have e : lot.cps.toList.length = lot.length := by simp [Str.length]
        omega
      · refine ⟨(by show 2 ≤ sizeLine; decide), fun p hp => ?_⟩
        have B3 := B2.new (o := .lst [v, .int 3]) hp
        refine ⟨_, rfl, g, l, _, rfl, B3, by decide, by decide, fun c3 H3 f0 f1 B4 K3 => ?_⟩
        have hp3 := K3 _ _ upd_same (B2.ne hp).1
        obtain ⟨v', hv, hw'⟩ : ∃ v', atI [v, .int 3] c3 = some v' ∧ Wrong v' := by
          have : c3 = 0 ∨ c3 = 1 := by omega
          rcases this with rfl | rfl
          · exact ⟨_, rfl, hw⟩
          · exact ⟨_, rfl, .int _, fun y e => (by cases e), rfl⟩
        refine ⟨p, _, _, v', rfl, rfl, SqL.of hp3, hv, (by show 3 ≤ sizeLine; decide), fun t ht => ?_⟩
        exact k (.ref t) _ (.inl ⟨.str "late", .str nm, v', ⟨t, rfl, upd_same, .str _, .str _, hw'.1, snm, hw'.2.1⟩, (no_lot hw'.2.2).symm⟩) (B4.new ht) ((((K1.trans K2).new hp).trans K3).new ht)
    · have hk := ent_kind hok fun z => e3 (congrArg V.str z)
      refine ⟨_, rfl, _, rfl, 1, rfl, 1000000, rfl, _, rfl, (by show 6 ≤ sizeLine; decide), fun p hp => ?_⟩
      have B3 := B1.new (o := .lst [V.int 0, .int (-1), .int 1000001, .int (-1000000), .str z, .non]) hp
      refine ⟨_, rfl, g, l, _, rfl, B3, by decide, by decide, fun c3 H3 f0 f1 B4 K3 => ?_⟩
      have hp3 := K3 _ _ upd_same (B1.ne hp).1
      obtain ⟨v', hv, p1, p2, p3⟩ : ∃ v', atI [V.int 0, .int (-1), .int 1000001, .int (-1000000), .str z, .non] c3 = some v' ∧ Pl v' ∧ shortV v' ∧ numV 1 v' = false := by
        have : c3 = 0 ∨ c3 = 1 ∨ c3 = 2 ∨ c3 = 3 ∨ c3 = 4 ∨ c3 = 5 := by omega
        rcases this with rfl | rfl | rfl | rfl | rfl | rfl
        · exact ⟨_, rfl, .int _, fun y e => (by cases e), by decide⟩
        · exact ⟨_, rfl, .int _, fun y e => (by cases e), by decide⟩
        · exact ⟨_, rfl, .int _, fun y e => (by cases e), by decide⟩
        · exact ⟨_, rfl, .int _, fun y e => (by cases e), by decide⟩
        · exact ⟨_, rfl, .str _, fun y e => by rw [← V.str.inj e]; exact hzl, rfl⟩
        · exact ⟨_, rfl, .non, fun y e => (by cases e), rfl⟩
      refine ⟨p, _, _, v', rfl, rfl, SqL.of hp3, hv, (by show 3 ≤ sizeLine; decide), fun t ht => ?_⟩
      exact k (.ref t) _ (.inl ⟨.str kd, .str nm, v', ⟨t, rfl, upd_same, .str _, .str _, p1, snm, p2⟩, (no_units hk p3).symm⟩) (B4.new ht) (((K1.new hp).trans K3).new ht)
end

/-! ### putting an entry -/
theorem no_other {es : List En} {v : En} {d n : Int} (h : keyN (v :: es)) (hv : isE d n v = true) : ∀ u ∈ es, isE d n u = false := fun u hu => by
  unfold keyN keysE at h
  rw [List.map_cons, List.nodup_cons] at h
  cases e : isE d n u with
  | false => rfl
  | true =>
    have a := isE_iff.mp hv
    have b := isE_iff.mp e
    exact absurd (List.mem_map.mpr ⟨u, hu, by rw [a.1, a.2, b.1, b.2]⟩) h.1
theorem rep_perm {t : En} : ∀ {es : List En}, keyN es → (∃ u ∈ es, isE t.d t.n u = true) → (es.map fun u => if isE t.d t.n u = true then t else u).Perm (dropE es t.d t.n ++ [t])
  | [], _, h => by obtain ⟨u, hu, _⟩ := h; cases hu
  | v :: es, hn, h => by
    by_cases hv : isE t.d t.n v = true
    · have no := no_other hn hv
      have e1 : (es.map fun u => if isE t.d t.n u = true then t else u) = es := by
        conv => rhs; rw [← List.map_id es]
        refine List.map_congr_left fun u hu => ?_
        rw [no u hu]
        rfl
      have e2 : dropE (v :: es) t.d t.n = es := by
        unfold dropE
        rw [List.filter_cons_of_neg (by simp [hv])]
        exact List.filter_eq_self.mpr fun u hu => by rw [no u hu]; rfl
      rw [List.map_cons, if_pos hv, e1, e2]
      exact (List.perm_append_singleton t es).symm
    · have e2 : dropE (v :: es) t.d t.n = v :: dropE es t.d t.n := by
        unfold dropE
        rw [List.filter_cons_of_pos (by simpa using hv)]
      have hn' : keyN es := by
        unfold keyN keysE at hn ⊢
        rw [List.map_cons, List.nodup_cons] at hn
        exact hn.2
      obtain ⟨u, hu, hk⟩ := h
      rw [List.map_cons, if_neg hv, e2, List.cons_append]
      refine (List.perm_cons v).mpr (rep_perm hn' ⟨u, ?_, hk⟩)
      rcases List.mem_cons.mp hu with rfl | hu
      · exact absurd hk hv
      · exact hu
theorem put_perm {es : List En} {t : En} (hn : keyN es) : (putE es t).Perm (dropE es t.d t.n ++ [t]) := by
  unfold putE
  split
  · next h =>
    refine rep_perm hn ?_
    obtain ⟨u, hu⟩ := Option.isSome_iff_exists.mp h
    obtain ⟨hm, e1, e2⟩ := atE_some hu
    exact ⟨u, hm, isE_iff.mpr ⟨e1, e2⟩⟩
  · next h =>
    have : dropE es t.d t.n = es := List.filter_eq_self.mpr fun u hu => by
      have hx : atE es t.d t.n = none := by simpa using h
      have := List.find?_eq_none.mp hx u hu
      simpa using this
    rw [this]
theorem drop_key {es : List En} {d n : Int} : ∀ u ∈ dropE es d n, (u.d, u.n) ≠ (d, n) := fun u hu e => by
  have := (List.mem_filter.mp hu).2
  rw [isE_iff.mpr ⟨congrArg Prod.fst e, congrArg Prod.snd e⟩] at this
  cases this
theorem keyN_drop {es : List En} {t : En} (hn : keyN es) : keyN (dropE es t.d t.n ++ [t]) := by
  unfold keyN keysE at *
  rw [List.map_append, List.nodup_append]
  refine ⟨?_, by simp, fun a ha b hb => ?_⟩
  · exact hn.sublist ((List.filter_sublist (l := es)).map _)
  · obtain ⟨u, hu, rfl⟩ := List.mem_map.mp ha
    simp only [List.map_cons, List.map_nil, List.mem_singleton] at hb
    rw [hb]
    exact drop_key u hu
theorem keyN_perm {es l : List En} (h : l.Perm es) (hn : keyN es) : keyN l := (h.map _).nodup_iff.mpr hn
theorem keyN_put {es : List En} {t : En} (hn : keyN es) : keyN (putE es t) := keyN_perm (put_perm hn) (keyN_drop hn)
structure S32 (A : Ad) (H : Hp) (g l q b bd : Addr) (ts : List Addr) (es0 es : List En) : Prop where
  bag : Bag H g l
  Q : H q = some (.lst (ts.map V.ref))
  T : All2 (Tri H) ts es0
  B : BookAt A.Book H b bd es
  E0 : EntsAt H es0
  E : EntsAt H es
  ok0 : ∀ u ∈ es0, EnOk u
  ok : ∀ u ∈ es, EnOk u
  r0 : ∀ u ∈ es0, 0 ≤ u.d ∧ 0 ≤ u.n ∧ u.d ≤ 1000 ∧ u.n ≤ 1000
  kn : keyN es
  nq : q ≠ g
theorem S32.move {A : Ad} {H H' : Hp} {g l q b bd : Addr} {ts : List Addr} {es0 es : List En} (h : S32 A H g l q b bd ts es0 es) (bag : Bag H' g l) (k : Kp g H H') : S32 A H' g l q b bd ts es0 es := by
  obtain ⟨xs, hg⟩ := h.bag.lst
  obtain ⟨⟨dx, hb⟩, hd⟩ := h.B
  exact ⟨bag, k _ _ h.Q h.nq, h.T.mono fun x y z => k _ _ z (ne_of z hg (by intro z; cases z)), ⟨⟨dx, k _ _ hb (ne_of hb hg (by intro z; cases z))⟩, k _ _ hd (ne_of hd hg (by intro z; cases z))⟩, fun t ht => k _ _ (h.E0 t ht) (ne_of (h.E0 t ht) hg (by intro z; cases z)), fun t ht => k _ _ (h.E t ht) (ne_of (h.E t ht) hg (by intro z; cases z)), h.ok0, h.ok, h.r0, h.kn, h.nq⟩
theorem S32.same {A : Ad} {H H' : Hp} {g l q b bd : Addr} {ts : List Addr} {es0 es : List En} (h : S32 A H g l q b bd ts es0 es) (s : Same H H') : S32 A H' g l q b bd ts es0 es := h.move (h.bag.keep s) (Kp.same s)
theorem S32.put {A : Ad} {H : Hp} {g l q b bd : Addr} {ts : List Addr} {es0 es : List En} {t : En} (h : S32 A H g l q b bd ts es0 es) (ht : H t.e = some (.tup [.str t.kd, .str t.nm, t.x])) (hok : EnOk t) : S32 A (upd H bd (.dT (kvE (putE es t)))) g l q b bd ts es0 (putE es t) := by
  obtain ⟨⟨dx, hb⟩, hd⟩ := h.B
  have k : ∀ c o, H c = some o → (∀ kvs, o ≠ .dT kvs) → upd H bd (.dT (kvE (putE es t))) c = some o := fun c o e n => by
    rw [upd_ne fun z => by rw [z, hd] at e; exact n _ (Option.some.inj e).symm]
    exact e
  obtain ⟨i, r, s, c, xs, h1, h2, h3⟩ := h.bag.ex
  refine ⟨⟨i, r, s, c, xs, k _ _ h1 (by intro _ z; cases z), k _ _ h2 (by intro _ z; cases z), h3⟩, k _ _ h.Q (by intro _ z; cases z), h.T.mono fun x y z => k _ _ z (by intro _ z; cases z), ⟨⟨dx, k _ _ hb (by intro _ z; cases z)⟩, upd_same⟩, fun t ht => k _ _ (h.E0 t ht) (by intro _ z; cases z), fun u hu => ?_, h.ok0, fun u hu => ?_, h.r0, keyN_put h.kn, h.nq⟩
  · rcases mem_putE hu with rfl | hu
    · exact k _ _ ht (by intro _ z; cases z)
    · exact k _ _ (h.E u hu) (by intro _ z; cases z)
  · rcases mem_putE hu with rfl | hu
    · exact hok
    · exact h.ok u hu
theorem units66 {k : Nat} {A : Around} (r : Room k A) : A.units + 66 < cLine := by have := r.un; omega
theorem KeptAt.same {H H' : Hp} {p : Addr} {us : List (Addr × Addr × En)} (h : KeptAt H p us) (s : Same H H') : KeptAt H' p us := ⟨s _ _ h.1, fun u hu => ⟨s _ _ (h.2 u hu).1, s _ _ (h.2 u hu).2⟩⟩
theorem dl_keptE {K : PySem.W.Frag} {H : Hp} {p : Addr} {us : List (Addr × Addr × En)} {es : List En} (h : KeptAt H p us) (hE : EntsAt H es) (hok : ∀ u ∈ es, EnOk u) (eu : us.map (fun u => u.2.2) = srtE es) : DL K H (.ref p) (.list ((srtE es).map itemD)) 3 := by
  have hm : ∀ w ∈ us, w.2.2 ∈ es := fun w hw => (srtE_perm es).mem_iff.mp (eu ▸ List.mem_map.mpr ⟨w, hw, rfl⟩)
  rw [← eu]
  refine dl_kept h (fun t ht => ?_) fun w hw => (hok _ (hm w hw)).2.1
  obtain ⟨w, hw, rfl⟩ := List.mem_map.mp ht
  exact hE _ (hm w hw)
section
variable {P : Program} {w : World} {K : PySem.W.Frag} {mg : Str → Option Value} {base : Heap} {A : Ad}
theorem ok_f_law (T : Txt K mg A) : FnOk P w K mg base CX0 14 A.f_law A.fd_f_law P_f_law (spLaw K) := by
  refine T.F_f_law.ok sc_f_law (fun vs H Q E h => ?_) (fun cdv Ar outer s H vs Q E hr h => ?_)
  · obtain ⟨a, ns, rfl, _⟩ := h
    rfl
  · obtain ⟨a, ns, rfl, hs, hl, k⟩ := h
    refine ⟨_, (pss_cons (ps_set (i := 1) sc_f_law.nd rfl (Or.inl rfl) (pe_call (ok_l_bag T) (hr.mono (by decide)) (by rfl) T.g__law_bag T.F_l_bag.kp T.b_l_bag .nil pass0 (pa_cons (pv 0) pa_nil)))
      (pss_cons (ps_set (i := 2) sc_f_law.nd rfl (Or.inl rfl) (pe_call (ok_l_entries T) (hr.mono (by decide)) (by rfl) T.g__law_entries T.F_l_entries.kp T.b_l_entries .nil pass0 (pa_cons (pv 1) (pa_cons pe_int pa_nil))))
      (pss_cons (ps_set (i := 3) sc_f_law.nd rfl (Or.inl rfl) (pe_call (ok_l_book T) (hr.mono (by decide)) (by rfl) T.g__law_book T.F_l_book.kp T.b_l_book .nil pass0 (pa_cons (pv 2) pa_nil)))
      (pss_cons (ps_g (ps_for PassesOwn.never rfl (pi_range1 rfl T.z_range (pa_cons pe_int pa_nil)) (pg_name (i := 4) sc_f_law.nd rfl (Or.inl rfl)) (pss_cons (ps_asg (pe_call (ok_l_pick T) (hr.mono (by decide)) (by rfl) T.g__law_pick T.F_l_pick.kp T.b_l_pick .nil pass0 (pa_cons (pv 1) (pa_cons (pv 2) pa_nil))) (pg_tup (n := 3) rfl (pgs_cons (pg_name (i := 5) sc_f_law.nd rfl (Or.inr rfl)) (pgs_cons (pg_name (i := 6) sc_f_law.nd rfl (Or.inr rfl)) (pgs_cons (pg_name (i := 7) sc_f_law.nd rfl (Or.inl rfl)) pgs_nil)))))
      (pss_g (Evl.pss_cut (ps_if (pt_cmpR op_eq (pe_call (ok_l_draw T) (hr.mono (by decide)) (by rfl) T.g__law_draw T.F_l_draw.kp T.b_l_draw .nil pass0 (pa_cons (pv 1) (pa_cons pe_int pa_nil))) pe_int (nomark _)) (pss_one (ps_asg (pe_ix ix_list (pe_lst (pa_cons (pe_tup (pa_cons pe_int (pa_cons pe_int pa_nil))) (pa_cons (pe_tup (pa_cons pe_int (pa_cons pe_int pa_nil))) (pa_cons (pe_tup (pa_cons (pv 5) (pa_cons pe_int pa_nil))) pa_nil)))) (pe_call (ok_l_draw T) (hr.mono (by decide)) (by rfl) T.g__law_draw T.F_l_draw.kp T.b_l_draw .nil pass0 (pa_cons (pv 1) (pa_cons pe_int pa_nil))) (fun _ _ => rfl)) (pg_tup (n := 2) rfl (pgs_cons (pg_name (i := 5) sc_f_law.nd rfl (Or.inr rfl)) (pgs_cons (pg_name (i := 6) sc_f_law.nd rfl (Or.inr rfl)) pgs_nil))))) pss_nil)
      (pss_cons (ps_set (i := 8) sc_f_law.nd rfl (Or.inl rfl) (pe_call (ok_l_kept T) (hr.mono (by decide)) (by rfl) T.g__law_kept T.F_l_kept.kp T.b_l_kept .nil pass0 (pa_cons (pv 3) pa_nil)))
      (pss_cons (ps_if (PW.pt (pw_or (pt_not (pt_val (pe_call (ok_l_refused T) (hr.mono (by decide)) (by rfl) T.g__law_refused T.F_l_refused.kp T.b_l_refused .nil pass0 (pa_cons (pv 3) (pa_cons (pv 5) (pa_cons (pv 6) (pa_cons (pe_call (ok_l_spoilt T) (hr.mono (by decide)) (by rfl) T.g__law_spoilt T.F_l_spoilt.kp T.b_l_spoilt .nil pass0 (pa_cons (pv 1) (pa_cons (pv 7) (pa_cons (pe_op op_mulm pe_str pe_int) pa_nil)))) pa_nil))))))) (pw_or1 (pt_cmpR (op_neP hr.units) (pe_call (ok_l_kept T) (hr.mono (by decide)) (by rfl) T.g__law_kept T.F_l_kept.kp T.b_l_kept .nil pass0 (pa_cons (pv 3) pa_nil)) (pv 8) (nomark _))))) (pss_one (ps_ret pe_bl)) pss_nil)
      (pss_cons (ps_set (i := 9) sc_f_law.nd rfl (Or.inl rfl) (pe_ix ix_list (pe_lst (pa_cons (pe_un un_neg pe_int) (pa_cons pe_int (pa_cons (pe_un un_neg pe_int) (pa_cons pe_non (pa_cons pe_str (pa_cons (pe_tup (pa_cons pe_int pa_nil)) pa_nil))))))) (pe_call (ok_l_draw T) (hr.mono (by decide)) (by rfl) T.g__law_draw T.F_l_draw.kp T.b_l_draw .nil pass0 (pa_cons (pv 1) (pa_cons pe_int pa_nil))) (fun _ _ => rfl)))
      (pss_cons (ps_if (PW.pt (pw_or (pt_not (pt_val (pe_call (ok_l_refused T) (hr.mono (by decide)) (by rfl) T.g__law_refused T.F_l_refused.kp T.b_l_refused .nil pass0 (pa_cons (pv 3) (pa_cons (pv 9) (pa_cons (pv 6) (pa_cons (pv 7) pa_nil))))))) (pw_or1 (pt_not (pt_val (pe_call (ok_l_refused T) (hr.mono (by decide)) (by rfl) T.g__law_refused T.F_l_refused.kp T.b_l_refused .nil pass0 (pa_cons (pv 3) (pa_cons (pv 5) (pa_cons (pv 9) (pa_cons (pv 7) pa_nil)))))))))) (pss_one (ps_ret pe_bl)) pss_nil)
      (pss_cons (ps_if (PW.pt (pw_or (pt_cmpR (op_neP hr.units) (pe_call (ok_l_kept T) (hr.mono (by decide)) (by rfl) T.g__law_kept T.F_l_kept.kp T.b_l_kept .nil pass0 (pa_cons (pv 3) pa_nil)) (pv 8) (nomark _)) (pw_or1 (pt_val (pe_call (ok_l_refused T) (hr.mono (by decide)) (by rfl) T.g__law_refused T.F_l_refused.kp T.b_l_refused .nil pass0 (pa_cons (pv 3) (pa_cons (pv 5) (pa_cons (pv 6) (pa_cons (pv 7) pa_nil))))))))) (pss_one (ps_ret pe_bl)) pss_nil)
      (pss_cons (ps_set (i := 10) sc_f_law.nd rfl (Or.inl rfl) (pe_op op_cat (pe_g (pe_lcV (own := [("_law_item", 11)]) rfl sc_f_law.nd (pi_list (pv 8)) (blkOk_by (own := [("_law_item", 11)]) (N := N_f_law) (sc := defScope s_f_law) (by decide +kernel)) (fun _ _ _ _ _ => (pg_name (i := 11) sc_f_law.nd rfl (Or.inl rfl))) (fun _ _ _ _ _ => (pts_one (pt_cmpR (op_neP hr.units) (pe_ix ix_tup (pv 11) pe_int (fun _ _ => rfl)) (pe_tup (pa_cons (pv 5) (pa_cons (pv 6) pa_nil))) (nomark _)))) (fun _ _ _ _ _ => (pv 11)) (fun _ _ _ _ _ => rfl) (fun _ _ _ _ _ => rfl) (fun _ _ _ _ _ => rfl))) (pe_lst (pa_cons (pe_tup (pa_cons (pe_tup (pa_cons (pv 5) (pa_cons (pv 6) pa_nil))) (pa_cons (pv 7) pa_nil))) pa_nil))))
      (pss_one (ps_if (pt_cmpR (op_neP hr.units) (pe_call (ok_l_kept T) (hr.mono (by decide)) (by rfl) T.g__law_kept T.F_l_kept.kp T.b_l_kept .nil pass0 (pa_cons (pv 3) pa_nil)) (pe_callB (cr_sortedK (units66 hr)) (by rfl) T.z_sorted (by decide +kernel) (pa_cons (pv 10) pa_nil)) (nomark _)) (pss_one (ps_ret pe_bl)) pss_nil)))))))))))))
      (pss_one (ps_ret pe_bl)))))), ?_⟩
    refine ⟨_, rfl, a, ns, rfl, hs, fun g l H1 s1 ng nl B1 => ?_⟩
    refine ⟨_, rfl, g, l, 8, rfl, B1, by decide, by decide, fun q ts es H2 hq0 hq hT hE hok hrg hinc hne hlen B2 K2 => ?_⟩
    have nqg : q ≠ g := fun e => by
      obtain ⟨xs, hg⟩ := B1.lst
      rw [e, hg] at hq0
      cases hq0
    refine ⟨_, rfl, q, ts, es, rfl, hq, hT, hE, hok, fun u hu => ?_, by omega, fun b bd H3 s3 nb nbd hB => ?_⟩
    · have := hrg u hu
      exact ⟨this.1, this.2.1, by omega, by omega⟩
    have hfold : es.foldl putE [] = es := fold_new es [] (inc_nodup hinc)
    rw [hfold] at hB
    have st : S32 A H3 g l q b bd ts es es := ⟨B2.keep s3, s3 _ _ hq, hT.mono fun x y z => s3 _ _ z, hB, fun t ht => s3 _ _ (hE t ht), fun t ht => s3 _ _ (hE t ht), hok, hok, hrg, inc_nodup hinc, nqg⟩
    refine ⟨⟨3, rfl, by decide, by decide, for_range (lo := 0) (n := 3) (fun i σ' H' => Wd (∃ (o : List (Option V)) (es' : List En), o.length = 8 ∧ σ' = [some (.ref a), some (.ref g), some (.ref q), some (.ref b)] ++ o ∧ S32 A H' g l q b bd ts es es' ∧ es'.length ≤ 8 + i)) ⟨[none, none, none, none, none, none, none, none], es, rfl, rfl, st, by omega⟩ ?_ ?_⟩⟩
    · rintro i σ' H4 hi ⟨o, es', hol, rfl, st, hel⟩
      match o, hol with
      | [o4, o5, o6, o7, o8, o9, o10, o11], _ =>
        refine ⟨_, rfl, _, rfl, g, l, q, _, rfl, st.bag, st.nq, st.Q, by rw [List.length_map, hT.1]; exact List.length_pos_iff.mpr hne, by rw [List.length_map, hT.1]; omega, fun v H5 hv B5 K5 => ?_⟩
        obtain ⟨t, htm, rfl⟩ := List.mem_map.mp hv
        have st5 := st.move B5 K5
        obtain ⟨j, hj⟩ := List.mem_iff_getElem?.mp htm
        obtain ⟨u, hu, htu⟩ := st5.T.get hj
        have hum := List.mem_of_getElem? hu
        refine ⟨t, _, rfl, SqT.of htu, rfl, _, _, rfl, _, _, rfl, _, _, rfl, rfl, ?_⟩
        refine ⟨⟨fun σ' H' => Wd (∃ d n : Int, σ' = [some (.ref a), some (.ref g), some (.ref q), some (.ref b), some (.int (0 + (i : Int))), some (.int d), some (.int n), some (.ref u.e), o8, o9, o10, o11] ∧ (0 ≤ d ∧ d ≤ 1000000 ∧ 0 ≤ n ∧ n ≤ 1000000) ∧ S32 A H' g l q b bd ts es es'), ?_, ?_⟩⟩
        · have hr4 := hrg u hum
          refine ⟨_, rfl, g, l, _, rfl, B5, by decide, by decide, fun c H6 c0 c1 B6 K6 => ⟨rfl, _, rfl, if_int (fun e0 => ?_) (fun e0 => ⟨u.d, u.n, rfl, ⟨hr4.1, by omega, hr4.2.1, by omega⟩, st5.move B6 K6⟩)⟩⟩
          have st6 := st5.move B6 K6
          refine ⟨(by show 2 ≤ sizeLine; decide), fun t1 h1 => ⟨(by show 2 ≤ sizeLine; decide), fun t2 h2 => ⟨_, rfl, (by show 2 ≤ sizeLine; decide), fun t3 h3 => ⟨(by show 3 ≤ sizeLine; decide), fun p hp => ?_⟩⟩⟩⟩
          have s1 := Same.new (o := .tup [V.int 0, .int 0]) h1
          have s2 := Same.new (o := .tup [V.int 1000000, .int 1000000]) h2
          have s3 := Same.new (o := .tup [V.int u.d, .int 1000000]) h3
          have s4 := Same.new (o := .lst [V.ref t1, .ref t2, .ref t3]) hp
          have s14 := s1.trans (s2.trans (s3.trans s4))
          have st7 := st6.same s14
          have npg := ((st6.bag.keep (s1.trans (s2.trans s3))).ne hp).1
          refine ⟨_, rfl, g, l, _, rfl, st7.bag, by decide, by decide, fun c2 H8 d0 d1 B8 K8 => ?_⟩
          have st8 := st7.move B8 K8
          have hp8 := K8 _ _ upd_same npg
          obtain ⟨ys, hg⟩ := st7.bag.lst
          have a1 := s4 _ _ (s3 _ _ (s2 _ _ (upd_same : upd H6 t1 (.tup [V.int 0, .int 0]) t1 = _)))
          have a2 := s4 _ _ (s3 _ _ (upd_same : upd (upd H6 t1 (.tup [V.int 0, .int 0])) t2 (.tup [V.int 1000000, .int 1000000]) t2 = _))
          have a3 := s4 _ _ (upd_same : upd (upd (upd H6 t1 (.tup [V.int 0, .int 0])) t2 (.tup [V.int 1000000, .int 1000000])) t3 (.tup [V.int u.d, .int 1000000]) t3 = _)
          obtain ⟨tt, d, n, hv, ht8, hrn⟩ : ∃ (tt : Addr) (d n : Int), atI [V.ref t1, .ref t2, .ref t3] c2 = some (.ref tt) ∧ H8 tt = some (.tup [.int d, .int n]) ∧ (0 ≤ d ∧ d ≤ 1000000 ∧ 0 ≤ n ∧ n ≤ 1000000) := by
            have : c2 = 0 ∨ c2 = 1 ∨ c2 = 2 := by omega
            rcases this with rfl | rfl | rfl
            · exact ⟨t1, 0, 0, rfl, K8 _ _ a1 (ne_of a1 hg (by intro z; cases z)), by decide⟩
            · exact ⟨t2, 1000000, 1000000, rfl, K8 _ _ a2 (ne_of a2 hg (by intro z; cases z)), by decide⟩
            · exact ⟨t3, u.d, 1000000, rfl, K8 _ _ a3 (ne_of a3 hg (by intro z; cases z)), hr4.1, by omega, by decide, by decide⟩
          exact ⟨p, _, _, _, rfl, rfl, SqL.of hp8, hv, tt, _, rfl, SqT.of ht8, rfl, _, _, rfl, _, _, rfl, rfl, d, n, rfl, hrn, st8⟩
        · rintro σ' H6 ⟨d, n, rfl, hrn, st6⟩
          have ue := hok u hum
          have el9 : es'.length < 1000 := by omega
          have numd : numV 0 (.int d) = true := by
            show (decide (0 ≤ d) && decide (d ≤ 1000000)) = true
            rw [decide_eq_true hrn.1, decide_eq_true hrn.2.1]
            rfl
          have numn : numV 0 (.int n) = true := by
            show (decide (0 ≤ n) && decide (n ≤ 1000000)) = true
            rw [decide_eq_true hrn.2.2.1, decide_eq_true hrn.2.2.2]
            rfl
          have dI : ∀ (j : Int) (H' : Hp), DL K H' (.int j) (.int j) 3 := fun j H' => ⟨.int j, rfl, Nat.zero_le _⟩
          refine ⟨_, rfl, b, bd, es', rfl, st6.B, st6.kn, el9, fun p us H7 s7 np KA eu => ?_⟩
          have st7 := st6.same s7
          have nLp : ∀ c ys, H7 c = some (.lst ys) → True := fun _ _ _ => trivial
          refine ⟨_, rfl, _, rfl, _, rfl, _, rfl, _, rfl, rfl, .inl ⟨rfl, g, l, u.e, u.kd, u.nm, u.x, _, rfl, st7.bag, st7.E0 u hum, ue.1, ue.2.1, ue.2.2.2, by decide, fun v H8 hset B8 K8 => ?_⟩⟩
          have st8 := st7.move B8 K8
          have npg : p ≠ g := (st6.bag.ne np).1
          have KA8 : KeptAt H8 p us := by
            obtain ⟨ys, hg⟩ := st7.bag.lst
            exact ⟨K8 _ _ KA.1 npg, fun w hw => ⟨K8 _ _ (KA.2 w hw).1 (ne_of (KA.2 w hw).1 hg (by intro z; cases z)), K8 _ _ (KA.2 w hw).2 (ne_of (KA.2 w hw).2 hg (by intro z; cases z))⟩⟩
          refine ⟨b, bd, es', .int d, .int n, v, false, .int d, .int n, rfl, st8.B, el9, .inl (.int _), .inl (.int _), fun H' _ => dI d H', fun H' _ => dI n H', hset, fun _ H9 s9 => ⟨_, rfl, iteF ?_⟩, fun _ _ _ _ z => by rw [Bool.and_false, Bool.and_false] at z; cases z⟩
          have st9 := st8.same s9
          have KA9 := KA8.same s9
          refine ⟨_, rfl, b, bd, es', rfl, st9.B, st9.kn, el9, fun p2 us2 HA sA np2 KA2 eu2 => ?_⟩
          have stA := st9.same sA
          have KAA := KA9.same sA
          refine ⟨_, rfl, ne_dl (k := 3) (dl_keptE KA2 stA.E stA.ok eu2) (dl_keptE KAA stA.E stA.ok eu) (by decide) ⟨_, rfl, iteF ?_⟩⟩
          clear KA2 eu2 np2 us2 p2
          refine ⟨1, rfl, 1000000, rfl, (by show 1 ≤ sizeLine; decide), fun tf htf => ⟨(by show 6 ≤ sizeLine; decide), fun lf hlf => ?_⟩⟩
          have v1 := Same.new (o := .tup [V.int 1]) htf
          have v2 := Same.new (o := .lst [V.int (-1), .int 1000001, .int (-1000000), .non, .str "1", .ref tf]) hlf
          have v12 := v1.trans v2
          have stB := stA.same v12
          have nlg := ((stA.bag.keep v1).ne hlf).1
          refine ⟨_, rfl, g, l, _, rfl, stB.bag, by decide, by decide, fun cf HC cf0 cf1 BC KC => ?_⟩
          have stC := stB.move BC KC
          have hlf' := KC _ _ upd_same nlg
          obtain ⟨yg, hg⟩ := stB.bag.lst
          have htf' := KC _ _ (v2 _ _ upd_same) (ne_of (v2 _ _ upd_same) hg (by intro z; cases z))
          have KAC : KeptAt HC p us := by
            have kb := KAA.same v12
            exact ⟨KC _ _ kb.1 npg, fun w hw => ⟨KC _ _ (kb.2 w hw).1 (ne_of (kb.2 w hw).1 hg (by intro z; cases z)), KC _ _ (kb.2 w hw).2 (ne_of (kb.2 w hw).2 hg (by intro z; cases z))⟩⟩
          obtain ⟨vf, df, hvf, hpn, hdf, hnf⟩ : ∃ (vf : V) (df : PyData), atI [V.int (-1), .int 1000001, .int (-1000000), .non, .str "1", .ref tf] cf = some vf ∧ Pn HC vf ∧ (∀ H', Same HC H' → DL K H' vf df 3) ∧ numV 0 vf = false := by
            have : cf = 0 ∨ cf = 1 ∨ cf = 2 ∨ cf = 3 ∨ cf = 4 ∨ cf = 5 := by omega
            rcases this with rfl | rfl | rfl | rfl | rfl | rfl
            · exact ⟨_, _, rfl, .inl (.int _), fun H' _ => dI _ H', by decide⟩
            · exact ⟨_, _, rfl, .inl (.int _), fun H' _ => dI _ H', by decide⟩
            · exact ⟨_, _, rfl, .inl (.int _), fun H' _ => dI _ H', by decide⟩
            · exact ⟨_, _, rfl, .inl .non, fun H' _ => ⟨.non, rfl, Nat.zero_le _⟩, rfl⟩
            · exact ⟨_, _, rfl, .inl (.str _), fun H' _ => ⟨.str _, rfl, Nat.zero_le _⟩, rfl⟩
            · exact ⟨_, .tuple [.int 1], rfl, .inr ⟨tf, _, rfl, htf'⟩, fun H' s' => ⟨.tup (SqT.of (s' _ _ htf')) (.cons (.int 1) .nil), rfl, Nat.le_of_ble_eq_true rfl⟩, rfl⟩
          refine ⟨lf, _, _, vf, rfl, rfl, SqL.of hlf', hvf, ?_⟩
          have so : ∀ {HH : Hp}, S32 A HH g l q b bd ts es es' → SetOk HH (.ref u.e) true := fun sx => .inl ⟨.str u.kd, .str u.nm, u.x, ⟨u.e, rfl, sx.E0 u hum, .str _, .str _, ue.2.1, ue.2.2.1, ue.2.2.2⟩, ue.1.symm⟩
          refine ⟨_, rfl, _, rfl, _, rfl, _, rfl, b, bd, es', vf, .int n, .ref u.e, true, df, .int n, rfl, stC.B, el9, hpn, .inl (.int _), hdf, fun H' _ => dI n H', so stC, fun _ HD sD => ⟨_, rfl, iteF ?_⟩, fun _ _ _ _ z => by rw [hnf, Bool.false_and] at z; cases z⟩
          have stD := stC.same sD
          refine ⟨_, rfl, _, rfl, _, rfl, _, rfl, b, bd, es', .int d, vf, .ref u.e, true, .int d, df, rfl, stD.B, el9, .inl (.int _), hpn.same sD, fun H' _ => dI d H', fun H' s' => hdf H' (sD.trans s'), so stD, fun _ HE sE => ⟨_, rfl, iteF ?_⟩, fun _ _ _ _ z => by rw [hnf, Bool.false_and, Bool.and_false] at z; cases z⟩
          have stE := stD.same sE
          have KAE := KAC.same (sD.trans sE)
          refine ⟨_, rfl, b, bd, es', rfl, stE.B, stE.kn, el9, fun p2 us2 HF sF np2 KA2 eu2 => ?_⟩
          have stF := stE.same sF
          have KAF := KAE.same sF
          refine ⟨_, rfl, ne_dl (k := 3) (dl_keptE KA2 stF.E stF.ok eu2) (dl_keptE KAF stF.E stF.ok eu) (by decide) ⟨_, rfl, iteF ?_⟩⟩
          clear KA2 eu2 np2 us2 p2
          refine ⟨_, rfl, _, rfl, _, rfl, _, rfl, b, bd, es', .int d, .int n, .ref u.e, true, .int d, .int n, rfl, stF.B, el9, .inl (.int _), .inl (.int _), fun H' _ => dI d H', fun H' _ => dI n H', so stF, fun z => (by rw [numd, numn] at z; cases z), fun d' n' e1 e2 _ HG sG => ⟨_, rfl, iteF ?_⟩⟩
          obtain rfl := V.int.inj e1
          obtain rfl := V.int.inj e2
          rw [put_kvE (es := es') (t := ⟨d, n, u.e, u.kd, u.nm, u.x⟩)]
          have stG := stF.same sG
          have stH := stG.put (t := ⟨d, n, u.e, u.kd, u.nm, u.x⟩) (stG.E0 u hum) ue
          have KAH : KeptAt (upd HG bd (.dT (kvE (putE es' ⟨d, n, u.e, u.kd, u.nm, u.x⟩)))) p us := by
            have kb := KAF.same sG
            exact ⟨by rw [upd_ne (ne_of kb.1 stG.B.2 (by intro z; cases z))]; exact kb.1, fun w hw => ⟨by rw [upd_ne (ne_of (kb.2 w hw).1 stG.B.2 (by intro z; cases z))]; exact (kb.2 w hw).1, by rw [upd_ne (ne_of (kb.2 w hw).2 stG.B.2 (by intro z; cases z))]; exact (kb.2 w hw).2⟩⟩
          have Eu : EntsAt (upd HG bd (.dT (kvE (putE es' ⟨d, n, u.e, u.kd, u.nm, u.x⟩)))) (dropE es' d n) := fun w hw => by
            have hw' := (List.mem_filter.mp hw).1
            rw [upd_ne (ne_of (stG.E w hw') stG.B.2 (by intro z; cases z))]
            exact stG.E w hw'
          have knE := st6.kn
          have okE := st6.ok
          generalize ht0 : (⟨d, n, u.e, u.kd, u.nm, u.x⟩ : En) = t0 at stH KAH Eu ⊢
          have t0d : t0.d = d := by rw [← ht0]
          have t0n : t0.n = n := by rw [← ht0]
          have t0e : t0.e = u.e := by rw [← ht0]
          generalize upd HG bd (.dT (kvE (putE es' t0))) = HI at stH KAH Eu ⊢
          refine ⟨⟨_, rfl, p, rfl, ⟨_, SqL.of KAH.1⟩, fun D hD => ?_⟩⟩
          have hul : us.length = es'.length := by
            have := congrArg List.length eu
            rw [List.length_map] at this
            rw [this]
            exact (srtE_perm es').length_eq
          refine lc_list (K := K) (a := p) (xs := us.map fun w => V.ref w.1) (fun j H' => Wd (Same HI H' ∧ H' D = some (.lst (((us.take j).filter fun w => !isE d n w.2.2).map fun w => V.ref w.1)))) ⟨Same.new hD, upd_same⟩ (fun j H' _ h => SqL.of (h.ok.1 _ _ KAH.1)) ?_ ?_
          · rintro j x H' hx ⟨sx, hDx⟩
            rw [List.getElem?_map] at hx
            obtain ⟨w, hw, rfl⟩ := Option.map_eq_some_iff.mp hx
            have hwm := List.mem_of_getElem? hw
            have k1 := sx _ _ (KAH.2 w hwm).1
            have k2 := sx _ _ (KAH.2 w hwm).2
            refine ⟨rfl, _, rfl, w.1, _, _, _, rfl, rfl, SqT.of k1, rfl, _, rfl, _, rfl, (by show 2 ≤ sizeLine; decide), fun r hr' => ?_⟩
            have sr := Same.new (o := .tup [V.int d, .int n]) hr'
            refine ⟨.tuple [.int w.2.2.d, .int w.2.2.n], .tuple [.int d, .int n], .tup (SqT.of (sr _ _ k2)) (.cons (.int _) (.cons (.int _) .nil)), .tup (SqT.of upd_same) (.cons (.int _) (.cons (.int _) .nil)), rfl, rfl, Nat.le_of_ble_eq_true rfl, _, rfl, ?_⟩
            rw [eqv_pair]
            have hDr := sr _ _ hDx
            by_cases ek : isE d n w.2.2 = true
            · have e2 : (w.2.2.d, w.2.2.n) = (d, n) := by rw [(isE_iff.mp ek).1, (isE_iff.mp ek).2]
              rw [decide_eq_true e2]
              refine iteF ⟨sx.trans sr, ?_⟩
              rw [hDr, take_more hw, List.filter_append, List.filter_cons_of_neg (by simp [ek]), List.filter_nil, List.append_nil]
            · have e2 : ¬ (w.2.2.d, w.2.2.n) = (d, n) := fun e => ek (isE_iff.mpr ⟨congrArg Prod.fst e, congrArg Prod.snd e⟩)
              rw [decide_eq_false e2]
              refine iteT ⟨_, rfl, _, hDr, ?_, Same.at_new hD (sx.trans sr), ?_⟩
              · rw [List.length_map]
                refine Nat.lt_of_lt_of_le (Nat.lt_of_le_of_lt (List.length_filter_le _ _) ?_) (by decide : 1000 ≤ sizeLine)
                rw [List.length_take]
                omega
              · rw [upd_same, take_more hw, List.filter_append, List.map_append, List.filter_cons_of_pos (by simpa using ek)]
                rfl
          rintro HJ ⟨sJ, hDJ⟩
          rw [List.length_map, List.take_of_length_le (Nat.le_refl _)] at hDJ
          refine ⟨_, rfl, _, rfl, (by show 2 ≤ sizeLine; decide), fun r1 hr1 => ⟨_, rfl, (by show 2 ≤ sizeLine; decide), fun r2 hr2 => ⟨(by show 1 ≤ sizeLine; decide), fun r3 hr3 => ?_⟩⟩⟩
          have w1 := Same.new (o := .tup [V.int d, .int n]) hr1
          have w2 := Same.new (o := .tup [V.ref r1, .ref u.e]) hr2
          have w3 := Same.new (o := .lst [V.ref r2]) hr3
          have w13 := w1.trans (w2.trans w3)
          refine ⟨D, r3, _, _, rfl, rfl, w13 _ _ hDJ, upd_same, ?_, fun r4 hr4 => ?_⟩
          · rw [List.length_map]
            have := List.length_filter_le (fun w : Addr × Addr × En => !isE d n w.2.2) us
            exact Nat.le_trans (by show _ + 1 ≤ 1000; omega) (by decide)
          have w4 := Same.new (o := .lst ((us.filter fun w => !isE d n w.2.2).map (fun w => V.ref w.1) ++ [V.ref r2])) hr4
          have wA := sJ.trans (w13.trans w4)
          have stJ := stH.same wA
          have el2 : (putE es' t0).length < 1000 := Nat.lt_of_le_of_lt len_putE (by omega)
          refine ⟨_, rfl, b, bd, putE es' t0, rfl, stJ.B, stJ.kn, el2, fun p5 us5 HK sK np5 KA5 eu5 => ?_⟩
          have stK := stJ.same sK
          have wK := wA.trans sK
          -- the list that is sorted, as triples
          have EU : (us.filter fun w => !isE d n w.2.2).map (fun w => w.2.2) = (srtE es').filter fun t => !isE d n t := by
            rw [← eu, List.filter_map]
            rfl
          have PM : (((us.filter fun w => !isE d n w.2.2) ++ [(r2, r1, t0)]).map fun w => w.2.2).Perm (putE es' t0) := by
            rw [List.map_append, EU]
            refine List.Perm.trans ?_ (put_perm knE).symm
            rw [t0d, t0n]
            exact List.Perm.append ((srtE_perm es').filter _) (List.Perm.refl _)
          have KN : (((us.filter fun w => !isE d n w.2.2) ++ [(r2, r1, t0)]).map fun w => (w.2.2.d, w.2.2.n)).Nodup := by
            have h1 := keyN_perm PM stK.kn
            unfold keyN keysE at h1
            rw [List.map_map] at h1
            exact h1
          have KU : ∀ w ∈ (us.filter fun w => !isE d n w.2.2) ++ [(r2, r1, t0)], HK w.1 = some (.tup [.ref w.2.1, .ref w.2.2.e]) ∧ HK w.2.1 = some (.tup [.int w.2.2.d, .int w.2.2.n]) := fun w hw => by
            rcases List.mem_append.mp hw with hw | hw
            · have hw' := (List.mem_filter.mp hw).1
              exact ⟨wK _ _ (KAH.2 w hw').1, wK _ _ (KAH.2 w hw').2⟩
            · rw [List.mem_singleton] at hw
              subst hw
              refine ⟨?_, ?_⟩
              · rw [t0e]
                exact sK _ _ (w4 _ _ (w3 _ _ upd_same))
              · rw [t0d, t0n]
                exact sK _ _ (w4 _ _ (w3 _ _ (w2 _ _ upd_same)))
          have AN : (((us.filter fun w => !isE d n w.2.2) ++ [(r2, r1, t0)]).map fun w => w.1).Nodup := by
            unfold List.Nodup at KN ⊢
            rw [List.pairwise_map] at KN ⊢
            refine List.Pairwise.imp_of_mem (fun {x y} hx hy hne e => hne ?_) KN
            have h1 := (KU x hx).1
            rw [e, (KU y hy).1] at h1
            have h2 : y.2.1 = x.2.1 := by
              have h3 := Option.some.inj h1
              injection h3 with h4
              injection h4 with h5 _
              exact V.ref.inj h5
            have h6 := (KU x hx).2
            rw [← h2, (KU y hy).2] at h6
            have h7 := Option.some.inj h6
            injection h7 with h8
            injection h8 with h9 h10
            injection h10 with h11 _
            rw [V.int.inj h9, V.int.inj h11]
          refine ⟨_, rfl, ⟨r4, ((us.filter fun w => !isE d n w.2.2) ++ [(r2, r1, t0)]).map fun w => (w.1, (w.2.2.d, w.2.2.n)), rfl, SqL.of ?_, fun z hz => ?_, ?_, ?_, fun zs p6 np6 hperm hsorted => ?_⟩⟩
          · rw [List.map_map, sK _ _ upd_same, List.map_append]
            rfl
          · obtain ⟨w, hw, rfl⟩ := List.mem_map.mp hz
            exact ⟨_, _, (KU w hw).1, (KU w hw).2⟩
          · rw [List.map_map]
            exact KN
          · rw [List.map_map]
            exact AN
          obtain ⟨zs', rfl, hperm'⟩ := perm_map_back hperm
          have s6 := Same.new (o := .lst ((zs'.map fun w => (w.1, (w.2.2.d, w.2.2.n))).map fun u => V.ref u.1)) np6
          have stL := stK.same s6
          have KL : KeptAt (upd HK p6 (.lst ((zs'.map fun w => (w.1, (w.2.2.d, w.2.2.n))).map fun u => V.ref u.1))) p6 zs' := by
            refine ⟨by rw [upd_same, List.map_map]; rfl, fun w hw => ?_⟩
            have := KU w (hperm'.mem_iff.mp hw)
            exact ⟨s6 _ _ this.1, s6 _ _ this.2⟩
          have EZ : zs'.map (fun w => w.2.2) = srtE (putE es' t0) := by
            refine srtE_uniq stK.kn ((hperm'.map _).trans PM) ?_
            rw [List.map_map, List.pairwise_map] at hsorted
            rw [List.pairwise_map]
            refine hsorted.imp fun {x y} h => ?_
            unfold leEn leK
            rw [show SrtO.lexB (y.2.2.d, y.2.2.n) (x.2.2.d, x.2.2.n) = false from h]
            rfl
          refine ne_dl (k := 3) (dl_keptE (KA5.same s6) stL.E stL.ok eu5) (dl_keptE KL stL.E stL.ok EZ) (by decide) ⟨_, rfl, iteF ?_⟩
          exact ⟨[_, _, _, _, _, _, _, _], putE es' t0, rfl, rfl, stL, Nat.le_trans len_putE (by omega)⟩
    · rintro σ' H4 ⟨o, es', hol, rfl, st, hel⟩
      exact k H4
end

theorem all_mk {l : PySem.W.OpenLaw} {w : World} {K : PySem.W.Frag} {h : Heap} {mg : Str → Option Value} {fa a_CostError a_BadEntry a_NoEntry a_Book a_m_BadEntry_init a_m_NoEntry_init a_f_is_name a_f_is_number a_f_is_entry a_m_Book_init a_m_Book_iter a_m_Book_contains a_m_Book_len a_m_Book_getitem a_m_Book_setitem a_m_Book_places a_l_bag a_l_draw a_l_names a_l_pick a_l_next a_l_entries a_l_book a_l_wrong_name a_l_spoilt a_l_refused a_l_kept a_f_law : Addr} (X : K.In h) (G : h.Ns mainGlobals mg) (hfa : mg "law" = some (.ref fa))
    {od_m_BadEntry_init : Option Addr} {an_m_BadEntry_init : Option Addr} {sl_m_BadEntry_init : Array (Option Value)} {oc_m_BadEntry_init : Value} {kV_m_BadEntry_init : Value} {dc_m_BadEntry_init : Value} {pm_m_BadEntry_init : Value} {cd_m_BadEntry_init : Value} {ct_m_BadEntry_init : Value} {od_m_NoEntry_init : Option Addr} {an_m_NoEntry_init : Option Addr} {sl_m_NoEntry_init : Array (Option Value)} {oc_m_NoEntry_init : Value} {kV_m_NoEntry_init : Value} {dc_m_NoEntry_init : Value} {pm_m_NoEntry_init : Value} {cd_m_NoEntry_init : Value} {ct_m_NoEntry_init : Value} {od_f_is_name : Option Addr} {an_f_is_name : Option Addr} {sl_f_is_name : Array (Option Value)} {oc_f_is_name : Value} {kV_f_is_name : Value} {dc_f_is_name : Value} {pm_f_is_name : Value} {cd_f_is_name : Value} {ct_f_is_name : Value} {od_f_is_number : Option Addr} {an_f_is_number : Option Addr} {sl_f_is_number : Array (Option Value)} {oc_f_is_number : Value} {kV_f_is_number : Value} {dc_f_is_number : Value} {pm_f_is_number : Value} {cd_f_is_number : Value} {ct_f_is_number : Value} {od_f_is_entry : Option Addr} {an_f_is_entry : Option Addr} {sl_f_is_entry : Array (Option Value)} {oc_f_is_entry : Value} {kV_f_is_entry : Value} {dc_f_is_entry : Value} {pm_f_is_entry : Value} {cd_f_is_entry : Value} {ct_f_is_entry : Value} {od_m_Book_init : Option Addr} {an_m_Book_init : Option Addr} {sl_m_Book_init : Array (Option Value)} {oc_m_Book_init : Value} {kV_m_Book_init : Value} {dc_m_Book_init : Value} {pm_m_Book_init : Value} {cd_m_Book_init : Value} {ct_m_Book_init : Value} {od_m_Book_iter : Option Addr} {an_m_Book_iter : Option Addr} {sl_m_Book_iter : Array (Option Value)} {oc_m_Book_iter : Value} {kV_m_Book_iter : Value} {dc_m_Book_iter : Value} {pm_m_Book_iter : Value} {cd_m_Book_iter : Value} {ct_m_Book_iter : Value} {od_m_Book_contains : Option Addr} {an_m_Book_contains : Option Addr} {sl_m_Book_contains : Array (Option Value)} {oc_m_Book_contains : Value} {kV_m_Book_contains : Value} {dc_m_Book_contains : Value} {pm_m_Book_contains : Value} {cd_m_Book_contains : Value} {ct_m_Book_contains : Value} {od_m_Book_len : Option Addr} {an_m_Book_len : Option Addr} {sl_m_Book_len : Array (Option Value)} {oc_m_Book_len : Value} {kV_m_Book_len : Value} {dc_m_Book_len : Value} {pm_m_Book_len : Value} {cd_m_Book_len : Value} {ct_m_Book_len : Value} {od_m_Book_getitem : Option Addr} {an_m_Book_getitem : Option Addr} {sl_m_Book_getitem : Array (Option Value)} {oc_m_Book_getitem : Value} {kV_m_Book_getitem : Value} {dc_m_Book_getitem : Value} {pm_m_Book_getitem : Value} {cd_m_Book_getitem : Value} {ct_m_Book_getitem : Value} {od_m_Book_setitem : Option Addr} {an_m_Book_setitem : Option Addr} {sl_m_Book_setitem : Array (Option Value)} {oc_m_Book_setitem : Value} {kV_m_Book_setitem : Value} {dc_m_Book_setitem : Value} {pm_m_Book_setitem : Value} {cd_m_Book_setitem : Value} {ct_m_Book_setitem : Value} {od_m_Book_places : Option Addr} {an_m_Book_places : Option Addr} {sl_m_Book_places : Array (Option Value)} {oc_m_Book_places : Value} {kV_m_Book_places : Value} {dc_m_Book_places : Value} {pm_m_Book_places : Value} {cd_m_Book_places : Value} {ct_m_Book_places : Value} {od_l_bag : Option Addr} {an_l_bag : Option Addr} {sl_l_bag : Array (Option Value)} {oc_l_bag : Value} {kV_l_bag : Value} {dc_l_bag : Value} {pm_l_bag : Value} {cd_l_bag : Value} {ct_l_bag : Value} {od_l_draw : Option Addr} {an_l_draw : Option Addr} {sl_l_draw : Array (Option Value)} {oc_l_draw : Value} {kV_l_draw : Value} {dc_l_draw : Value} {pm_l_draw : Value} {cd_l_draw : Value} {ct_l_draw : Value} {od_l_names : Option Addr} {an_l_names : Option Addr} {sl_l_names : Array (Option Value)} {oc_l_names : Value} {kV_l_names : Value} {dc_l_names : Value} {pm_l_names : Value} {cd_l_names : Value} {ct_l_names : Value} {od_l_pick : Option Addr} {an_l_pick : Option Addr} {sl_l_pick : Array (Option Value)} {oc_l_pick : Value} {kV_l_pick : Value} {dc_l_pick : Value} {pm_l_pick : Value} {cd_l_pick : Value} {ct_l_pick : Value} {od_l_next : Option Addr} {an_l_next : Option Addr} {sl_l_next : Array (Option Value)} {oc_l_next : Value} {kV_l_next : Value} {dc_l_next : Value} {pm_l_next : Value} {cd_l_next : Value} {ct_l_next : Value} {od_l_entries : Option Addr} {an_l_entries : Option Addr} {sl_l_entries : Array (Option Value)} {oc_l_entries : Value} {kV_l_entries : Value} {dc_l_entries : Value} {pm_l_entries : Value} {cd_l_entries : Value} {ct_l_entries : Value} {od_l_book : Option Addr} {an_l_book : Option Addr} {sl_l_book : Array (Option Value)} {oc_l_book : Value} {kV_l_book : Value} {dc_l_book : Value} {pm_l_book : Value} {cd_l_book : Value} {ct_l_book : Value} {od_l_wrong_name : Option Addr} {an_l_wrong_name : Option Addr} {sl_l_wrong_name : Array (Option Value)} {oc_l_wrong_name : Value} {kV_l_wrong_name : Value} {dc_l_wrong_name : Value} {pm_l_wrong_name : Value} {cd_l_wrong_name : Value} {ct_l_wrong_name : Value} {od_l_spoilt : Option Addr} {an_l_spoilt : Option Addr} {sl_l_spoilt : Array (Option Value)} {oc_l_spoilt : Value} {kV_l_spoilt : Value} {dc_l_spoilt : Value} {pm_l_spoilt : Value} {cd_l_spoilt : Value} {ct_l_spoilt : Value} {od_l_refused : Option Addr} {an_l_refused : Option Addr} {sl_l_refused : Array (Option Value)} {oc_l_refused : Value} {kV_l_refused : Value} {dc_l_refused : Value} {pm_l_refused : Value} {cd_l_refused : Value} {ct_l_refused : Value} {od_l_kept : Option Addr} {an_l_kept : Option Addr} {sl_l_kept : Array (Option Value)} {oc_l_kept : Value} {kV_l_kept : Value} {dc_l_kept : Value} {pm_l_kept : Value} {cd_l_kept : Value} {ct_l_kept : Value} {od_f_law : Option Addr} {an_f_law : Option Addr} {sl_f_law : Array (Option Value)} {oc_f_law : Value} {kV_f_law : Value} {dc_f_law : Value} {pm_f_law : Value} {cd_f_law : Value} {ct_f_law : Value} {xnm_BadEntry : Str} {xq_BadEntry : Str} {xN_BadEntry : Addr} {xbs_BadEntry : List Value} {xbm_BadEntry : List Value} {xsn_BadEntry : List Str} {xsub_BadEntry : List Value} {xab_BadEntry : Bool} {xcol_BadEntry : Option Bool} {xdd_BadEntry : Option Addr} {xk0_BadEntry : Option Value} {xk1_BadEntry : Option Value} {xk2_BadEntry : Option Value} {xk3_BadEntry : Option Value} {xk5_BadEntry : Option Value} {xnm_NoEntry : Str} {xq_NoEntry : Str} {xN_NoEntry : Addr} {xbs_NoEntry : List Value} {xbm_NoEntry : List Value} {xsn_NoEntry : List Str} {xsub_NoEntry : List Value} {xab_NoEntry : Bool} {xcol_NoEntry : Option Bool} {xdd_NoEntry : Option Addr} {xk0_NoEntry : Option Value} {xk1_NoEntry : Option Value} {xk2_NoEntry : Option Value} {xk3_NoEntry : Option Value} {xk5_NoEntry : Option Value} {gt_LETTERS : Tok} {gt_LONGEST : Tok} {gt_MOST : Tok}
    (pz_TypeError : PySem.W.nsIn K mainGlobals "TypeError" = some none)
    (pz_abs : PySem.W.nsIn K mainGlobals "abs" = some none)
    (pz_all : PySem.W.nsIn K mainGlobals "all" = some none)
    (pz_bool : PySem.W.nsIn K mainGlobals "bool" = some none)
    (pz_int : PySem.W.nsIn K mainGlobals "int" = some none)
    (pz_isinstance : PySem.W.nsIn K mainGlobals "isinstance" = some none)
    (pz_len : PySem.W.nsIn K mainGlobals "len" = some none)
    (pz_list : PySem.W.nsIn K mainGlobals "list" = some none)
    (pz_min : PySem.W.nsIn K mainGlobals "min" = some none)
    (pz_range : PySem.W.nsIn K mainGlobals "range" = some none)
    (pz_sorted : PySem.W.nsIn K mainGlobals "sorted" = some none)
    (pz_str : PySem.W.nsIn K mainGlobals "str" = some none)
    (pz_tuple : PySem.W.nsIn K mainGlobals "tuple" = some none)
    (pg_CostError : PySem.W.nsIn K mainGlobals "CostError" = some (some (.ref a_CostError)))
    (pek_CostError : PySem.W.keepIn K (.ref a_CostError) = true)
    (peb_CostError : PySem.W.subIn K (.ref a_CostError) (.type "BaseException") = some true)
    (pet_CostError : PySem.W.typeIn K (.ref a_CostError) = some (.type "type"))
    (peh_CostError : PySem.W.hasDictIn K a_CostError = true)
    (peic_CostError : PySem.W.isClsIn K a_CostError = true)
    (pes_CostError : PySem.W.subIn K (.ref a_CostError) (.ref a_CostError) = some true)
    (pxg_CostError : PySem.W.findIn K (.ref a_CostError) "__getattribute__" = some (some (.builtin "BaseException.__getattribute__")))
    (pxk_CostError : PySem.W.findIn K (.ref a_CostError) "__getattr__" = some none)
    (pxa_CostError : PySem.W.findIn K (.ref a_CostError) "__class__" = some (some (.builtin "object.__class__")))
    (pxn_CostError : PySem.W.specialIn K (.builtin "object.__class__") "__get__" = some (some (.builtin "getset_descriptor.__get__")))
    (pxt_CostError : PySem.W.takesIn K (.builtin "object.__class__") = some true)
    (pxm_CostError : PySem.W.mroIn K a_CostError (.type "object") = some true)
    (prd_CostError : PySem.W.readsIn K a_CostError (.type "type") = true)
    (pcg_CostError : PySem.W.specialIn K (.ref a_CostError) "__getattribute__" = some (some (.builtin "type.__getattribute__")))
    (pvi_CostError : PySem.W.findCls K (.ref a_CostError) (.type "type") "__init__" = some (.val (.builtin "ValueError.__init__")))
    (pg_BadEntry : PySem.W.nsIn K mainGlobals "BadEntry" = some (some (.ref a_BadEntry)))
    (pek_BadEntry : PySem.W.keepIn K (.ref a_BadEntry) = true)
    (peb_BadEntry : PySem.W.subIn K (.ref a_BadEntry) (.type "BaseException") = some true)
    (pet_BadEntry : PySem.W.typeIn K (.ref a_BadEntry) = some (.type "type"))
    (peh_BadEntry : PySem.W.hasDictIn K a_BadEntry = true)
    (peic_BadEntry : PySem.W.isClsIn K a_BadEntry = true)
    (pes_BadEntry : PySem.W.subIn K (.ref a_BadEntry) (.ref a_BadEntry) = some true)
    (pxg_BadEntry : PySem.W.findIn K (.ref a_BadEntry) "__getattribute__" = some (some (.builtin "BaseException.__getattribute__")))
    (pxk_BadEntry : PySem.W.findIn K (.ref a_BadEntry) "__getattr__" = some none)
    (pxa_BadEntry : PySem.W.findIn K (.ref a_BadEntry) "__class__" = some (some (.builtin "object.__class__")))
    (pxn_BadEntry : PySem.W.specialIn K (.builtin "object.__class__") "__get__" = some (some (.builtin "getset_descriptor.__get__")))
    (pxt_BadEntry : PySem.W.takesIn K (.builtin "object.__class__") = some true)
    (pxm_BadEntry : PySem.W.mroIn K a_BadEntry (.type "object") = some true)
    (pxc_BadEntry : PySem.W.kitOne K (.ref a_BadEntry) (.ref a_CostError) = some true)
    (pn_BadEntry_day : PySem.W.findIn K (.ref a_BadEntry) "day" = some none)
    (pn_BadEntry_number : PySem.W.findIn K (.ref a_BadEntry) "number" = some none)
    (poi_BadEntry : PySem.W.findIn K (.ref a_BadEntry) "__init__" = some (some (.ref a_m_BadEntry_init)))
    (pot_BadEntry : PySem.W.typeIn K (.ref a_m_BadEntry_init) = some (.type "function"))
    (pol_BadEntry : K.lookup a_BadEntry = some (excClassObj xnm_BadEntry xq_BadEntry a_BadEntry xN_BadEntry xbs_BadEntry xbm_BadEntry true xsn_BadEntry xsub_BadEntry xab_BadEntry xcol_BadEntry xdd_BadEntry xk0_BadEntry xk1_BadEntry xk2_BadEntry xk3_BadEntry xk5_BadEntry "ValueError.__new__"))
    (pov_BadEntry : PySem.HandSPX.refsVE xbm_BadEntry = true)
    (posa_BadEntry : PySem.W.findIn K (.ref a_BadEntry) "__setattr__" = some (some (.builtin "object.__setattr__")))
    (pg_NoEntry : PySem.W.nsIn K mainGlobals "NoEntry" = some (some (.ref a_NoEntry)))
    (pek_NoEntry : PySem.W.keepIn K (.ref a_NoEntry) = true)
    (peb_NoEntry : PySem.W.subIn K (.ref a_NoEntry) (.type "BaseException") = some true)
    (pet_NoEntry : PySem.W.typeIn K (.ref a_NoEntry) = some (.type "type"))
    (peh_NoEntry : PySem.W.hasDictIn K a_NoEntry = true)
    (peic_NoEntry : PySem.W.isClsIn K a_NoEntry = true)
    (pes_NoEntry : PySem.W.subIn K (.ref a_NoEntry) (.ref a_NoEntry) = some true)
    (pxg_NoEntry : PySem.W.findIn K (.ref a_NoEntry) "__getattribute__" = some (some (.builtin "BaseException.__getattribute__")))
    (pxk_NoEntry : PySem.W.findIn K (.ref a_NoEntry) "__getattr__" = some none)
    (pxa_NoEntry : PySem.W.findIn K (.ref a_NoEntry) "__class__" = some (some (.builtin "object.__class__")))
    (pxn_NoEntry : PySem.W.specialIn K (.builtin "object.__class__") "__get__" = some (some (.builtin "getset_descriptor.__get__")))
    (pxt_NoEntry : PySem.W.takesIn K (.builtin "object.__class__") = some true)
    (pxm_NoEntry : PySem.W.mroIn K a_NoEntry (.type "object") = some true)
    (pn_NoEntry_day : PySem.W.findIn K (.ref a_NoEntry) "day" = some none)
    (pn_NoEntry_number : PySem.W.findIn K (.ref a_NoEntry) "number" = some none)
    (poi_NoEntry : PySem.W.findIn K (.ref a_NoEntry) "__init__" = some (some (.ref a_m_NoEntry_init)))
    (pot_NoEntry : PySem.W.typeIn K (.ref a_m_NoEntry_init) = some (.type "function"))
    (pol_NoEntry : K.lookup a_NoEntry = some (excClassObj xnm_NoEntry xq_NoEntry a_NoEntry xN_NoEntry xbs_NoEntry xbm_NoEntry true xsn_NoEntry xsub_NoEntry xab_NoEntry xcol_NoEntry xdd_NoEntry xk0_NoEntry xk1_NoEntry xk2_NoEntry xk3_NoEntry xk5_NoEntry "ValueError.__new__"))
    (pov_NoEntry : PySem.HandSPX.refsVE xbm_NoEntry = true)
    (posa_NoEntry : PySem.W.findIn K (.ref a_NoEntry) "__setattr__" = some (some (.builtin "object.__setattr__")))
    (pg_Book : PySem.W.nsIn K mainGlobals "Book" = some (some (.ref a_Book)))
    (ppg_Book : PySem.W.plainGet K a_Book Str.empty = true)
    (phd_Book : PySem.W.hasDictIn K a_Book = true)
    (ppo_Book : PySem.W.plainOver K a_Book = true)
    (psa_Book : PySem.W.findIn K (.ref a_Book) "__setattr__" = some (some (.builtin "object.__setattr__")))
    (pn_Book_entries : NoAttr K a_Book "entries")
    (pma_Book : PySem.W.makesIn K a_Book = true)
    (pmi_Book : PySem.W.findIn K (.ref a_Book) "__init__" = some (some (.ref a_m_Book_init)))
    (pmf_Book : PySem.W.isFn K (.ref a_m_Book_init) = true)
    (pmc_Book : PySem.W.keepIn K (.ref a_Book) = true)
    (pmt_m_Book_iter : PySem.W.findIn K (.ref a_Book) "__iter__" = some (some (.ref a_m_Book_iter)))
    (pmn_m_Book_iter : PySem.W.isFn K (.ref a_m_Book_iter) = true)
    (pmk_m_Book_iter : PySem.W.keepIn K (.ref a_m_Book_iter) = true)
    (pmt_m_Book_contains : PySem.W.findIn K (.ref a_Book) "__contains__" = some (some (.ref a_m_Book_contains)))
    (pmn_m_Book_contains : PySem.W.isFn K (.ref a_m_Book_contains) = true)
    (pmk_m_Book_contains : PySem.W.keepIn K (.ref a_m_Book_contains) = true)
    (pmt_m_Book_len : PySem.W.findIn K (.ref a_Book) "__len__" = some (some (.ref a_m_Book_len)))
    (pmn_m_Book_len : PySem.W.isFn K (.ref a_m_Book_len) = true)
    (pmk_m_Book_len : PySem.W.keepIn K (.ref a_m_Book_len) = true)
    (pmt_m_Book_getitem : PySem.W.findIn K (.ref a_Book) "__getitem__" = some (some (.ref a_m_Book_getitem)))
    (pmn_m_Book_getitem : PySem.W.isFn K (.ref a_m_Book_getitem) = true)
    (pmk_m_Book_getitem : PySem.W.keepIn K (.ref a_m_Book_getitem) = true)
    (pmt_m_Book_setitem : PySem.W.findIn K (.ref a_Book) "__setitem__" = some (some (.ref a_m_Book_setitem)))
    (pmn_m_Book_setitem : PySem.W.isFn K (.ref a_m_Book_setitem) = true)
    (pmk_m_Book_setitem : PySem.W.keepIn K (.ref a_m_Book_setitem) = true)
    (pmt_m_Book_places : PySem.W.findIn K (.ref a_Book) "places" = some (some (.ref a_m_Book_places)))
    (pmn_m_Book_places : PySem.W.isFn K (.ref a_m_Book_places) = true)
    (pmk_m_Book_places : PySem.W.keepIn K (.ref a_m_Book_places) = true)
    (pfgi_Book : PySem.W.fnIn K a_m_Book_getitem = true)
    (pnsq_Book : PySem.W.noSeq K a_Book = true)
    (pg_LETTERS : PySem.W.nsIn K mainGlobals "LETTERS" = some (some (.str "abcdefghijklmnopqrstuvwxyz" gt_LETTERS)))
    (pg_LONGEST : PySem.W.nsIn K mainGlobals "LONGEST" = some (some (.int 12 gt_LONGEST)))
    (pg_MOST : PySem.W.nsIn K mainGlobals "MOST" = some (some (.int 1000000 gt_MOST)))
    (pe_m_BadEntry_init : PySem.W.findIn K (.ref a_BadEntry) "__init__" = some (some (.ref a_m_BadEntry_init)))
    (pl_m_BadEntry_init : K.lookup a_m_BadEntry_init = some ⟨oc_m_BadEntry_init, od_m_BadEntry_init, .func (PySem.W.fnOf "__init__" "BadEntry.__init__" (defArgs s_m_BadEntry_init) (defBody s_m_BadEntry_init) (defScope s_m_BadEntry_init) .none kV_m_BadEntry_init dc_m_BadEntry_init pm_m_BadEntry_init an_m_BadEntry_init cd_m_BadEntry_init ct_m_BadEntry_init), sl_m_BadEntry_init⟩)
    (pc_m_BadEntry_init : PySem.W.codeIn K cd_m_BadEntry_init "BadEntry.__init__" = true)
    (pq_m_BadEntry_init : PySem.W.keepIn K (.ref a_m_BadEntry_init) = true)
    (pe_m_NoEntry_init : PySem.W.findIn K (.ref a_NoEntry) "__init__" = some (some (.ref a_m_NoEntry_init)))
    (pl_m_NoEntry_init : K.lookup a_m_NoEntry_init = some ⟨oc_m_NoEntry_init, od_m_NoEntry_init, .func (PySem.W.fnOf "__init__" "NoEntry.__init__" (defArgs s_m_NoEntry_init) (defBody s_m_NoEntry_init) (defScope s_m_NoEntry_init) .none kV_m_NoEntry_init dc_m_NoEntry_init pm_m_NoEntry_init an_m_NoEntry_init cd_m_NoEntry_init ct_m_NoEntry_init), sl_m_NoEntry_init⟩)
    (pc_m_NoEntry_init : PySem.W.codeIn K cd_m_NoEntry_init "NoEntry.__init__" = true)
    (pq_m_NoEntry_init : PySem.W.keepIn K (.ref a_m_NoEntry_init) = true)
    (pa_f_is_name : PySem.W.nsIn K mainGlobals "is_name" = some (some (.ref a_f_is_name)))
    (pl_f_is_name : K.lookup a_f_is_name = some ⟨oc_f_is_name, od_f_is_name, .func (PySem.W.fnOf "is_name" "is_name" (defArgs s_f_is_name) (defBody s_f_is_name) (defScope s_f_is_name) .none kV_f_is_name dc_f_is_name pm_f_is_name an_f_is_name cd_f_is_name ct_f_is_name), sl_f_is_name⟩)
    (pc_f_is_name : PySem.W.codeIn K cd_f_is_name "is_name" = true)
    (pq_f_is_name : PySem.W.keepIn K (.ref a_f_is_name) = true)
    (pa_f_is_number : PySem.W.nsIn K mainGlobals "is_number" = some (some (.ref a_f_is_number)))
    (pl_f_is_number : K.lookup a_f_is_number = some ⟨oc_f_is_number, od_f_is_number, .func (PySem.W.fnOf "is_number" "is_number" (defArgs s_f_is_number) (defBody s_f_is_number) (defScope s_f_is_number) .none kV_f_is_number dc_f_is_number pm_f_is_number an_f_is_number cd_f_is_number ct_f_is_number), sl_f_is_number⟩)
    (pc_f_is_number : PySem.W.codeIn K cd_f_is_number "is_number" = true)
    (pq_f_is_number : PySem.W.keepIn K (.ref a_f_is_number) = true)
    (pa_f_is_entry : PySem.W.nsIn K mainGlobals "is_entry" = some (some (.ref a_f_is_entry)))
    (pl_f_is_entry : K.lookup a_f_is_entry = some ⟨oc_f_is_entry, od_f_is_entry, .func (PySem.W.fnOf "is_entry" "is_entry" (defArgs s_f_is_entry) (defBody s_f_is_entry) (defScope s_f_is_entry) .none kV_f_is_entry dc_f_is_entry pm_f_is_entry an_f_is_entry cd_f_is_entry ct_f_is_entry), sl_f_is_entry⟩)
    (pc_f_is_entry : PySem.W.codeIn K cd_f_is_entry "is_entry" = true)
    (pq_f_is_entry : PySem.W.keepIn K (.ref a_f_is_entry) = true)
    (pl_m_Book_init : K.lookup a_m_Book_init = some ⟨oc_m_Book_init, od_m_Book_init, .func (PySem.W.fnOf "__init__" "Book.__init__" (defArgs s_m_Book_init) (defBody s_m_Book_init) (defScope s_m_Book_init) .none kV_m_Book_init dc_m_Book_init pm_m_Book_init an_m_Book_init cd_m_Book_init ct_m_Book_init), sl_m_Book_init⟩)
    (pc_m_Book_init : PySem.W.codeIn K cd_m_Book_init "Book.__init__" = true)
    (pq_m_Book_init : PySem.W.keepIn K (.ref a_m_Book_init) = true)
    (pl_m_Book_iter : K.lookup a_m_Book_iter = some ⟨oc_m_Book_iter, od_m_Book_iter, .func (PySem.W.fnOf "__iter__" "Book.__iter__" (defArgs s_m_Book_iter) (defBody s_m_Book_iter) (defScope s_m_Book_iter) .none kV_m_Book_iter dc_m_Book_iter pm_m_Book_iter an_m_Book_iter cd_m_Book_iter ct_m_Book_iter), sl_m_Book_iter⟩)
    (pc_m_Book_iter : PySem.W.codeIn K cd_m_Book_iter "Book.__iter__" = true)
    (pq_m_Book_iter : PySem.W.keepIn K (.ref a_m_Book_iter) = true)
    (pl_m_Book_contains : K.lookup a_m_Book_contains = some ⟨oc_m_Book_contains, od_m_Book_contains, .func (PySem.W.fnOf "__contains__" "Book.__contains__" (defArgs s_m_Book_contains) (defBody s_m_Book_contains) (defScope s_m_Book_contains) .none kV_m_Book_contains dc_m_Book_contains pm_m_Book_contains an_m_Book_contains cd_m_Book_contains ct_m_Book_contains), sl_m_Book_contains⟩)
    (pc_m_Book_contains : PySem.W.codeIn K cd_m_Book_contains "Book.__contains__" = true)
    (pq_m_Book_contains : PySem.W.keepIn K (.ref a_m_Book_contains) = true)
    (pl_m_Book_len : K.lookup a_m_Book_len = some ⟨oc_m_Book_len, od_m_Book_len, .func (PySem.W.fnOf "__len__" "Book.__len__" (defArgs s_m_Book_len) (defBody s_m_Book_len) (defScope s_m_Book_len) .none kV_m_Book_len dc_m_Book_len pm_m_Book_len an_m_Book_len cd_m_Book_len ct_m_Book_len), sl_m_Book_len⟩)
    (pc_m_Book_len : PySem.W.codeIn K cd_m_Book_len "Book.__len__" = true)
    (pq_m_Book_len : PySem.W.keepIn K (.ref a_m_Book_len) = true)
    (pl_m_Book_getitem : K.lookup a_m_Book_getitem = some ⟨oc_m_Book_getitem, od_m_Book_getitem, .func (PySem.W.fnOf "__getitem__" "Book.__getitem__" (defArgs s_m_Book_getitem) (defBody s_m_Book_getitem) (defScope s_m_Book_getitem) .none kV_m_Book_getitem dc_m_Book_getitem pm_m_Book_getitem an_m_Book_getitem cd_m_Book_getitem ct_m_Book_getitem), sl_m_Book_getitem⟩)
    (pc_m_Book_getitem : PySem.W.codeIn K cd_m_Book_getitem "Book.__getitem__" = true)
    (pq_m_Book_getitem : PySem.W.keepIn K (.ref a_m_Book_getitem) = true)
    (pl_m_Book_setitem : K.lookup a_m_Book_setitem = some ⟨oc_m_Book_setitem, od_m_Book_setitem, .func (PySem.W.fnOf "__setitem__" "Book.__setitem__" (defArgs s_m_Book_setitem) (defBody s_m_Book_setitem) (defScope s_m_Book_setitem) .none kV_m_Book_setitem dc_m_Book_setitem pm_m_Book_setitem an_m_Book_setitem cd_m_Book_setitem ct_m_Book_setitem), sl_m_Book_setitem⟩)
    (pc_m_Book_setitem : PySem.W.codeIn K cd_m_Book_setitem "Book.__setitem__" = true)
    (pq_m_Book_setitem : PySem.W.keepIn K (.ref a_m_Book_setitem) = true)
    (pl_m_Book_places : K.lookup a_m_Book_places = some ⟨oc_m_Book_places, od_m_Book_places, .func (PySem.W.fnOf "places" "Book.places" (defArgs s_m_Book_places) (defBody s_m_Book_places) (defScope s_m_Book_places) .none kV_m_Book_places dc_m_Book_places pm_m_Book_places an_m_Book_places cd_m_Book_places ct_m_Book_places), sl_m_Book_places⟩)
    (pc_m_Book_places : PySem.W.codeIn K cd_m_Book_places "Book.places" = true)
    (pq_m_Book_places : PySem.W.keepIn K (.ref a_m_Book_places) = true)
    (pa_l_bag : PySem.W.nsIn K mainGlobals "_law_bag" = some (some (.ref a_l_bag)))
    (pl_l_bag : K.lookup a_l_bag = some ⟨oc_l_bag, od_l_bag, .func (PySem.W.fnOf "_law_bag" "_law_bag" (defArgs s_l_bag) (defBody s_l_bag) (defScope s_l_bag) .none kV_l_bag dc_l_bag pm_l_bag an_l_bag cd_l_bag ct_l_bag), sl_l_bag⟩)
    (pc_l_bag : PySem.W.codeIn K cd_l_bag "_law_bag" = true)
    (pq_l_bag : PySem.W.keepIn K (.ref a_l_bag) = true)
    (pa_l_draw : PySem.W.nsIn K mainGlobals "_law_draw" = some (some (.ref a_l_draw)))
    (pl_l_draw : K.lookup a_l_draw = some ⟨oc_l_draw, od_l_draw, .func (PySem.W.fnOf "_law_draw" "_law_draw" (defArgs s_l_draw) (defBody s_l_draw) (defScope s_l_draw) .none kV_l_draw dc_l_draw pm_l_draw an_l_draw cd_l_draw ct_l_draw), sl_l_draw⟩)
    (pc_l_draw : PySem.W.codeIn K cd_l_draw "_law_draw" = true)
    (pq_l_draw : PySem.W.keepIn K (.ref a_l_draw) = true)
    (pa_l_names : PySem.W.nsIn K mainGlobals "_law_names" = some (some (.ref a_l_names)))
    (pl_l_names : K.lookup a_l_names = some ⟨oc_l_names, od_l_names, .func (PySem.W.fnOf "_law_names" "_law_names" (defArgs s_l_names) (defBody s_l_names) (defScope s_l_names) .none kV_l_names dc_l_names pm_l_names an_l_names cd_l_names ct_l_names), sl_l_names⟩)
    (pc_l_names : PySem.W.codeIn K cd_l_names "_law_names" = true)
    (pq_l_names : PySem.W.keepIn K (.ref a_l_names) = true)
    (pa_l_pick : PySem.W.nsIn K mainGlobals "_law_pick" = some (some (.ref a_l_pick)))
    (pl_l_pick : K.lookup a_l_pick = some ⟨oc_l_pick, od_l_pick, .func (PySem.W.fnOf "_law_pick" "_law_pick" (defArgs s_l_pick) (defBody s_l_pick) (defScope s_l_pick) .none kV_l_pick dc_l_pick pm_l_pick an_l_pick cd_l_pick ct_l_pick), sl_l_pick⟩)
    (pc_l_pick : PySem.W.codeIn K cd_l_pick "_law_pick" = true)
    (pq_l_pick : PySem.W.keepIn K (.ref a_l_pick) = true)
    (pa_l_next : PySem.W.nsIn K mainGlobals "_law_next" = some (some (.ref a_l_next)))
    (pl_l_next : K.lookup a_l_next = some ⟨oc_l_next, od_l_next, .func (PySem.W.fnOf "_law_next" "_law_next" (defArgs s_l_next) (defBody s_l_next) (defScope s_l_next) .none kV_l_next dc_l_next pm_l_next an_l_next cd_l_next ct_l_next), sl_l_next⟩)
    (pc_l_next : PySem.W.codeIn K cd_l_next "_law_next" = true)
    (pq_l_next : PySem.W.keepIn K (.ref a_l_next) = true)
    (pa_l_entries : PySem.W.nsIn K mainGlobals "_law_entries" = some (some (.ref a_l_entries)))
    (pl_l_entries : K.lookup a_l_entries = some ⟨oc_l_entries, od_l_entries, .func (PySem.W.fnOf "_law_entries" "_law_entries" (defArgs s_l_entries) (defBody s_l_entries) (defScope s_l_entries) .none kV_l_entries dc_l_entries pm_l_entries an_l_entries cd_l_entries ct_l_entries), sl_l_entries⟩)
    (pc_l_entries : PySem.W.codeIn K cd_l_entries "_law_entries" = true)
    (pq_l_entries : PySem.W.keepIn K (.ref a_l_entries) = true)
    (pa_l_book : PySem.W.nsIn K mainGlobals "_law_book" = some (some (.ref a_l_book)))
    (pl_l_book : K.lookup a_l_book = some ⟨oc_l_book, od_l_book, .func (PySem.W.fnOf "_law_book" "_law_book" (defArgs s_l_book) (defBody s_l_book) (defScope s_l_book) .none kV_l_book dc_l_book pm_l_book an_l_book cd_l_book ct_l_book), sl_l_book⟩)
    (pc_l_book : PySem.W.codeIn K cd_l_book "_law_book" = true)
    (pq_l_book : PySem.W.keepIn K (.ref a_l_book) = true)
    (pa_l_wrong_name : PySem.W.nsIn K mainGlobals "_law_wrong_name" = some (some (.ref a_l_wrong_name)))
    (pl_l_wrong_name : K.lookup a_l_wrong_name = some ⟨oc_l_wrong_name, od_l_wrong_name, .func (PySem.W.fnOf "_law_wrong_name" "_law_wrong_name" (defArgs s_l_wrong_name) (defBody s_l_wrong_name) (defScope s_l_wrong_name) .none kV_l_wrong_name dc_l_wrong_name pm_l_wrong_name an_l_wrong_name cd_l_wrong_name ct_l_wrong_name), sl_l_wrong_name⟩)
    (pc_l_wrong_name : PySem.W.codeIn K cd_l_wrong_name "_law_wrong_name" = true)
    (pq_l_wrong_name : PySem.W.keepIn K (.ref a_l_wrong_name) = true)
    (pa_l_spoilt : PySem.W.nsIn K mainGlobals "_law_spoilt" = some (some (.ref a_l_spoilt)))
    (pl_l_spoilt : K.lookup a_l_spoilt = some ⟨oc_l_spoilt, od_l_spoilt, .func (PySem.W.fnOf "_law_spoilt" "_law_spoilt" (defArgs s_l_spoilt) (defBody s_l_spoilt) (defScope s_l_spoilt) .none kV_l_spoilt dc_l_spoilt pm_l_spoilt an_l_spoilt cd_l_spoilt ct_l_spoilt), sl_l_spoilt⟩)
    (pc_l_spoilt : PySem.W.codeIn K cd_l_spoilt "_law_spoilt" = true)
    (pq_l_spoilt : PySem.W.keepIn K (.ref a_l_spoilt) = true)
    (pa_l_refused : PySem.W.nsIn K mainGlobals "_law_refused" = some (some (.ref a_l_refused)))
    (pl_l_refused : K.lookup a_l_refused = some ⟨oc_l_refused, od_l_refused, .func (PySem.W.fnOf "_law_refused" "_law_refused" (defArgs s_l_refused) (defBody s_l_refused) (defScope s_l_refused) .none kV_l_refused dc_l_refused pm_l_refused an_l_refused cd_l_refused ct_l_refused), sl_l_refused⟩)
    (pc_l_refused : PySem.W.codeIn K cd_l_refused "_law_refused" = true)
    (pq_l_refused : PySem.W.keepIn K (.ref a_l_refused) = true)
    (pa_l_kept : PySem.W.nsIn K mainGlobals "_law_kept" = some (some (.ref a_l_kept)))
    (pl_l_kept : K.lookup a_l_kept = some ⟨oc_l_kept, od_l_kept, .func (PySem.W.fnOf "_law_kept" "_law_kept" (defArgs s_l_kept) (defBody s_l_kept) (defScope s_l_kept) .none kV_l_kept dc_l_kept pm_l_kept an_l_kept cd_l_kept ct_l_kept), sl_l_kept⟩)
    (pc_l_kept : PySem.W.codeIn K cd_l_kept "_law_kept" = true)
    (pq_l_kept : PySem.W.keepIn K (.ref a_l_kept) = true)
    (pa_f_law : PySem.W.nsIn K mainGlobals "law" = some (some (.ref a_f_law)))
    (pl_f_law : K.lookup a_f_law = some ⟨oc_f_law, od_f_law, .func (PySem.W.fnOf "law" "law" (defArgs s_f_law) (defBody s_f_law) (defScope s_f_law) .none kV_f_law dc_f_law pm_f_law an_f_law cd_f_law ct_f_law), sl_f_law⟩)
    (pc_f_law : PySem.W.codeIn K cd_f_law "law" = true)
    (pq_f_law : PySem.W.keepIn K (.ref a_f_law) = true) :
    ∃ fd : FuncData, (∀ (s : Shared) (v : Value), BindsTo s fd ⟨[v], []⟩ [("_law_script", v)]) ∧ ∀ base : Heap, K.In base → base.Ns mainGlobals mg → FnOk l.prog w K mg base CX0 14 fa fd P_f_law (spLaw K) := by
  have e := hfa.symm.trans (PySem.W.mg_of X G pa_f_law)
  cases e
  have F_m_BadEntry_init := fun_mk (st := s_m_BadEntry_init) pl_m_BadEntry_init pc_m_BadEntry_init pq_m_BadEntry_init
  have b_m_BadEntry_init := F_m_BadEntry_init.binds (ps := P_m_BadEntry_init) fun _ _ _ _ _ _ us hl => match us, hl with | [_, _, _], _ => rfl
  have F_m_NoEntry_init := fun_mk (st := s_m_NoEntry_init) pl_m_NoEntry_init pc_m_NoEntry_init pq_m_NoEntry_init
  have b_m_NoEntry_init := F_m_NoEntry_init.binds (ps := P_m_NoEntry_init) fun _ _ _ _ _ _ us hl => match us, hl with | [_, _, _], _ => rfl
  have F_f_is_name := fun_mk (st := s_f_is_name) pl_f_is_name pc_f_is_name pq_f_is_name
  have b_f_is_name := F_f_is_name.binds (ps := P_f_is_name) fun _ _ _ _ _ _ us hl => match us, hl with | [_], _ => rfl
  have F_f_is_number := fun_mk (st := s_f_is_number) pl_f_is_number pc_f_is_number pq_f_is_number
  have b_f_is_number := F_f_is_number.binds (ps := P_f_is_number) fun _ _ _ _ _ _ us hl => match us, hl with | [_, _], _ => rfl
  have F_f_is_entry := fun_mk (st := s_f_is_entry) pl_f_is_entry pc_f_is_entry pq_f_is_entry
  have b_f_is_entry := F_f_is_entry.binds (ps := P_f_is_entry) fun _ _ _ _ _ _ us hl => match us, hl with | [_], _ => rfl
  have F_m_Book_init := fun_mk (st := s_m_Book_init) pl_m_Book_init pc_m_Book_init pq_m_Book_init
  have b_m_Book_init := F_m_Book_init.binds (ps := P_m_Book_init) fun _ _ _ _ _ _ us hl => match us, hl with | [_], _ => rfl
  have F_m_Book_iter := fun_mk (st := s_m_Book_iter) pl_m_Book_iter pc_m_Book_iter pq_m_Book_iter
  have b_m_Book_iter := F_m_Book_iter.binds (ps := P_m_Book_iter) fun _ _ _ _ _ _ us hl => match us, hl with | [_], _ => rfl
  have F_m_Book_contains := fun_mk (st := s_m_Book_contains) pl_m_Book_contains pc_m_Book_contains pq_m_Book_contains
  have b_m_Book_contains := F_m_Book_contains.binds (ps := P_m_Book_contains) fun _ _ _ _ _ _ us hl => match us, hl with | [_, _], _ => rfl
  have F_m_Book_len := fun_mk (st := s_m_Book_len) pl_m_Book_len pc_m_Book_len pq_m_Book_len
  have b_m_Book_len := F_m_Book_len.binds (ps := P_m_Book_len) fun _ _ _ _ _ _ us hl => match us, hl with | [_], _ => rfl
  have F_m_Book_getitem := fun_mk (st := s_m_Book_getitem) pl_m_Book_getitem pc_m_Book_getitem pq_m_Book_getitem
  have b_m_Book_getitem := F_m_Book_getitem.binds (ps := P_m_Book_getitem) fun _ _ _ _ _ _ us hl => match us, hl with | [_, _], _ => rfl
  have F_m_Book_setitem := fun_mk (st := s_m_Book_setitem) pl_m_Book_setitem pc_m_Book_setitem pq_m_Book_setitem
  have b_m_Book_setitem := F_m_Book_setitem.binds (ps := P_m_Book_setitem) fun _ _ _ _ _ _ us hl => match us, hl with | [_, _, _], _ => rfl
  have F_m_Book_places := fun_mk (st := s_m_Book_places) pl_m_Book_places pc_m_Book_places pq_m_Book_places
  have b_m_Book_places := F_m_Book_places.binds (ps := P_m_Book_places) fun _ _ _ _ _ _ us hl => match us, hl with | [_], _ => rfl
  have F_l_bag := fun_mk (st := s_l_bag) pl_l_bag pc_l_bag pq_l_bag
  have b_l_bag := F_l_bag.binds (ps := P_l_bag) fun _ _ _ _ _ _ us hl => match us, hl with | [_], _ => rfl
  have F_l_draw := fun_mk (st := s_l_draw) pl_l_draw pc_l_draw pq_l_draw
  have b_l_draw := F_l_draw.binds (ps := P_l_draw) fun _ _ _ _ _ _ us hl => match us, hl with | [_, _], _ => rfl
  have F_l_names := fun_mk (st := s_l_names) pl_l_names pc_l_names pq_l_names
  have b_l_names := F_l_names.binds (ps := P_l_names) fun _ _ _ _ _ _ us hl => match us, hl with | [_, _, _], _ => rfl
  have F_l_pick := fun_mk (st := s_l_pick) pl_l_pick pc_l_pick pq_l_pick
  have b_l_pick := F_l_pick.binds (ps := P_l_pick) fun _ _ _ _ _ _ us hl => match us, hl with | [_, _], _ => rfl
  have F_l_next := fun_mk (st := s_l_next) pl_l_next pc_l_next pq_l_next
  have b_l_next := F_l_next.binds (ps := P_l_next) fun _ _ _ _ _ _ us hl => match us, hl with | [_, _], _ => rfl
  have F_l_entries := fun_mk (st := s_l_entries) pl_l_entries pc_l_entries pq_l_entries
  have b_l_entries := F_l_entries.binds (ps := P_l_entries) fun _ _ _ _ _ _ us hl => match us, hl with | [_, _], _ => rfl
  have F_l_book := fun_mk (st := s_l_book) pl_l_book pc_l_book pq_l_book
  have b_l_book := F_l_book.binds (ps := P_l_book) fun _ _ _ _ _ _ us hl => match us, hl with | [_], _ => rfl
  have F_l_wrong_name := fun_mk (st := s_l_wrong_name) pl_l_wrong_name pc_l_wrong_name pq_l_wrong_name
  have b_l_wrong_name := F_l_wrong_name.binds (ps := P_l_wrong_name) fun _ _ _ _ _ _ us hl => match us, hl with | [_, _], _ => rfl
  have F_l_spoilt := fun_mk (st := s_l_spoilt) pl_l_spoilt pc_l_spoilt pq_l_spoilt
  have b_l_spoilt := F_l_spoilt.binds (ps := P_l_spoilt) fun _ _ _ _ _ _ us hl => match us, hl with | [_, _, _], _ => rfl
  have F_l_refused := fun_mk (st := s_l_refused) pl_l_refused pc_l_refused pq_l_refused
  have b_l_refused := F_l_refused.binds (ps := P_l_refused) fun _ _ _ _ _ _ us hl => match us, hl with | [_, _, _, _], _ => rfl
  have F_l_kept := fun_mk (st := s_l_kept) pl_l_kept pc_l_kept pq_l_kept
  have b_l_kept := F_l_kept.binds (ps := P_l_kept) fun _ _ _ _ _ _ us hl => match us, hl with | [_], _ => rfl
  have F_f_law := fun_mk (st := s_f_law) pl_f_law pc_f_law pq_f_law
  have b_f_law := F_f_law.binds (ps := P_f_law) fun _ _ _ _ _ _ us hl => match us, hl with | [_], _ => rfl
  have T : Txt K mg ⟨a_CostError, a_BadEntry, a_NoEntry, a_Book, a_m_BadEntry_init, (PySem.W.fnOf "__init__" "BadEntry.__init__" (defArgs s_m_BadEntry_init) (defBody s_m_BadEntry_init) (defScope s_m_BadEntry_init) .none kV_m_BadEntry_init dc_m_BadEntry_init pm_m_BadEntry_init an_m_BadEntry_init cd_m_BadEntry_init ct_m_BadEntry_init), a_m_NoEntry_init, (PySem.W.fnOf "__init__" "NoEntry.__init__" (defArgs s_m_NoEntry_init) (defBody s_m_NoEntry_init) (defScope s_m_NoEntry_init) .none kV_m_NoEntry_init dc_m_NoEntry_init pm_m_NoEntry_init an_m_NoEntry_init cd_m_NoEntry_init ct_m_NoEntry_init), a_f_is_name, (PySem.W.fnOf "is_name" "is_name" (defArgs s_f_is_name) (defBody s_f_is_name) (defScope s_f_is_name) .none kV_f_is_name dc_f_is_name pm_f_is_name an_f_is_name cd_f_is_name ct_f_is_name), a_f_is_number, (PySem.W.fnOf "is_number" "is_number" (defArgs s_f_is_number) (defBody s_f_is_number) (defScope s_f_is_number) .none kV_f_is_number dc_f_is_number pm_f_is_number an_f_is_number cd_f_is_number ct_f_is_number), a_f_is_entry, (PySem.W.fnOf "is_entry" "is_entry" (defArgs s_f_is_entry) (defBody s_f_is_entry) (defScope s_f_is_entry) .none kV_f_is_entry dc_f_is_entry pm_f_is_entry an_f_is_entry cd_f_is_entry ct_f_is_entry), a_m_Book_init, (PySem.W.fnOf "__init__" "Book.__init__" (defArgs s_m_Book_init) (defBody s_m_Book_init) (defScope s_m_Book_init) .none kV_m_Book_init dc_m_Book_init pm_m_Book_init an_m_Book_init cd_m_Book_init ct_m_Book_init), a_m_Book_iter, (PySem.W.fnOf "__iter__" "Book.__iter__" (defArgs s_m_Book_iter) (defBody s_m_Book_iter) (defScope s_m_Book_iter) .none kV_m_Book_iter dc_m_Book_iter pm_m_Book_iter an_m_Book_iter cd_m_Book_iter ct_m_Book_iter), a_m_Book_contains, (PySem.W.fnOf "__contains__" "Book.__contains__" (defArgs s_m_Book_contains) (defBody s_m_Book_contains) (defScope s_m_Book_contains) .none kV_m_Book_contains dc_m_Book_contains pm_m_Book_contains an_m_Book_contains cd_m_Book_contains ct_m_Book_contains), a_m_Book_len, (PySem.W.fnOf "__len__" "Book.__len__" (defArgs s_m_Book_len) (defBody s_m_Book_len) (defScope s_m_Book_len) .none kV_m_Book_len dc_m_Book_len pm_m_Book_len an_m_Book_len cd_m_Book_len ct_m_Book_len), a_m_Book_getitem, (PySem.W.fnOf "__getitem__" "Book.__getitem__" (defArgs s_m_Book_getitem) (defBody s_m_Book_getitem) (defScope s_m_Book_getitem) .none kV_m_Book_getitem dc_m_Book_getitem pm_m_Book_getitem an_m_Book_getitem cd_m_Book_getitem ct_m_Book_getitem), a_m_Book_setitem, (PySem.W.fnOf "__setitem__" "Book.__setitem__" (defArgs s_m_Book_setitem) (defBody s_m_Book_setitem) (defScope s_m_Book_setitem) .none kV_m_Book_setitem dc_m_Book_setitem pm_m_Book_setitem an_m_Book_setitem cd_m_Book_setitem ct_m_Book_setitem), a_m_Book_places, (PySem.W.fnOf "places" "Book.places" (defArgs s_m_Book_places) (defBody s_m_Book_places) (defScope s_m_Book_places) .none kV_m_Book_places dc_m_Book_places pm_m_Book_places an_m_Book_places cd_m_Book_places ct_m_Book_places), a_l_bag, (PySem.W.fnOf "_law_bag" "_law_bag" (defArgs s_l_bag) (defBody s_l_bag) (defScope s_l_bag) .none kV_l_bag dc_l_bag pm_l_bag an_l_bag cd_l_bag ct_l_bag), a_l_draw, (PySem.W.fnOf "_law_draw" "_law_draw" (defArgs s_l_draw) (defBody s_l_draw) (defScope s_l_draw) .none kV_l_draw dc_l_draw pm_l_draw an_l_draw cd_l_draw ct_l_draw), a_l_names, (PySem.W.fnOf "_law_names" "_law_names" (defArgs s_l_names) (defBody s_l_names) (defScope s_l_names) .none kV_l_names dc_l_names pm_l_names an_l_names cd_l_names ct_l_names), a_l_pick, (PySem.W.fnOf "_law_pick" "_law_pick" (defArgs s_l_pick) (defBody s_l_pick) (defScope s_l_pick) .none kV_l_pick dc_l_pick pm_l_pick an_l_pick cd_l_pick ct_l_pick), a_l_next, (PySem.W.fnOf "_law_next" "_law_next" (defArgs s_l_next) (defBody s_l_next) (defScope s_l_next) .none kV_l_next dc_l_next pm_l_next an_l_next cd_l_next ct_l_next), a_l_entries, (PySem.W.fnOf "_law_entries" "_law_entries" (defArgs s_l_entries) (defBody s_l_entries) (defScope s_l_entries) .none kV_l_entries dc_l_entries pm_l_entries an_l_entries cd_l_entries ct_l_entries), a_l_book, (PySem.W.fnOf "_law_book" "_law_book" (defArgs s_l_book) (defBody s_l_book) (defScope s_l_book) .none kV_l_book dc_l_book pm_l_book an_l_book cd_l_book ct_l_book), a_l_wrong_name, (PySem.W.fnOf "_law_wrong_name" "_law_wrong_name" (defArgs s_l_wrong_name) (defBody s_l_wrong_name) (defScope s_l_wrong_name) .none kV_l_wrong_name dc_l_wrong_name pm_l_wrong_name an_l_wrong_name cd_l_wrong_name ct_l_wrong_name), a_l_spoilt, (PySem.W.fnOf "_law_spoilt" "_law_spoilt" (defArgs s_l_spoilt) (defBody s_l_spoilt) (defScope s_l_spoilt) .none kV_l_spoilt dc_l_spoilt pm_l_spoilt an_l_spoilt cd_l_spoilt ct_l_spoilt), a_l_refused, (PySem.W.fnOf "_law_refused" "_law_refused" (defArgs s_l_refused) (defBody s_l_refused) (defScope s_l_refused) .none kV_l_refused dc_l_refused pm_l_refused an_l_refused cd_l_refused ct_l_refused), a_l_kept, (PySem.W.fnOf "_law_kept" "_law_kept" (defArgs s_l_kept) (defBody s_l_kept) (defScope s_l_kept) .none kV_l_kept dc_l_kept pm_l_kept an_l_kept cd_l_kept ct_l_kept), fa, (PySem.W.fnOf "law" "law" (defArgs s_f_law) (defBody s_f_law) (defScope s_f_law) .none kV_f_law dc_f_law pm_f_law an_f_law cd_f_law ct_f_law)⟩ := {
    z_TypeError := PySem.W.mg_none_of X G pz_TypeError,
    z_abs := PySem.W.mg_none_of X G pz_abs,
    z_all := PySem.W.mg_none_of X G pz_all,
    z_bool := PySem.W.mg_none_of X G pz_bool,
    z_int := PySem.W.mg_none_of X G pz_int,
    z_isinstance := PySem.W.mg_none_of X G pz_isinstance,
    z_len := PySem.W.mg_none_of X G pz_len,
    z_list := PySem.W.mg_none_of X G pz_list,
    z_min := PySem.W.mg_none_of X G pz_min,
    z_range := PySem.W.mg_none_of X G pz_range,
    z_sorted := PySem.W.mg_none_of X G pz_sorted,
    z_str := PySem.W.mg_none_of X G pz_str,
    z_tuple := PySem.W.mg_none_of X G pz_tuple,
    g_CostError := PySem.W.mg_of X G pg_CostError,
    ek_CostError := pek_CostError,
    eb_CostError := peb_CostError,
    et_CostError := pet_CostError,
    eh_CostError := peh_CostError,
    eic_CostError := peic_CostError,
    es_CostError := pes_CostError,
    xg_CostError := pxg_CostError,
    xk_CostError := pxk_CostError,
    xa_CostError := pxa_CostError,
    xn_CostError := pxn_CostError,
    xt_CostError := pxt_CostError,
    xm_CostError := pxm_CostError,
    rd_CostError := prd_CostError,
    cg_CostError := pcg_CostError,
    vi_CostError := pvi_CostError,
    g_BadEntry := PySem.W.mg_of X G pg_BadEntry,
    ek_BadEntry := pek_BadEntry,
    eb_BadEntry := peb_BadEntry,
    et_BadEntry := pet_BadEntry,
    eh_BadEntry := peh_BadEntry,
    eic_BadEntry := peic_BadEntry,
    es_BadEntry := pes_BadEntry,
    xg_BadEntry := pxg_BadEntry,
    xk_BadEntry := pxk_BadEntry,
    xa_BadEntry := pxa_BadEntry,
    xn_BadEntry := pxn_BadEntry,
    xt_BadEntry := pxt_BadEntry,
    xm_BadEntry := pxm_BadEntry,
    xc_BadEntry := pxc_BadEntry,
    n_BadEntry_day := pn_BadEntry_day,
    n_BadEntry_number := pn_BadEntry_number,
    oi_BadEntry := poi_BadEntry,
    ot_BadEntry := pot_BadEntry,
    ox_BadEntry := ⟨⟨_, _, _, _, _, _, _, _, _, _, _, _, _, _, _, pol_BadEntry, pov_BadEntry⟩, posa_BadEntry, peb_BadEntry, pet_BadEntry, pek_BadEntry⟩,
    g_NoEntry := PySem.W.mg_of X G pg_NoEntry,
    ek_NoEntry := pek_NoEntry,
    eb_NoEntry := peb_NoEntry,
    et_NoEntry := pet_NoEntry,
    eh_NoEntry := peh_NoEntry,
    eic_NoEntry := peic_NoEntry,
    es_NoEntry := pes_NoEntry,
    xg_NoEntry := pxg_NoEntry,
    xk_NoEntry := pxk_NoEntry,
    xa_NoEntry := pxa_NoEntry,
    xn_NoEntry := pxn_NoEntry,
    xt_NoEntry := pxt_NoEntry,
    xm_NoEntry := pxm_NoEntry,
    n_NoEntry_day := pn_NoEntry_day,
    n_NoEntry_number := pn_NoEntry_number,
    oi_NoEntry := poi_NoEntry,
    ot_NoEntry := pot_NoEntry,
    ox_NoEntry := ⟨⟨_, _, _, _, _, _, _, _, _, _, _, _, _, _, _, pol_NoEntry, pov_NoEntry⟩, posa_NoEntry, peb_NoEntry, pet_NoEntry, pek_NoEntry⟩,
    g_Book := PySem.W.mg_of X G pg_Book,
    cl_Book := ⟨ppg_Book, phd_Book, ppo_Book, psa_Book⟩,
    n_Book_entries := pn_Book_entries,
    mk_Book := ⟨pma_Book, pmi_Book, pmf_Book, pmc_Book⟩,
    m_Book___iter__ := ⟨pmt_m_Book_iter, pmn_m_Book_iter, pmk_m_Book_iter⟩,
    m_Book___contains__ := ⟨pmt_m_Book_contains, pmn_m_Book_contains, pmk_m_Book_contains⟩,
    m_Book___len__ := ⟨pmt_m_Book_len, pmn_m_Book_len, pmk_m_Book_len⟩,
    m_Book___getitem__ := ⟨pmt_m_Book_getitem, pmn_m_Book_getitem, pmk_m_Book_getitem⟩,
    m_Book___setitem__ := ⟨pmt_m_Book_setitem, pmn_m_Book_setitem, pmk_m_Book_setitem⟩,
    m_Book_places := ⟨pmt_m_Book_places, pmn_m_Book_places, pmk_m_Book_places⟩,
    fgi_Book := pfgi_Book,
    nsq_Book := pnsq_Book,
    g_LETTERS := ⟨_, PySem.W.mg_of X G pg_LETTERS⟩,
    g_LONGEST := ⟨_, PySem.W.mg_of X G pg_LONGEST⟩,
    g_MOST := ⟨_, PySem.W.mg_of X G pg_MOST⟩,
    F_m_BadEntry_init := F_m_BadEntry_init,
    b_m_BadEntry_init := b_m_BadEntry_init,
    F_m_NoEntry_init := F_m_NoEntry_init,
    b_m_NoEntry_init := b_m_NoEntry_init,
    F_f_is_name := F_f_is_name,
    b_f_is_name := b_f_is_name,
    g_is_name := PySem.W.mg_of X G pa_f_is_name,
    F_f_is_number := F_f_is_number,
    b_f_is_number := b_f_is_number,
    g_is_number := PySem.W.mg_of X G pa_f_is_number,
    F_f_is_entry := F_f_is_entry,
    b_f_is_entry := b_f_is_entry,
    g_is_entry := PySem.W.mg_of X G pa_f_is_entry,
    F_m_Book_init := F_m_Book_init,
    b_m_Book_init := b_m_Book_init,
    F_m_Book_iter := F_m_Book_iter,
    b_m_Book_iter := b_m_Book_iter,
    F_m_Book_contains := F_m_Book_contains,
    b_m_Book_contains := b_m_Book_contains,
    F_m_Book_len := F_m_Book_len,
    b_m_Book_len := b_m_Book_len,
    F_m_Book_getitem := F_m_Book_getitem,
    b_m_Book_getitem := b_m_Book_getitem,
    F_m_Book_setitem := F_m_Book_setitem,
    b_m_Book_setitem := b_m_Book_setitem,
    F_m_Book_places := F_m_Book_places,
    b_m_Book_places := b_m_Book_places,
    F_l_bag := F_l_bag,
    b_l_bag := b_l_bag,
    g__law_bag := PySem.W.mg_of X G pa_l_bag,
    F_l_draw := F_l_draw,
    b_l_draw := b_l_draw,
    g__law_draw := PySem.W.mg_of X G pa_l_draw,
    F_l_names := F_l_names,
    b_l_names := b_l_names,
    g__law_names := PySem.W.mg_of X G pa_l_names,
    F_l_pick := F_l_pick,
    b_l_pick := b_l_pick,
    g__law_pick := PySem.W.mg_of X G pa_l_pick,
    F_l_next := F_l_next,
    b_l_next := b_l_next,
    g__law_next := PySem.W.mg_of X G pa_l_next,
    F_l_entries := F_l_entries,
    b_l_entries := b_l_entries,
    g__law_entries := PySem.W.mg_of X G pa_l_entries,
    F_l_book := F_l_book,
    b_l_book := b_l_book,
    g__law_book := PySem.W.mg_of X G pa_l_book,
    F_l_wrong_name := F_l_wrong_name,
    b_l_wrong_name := b_l_wrong_name,
    g__law_wrong_name := PySem.W.mg_of X G pa_l_wrong_name,
    F_l_spoilt := F_l_spoilt,
    b_l_spoilt := b_l_spoilt,
    g__law_spoilt := PySem.W.mg_of X G pa_l_spoilt,
    F_l_refused := F_l_refused,
    b_l_refused := b_l_refused,
    g__law_refused := PySem.W.mg_of X G pa_l_refused,
    F_l_kept := F_l_kept,
    b_l_kept := b_l_kept,
    g__law_kept := PySem.W.mg_of X G pa_l_kept,
    F_f_law := F_f_law,
    b_f_law := b_f_law,
    g_law := PySem.W.mg_of X G pa_f_law }
  exact ⟨_, fun s v => .of_eq rfl, fun base _ _ => ok_f_law T⟩
theorem walk {l : PySem.W.OpenLaw} {q : Program} {loose : List Str} {XP : (Str → Option Value) → Heap → Prop} {YP : World → Heap → Prop} {d : DefRec} {K : Params → PySem.W.Frag} (hn : l.most = some 63) (hdf : d.params.defaults = [])
    (hY : ∀ (w : World) (h : Heap), YP w h → (K w.params).In h)
    (F : ∀ (w : World) (mg : Str → Option Value) (fa : Addr) (h : Heap), (K w.params).In h → h.Ns mainGlobals mg → mg d.name = some (.ref fa) →
      ∃ fd : FuncData, (∀ (s : Shared) (u : Value), BindsTo s fd ⟨[u], []⟩ [("_law_script", u)]) ∧ ∀ base : Heap, (K w.params).In base → base.Ns mainGlobals mg → FnOk l.prog w (K w.params) mg base CX0 14 fa fd ["_law_script"] (spLaw (K w.params))) :
    PySem.W.WalkO q loose XP YP l.row.toRowW d [] (fun f vs => PySem.call f vs) :=
  L2.walk_of (n := 63) (k := 14) (x := "_law_script") (CX := fun _ => CX0) (sp := fun w => spLaw (K w.params)) hn (by decide) hdf ⟨rfl, by decide, by decide⟩ hY F (fun _ _ a ns hl _ hS => ⟨a, ns, rfl, hS, hl, fun _ => rfl⟩) fun _ _ _ _ _ z => z
end Lot
open PySem PySem.W PyProof.Rows
set_option maxRecDepth 100000 in
set_option maxHeartbeats 0 in
theorem PySem.Challenge.cw_lotcosts_k32_refused_entries_holds : PySem.Challenge.rw_lotcosts_k32_refused_entries.Holds := by
  w_on; o_law; k_head; (case hw => w_witness2)
  k_fill
  refine Lot.walk (l := PySem.Challenge.rw_lotcosts_k32_refused_entries) rfl rfl (fun w h Y => PySem.W.kIn_of Y) ?F
  case F =>
    intro w mg fa h KX G hmg
    refine' Lot.all_mk KX G hmg ?pz_TypeError ?pz_abs ?pz_all ?pz_bool ?pz_int ?pz_isinstance ?pz_len ?pz_list ?pz_min ?pz_range ?pz_sorted ?pz_str ?pz_tuple ?pg_CostError ?pek_CostError ?peb_CostError ?pet_CostError ?peh_CostError ?peic_CostError ?pes_CostError ?pxg_CostError ?pxk_CostError ?pxa_CostError ?pxn_CostError ?pxt_CostError ?pxm_CostError ?prd_CostError ?pcg_CostError ?pvi_CostError ?pg_BadEntry ?pek_BadEntry ?peb_BadEntry ?pet_BadEntry ?peh_BadEntry ?peic_BadEntry ?pes_BadEntry ?pxg_BadEntry ?pxk_BadEntry ?pxa_BadEntry ?pxn_BadEntry ?pxt_BadEntry ?pxm_BadEntry ?pxc_BadEntry ?pn_BadEntry_day ?pn_BadEntry_number ?poi_BadEntry ?pot_BadEntry ?pol_BadEntry ?pov_BadEntry ?posa_BadEntry ?pg_NoEntry ?pek_NoEntry ?peb_NoEntry ?pet_NoEntry ?peh_NoEntry ?peic_NoEntry ?pes_NoEntry ?pxg_NoEntry ?pxk_NoEntry ?pxa_NoEntry ?pxn_NoEntry ?pxt_NoEntry ?pxm_NoEntry ?pn_NoEntry_day ?pn_NoEntry_number ?poi_NoEntry ?pot_NoEntry ?pol_NoEntry ?pov_NoEntry ?posa_NoEntry ?pg_Book ?ppg_Book ?phd_Book ?ppo_Book ?psa_Book ?pn_Book_entries ?pma_Book ?pmi_Book ?pmf_Book ?pmc_Book ?pmt_m_Book_iter ?pmn_m_Book_iter ?pmk_m_Book_iter ?pmt_m_Book_contains ?pmn_m_Book_contains ?pmk_m_Book_contains ?pmt_m_Book_len ?pmn_m_Book_len ?pmk_m_Book_len ?pmt_m_Book_getitem ?pmn_m_Book_getitem ?pmk_m_Book_getitem ?pmt_m_Book_setitem ?pmn_m_Book_setitem ?pmk_m_Book_setitem ?pmt_m_Book_places ?pmn_m_Book_places ?pmk_m_Book_places ?pfgi_Book ?pnsq_Book ?pg_LETTERS ?pg_LONGEST ?pg_MOST ?pe_m_BadEntry_init ?pl_m_BadEntry_init ?pc_m_BadEntry_init ?pq_m_BadEntry_init ?pe_m_NoEntry_init ?pl_m_NoEntry_init ?pc_m_NoEntry_init ?pq_m_NoEntry_init ?pa_f_is_name ?pl_f_is_name ?pc_f_is_name ?pq_f_is_name ?pa_f_is_number ?pl_f_is_number ?pc_f_is_number ?pq_f_is_number ?pa_f_is_entry ?pl_f_is_entry ?pc_f_is_entry ?pq_f_is_entry ?pl_m_Book_init ?pc_m_Book_init ?pq_m_Book_init ?pl_m_Book_iter ?pc_m_Book_iter ?pq_m_Book_iter ?pl_m_Book_contains ?pc_m_Book_contains ?pq_m_Book_contains ?pl_m_Book_len ?pc_m_Book_len ?pq_m_Book_len ?pl_m_Book_getitem ?pc_m_Book_getitem ?pq_m_Book_getitem ?pl_m_Book_setitem ?pc_m_Book_setitem ?pq_m_Book_setitem ?pl_m_Book_places ?pc_m_Book_places ?pq_m_Book_places ?pa_l_bag ?pl_l_bag ?pc_l_bag ?pq_l_bag ?pa_l_draw ?pl_l_draw ?pc_l_draw ?pq_l_draw ?pa_l_names ?pl_l_names ?pc_l_names ?pq_l_names ?pa_l_pick ?pl_l_pick ?pc_l_pick ?pq_l_pick ?pa_l_next ?pl_l_next ?pc_l_next ?pq_l_next ?pa_l_entries ?pl_l_entries ?pc_l_entries ?pq_l_entries ?pa_l_book ?pl_l_book ?pc_l_book ?pq_l_book ?pa_l_wrong_name ?pl_l_wrong_name ?pc_l_wrong_name ?pq_l_wrong_name ?pa_l_spoilt ?pl_l_spoilt ?pc_l_spoilt ?pq_l_spoilt ?pa_l_refused ?pl_l_refused ?pc_l_refused ?pq_l_refused ?pa_l_kept ?pl_l_kept ?pc_l_kept ?pq_l_kept ?pa_f_law ?pl_f_law ?pc_f_law ?pq_f_law
    (case pz_TypeError => first | k_is | rfl)
    (case pz_abs => first | k_is | rfl)
    (case pz_all => first | k_is | rfl)
    (case pz_bool => first | k_is | rfl)
    (case pz_int => first | k_is | rfl)
    (case pz_isinstance => first | k_is | rfl)
    (case pz_len => first | k_is | rfl)
    (case pz_list => first | k_is | rfl)
    (case pz_min => first | k_is | rfl)
    (case pz_range => first | k_is | rfl)
    (case pz_sorted => first | k_is | rfl)
    (case pz_str => first | k_is | rfl)
    (case pz_tuple => first | k_is | rfl)
    (case pg_CostError => first | k_is | rfl)
    (case pek_CostError => first | k_is | rfl)
    (case peb_CostError => first | k_is | rfl)
    (case pet_CostError => first | k_is | rfl)
    (case peh_CostError => first | k_is | rfl)
    (case peic_CostError => first | k_is | rfl)
    (case pes_CostError => first | k_is | rfl)
    (case pxg_CostError => first | k_is | rfl)
    (case pxk_CostError => first | k_is | rfl)
    (case pxa_CostError => first | k_is | rfl)
    (case pxn_CostError => first | k_is | rfl)
    (case pxt_CostError => first | k_is | rfl)
    (case pxm_CostError => first | k_is | rfl)
    (case prd_CostError => first | k_is | rfl)
    (case pcg_CostError => first | k_is | rfl)
    (case pvi_CostError => first | k_is | rfl)
    (case pg_BadEntry => first | k_is | rfl)
    (case pek_BadEntry => first | k_is | rfl)
    (case peb_BadEntry => first | k_is | rfl)
    (case pet_BadEntry => first | k_is | rfl)
    (case peh_BadEntry => first | k_is | rfl)
    (case peic_BadEntry => first | k_is | rfl)
    (case pes_BadEntry => first | k_is | rfl)
    (case pxg_BadEntry => first | k_is | rfl)
    (case pxk_BadEntry => first | k_is | rfl)
    (case pxa_BadEntry => first | k_is | rfl)
    (case pxn_BadEntry => first | k_is | rfl)
    (case pxt_BadEntry => first | k_is | rfl)
    (case pxm_BadEntry => first | k_is | rfl)
    (case pxc_BadEntry => first | k_is | rfl)
    (case pn_BadEntry_day => first | k_is | rfl)
    (case pn_BadEntry_number => first | k_is | rfl)
    (case poi_BadEntry => first | k_is | rfl)
    (case pot_BadEntry => first | k_is | rfl)
    (case pol_BadEntry => first | k_is | rfl)
    (case pov_BadEntry => first | k_is | rfl)
    (case posa_BadEntry => first | k_is | rfl)
    (case pg_NoEntry => first | k_is | rfl)
    (case pek_NoEntry => first | k_is | rfl)
    (case peb_NoEntry => first | k_is | rfl)
    (case pet_NoEntry => first | k_is | rfl)
    (case peh_NoEntry => first | k_is | rfl)
    (case peic_NoEntry => first | k_is | rfl)
    (case pes_NoEntry => first | k_is | rfl)
    (case pxg_NoEntry => first | k_is | rfl)
    (case pxk_NoEntry => first | k_is | rfl)
    (case pxa_NoEntry => first | k_is | rfl)
    (case pxn_NoEntry => first | k_is | rfl)
    (case pxt_NoEntry => first | k_is | rfl)
    (case pxm_NoEntry => first | k_is | rfl)
    (case pn_NoEntry_day => first | k_is | rfl)
    (case pn_NoEntry_number => first | k_is | rfl)
    (case poi_NoEntry => first | k_is | rfl)
    (case pot_NoEntry => first | k_is | rfl)
    (case pol_NoEntry => first | k_is | rfl)
    (case pov_NoEntry => first | k_is | rfl)
    (case posa_NoEntry => first | k_is | rfl)
    (case pg_Book => first | k_is | rfl)
    (case ppg_Book => first | k_is | rfl)
    (case phd_Book => first | k_is | rfl)
    (case ppo_Book => first | k_is | rfl)
    (case psa_Book => first | k_is | rfl)
    (case pn_Book_entries => first | k_is | rfl)
    (case pma_Book => first | k_is | rfl)
    (case pmi_Book => first | k_is | rfl)
    (case pmf_Book => first | k_is | rfl)
    (case pmc_Book => first | k_is | rfl)
    (case pmt_m_Book_iter => first | k_is | rfl)
    (case pmn_m_Book_iter => first | k_is | rfl)
    (case pmk_m_Book_iter => first | k_is | rfl)
    (case pmt_m_Book_contains => first | k_is | rfl)
    (case pmn_m_Book_contains => first | k_is | rfl)
    (case pmk_m_Book_contains => first | k_is | rfl)
    (case pmt_m_Book_len => first | k_is | rfl)
    (case pmn_m_Book_len => first | k_is | rfl)
    (case pmk_m_Book_len => first | k_is | rfl)
    (case pmt_m_Book_getitem => first | k_is | rfl)
    (case pmn_m_Book_getitem => first | k_is | rfl)
    (case pmk_m_Book_getitem => first | k_is | rfl)
    (case pmt_m_Book_setitem => first | k_is | rfl)
    (case pmn_m_Book_setitem => first | k_is | rfl)
    (case pmk_m_Book_setitem => first | k_is | rfl)
    (case pmt_m_Book_places => first | k_is | rfl)
    (case pmn_m_Book_places => first | k_is | rfl)
    (case pmk_m_Book_places => first | k_is | rfl)
    (case pfgi_Book => first | k_is | rfl)
    (case pnsq_Book => first | k_is | rfl)
    (case pg_LETTERS => first | k_is | rfl)
    (case pg_LONGEST => first | k_is | rfl)
    (case pg_MOST => first | k_is | rfl)
    (case pe_m_BadEntry_init => first | k_is | rfl)
    (case pl_m_BadEntry_init => first | k_is | rfl)
    (case pc_m_BadEntry_init => first | k_is | rfl)
    (case pq_m_BadEntry_init => first | k_is | rfl)
    (case pe_m_NoEntry_init => first | k_is | rfl)
    (case pl_m_NoEntry_init => first | k_is | rfl)
    (case pc_m_NoEntry_init => first | k_is | rfl)
    (case pq_m_NoEntry_init => first | k_is | rfl)
    (case pa_f_is_name => first | k_is | rfl)
    (case pl_f_is_name => first | k_is | rfl)
    (case pc_f_is_name => first | k_is | rfl)
    (case pq_f_is_name => first | k_is | rfl)
    (case pa_f_is_number => first | k_is | rfl)
    (case pl_f_is_number => first | k_is | rfl)
    (case pc_f_is_number => first | k_is | rfl)
    (case pq_f_is_number => first | k_is | rfl)
    (case pa_f_is_entry => first | k_is | rfl)
    (case pl_f_is_entry => first | k_is | rfl)
    (case pc_f_is_entry => first | k_is | rfl)
    (case pq_f_is_entry => first | k_is | rfl)
    (case pl_m_Book_init => first | k_is | rfl)
    (case pc_m_Book_init => first | k_is | rfl)
    (case pq_m_Book_init => first | k_is | rfl)
    (case pl_m_Book_iter => first | k_is | rfl)
    (case pc_m_Book_iter => first | k_is | rfl)
    (case pq_m_Book_iter => first | k_is | rfl)
    (case pl_m_Book_contains => first | k_is | rfl)
    (case pc_m_Book_contains => first | k_is | rfl)
    (case pq_m_Book_contains => first | k_is | rfl)
    (case pl_m_Book_len => first | k_is | rfl)
    (case pc_m_Book_len => first | k_is | rfl)
    (case pq_m_Book_len => first | k_is | rfl)
    (case pl_m_Book_getitem => first | k_is | rfl)
    (case pc_m_Book_getitem => first | k_is | rfl)
    (case pq_m_Book_getitem => first | k_is | rfl)
    (case pl_m_Book_setitem => first | k_is | rfl)
    (case pc_m_Book_setitem => first | k_is | rfl)
    (case pq_m_Book_setitem => first | k_is | rfl)
    (case pl_m_Book_places => first | k_is | rfl)
    (case pc_m_Book_places => first | k_is | rfl)
    (case pq_m_Book_places => first | k_is | rfl)
    (case pa_l_bag => first | k_is | rfl)
    (case pl_l_bag => first | k_is | rfl)
    (case pc_l_bag => first | k_is | rfl)
    (case pq_l_bag => first | k_is | rfl)
    (case pa_l_draw => first | k_is | rfl)
    (case pl_l_draw => first | k_is | rfl)
    (case pc_l_draw => first | k_is | rfl)
    (case pq_l_draw => first | k_is | rfl)
    (case pa_l_names => first | k_is | rfl)
    (case pl_l_names => first | k_is | rfl)
    (case pc_l_names => first | k_is | rfl)
    (case pq_l_names => first | k_is | rfl)
    (case pa_l_pick => first | k_is | rfl)
    (case pl_l_pick => first | k_is | rfl)
    (case pc_l_pick => first | k_is | rfl)
    (case pq_l_pick => first | k_is | rfl)
    (case pa_l_next => first | k_is | rfl)
    (case pl_l_next => first | k_is | rfl)
    (case pc_l_next => first | k_is | rfl)
    (case pq_l_next => first | k_is | rfl)
    (case pa_l_entries => first | k_is | rfl)
    (case pl_l_entries => first | k_is | rfl)
    (case pc_l_entries => first | k_is | rfl)
    (case pq_l_entries => first | k_is | rfl)
    (case pa_l_book => first | k_is | rfl)
    (case pl_l_book => first | k_is | rfl)
    (case pc_l_book => first | k_is | rfl)
    (case pq_l_book => first | k_is | rfl)
    (case pa_l_wrong_name => first | k_is | rfl)
    (case pl_l_wrong_name => first | k_is | rfl)
    (case pc_l_wrong_name => first | k_is | rfl)
    (case pq_l_wrong_name => first | k_is | rfl)
    (case pa_l_spoilt => first | k_is | rfl)
    (case pl_l_spoilt => first | k_is | rfl)
    (case pc_l_spoilt => first | k_is | rfl)
    (case pq_l_spoilt => first | k_is | rfl)
    (case pa_l_refused => first | k_is | rfl)
    (case pl_l_refused => first | k_is | rfl)
    (case pc_l_refused => first | k_is | rfl)
    (case pq_l_refused => first | k_is | rfl)
    (case pa_l_kept => first | k_is | rfl)
    (case pl_l_kept => first | k_is | rfl)
    (case pc_l_kept => first | k_is | rfl)
    (case pq_l_kept => first | k_is | rfl)
    (case pa_f_law => first | k_is | rfl)
    (case pl_f_law => first | k_is | rfl)
    (case pc_f_law => first | k_is | rfl)
    (case pq_f_law => first | k_is | rfl)
#print axioms PySem.Challenge.cw_lotcosts_k32_refused_entries_holds

