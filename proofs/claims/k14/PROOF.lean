import PyProof.Rows.All
import Wide.All
import OpenK.AllK
import Wide.FinOn
import HandS.ForMost
import HandS.ForExc
import HandS.Flow
import HandS.Evl
import HandS.Style
import KE.KOpsOwn
import HandS.ClsMeth
import HandS.OwnEq
import HandS.IsInst
import HandS.ExcIs
import HandS.ExcInit
import HandS.ExcField
import HandS.ExcValue
import HandS.MakeKwOnly
import KE.KExcIs
import KE.DataEq
import HandS.Wide
import HandS.Codes
import HandS.Text
import HandS.Defaults
import PySem.Challenge.RW_lotcosts_k14_classes_of_errors
set_option Elab.async false
set_option linter.all false
set_option pp.maxSteps 400
set_option maxRecDepth 100000
set_option maxHeartbeats 4000000
namespace Lot
open PySem L2
/-! ### steps -/
local macro_rules | `(tactic| walk_at "ne") => `(tactic| first
  | with_reducible assumption
  | (apply Ne.symm; with_reducible assumption)
  | exact ne_of_none (by with_reducible assumption) (by with_reducible assumption)
  | exact (ne_of_none (by with_reducible assumption) (by with_reducible assumption)).symm)
local macro_rules | `(tactic| walk_at "at") => `(tactic| first
  | with_reducible assumption
  | exact upd_same
  | (refine Eq.trans (upd_ne (by walk_at "ne")) ?_; walk_at "at"))
local macro_rules | `(tactic| walk_at "num") => `(tactic| first
  | decide
  | omega
  | (dsimp only; first | decide | omega))
local macro_rules | `(tactic| walk_at "fact") => `(tactic| first
  | with_reducible assumption
  | exact rfl
  | walk_at "at"
  | exact SqL.of (by walk_at "at")
  | exact SqT.of (by walk_at "at")
  | exact .inl (SqL.of (by walk_at "at"))
  | exact .inr (SqT.of (by walk_at "at"))
  | exact .inl ⟨rfl, _, SqL.of (by walk_at "at")⟩
  | exact Or.inl ⟨by walk_at "num", by walk_at "num"⟩
  | exact Or.inr ⟨by walk_at "num", by walk_at "num"⟩
  | exact ⟨by walk_at "num", by walk_at "num"⟩
  | exact ⟨by walk_at "num", by walk_at "num", by walk_at "num"⟩
  | exact wide_div (b := 9000) (by omega) (by assumption) (by decide) (by decide)
  | exact Nat.le_of_ble_eq_true rfl
  | assumption
  | walk_at "num")
local macro_rules | `(tactic| walk_at "go") => `(tactic| repeat (first
  | apply Exists.intro
  | refine And.intro (by walk_at "fact") ?_
  | refine Or.inl ⟨_, rfl, ?_⟩
  | refine Or.inr ⟨_, rfl, ?_⟩
  | refine iteT ?_
  | refine iteF ?_))
def top (i : Nat) : Stmt := PySem.Challenge.pw_lotcosts_k14_classes_of_errors.main.body.getD i (.Pass ⟨0, 0, 0, 0⟩)
abbrev s_m_BadName_init : Stmt := inClass (top 3) 0
abbrev N_m_BadName_init : List Str := ["self", "name"]
abbrev P_m_BadName_init : List Str := ["self", "name"]
theorem sc_m_BadName_init : FnScope N_m_BadName_init P_m_BadName_init (defScope s_m_BadName_init) := ⟨rfl, rfl, rfl, by decide +kernel, rfl, by decide +kernel, by decide +kernel⟩
abbrev s_m_NoPrice_init : Stmt := inClass (top 4) 0
abbrev N_m_NoPrice_init : List Str := ["self", "name"]
abbrev P_m_NoPrice_init : List Str := ["self", "name"]
theorem sc_m_NoPrice_init : FnScope N_m_NoPrice_init P_m_NoPrice_init (defScope s_m_NoPrice_init) := ⟨rfl, rfl, rfl, by decide +kernel, rfl, by decide +kernel, by decide +kernel⟩
abbrev s_m_Negative_init : Stmt := inClass (top 5) 0
abbrev N_m_Negative_init : List Str := ["self", "name"]
abbrev P_m_Negative_init : List Str := ["self", "name"]
theorem sc_m_Negative_init : FnScope N_m_Negative_init P_m_Negative_init (defScope s_m_Negative_init) := ⟨rfl, rfl, rfl, by decide +kernel, rfl, by decide +kernel, by decide +kernel⟩
abbrev s_m_BadEntry_init : Stmt := inClass (top 6) 0
abbrev N_m_BadEntry_init : List Str := ["self", "day", "number"]
abbrev P_m_BadEntry_init : List Str := ["self", "day", "number"]
theorem sc_m_BadEntry_init : FnScope N_m_BadEntry_init P_m_BadEntry_init (defScope s_m_BadEntry_init) := ⟨rfl, rfl, rfl, by decide +kernel, rfl, by decide +kernel, by decide +kernel⟩
abbrev s_m_NoEntry_init : Stmt := inClass (top 7) 0
abbrev N_m_NoEntry_init : List Str := ["self", "day", "number"]
abbrev P_m_NoEntry_init : List Str := ["self", "day", "number"]
theorem sc_m_NoEntry_init : FnScope N_m_NoEntry_init P_m_NoEntry_init (defScope s_m_NoEntry_init) := ⟨rfl, rfl, rfl, by decide +kernel, rfl, by decide +kernel, by decide +kernel⟩
abbrev s_m_BadRule_init : Stmt := inClass (top 8) 0
abbrev N_m_BadRule_init : List Str := ["self", "word"]
abbrev P_m_BadRule_init : List Str := ["self", "word"]
theorem sc_m_BadRule_init : FnScope N_m_BadRule_init P_m_BadRule_init (defScope s_m_BadRule_init) := ⟨rfl, rfl, rfl, by decide +kernel, rfl, by decide +kernel, by decide +kernel⟩
abbrev s_m_Short_init : Stmt := inClass (top 9) 0
abbrev N_m_Short_init : List Str := ["self", "missing"]
abbrev P_m_Short_init : List Str := ["self", "missing"]
theorem sc_m_Short_init : FnScope N_m_Short_init P_m_Short_init (defScope s_m_Short_init) := ⟨rfl, rfl, rfl, by decide +kernel, rfl, by decide +kernel, by decide +kernel⟩
abbrev s_m_NameTaken_init : Stmt := inClass (top 10) 0
abbrev N_m_NameTaken_init : List Str := ["self", "name"]
abbrev P_m_NameTaken_init : List Str := ["self", "name"]
theorem sc_m_NameTaken_init : FnScope N_m_NameTaken_init P_m_NameTaken_init (defScope s_m_NameTaken_init) := ⟨rfl, rfl, rfl, by decide +kernel, rfl, by decide +kernel, by decide +kernel⟩
abbrev s_m_UnknownName_init : Stmt := inClass (top 11) 0
abbrev N_m_UnknownName_init : List Str := ["self", "name"]
abbrev P_m_UnknownName_init : List Str := ["self", "name"]
theorem sc_m_UnknownName_init : FnScope N_m_UnknownName_init P_m_UnknownName_init (defScope s_m_UnknownName_init) := ⟨rfl, rfl, rfl, by decide +kernel, rfl, by decide +kernel, by decide +kernel⟩
abbrev s_m_NotEnough_init : Stmt := inClass (top 12) 0
abbrev N_m_NotEnough_init : List Str := ["self", "day", "number", "missing"]
abbrev P_m_NotEnough_init : List Str := ["self", "day", "number", "missing"]
theorem sc_m_NotEnough_init : FnScope N_m_NotEnough_init P_m_NotEnough_init (defScope s_m_NotEnough_init) := ⟨rfl, rfl, rfl, by decide +kernel, rfl, by decide +kernel, by decide +kernel⟩
abbrev s_m_TooMany_init : Stmt := inClass (top 13) 0
abbrev N_m_TooMany_init : List Str := ["self", "day", "number", "left"]
abbrev P_m_TooMany_init : List Str := ["self", "day", "number", "left"]
theorem sc_m_TooMany_init : FnScope N_m_TooMany_init P_m_TooMany_init (defScope s_m_TooMany_init) := ⟨rfl, rfl, rfl, by decide +kernel, rfl, by decide +kernel, by decide +kernel⟩
abbrev s_m_Contradiction_init : Stmt := inClass (top 14) 0
abbrev N_m_Contradiction_init : List Str := ["self", "pair"]
abbrev P_m_Contradiction_init : List Str := ["self", "pair"]
theorem sc_m_Contradiction_init : FnScope N_m_Contradiction_init P_m_Contradiction_init (defScope s_m_Contradiction_init) := ⟨rfl, rfl, rfl, by decide +kernel, rfl, by decide +kernel, by decide +kernel⟩
abbrev s_m_NotPlain_init : Stmt := inClass (top 15) 0
abbrev N_m_NotPlain_init : List Str := ["self", "day", "number"]
abbrev P_m_NotPlain_init : List Str := ["self", "day", "number"]
theorem sc_m_NotPlain_init : FnScope N_m_NotPlain_init P_m_NotPlain_init (defScope s_m_NotPlain_init) := ⟨rfl, rfl, rfl, by decide +kernel, rfl, by decide +kernel, by decide +kernel⟩
abbrev s_m_Shut_init : Stmt := inClass (top 17) 0
abbrev N_m_Shut_init : List Str := ["self", "day"]
abbrev P_m_Shut_init : List Str := ["self", "day"]
theorem sc_m_Shut_init : FnScope N_m_Shut_init P_m_Shut_init (defScope s_m_Shut_init) := ⟨rfl, rfl, rfl, by decide +kernel, rfl, by decide +kernel, by decide +kernel⟩
abbrev s_m_NotClosed_init : Stmt := inClass (top 18) 0
abbrev N_m_NotClosed_init : List Str := ["self", "day"]
abbrev P_m_NotClosed_init : List Str := ["self", "day"]
theorem sc_m_NotClosed_init : FnScope N_m_NotClosed_init P_m_NotClosed_init (defScope s_m_NotClosed_init) := ⟨rfl, rfl, rfl, by decide +kernel, rfl, by decide +kernel, by decide +kernel⟩
abbrev s_m_Unfit_init : Stmt := inClass (top 20) 0
abbrev N_m_Unfit_init : List Str := ["self", "factors"]
abbrev P_m_Unfit_init : List Str := ["self", "factors"]
theorem sc_m_Unfit_init : FnScope N_m_Unfit_init P_m_Unfit_init (defScope s_m_Unfit_init) := ⟨rfl, rfl, rfl, by decide +kernel, rfl, by decide +kernel, by decide +kernel⟩
abbrev s_l_bag : Stmt := top 22
abbrev N_l_bag : List Str := ["_law_script"]
abbrev P_l_bag : List Str := ["_law_script"]
theorem sc_l_bag : FnScope N_l_bag P_l_bag (defScope s_l_bag) := ⟨rfl, rfl, rfl, by decide +kernel, rfl, by decide +kernel, by decide +kernel⟩
abbrev s_l_draw : Stmt := top 23
abbrev N_l_draw : List Str := ["_law_bag_here", "_law_size", "_law_cell", "_law_digit", "_law_mixed"]
abbrev P_l_draw : List Str := ["_law_bag_here", "_law_size"]
theorem sc_l_draw : FnScope N_l_draw P_l_draw (defScope s_l_draw) := ⟨rfl, rfl, rfl, by decide +kernel, rfl, by decide +kernel, by decide +kernel⟩
abbrev s_l_names : Stmt := top 24
abbrev N_l_names : List Str := ["_law_bag_here", "_law_count", "_law_words", "_law_letters", "_law_size", "_law_stem", "_law_where", "_law_shift", "_law_longer", "_law_names_here", "_law_k", "_law_name", "_law_spot", "_law_word"]
abbrev P_l_names : List Str := ["_law_bag_here", "_law_count", "_law_words"]
theorem sc_l_names : FnScope N_l_names P_l_names (defScope s_l_names) := ⟨rfl, rfl, rfl, by decide +kernel, rfl, by decide +kernel, by decide +kernel⟩
abbrev s_l_named : Stmt := top 25
abbrev N_l_named : List Str := ["_law_name", "_law_errors", "_law_error"]
abbrev P_l_named : List Str := ["_law_name"]
theorem sc_l_named : FnScope N_l_named P_l_named (defScope s_l_named) := ⟨rfl, rfl, rfl, by decide +kernel, rfl, by decide +kernel, by decide +kernel⟩
abbrev s_l_placed : Stmt := top 26
abbrev N_l_placed : List Str := ["_law_day", "_law_number", "_law_errors", "_law_error"]
abbrev P_l_placed : List Str := ["_law_day", "_law_number"]
theorem sc_l_placed : FnScope N_l_placed P_l_placed (defScope s_l_placed) := ⟨rfl, rfl, rfl, by decide +kernel, rfl, by decide +kernel, by decide +kernel⟩
abbrev s_l_others : Stmt := top 27
abbrev N_l_others : List Str := ["_law_day", "_law_number", "_law_units", "_law_name", "_law_found", "_law_short", "_law_many", "_law_clash"]
abbrev P_l_others : List Str := ["_law_day", "_law_number", "_law_units", "_law_name"]
theorem sc_l_others : FnScope N_l_others P_l_others (defScope s_l_others) := ⟨rfl, rfl, rfl, by decide +kernel, rfl, by decide +kernel, by decide +kernel⟩
abbrev s_l_classes : Stmt := top 28
abbrev N_l_classes : List Str := ["_law_error", "_law_first", "_law_second", "_law_third", "_law_fourth", "_law_fifth", "_law_sixth", "_law_answers"]
abbrev P_l_classes : List Str := ["_law_error"]
theorem sc_l_classes : FnScope N_l_classes P_l_classes (defScope s_l_classes) := ⟨rfl, rfl, rfl, by decide +kernel, rfl, by decide +kernel, by decide +kernel⟩
abbrev s_f_law : Stmt := top 29
abbrev N_f_law : List Str := ["_law_script", "_law_bag_here", "_law_name", "_law_day", "_law_number", "_law_units", "_law_errors", "_law_error", "_law_kept"]
abbrev P_f_law : List Str := ["_law_script"]
theorem sc_f_law : FnScope N_f_law P_f_law (defScope s_f_law) := ⟨rfl, rfl, rfl, by decide +kernel, rfl, by decide +kernel, by decide +kernel⟩
/-- no __iop__ in the class's chain -/
def noI (K : PySem.W.Frag) (C : Addr) (nm : String) : Bool := (PySem.W.clsIn K C).any fun cd => cd.mro.all fun c => PySem.W.findIn K c (dunderI nm) == some none
/-- C.m is a staticmethod: its record at p, its def at g -/
structure SMet (K : PySem.W.Frag) (C : Addr) (m : Str) (p g : Addr) : Prop where
  rd : PySem.W.readsIn K C (.type "type") = true
  ga : PySem.W.specialIn K (.ref C) "__getattribute__" = some (some (.builtin "type.__getattribute__"))
  at_ : PySem.W.findCls K (.ref C) (.type "type") m = some (.get (.builtin "staticmethod.__get__") (.ref p) .none (.ref C))
  rc : ∃ rest, PySem.W.recIn K p "staticmethod" = some (.ref g :: rest)
  kp : PySem.W.keepIn K (.ref g) = true
/-- each of the classes cs is itself alone among them, and under CE and ValueError -/
def kitAll (K : PySem.W.Frag) (cs : List Addr) (CE : Addr) : Bool := cs.all fun C => cs.count C == 1 && (cs.all fun D => PySem.W.kitOne K (.ref C) (.ref D) == some (C == D)) && PySem.W.kitOne K (.ref C) (.ref CE) == some true && PySem.W.kitOne K (.ref C) (.type "ValueError") == some true
structure Ad where
  CostError : Addr
  NoRatio : Addr
  BadName : Addr
  NoPrice : Addr
  Negative : Addr
  BadEntry : Addr
  NoEntry : Addr
  BadRule : Addr
  Short : Addr
  NameTaken : Addr
  UnknownName : Addr
  NotEnough : Addr
  TooMany : Addr
  Contradiction : Addr
  NotPlain : Addr
  NotPossible : Addr
  Shut : Addr
  NotClosed : Addr
  NotTold : Addr
  Unfit : Addr
  m_BadName_init : Addr
  fd_m_BadName_init : FuncData
  m_NoPrice_init : Addr
  fd_m_NoPrice_init : FuncData
  m_Negative_init : Addr
  fd_m_Negative_init : FuncData
  m_BadEntry_init : Addr
  fd_m_BadEntry_init : FuncData
  m_NoEntry_init : Addr
  fd_m_NoEntry_init : FuncData
  m_BadRule_init : Addr
  fd_m_BadRule_init : FuncData
  m_Short_init : Addr
  fd_m_Short_init : FuncData
  m_NameTaken_init : Addr
  fd_m_NameTaken_init : FuncData
  m_UnknownName_init : Addr
  fd_m_UnknownName_init : FuncData
  m_NotEnough_init : Addr
  fd_m_NotEnough_init : FuncData
  m_TooMany_init : Addr
  fd_m_TooMany_init : FuncData
  m_Contradiction_init : Addr
  fd_m_Contradiction_init : FuncData
  m_NotPlain_init : Addr
  fd_m_NotPlain_init : FuncData
  m_Shut_init : Addr
  fd_m_Shut_init : FuncData
  m_NotClosed_init : Addr
  fd_m_NotClosed_init : FuncData
  m_Unfit_init : Addr
  fd_m_Unfit_init : FuncData
  l_bag : Addr
  fd_l_bag : FuncData
  l_draw : Addr
  fd_l_draw : FuncData
  l_names : Addr
  fd_l_names : FuncData
  l_named : Addr
  fd_l_named : FuncData
  l_placed : Addr
  fd_l_placed : FuncData
  l_others : Addr
  fd_l_others : FuncData
  l_classes : Addr
  fd_l_classes : FuncData
  f_law : Addr
  fd_f_law : FuncData
structure Txt (K : PySem.W.Frag) (mg : Str → Option Value) (A : Ad) : Prop where
  z_ValueError : mg "ValueError" = none
  z_abs : mg "abs" = none
  z_int : mg "int" = none
  z_isinstance : mg "isinstance" = none
  z_len : mg "len" = none
  z_list : mg "list" = none
  z_range : mg "range" = none
  z_sum : mg "sum" = none
  g_CostError : mg "CostError" = some (.ref A.CostError)
  ek_CostError : PySem.W.keepIn K (.ref A.CostError) = true
  eb_CostError : PySem.W.subIn K (.ref A.CostError) (.type "BaseException") = some true
  et_CostError : PySem.W.typeIn K (.ref A.CostError) = some (.type "type")
  eh_CostError : PySem.W.hasDictIn K A.CostError = true
  eic_CostError : PySem.W.isClsIn K A.CostError = true
  es_CostError : PySem.W.subIn K (.ref A.CostError) (.ref A.CostError) = some true
  xg_CostError : PySem.W.findIn K (.ref A.CostError) "__getattribute__" = some (some (.builtin "BaseException.__getattribute__"))
  xk_CostError : PySem.W.findIn K (.ref A.CostError) "__getattr__" = some none
  xa_CostError : PySem.W.findIn K (.ref A.CostError) "__class__" = some (some (.builtin "object.__class__"))
  xn_CostError : PySem.W.specialIn K (.builtin "object.__class__") "__get__" = some (some (.builtin "getset_descriptor.__get__"))
  xt_CostError : PySem.W.takesIn K (.builtin "object.__class__") = some true
  xm_CostError : PySem.W.mroIn K A.CostError (.type "object") = some true
  rd_CostError : PySem.W.readsIn K A.CostError (.type "type") = true
  cg_CostError : PySem.W.specialIn K (.ref A.CostError) "__getattribute__" = some (some (.builtin "type.__getattribute__"))
  vi_CostError : PySem.W.findCls K (.ref A.CostError) (.type "type") "__init__" = some (.val (.builtin "ValueError.__init__"))
  g_NoRatio : mg "NoRatio" = some (.ref A.NoRatio)
  ek_NoRatio : PySem.W.keepIn K (.ref A.NoRatio) = true
  eb_NoRatio : PySem.W.subIn K (.ref A.NoRatio) (.type "BaseException") = some true
  et_NoRatio : PySem.W.typeIn K (.ref A.NoRatio) = some (.type "type")
  eh_NoRatio : PySem.W.hasDictIn K A.NoRatio = true
  eic_NoRatio : PySem.W.isClsIn K A.NoRatio = true
  es_NoRatio : PySem.W.subIn K (.ref A.NoRatio) (.ref A.NoRatio) = some true
  xg_NoRatio : PySem.W.findIn K (.ref A.NoRatio) "__getattribute__" = some (some (.builtin "BaseException.__getattribute__"))
  xk_NoRatio : PySem.W.findIn K (.ref A.NoRatio) "__getattr__" = some none
  xa_NoRatio : PySem.W.findIn K (.ref A.NoRatio) "__class__" = some (some (.builtin "object.__class__"))
  xn_NoRatio : PySem.W.specialIn K (.builtin "object.__class__") "__get__" = some (some (.builtin "getset_descriptor.__get__"))
  xt_NoRatio : PySem.W.takesIn K (.builtin "object.__class__") = some true
  xm_NoRatio : PySem.W.mroIn K A.NoRatio (.type "object") = some true
  xP_NoRatio : PySem.W.excIn K A.NoRatio [.type "ValueError", .type "Exception", .type "BaseException", .type "object"] "ValueError.__new__" = true
  g_BadName : mg "BadName" = some (.ref A.BadName)
  ek_BadName : PySem.W.keepIn K (.ref A.BadName) = true
  eb_BadName : PySem.W.subIn K (.ref A.BadName) (.type "BaseException") = some true
  et_BadName : PySem.W.typeIn K (.ref A.BadName) = some (.type "type")
  eh_BadName : PySem.W.hasDictIn K A.BadName = true
  eic_BadName : PySem.W.isClsIn K A.BadName = true
  es_BadName : PySem.W.subIn K (.ref A.BadName) (.ref A.BadName) = some true
  xg_BadName : PySem.W.findIn K (.ref A.BadName) "__getattribute__" = some (some (.builtin "BaseException.__getattribute__"))
  xk_BadName : PySem.W.findIn K (.ref A.BadName) "__getattr__" = some none
  xa_BadName : PySem.W.findIn K (.ref A.BadName) "__class__" = some (some (.builtin "object.__class__"))
  xn_BadName : PySem.W.specialIn K (.builtin "object.__class__") "__get__" = some (some (.builtin "getset_descriptor.__get__"))
  xt_BadName : PySem.W.takesIn K (.builtin "object.__class__") = some true
  xm_BadName : PySem.W.mroIn K A.BadName (.type "object") = some true
  n_BadName_name : PySem.W.findIn K (.ref A.BadName) "name" = some none
  oi_BadName : PySem.W.findIn K (.ref A.BadName) "__init__" = some (some (.ref A.m_BadName_init))
  ot_BadName : PySem.W.typeIn K (.ref A.m_BadName_init) = some (.type "function")
  ox_BadName : OexC K A.BadName
  g_NoPrice : mg "NoPrice" = some (.ref A.NoPrice)
  ek_NoPrice : PySem.W.keepIn K (.ref A.NoPrice) = true
  eb_NoPrice : PySem.W.subIn K (.ref A.NoPrice) (.type "BaseException") = some true
  et_NoPrice : PySem.W.typeIn K (.ref A.NoPrice) = some (.type "type")
  eh_NoPrice : PySem.W.hasDictIn K A.NoPrice = true
  eic_NoPrice : PySem.W.isClsIn K A.NoPrice = true
  es_NoPrice : PySem.W.subIn K (.ref A.NoPrice) (.ref A.NoPrice) = some true
  xg_NoPrice : PySem.W.findIn K (.ref A.NoPrice) "__getattribute__" = some (some (.builtin "BaseException.__getattribute__"))
  xk_NoPrice : PySem.W.findIn K (.ref A.NoPrice) "__getattr__" = some none
  xa_NoPrice : PySem.W.findIn K (.ref A.NoPrice) "__class__" = some (some (.builtin "object.__class__"))
  xn_NoPrice : PySem.W.specialIn K (.builtin "object.__class__") "__get__" = some (some (.builtin "getset_descriptor.__get__"))
  xt_NoPrice : PySem.W.takesIn K (.builtin "object.__class__") = some true
  xm_NoPrice : PySem.W.mroIn K A.NoPrice (.type "object") = some true
  n_NoPrice_name : PySem.W.findIn K (.ref A.NoPrice) "name" = some none
  oi_NoPrice : PySem.W.findIn K (.ref A.NoPrice) "__init__" = some (some (.ref A.m_NoPrice_init))
  ot_NoPrice : PySem.W.typeIn K (.ref A.m_NoPrice_init) = some (.type "function")
  ox_NoPrice : OexC K A.NoPrice
  g_Negative : mg "Negative" = some (.ref A.Negative)
  ek_Negative : PySem.W.keepIn K (.ref A.Negative) = true
  eb_Negative : PySem.W.subIn K (.ref A.Negative) (.type "BaseException") = some true
  et_Negative : PySem.W.typeIn K (.ref A.Negative) = some (.type "type")
  eh_Negative : PySem.W.hasDictIn K A.Negative = true
  eic_Negative : PySem.W.isClsIn K A.Negative = true
  es_Negative : PySem.W.subIn K (.ref A.Negative) (.ref A.Negative) = some true
  xg_Negative : PySem.W.findIn K (.ref A.Negative) "__getattribute__" = some (some (.builtin "BaseException.__getattribute__"))
  xk_Negative : PySem.W.findIn K (.ref A.Negative) "__getattr__" = some none
  xa_Negative : PySem.W.findIn K (.ref A.Negative) "__class__" = some (some (.builtin "object.__class__"))
  xn_Negative : PySem.W.specialIn K (.builtin "object.__class__") "__get__" = some (some (.builtin "getset_descriptor.__get__"))
  xt_Negative : PySem.W.takesIn K (.builtin "object.__class__") = some true
  xm_Negative : PySem.W.mroIn K A.Negative (.type "object") = some true
  n_Negative_name : PySem.W.findIn K (.ref A.Negative) "name" = some none
  oi_Negative : PySem.W.findIn K (.ref A.Negative) "__init__" = some (some (.ref A.m_Negative_init))
  ot_Negative : PySem.W.typeIn K (.ref A.m_Negative_init) = some (.type "function")
  ox_Negative : OexC K A.Negative
  g_BadEntry : mg "BadEntry" = some (.ref A.BadEntry)
  ek_BadEntry : PySem.W.keepIn K (.ref A.BadEntry) = true
  eb_BadEntry : PySem.W.subIn K (.ref A.BadEntry) (.type "BaseException") = some true
  et_BadEntry : PySem.W.typeIn K (.ref A.BadEntry) = some (.type "type")
  eh_BadEntry : PySem.W.hasDictIn K A.BadEntry = true
  eic_BadEntry : PySem.W.isClsIn K A.BadEntry = true
  es_BadEntry : PySem.W.subIn K (.ref A.BadEntry) (.ref A.BadEntry) = some true
  xg_BadEntry : PySem.W.findIn K (.ref A.BadEntry) "__getattribute__" = some (some (.builtin "BaseException.__getattribute__"))
  xk_BadEntry : PySem.W.findIn K (.ref A.BadEntry) "__getattr__" = some none
  xa_BadEntry : PySem.W.findIn K (.ref A.BadEntry) "__class__" = some (some (.builtin "object.__class__"))
  xn_BadEntry : PySem.W.specialIn K (.builtin "object.__class__") "__get__" = some (some (.builtin "getset_descriptor.__get__"))
  xt_BadEntry : PySem.W.takesIn K (.builtin "object.__class__") = some true
  xm_BadEntry : PySem.W.mroIn K A.BadEntry (.type "object") = some true
  n_BadEntry_day : PySem.W.findIn K (.ref A.BadEntry) "day" = some none
  n_BadEntry_number : PySem.W.findIn K (.ref A.BadEntry) "number" = some none
  oi_BadEntry : PySem.W.findIn K (.ref A.BadEntry) "__init__" = some (some (.ref A.m_BadEntry_init))
  ot_BadEntry : PySem.W.typeIn K (.ref A.m_BadEntry_init) = some (.type "function")
  ox_BadEntry : OexC K A.BadEntry
  g_NoEntry : mg "NoEntry" = some (.ref A.NoEntry)
  ek_NoEntry : PySem.W.keepIn K (.ref A.NoEntry) = true
  eb_NoEntry : PySem.W.subIn K (.ref A.NoEntry) (.type "BaseException") = some true
  et_NoEntry : PySem.W.typeIn K (.ref A.NoEntry) = some (.type "type")
  eh_NoEntry : PySem.W.hasDictIn K A.NoEntry = true
  eic_NoEntry : PySem.W.isClsIn K A.NoEntry = true
  es_NoEntry : PySem.W.subIn K (.ref A.NoEntry) (.ref A.NoEntry) = some true
  xg_NoEntry : PySem.W.findIn K (.ref A.NoEntry) "__getattribute__" = some (some (.builtin "BaseException.__getattribute__"))
  xk_NoEntry : PySem.W.findIn K (.ref A.NoEntry) "__getattr__" = some none
  xa_NoEntry : PySem.W.findIn K (.ref A.NoEntry) "__class__" = some (some (.builtin "object.__class__"))
  xn_NoEntry : PySem.W.specialIn K (.builtin "object.__class__") "__get__" = some (some (.builtin "getset_descriptor.__get__"))
  xt_NoEntry : PySem.W.takesIn K (.builtin "object.__class__") = some true
  xm_NoEntry : PySem.W.mroIn K A.NoEntry (.type "object") = some true
  n_NoEntry_day : PySem.W.findIn K (.ref A.NoEntry) "day" = some none
  n_NoEntry_number : PySem.W.findIn K (.ref A.NoEntry) "number" = some none
  oi_NoEntry : PySem.W.findIn K (.ref A.NoEntry) "__init__" = some (some (.ref A.m_NoEntry_init))
  ot_NoEntry : PySem.W.typeIn K (.ref A.m_NoEntry_init) = some (.type "function")
  ox_NoEntry : OexC K A.NoEntry
  g_BadRule : mg "BadRule" = some (.ref A.BadRule)
  ek_BadRule : PySem.W.keepIn K (.ref A.BadRule) = true
  eb_BadRule : PySem.W.subIn K (.ref A.BadRule) (.type "BaseException") = some true
  et_BadRule : PySem.W.typeIn K (.ref A.BadRule) = some (.type "type")
  eh_BadRule : PySem.W.hasDictIn K A.BadRule = true
  eic_BadRule : PySem.W.isClsIn K A.BadRule = true
  es_BadRule : PySem.W.subIn K (.ref A.BadRule) (.ref A.BadRule) = some true
  xg_BadRule : PySem.W.findIn K (.ref A.BadRule) "__getattribute__" = some (some (.builtin "BaseException.__getattribute__"))
  xk_BadRule : PySem.W.findIn K (.ref A.BadRule) "__getattr__" = some none
  xa_BadRule : PySem.W.findIn K (.ref A.BadRule) "__class__" = some (some (.builtin "object.__class__"))
  xn_BadRule : PySem.W.specialIn K (.builtin "object.__class__") "__get__" = some (some (.builtin "getset_descriptor.__get__"))
  xt_BadRule : PySem.W.takesIn K (.builtin "object.__class__") = some true
  xm_BadRule : PySem.W.mroIn K A.BadRule (.type "object") = some true
  n_BadRule_word : PySem.W.findIn K (.ref A.BadRule) "word" = some none
  oi_BadRule : PySem.W.findIn K (.ref A.BadRule) "__init__" = some (some (.ref A.m_BadRule_init))
  ot_BadRule : PySem.W.typeIn K (.ref A.m_BadRule_init) = some (.type "function")
  ox_BadRule : OexC K A.BadRule
  g_Short : mg "Short" = some (.ref A.Short)
  ek_Short : PySem.W.keepIn K (.ref A.Short) = true
  eb_Short : PySem.W.subIn K (.ref A.Short) (.type "BaseException") = some true
  et_Short : PySem.W.typeIn K (.ref A.Short) = some (.type "type")
  eh_Short : PySem.W.hasDictIn K A.Short = true
  eic_Short : PySem.W.isClsIn K A.Short = true
  es_Short : PySem.W.subIn K (.ref A.Short) (.ref A.Short) = some true
  xg_Short : PySem.W.findIn K (.ref A.Short) "__getattribute__" = some (some (.builtin "BaseException.__getattribute__"))
  xk_Short : PySem.W.findIn K (.ref A.Short) "__getattr__" = some none
  xa_Short : PySem.W.findIn K (.ref A.Short) "__class__" = some (some (.builtin "object.__class__"))
  xn_Short : PySem.W.specialIn K (.builtin "object.__class__") "__get__" = some (some (.builtin "getset_descriptor.__get__"))
  xt_Short : PySem.W.takesIn K (.builtin "object.__class__") = some true
  xm_Short : PySem.W.mroIn K A.Short (.type "object") = some true
  n_Short_missing : PySem.W.findIn K (.ref A.Short) "missing" = some none
  oi_Short : PySem.W.findIn K (.ref A.Short) "__init__" = some (some (.ref A.m_Short_init))
  ot_Short : PySem.W.typeIn K (.ref A.m_Short_init) = some (.type "function")
  ox_Short : OexC K A.Short
  g_NameTaken : mg "NameTaken" = some (.ref A.NameTaken)
  ek_NameTaken : PySem.W.keepIn K (.ref A.NameTaken) = true
  eb_NameTaken : PySem.W.subIn K (.ref A.NameTaken) (.type "BaseException") = some true
  et_NameTaken : PySem.W.typeIn K (.ref A.NameTaken) = some (.type "type")
  eh_NameTaken : PySem.W.hasDictIn K A.NameTaken = true
  eic_NameTaken : PySem.W.isClsIn K A.NameTaken = true
  es_NameTaken : PySem.W.subIn K (.ref A.NameTaken) (.ref A.NameTaken) = some true
  xg_NameTaken : PySem.W.findIn K (.ref A.NameTaken) "__getattribute__" = some (some (.builtin "BaseException.__getattribute__"))
  xk_NameTaken : PySem.W.findIn K (.ref A.NameTaken) "__getattr__" = some none
  xa_NameTaken : PySem.W.findIn K (.ref A.NameTaken) "__class__" = some (some (.builtin "object.__class__"))
  xn_NameTaken : PySem.W.specialIn K (.builtin "object.__class__") "__get__" = some (some (.builtin "getset_descriptor.__get__"))
  xt_NameTaken : PySem.W.takesIn K (.builtin "object.__class__") = some true
  xm_NameTaken : PySem.W.mroIn K A.NameTaken (.type "object") = some true
  n_NameTaken_name : PySem.W.findIn K (.ref A.NameTaken) "name" = some none
  oi_NameTaken : PySem.W.findIn K (.ref A.NameTaken) "__init__" = some (some (.ref A.m_NameTaken_init))
  ot_NameTaken : PySem.W.typeIn K (.ref A.m_NameTaken_init) = some (.type "function")
  ox_NameTaken : OexC K A.NameTaken
  g_UnknownName : mg "UnknownName" = some (.ref A.UnknownName)
  ek_UnknownName : PySem.W.keepIn K (.ref A.UnknownName) = true
  eb_UnknownName : PySem.W.subIn K (.ref A.UnknownName) (.type "BaseException") = some true
  et_UnknownName : PySem.W.typeIn K (.ref A.UnknownName) = some (.type "type")
  eh_UnknownName : PySem.W.hasDictIn K A.UnknownName = true
  eic_UnknownName : PySem.W.isClsIn K A.UnknownName = true
  es_UnknownName : PySem.W.subIn K (.ref A.UnknownName) (.ref A.UnknownName) = some true
  xg_UnknownName : PySem.W.findIn K (.ref A.UnknownName) "__getattribute__" = some (some (.builtin "BaseException.__getattribute__"))
  xk_UnknownName : PySem.W.findIn K (.ref A.UnknownName) "__getattr__" = some none
  xa_UnknownName : PySem.W.findIn K (.ref A.UnknownName) "__class__" = some (some (.builtin "object.__class__"))
  xn_UnknownName : PySem.W.specialIn K (.builtin "object.__class__") "__get__" = some (some (.builtin "getset_descriptor.__get__"))
  xt_UnknownName : PySem.W.takesIn K (.builtin "object.__class__") = some true
  xm_UnknownName : PySem.W.mroIn K A.UnknownName (.type "object") = some true
  n_UnknownName_name : PySem.W.findIn K (.ref A.UnknownName) "name" = some none
  oi_UnknownName : PySem.W.findIn K (.ref A.UnknownName) "__init__" = some (some (.ref A.m_UnknownName_init))
  ot_UnknownName : PySem.W.typeIn K (.ref A.m_UnknownName_init) = some (.type "function")
  ox_UnknownName : OexC K A.UnknownName
  g_NotEnough : mg "NotEnough" = some (.ref A.NotEnough)
  ek_NotEnough : PySem.W.keepIn K (.ref A.NotEnough) = true
  eb_NotEnough : PySem.W.subIn K (.ref A.NotEnough) (.type "BaseException") = some true
  et_NotEnough : PySem.W.typeIn K (.ref A.NotEnough) = some (.type "type")
  eh_NotEnough : PySem.W.hasDictIn K A.NotEnough = true
  eic_NotEnough : PySem.W.isClsIn K A.NotEnough = true
  es_NotEnough : PySem.W.subIn K (.ref A.NotEnough) (.ref A.NotEnough) = some true
  xg_NotEnough : PySem.W.findIn K (.ref A.NotEnough) "__getattribute__" = some (some (.builtin "BaseException.__getattribute__"))
  xk_NotEnough : PySem.W.findIn K (.ref A.NotEnough) "__getattr__" = some none
  xa_NotEnough : PySem.W.findIn K (.ref A.NotEnough) "__class__" = some (some (.builtin "object.__class__"))
  xn_NotEnough : PySem.W.specialIn K (.builtin "object.__class__") "__get__" = some (some (.builtin "getset_descriptor.__get__"))
  xt_NotEnough : PySem.W.takesIn K (.builtin "object.__class__") = some true
  xm_NotEnough : PySem.W.mroIn K A.NotEnough (.type "object") = some true
  n_NotEnough_day : PySem.W.findIn K (.ref A.NotEnough) "day" = some none
  n_NotEnough_number : PySem.W.findIn K (.ref A.NotEnough) "number" = some none
  n_NotEnough_missing : PySem.W.findIn K (.ref A.NotEnough) "missing" = some none
  oi_NotEnough : PySem.W.findIn K (.ref A.NotEnough) "__init__" = some (some (.ref A.m_NotEnough_init))
  ot_NotEnough : PySem.W.typeIn K (.ref A.m_NotEnough_init) = some (.type "function")
  ox_NotEnough : OexC K A.NotEnough
  g_TooMany : mg "TooMany" = some (.ref A.TooMany)
  ek_TooMany : PySem.W.keepIn K (.ref A.TooMany) = true
  eb_TooMany : PySem.W.subIn K (.ref A.TooMany) (.type "BaseException") = some true
  et_TooMany : PySem.W.typeIn K (.ref A.TooMany) = some (.type "type")
  eh_TooMany : PySem.W.hasDictIn K A.TooMany = true
  eic_TooMany : PySem.W.isClsIn K A.TooMany = true
  es_TooMany : PySem.W.subIn K (.ref A.TooMany) (.ref A.TooMany) = some true
  xg_TooMany : PySem.W.findIn K (.ref A.TooMany) "__getattribute__" = some (some (.builtin "BaseException.__getattribute__"))
  xk_TooMany : PySem.W.findIn K (.ref A.TooMany) "__getattr__" = some none
  xa_TooMany : PySem.W.findIn K (.ref A.TooMany) "__class__" = some (some (.builtin "object.__class__"))
  xn_TooMany : PySem.W.specialIn K (.builtin "object.__class__") "__get__" = some (some (.builtin "getset_descriptor.__get__"))
  xt_TooMany : PySem.W.takesIn K (.builtin "object.__class__") = some true
  xm_TooMany : PySem.W.mroIn K A.TooMany (.type "object") = some true
  n_TooMany_day : PySem.W.findIn K (.ref A.TooMany) "day" = some none
  n_TooMany_number : PySem.W.findIn K (.ref A.TooMany) "number" = some none
  n_TooMany_left : PySem.W.findIn K (.ref A.TooMany) "left" = some none
  oi_TooMany : PySem.W.findIn K (.ref A.TooMany) "__init__" = some (some (.ref A.m_TooMany_init))
  ot_TooMany : PySem.W.typeIn K (.ref A.m_TooMany_init) = some (.type "function")
  ox_TooMany : OexC K A.TooMany
  g_Contradiction : mg "Contradiction" = some (.ref A.Contradiction)
  ek_Contradiction : PySem.W.keepIn K (.ref A.Contradiction) = true
  eb_Contradiction : PySem.W.subIn K (.ref A.Contradiction) (.type "BaseException") = some true
  et_Contradiction : PySem.W.typeIn K (.ref A.Contradiction) = some (.type "type")
  eh_Contradiction : PySem.W.hasDictIn K A.Contradiction = true
  eic_Contradiction : PySem.W.isClsIn K A.Contradiction = true
  es_Contradiction : PySem.W.subIn K (.ref A.Contradiction) (.ref A.Contradiction) = some true
  xg_Contradiction : PySem.W.findIn K (.ref A.Contradiction) "__getattribute__" = some (some (.builtin "BaseException.__getattribute__"))
  xk_Contradiction : PySem.W.findIn K (.ref A.Contradiction) "__getattr__" = some none
  xa_Contradiction : PySem.W.findIn K (.ref A.Contradiction) "__class__" = some (some (.builtin "object.__class__"))
  xn_Contradiction : PySem.W.specialIn K (.builtin "object.__class__") "__get__" = some (some (.builtin "getset_descriptor.__get__"))
  xt_Contradiction : PySem.W.takesIn K (.builtin "object.__class__") = some true
  xm_Contradiction : PySem.W.mroIn K A.Contradiction (.type "object") = some true
  n_Contradiction_pair : PySem.W.findIn K (.ref A.Contradiction) "pair" = some none
  oi_Contradiction : PySem.W.findIn K (.ref A.Contradiction) "__init__" = some (some (.ref A.m_Contradiction_init))
  ot_Contradiction : PySem.W.typeIn K (.ref A.m_Contradiction_init) = some (.type "function")
  ox_Contradiction : OexC K A.Contradiction
  g_NotPlain : mg "NotPlain" = some (.ref A.NotPlain)
  ek_NotPlain : PySem.W.keepIn K (.ref A.NotPlain) = true
  eb_NotPlain : PySem.W.subIn K (.ref A.NotPlain) (.type "BaseException") = some true
  et_NotPlain : PySem.W.typeIn K (.ref A.NotPlain) = some (.type "type")
  eh_NotPlain : PySem.W.hasDictIn K A.NotPlain = true
  eic_NotPlain : PySem.W.isClsIn K A.NotPlain = true
  es_NotPlain : PySem.W.subIn K (.ref A.NotPlain) (.ref A.NotPlain) = some true
  xg_NotPlain : PySem.W.findIn K (.ref A.NotPlain) "__getattribute__" = some (some (.builtin "BaseException.__getattribute__"))
  xk_NotPlain : PySem.W.findIn K (.ref A.NotPlain) "__getattr__" = some none
  xa_NotPlain : PySem.W.findIn K (.ref A.NotPlain) "__class__" = some (some (.builtin "object.__class__"))
  xn_NotPlain : PySem.W.specialIn K (.builtin "object.__class__") "__get__" = some (some (.builtin "getset_descriptor.__get__"))
  xt_NotPlain : PySem.W.takesIn K (.builtin "object.__class__") = some true
  xm_NotPlain : PySem.W.mroIn K A.NotPlain (.type "object") = some true
  n_NotPlain_day : PySem.W.findIn K (.ref A.NotPlain) "day" = some none
  n_NotPlain_number : PySem.W.findIn K (.ref A.NotPlain) "number" = some none
  oi_NotPlain : PySem.W.findIn K (.ref A.NotPlain) "__init__" = some (some (.ref A.m_NotPlain_init))
  ot_NotPlain : PySem.W.typeIn K (.ref A.m_NotPlain_init) = some (.type "function")
  ox_NotPlain : OexC K A.NotPlain
  g_NotPossible : mg "NotPossible" = some (.ref A.NotPossible)
  ek_NotPossible : PySem.W.keepIn K (.ref A.NotPossible) = true
  eb_NotPossible : PySem.W.subIn K (.ref A.NotPossible) (.type "BaseException") = some true
  et_NotPossible : PySem.W.typeIn K (.ref A.NotPossible) = some (.type "type")
  eh_NotPossible : PySem.W.hasDictIn K A.NotPossible = true
  eic_NotPossible : PySem.W.isClsIn K A.NotPossible = true
  es_NotPossible : PySem.W.subIn K (.ref A.NotPossible) (.ref A.NotPossible) = some true
  xg_NotPossible : PySem.W.findIn K (.ref A.NotPossible) "__getattribute__" = some (some (.builtin "BaseException.__getattribute__"))
  xk_NotPossible : PySem.W.findIn K (.ref A.NotPossible) "__getattr__" = some none
  xa_NotPossible : PySem.W.findIn K (.ref A.NotPossible) "__class__" = some (some (.builtin "object.__class__"))
  xn_NotPossible : PySem.W.specialIn K (.builtin "object.__class__") "__get__" = some (some (.builtin "getset_descriptor.__get__"))
  xt_NotPossible : PySem.W.takesIn K (.builtin "object.__class__") = some true
  xm_NotPossible : PySem.W.mroIn K A.NotPossible (.type "object") = some true
  xP_NotPossible : PySem.W.excIn K A.NotPossible [.type "ValueError", .type "Exception", .type "BaseException", .type "object"] "ValueError.__new__" = true
  g_Shut : mg "Shut" = some (.ref A.Shut)
  ek_Shut : PySem.W.keepIn K (.ref A.Shut) = true
  eb_Shut : PySem.W.subIn K (.ref A.Shut) (.type "BaseException") = some true
  et_Shut : PySem.W.typeIn K (.ref A.Shut) = some (.type "type")
  eh_Shut : PySem.W.hasDictIn K A.Shut = true
  eic_Shut : PySem.W.isClsIn K A.Shut = true
  es_Shut : PySem.W.subIn K (.ref A.Shut) (.ref A.Shut) = some true
  xg_Shut : PySem.W.findIn K (.ref A.Shut) "__getattribute__" = some (some (.builtin "BaseException.__getattribute__"))
  xk_Shut : PySem.W.findIn K (.ref A.Shut) "__getattr__" = some none
  xa_Shut : PySem.W.findIn K (.ref A.Shut) "__class__" = some (some (.builtin "object.__class__"))
  xn_Shut : PySem.W.specialIn K (.builtin "object.__class__") "__get__" = some (some (.builtin "getset_descriptor.__get__"))
  xt_Shut : PySem.W.takesIn K (.builtin "object.__class__") = some true
  xm_Shut : PySem.W.mroIn K A.Shut (.type "object") = some true
  n_Shut_day : PySem.W.findIn K (.ref A.Shut) "day" = some none
  oi_Shut : PySem.W.findIn K (.ref A.Shut) "__init__" = some (some (.ref A.m_Shut_init))
  ot_Shut : PySem.W.typeIn K (.ref A.m_Shut_init) = some (.type "function")
  ox_Shut : OexC K A.Shut
  g_NotClosed : mg "NotClosed" = some (.ref A.NotClosed)
  ek_NotClosed : PySem.W.keepIn K (.ref A.NotClosed) = true
  eb_NotClosed : PySem.W.subIn K (.ref A.NotClosed) (.type "BaseException") = some true
  et_NotClosed : PySem.W.typeIn K (.ref A.NotClosed) = some (.type "type")
  eh_NotClosed : PySem.W.hasDictIn K A.NotClosed = true
  eic_NotClosed : PySem.W.isClsIn K A.NotClosed = true
  es_NotClosed : PySem.W.subIn K (.ref A.NotClosed) (.ref A.NotClosed) = some true
  xg_NotClosed : PySem.W.findIn K (.ref A.NotClosed) "__getattribute__" = some (some (.builtin "BaseException.__getattribute__"))
  xk_NotClosed : PySem.W.findIn K (.ref A.NotClosed) "__getattr__" = some none
  xa_NotClosed : PySem.W.findIn K (.ref A.NotClosed) "__class__" = some (some (.builtin "object.__class__"))
  xn_NotClosed : PySem.W.specialIn K (.builtin "object.__class__") "__get__" = some (some (.builtin "getset_descriptor.__get__"))
  xt_NotClosed : PySem.W.takesIn K (.builtin "object.__class__") = some true
  xm_NotClosed : PySem.W.mroIn K A.NotClosed (.type "object") = some true
  n_NotClosed_day : PySem.W.findIn K (.ref A.NotClosed) "day" = some none
  oi_NotClosed : PySem.W.findIn K (.ref A.NotClosed) "__init__" = some (some (.ref A.m_NotClosed_init))
  ot_NotClosed : PySem.W.typeIn K (.ref A.m_NotClosed_init) = some (.type "function")
  ox_NotClosed : OexC K A.NotClosed
  g_NotTold : mg "NotTold" = some (.ref A.NotTold)
  ek_NotTold : PySem.W.keepIn K (.ref A.NotTold) = true
  eb_NotTold : PySem.W.subIn K (.ref A.NotTold) (.type "BaseException") = some true
  et_NotTold : PySem.W.typeIn K (.ref A.NotTold) = some (.type "type")
  eh_NotTold : PySem.W.hasDictIn K A.NotTold = true
  eic_NotTold : PySem.W.isClsIn K A.NotTold = true
  es_NotTold : PySem.W.subIn K (.ref A.NotTold) (.ref A.NotTold) = some true
  xg_NotTold : PySem.W.findIn K (.ref A.NotTold) "__getattribute__" = some (some (.builtin "BaseException.__getattribute__"))
  xk_NotTold : PySem.W.findIn K (.ref A.NotTold) "__getattr__" = some none
  xa_NotTold : PySem.W.findIn K (.ref A.NotTold) "__class__" = some (some (.builtin "object.__class__"))
  xn_NotTold : PySem.W.specialIn K (.builtin "object.__class__") "__get__" = some (some (.builtin "getset_descriptor.__get__"))
  xt_NotTold : PySem.W.takesIn K (.builtin "object.__class__") = some true
  xm_NotTold : PySem.W.mroIn K A.NotTold (.type "object") = some true
  xP_NotTold : PySem.W.excIn K A.NotTold [.type "ValueError", .type "Exception", .type "BaseException", .type "object"] "ValueError.__new__" = true
  g_Unfit : mg "Unfit" = some (.ref A.Unfit)
  ek_Unfit : PySem.W.keepIn K (.ref A.Unfit) = true
  eb_Unfit : PySem.W.subIn K (.ref A.Unfit) (.type "BaseException") = some true
  et_Unfit : PySem.W.typeIn K (.ref A.Unfit) = some (.type "type")
  eh_Unfit : PySem.W.hasDictIn K A.Unfit = true
  eic_Unfit : PySem.W.isClsIn K A.Unfit = true
  es_Unfit : PySem.W.subIn K (.ref A.Unfit) (.ref A.Unfit) = some true
  xg_Unfit : PySem.W.findIn K (.ref A.Unfit) "__getattribute__" = some (some (.builtin "BaseException.__getattribute__"))
  xk_Unfit : PySem.W.findIn K (.ref A.Unfit) "__getattr__" = some none
  xa_Unfit : PySem.W.findIn K (.ref A.Unfit) "__class__" = some (some (.builtin "object.__class__"))
  xn_Unfit : PySem.W.specialIn K (.builtin "object.__class__") "__get__" = some (some (.builtin "getset_descriptor.__get__"))
  xt_Unfit : PySem.W.takesIn K (.builtin "object.__class__") = some true
  xm_Unfit : PySem.W.mroIn K A.Unfit (.type "object") = some true
  kit_Unfit : kitAll K [A.BadEntry, A.BadName, A.BadRule, A.Contradiction, A.NameTaken, A.Negative, A.NoEntry, A.NoPrice, A.NoRatio, A.NotClosed, A.NotEnough, A.NotPlain, A.NotPossible, A.NotTold, A.Short, A.Shut, A.TooMany, A.Unfit, A.UnknownName] A.CostError = true
  n_Unfit_factors : PySem.W.findIn K (.ref A.Unfit) "factors" = some none
  oi_Unfit : PySem.W.findIn K (.ref A.Unfit) "__init__" = some (some (.ref A.m_Unfit_init))
  ot_Unfit : PySem.W.typeIn K (.ref A.m_Unfit_init) = some (.type "function")
  ox_Unfit : OexC K A.Unfit
  F_m_BadName_init : Fun K "__init__" "BadName.__init__" s_m_BadName_init A.m_BadName_init A.fd_m_BadName_init
  b_m_BadName_init : Binds K A.fd_m_BadName_init P_m_BadName_init []
  F_m_NoPrice_init : Fun K "__init__" "NoPrice.__init__" s_m_NoPrice_init A.m_NoPrice_init A.fd_m_NoPrice_init
  b_m_NoPrice_init : Binds K A.fd_m_NoPrice_init P_m_NoPrice_init []
  F_m_Negative_init : Fun K "__init__" "Negative.__init__" s_m_Negative_init A.m_Negative_init A.fd_m_Negative_init
  b_m_Negative_init : Binds K A.fd_m_Negative_init P_m_Negative_init []
  F_m_BadEntry_init : Fun K "__init__" "BadEntry.__init__" s_m_BadEntry_init A.m_BadEntry_init A.fd_m_BadEntry_init
  b_m_BadEntry_init : Binds K A.fd_m_BadEntry_init P_m_BadEntry_init []
  F_m_NoEntry_init : Fun K "__init__" "NoEntry.__init__" s_m_NoEntry_init A.m_NoEntry_init A.fd_m_NoEntry_init
  b_m_NoEntry_init : Binds K A.fd_m_NoEntry_init P_m_NoEntry_init []
  F_m_BadRule_init : Fun K "__init__" "BadRule.__init__" s_m_BadRule_init A.m_BadRule_init A.fd_m_BadRule_init
  b_m_BadRule_init : Binds K A.fd_m_BadRule_init P_m_BadRule_init []
  F_m_Short_init : Fun K "__init__" "Short.__init__" s_m_Short_init A.m_Short_init A.fd_m_Short_init
  b_m_Short_init : Binds K A.fd_m_Short_init P_m_Short_init []
  F_m_NameTaken_init : Fun K "__init__" "NameTaken.__init__" s_m_NameTaken_init A.m_NameTaken_init A.fd_m_NameTaken_init
  b_m_NameTaken_init : Binds K A.fd_m_NameTaken_init P_m_NameTaken_init []
  F_m_UnknownName_init : Fun K "__init__" "UnknownName.__init__" s_m_UnknownName_init A.m_UnknownName_init A.fd_m_UnknownName_init
  b_m_UnknownName_init : Binds K A.fd_m_UnknownName_init P_m_UnknownName_init []
  F_m_NotEnough_init : Fun K "__init__" "NotEnough.__init__" s_m_NotEnough_init A.m_NotEnough_init A.fd_m_NotEnough_init
  b_m_NotEnough_init : Binds K A.fd_m_NotEnough_init P_m_NotEnough_init []
  F_m_TooMany_init : Fun K "__init__" "TooMany.__init__" s_m_TooMany_init A.m_TooMany_init A.fd_m_TooMany_init
  b_m_TooMany_init : Binds K A.fd_m_TooMany_init P_m_TooMany_init []
  F_m_Contradiction_init : Fun K "__init__" "Contradiction.__init__" s_m_Contradiction_init A.m_Contradiction_init A.fd_m_Contradiction_init
  b_m_Contradiction_init : Binds K A.fd_m_Contradiction_init P_m_Contradiction_init []
  F_m_NotPlain_init : Fun K "__init__" "NotPlain.__init__" s_m_NotPlain_init A.m_NotPlain_init A.fd_m_NotPlain_init
  b_m_NotPlain_init : Binds K A.fd_m_NotPlain_init P_m_NotPlain_init []
  F_m_Shut_init : Fun K "__init__" "Shut.__init__" s_m_Shut_init A.m_Shut_init A.fd_m_Shut_init
  b_m_Shut_init : Binds K A.fd_m_Shut_init P_m_Shut_init []
  F_m_NotClosed_init : Fun K "__init__" "NotClosed.__init__" s_m_NotClosed_init A.m_NotClosed_init A.fd_m_NotClosed_init
  b_m_NotClosed_init : Binds K A.fd_m_NotClosed_init P_m_NotClosed_init []
  F_m_Unfit_init : Fun K "__init__" "Unfit.__init__" s_m_Unfit_init A.m_Unfit_init A.fd_m_Unfit_init
  b_m_Unfit_init : Binds K A.fd_m_Unfit_init P_m_Unfit_init []
  F_l_bag : Fun K "_law_bag" "_law_bag" s_l_bag A.l_bag A.fd_l_bag
  b_l_bag : Binds K A.fd_l_bag P_l_bag []
  g__law_bag : mg "_law_bag" = some (.ref A.l_bag)
  F_l_draw : Fun K "_law_draw" "_law_draw" s_l_draw A.l_draw A.fd_l_draw
  b_l_draw : Binds K A.fd_l_draw P_l_draw []
  g__law_draw : mg "_law_draw" = some (.ref A.l_draw)
  F_l_names : Fun K "_law_names" "_law_names" s_l_names A.l_names A.fd_l_names
  b_l_names : Binds K A.fd_l_names P_l_names []
  g__law_names : mg "_law_names" = some (.ref A.l_names)
  F_l_named : Fun K "_law_named" "_law_named" s_l_named A.l_named A.fd_l_named
  b_l_named : Binds K A.fd_l_named P_l_named []
  g__law_named : mg "_law_named" = some (.ref A.l_named)
  F_l_placed : Fun K "_law_placed" "_law_placed" s_l_placed A.l_placed A.fd_l_placed
  b_l_placed : Binds K A.fd_l_placed P_l_placed []
  g__law_placed : mg "_law_placed" = some (.ref A.l_placed)
  F_l_others : Fun K "_law_others" "_law_others" s_l_others A.l_others A.fd_l_others
  b_l_others : Binds K A.fd_l_others P_l_others []
  g__law_others : mg "_law_others" = some (.ref A.l_others)
  F_l_classes : Fun K "_law_classes" "_law_classes" s_l_classes A.l_classes A.fd_l_classes
  b_l_classes : Binds K A.fd_l_classes P_l_classes []
  g__law_classes : mg "_law_classes" = some (.ref A.l_classes)
  F_f_law : Fun K "law" "law" s_f_law A.f_law A.fd_f_law
  b_f_law : Binds K A.fd_f_law P_f_law []
  g_law : mg "law" = some (.ref A.f_law)
/-- a word that the steps don't open -/
structure Wd (p : Prop) : Prop where
  ok : p
section
variable {X : Cx}
def tG (t : TS) : TS := fun D σ H => Wd (t D σ H)
def tGE (t : TE) : TE := fun σ H Q => Wd (t σ H Q)
theorem ps_g {st : Stmt} {t : TS} (h : PS X st t) : PS X st (tG t) := ⟨fun pins s σ H D I hw => h.run pins s σ H D I hw.ok⟩
theorem pss_g {st : List Stmt} {t : TS} (h : PSs X st t) : PSs X st (tG t) := ⟨fun pins s σ H D I hw => h.run pins s σ H D I hw.ok⟩
theorem pe_g {e : Expr} {t : TE} (h : PE X e t) : PE X e (tGE t) := ⟨fun pins s σ H Q I hw => h.run pins s σ H Q I hw.ok⟩
end
theorem if_int {i j : Int} {A B : Prop} (h1 : i = j → A) (h2 : i ≠ j → B) : if decide (V.int i = V.int j) = true then A else B := by
  by_cases e : i = j
  · rw [if_pos (decide_eq_true (congrArg V.int e))]
    exact h1 e
  · rw [if_neg fun z => e (V.int.inj (of_decide_eq_true z))]
    exact h2 e
theorem if_intN {i j : Int} {A B : Prop} (h1 : i ≠ j → A) (h2 : i = j → B) : if (!decide (V.int i = V.int j)) = true then A else B := by
  by_cases e : i = j
  · rw [decide_eq_true (congrArg V.int e)]
    exact iteF (h2 e)
  · rw [decide_eq_false fun z => e (V.int.inj z)]
    exact iteT (h1 e)
theorem if_dec {p A B : Prop} [Decidable p] (h1 : p → A) (h2 : ¬ p → B) : if decide p = true then A else B := by
  by_cases e : p
  · rw [if_pos (decide_eq_true e)]
    exact h1 e
  · rw [if_neg fun z => e (of_decide_eq_true z)]
    exact h2 e
theorem ifT {p A B : Prop} [Decidable p] (hp : p) (h : A) : if decide p = true then A else B := by
  rw [if_pos (decide_eq_true hp)]
  exact h
theorem ifF {p A B : Prop} [Decidable p] (hp : ¬ p) (h : B) : if decide p = true then A else B := by
  rw [if_neg fun z => hp (of_decide_eq_true z)]
  exact h
theorem ifNT {p A B : Prop} [Decidable p] (hp : p) (h : B) : if (!decide p) = true then A else B := by
  rw [decide_eq_true hp]
  exact iteF h
theorem ifNF {p A B : Prop} [Decidable p] (hp : ¬ p) (h : A) : if (!decide p) = true then A else B := by
  rw [decide_eq_false hp]
  exact iteT h
theorem if_bl {b : Bool} {A B : Prop} (h1 : b = true → A) (h2 : b = false → B) : if b = true then A else B := by
  cases b with
  | true => exact h1 rfl
  | false => exact iteF (h2 rfl)
/-- all but what stands at g is kept -/
def Kp (g : Addr) (H H' : Hp) : Prop := ∀ b o, H b = some o → b ≠ g → H' b = some o
theorem Kp.refl (g : Addr) (H : Hp) : Kp g H H := fun _ _ h _ => h
theorem Kp.trans {g : Addr} {H H1 H2 : Hp} (a : Kp g H H1) (b : Kp g H1 H2) : Kp g H H2 := fun c o h n => b c o (a c o h n) n
theorem Kp.up {g : Addr} {H H' : Hp} {o : HO} (k : Kp g H H') : Kp g H (upd H' g o) := fun b u e n => by
  rw [upd_ne n]
  exact k b u e n

/-! ### the bag of draws -/
structure Bag (H : Hp) (g l : Addr) : Prop where
  ex : ∃ (i r s c : Int) (ns : List Int), H g = some (.lst [.ref l, .int i, .int r, .int s, .int c]) ∧ H l = some (.lst (ns.map V.int)) ∧ 0 ≤ i
def spDraw : Sp := fun vs H Q _ => ∃ (g l : Addr) (z : Int), vs = [.ref g, .int z] ∧ Bag H g l ∧ 0 < z ∧ z.natAbs < 2 ^ 9000 ∧
  ∀ (n : Int) (H' : Hp), 0 ≤ n → n < z → Bag H' g l → Kp g H H' → Q (.int n) H'
theorem at_ints {ns : List Int} {i : Int} (h0 : 0 ≤ i) (h1 : i < (ns.length : Int)) : ∃ n, atI (ns.map V.int) i = some (.int n) := by
  obtain ⟨j, rfl⟩ := Int.eq_ofNat_of_zero_le h0
  have hj : j < ns.length := by omega
  exact ⟨ns[j], atI_nat (by rw [List.getElem?_map, List.getElem?_eq_getElem hj]; rfl)⟩
theorem cmul_r {i j : Int} (h : -(2 ^ 64) < j ∧ j < 2 ^ 64) : CMul i j := .inr h
theorem cmul_l {i j : Int} (h : -(2 ^ 64) < i ∧ i < 2 ^ 64) : CMul i j := .inl h
theorem cpow_of {i j : Int} (h1 : 0 ≤ j ∧ j ≤ 1000000) (h2 : -(2 ^ 63) < i ∧ i < 2 ^ 63) : CPow i j := ⟨h1.1, h1.2, by omega⟩
section
variable {P : Program} {w : World} {K : PySem.W.Frag} {mg : Str → Option Value} {base : Heap} {A : Ad}
theorem ok_l_draw (T : Txt K mg A) : FnOk P w K mg base CX0 1 A.l_draw A.fd_l_draw P_l_draw spDraw := by
  refine T.F_l_draw.ok sc_l_draw (fun vs H Q E h => ?_) (fun cdv Ar outer s H vs Q E hr h => ?_)
  · obtain ⟨g, l, z, rfl, _⟩ := h
    rfl
  · obtain ⟨g, l, z, rfl, ⟨i, r, sd, c, ns, hg, hl, hi⟩, hz, hz2, k⟩ := h
    have nlg : l ≠ g := ne_of hl hg (by intro q; cases ns <;> cases q)
    refine ⟨_, (pss_cons (ps_asg (pe_op op_add (pe_ix ix_list (pv 0) pe_int (fun _ _ => rfl)) pe_int) (pg_sub (pv 0) pe_int set_list))
      (pss_g (Evl.pss_cut (ps_if (PW.pt (pw_and (pt_cmpR op_eq (pe_ix ix_list (pv 0) pe_int (fun _ _ => rfl)) pe_int (nomark _)) (pw_and1 (pt_cmpR op_lt (pe_ix ix_list (pv 0) pe_int (fun _ _ => rfl)) (pe_callB call_len_seq (by rfl) T.z_len (by decide +kernel) (pa_cons (pe_ix ix_list (pv 0) pe_int (fun _ _ => rfl)) pa_nil)) (nomark _))))) (pss_cons (ps_set (i := 2) sc_l_draw.nd rfl (Or.inl rfl) (pe_ix ix_list (pe_ix ix_list (pv 0) pe_int (fun _ _ => rfl)) (pe_ix ix_list (pv 0) pe_int (fun _ _ => rfl)) (fun _ _ => rfl)))
      (pss_cons (ps_asg (pe_op op_add (pe_ix ix_list (pv 0) pe_int (fun _ _ => rfl)) pe_int) (pg_sub (pv 0) pe_int set_list))
      (pss_cons (ps_asg (pe_op op_mul (pe_op op_add (pe_op op_mul pe_int (pe_callB call_abs (by rfl) T.z_abs (by decide +kernel) (pa_cons (pv 2) pa_nil))) (pe_callTy call_int1 (by rfl) T.z_int (by decide +kernel) (pa_cons (pe_cmpR op_lt (pv 2) pe_int (nomark _)) pa_nil))) (pe_callTy call_int1 (by rfl) T.z_int (by decide +kernel) (pa_cons (pe_cmpR op_ge (pe_callB call_abs (by rfl) T.z_abs (by decide +kernel) (pa_cons (pv 2) pa_nil)) (pe_op op_pow pe_int pe_int) (nomark _)) pa_nil))) (pg_sub (pv 0) pe_int set_list))
      (pss_one (ps_asg (pe_op op_mod (pe_callTy call_int1 (by rfl) T.z_int (by decide +kernel) (pa_cons (pe_op op_add (pe_op op_add (pe_op op_mul (pe_ix ix_list (pv 0) pe_int (fun _ _ => rfl)) pe_int) (pe_op op_mul (pv 2) pe_int)) pe_int) pa_nil)) pe_int) (pg_sub (pv 0) pe_int set_list)))))) pss_nil)
      (pss_cons (ps_set (i := 3) sc_l_draw.nd rfl (Or.inl rfl) (pe_op op_mod (pe_callTy call_int1 (by rfl) T.z_int (by decide +kernel) (pa_cons (pe_ix ix_list (pv 0) pe_int (fun _ _ => rfl)) pa_nil)) (pv 1)))
      (pss_cons (ps_if (pt_cmpR op_gt (pe_ix ix_list (pv 0) pe_int (fun _ _ => rfl)) pe_int (nomark _)) (pss_cons (ps_asg (pe_op op_fdivW (pe_ix ix_list (pv 0) pe_int (fun _ _ => rfl)) (pv 1)) (pg_sub (pv 0) pe_int set_list))
      (pss_one (ps_ret (pv 3)))) pss_nil)
      (pss_cons (ps_set (i := 4) sc_l_draw.nd rfl (Or.inl rfl) (pe_op op_mod (pe_callTy call_int1 (by rfl) T.z_int (by decide +kernel) (pa_cons (pe_op op_add (pe_ix ix_list (pv 0) pe_int (fun _ _ => rfl)) (pe_op op_mul (pe_ix ix_list (pv 0) pe_int (fun _ _ => rfl)) pe_int)) pa_nil)) pe_int))
      (pss_cons (ps_set (i := 4) sc_l_draw.nd rfl (Or.inl rfl) (pe_op op_mod (pe_callTy call_int1 (by rfl) T.z_int (by decide +kernel) (pa_cons (pe_op op_add (pe_op op_add (pe_op op_pow (pv 4) pe_int) (pe_op op_mul (pe_ix ix_list (pv 0) pe_int (fun _ _ => rfl)) pe_int)) pe_int) pa_nil)) pe_int))
      (pss_one (ps_ret (pe_op op_mod (pe_op op_fdiv (pe_op op_mod (pe_callTy call_int1 (by rfl) T.z_int (by decide +kernel) (pa_cons (pe_op op_pow (pv 4) pe_int) pa_nil)) pe_int) pe_int) (pv 1))))))))))), ?_⟩
    refine ⟨_, rfl, g, _, _, _, rfl, rfl, SqL.of hg, rfl, _, _, rfl, rfl, _, rfl, g, _, _, _, rfl, rfl, hg, rfl, ?_⟩
    refine ⟨⟨fun σ' H' => Wd (∃ (i r s c : Int) (v : Option V), σ' = [some (.ref g), some (.int z), v, none, none] ∧ 0 ≤ i ∧ H' g = some (.lst [.ref l, .int i, .int r, .int s, .int c]) ∧ H' l = some (.lst (ns.map V.int)) ∧ Kp g H H'), ?_, ?_⟩⟩
    · walk_at "go"
      refine if_int (fun e0 => ?_) (fun e0 => ?_)
      · walk_at "go"
        refine if_dec (fun e1 => ?_) (fun e1 => ?_)
        · obtain ⟨n, hn⟩ := at_ints (ns := ns) hi (by simpa using e1)
          walk_at "go"
          exact ⟨i + 1, _, _, c + 1, _, rfl, by omega, upd_same, by walk_at "at", (((Kp.refl g H).up.up.up.up))⟩
        · exact ⟨i, r, sd, c + 1, none, rfl, hi, upd_same, by walk_at "at", (Kp.refl g H).up⟩
      · refine iteF ?_
        exact ⟨i, r, sd, c + 1, none, rfl, hi, upd_same, by walk_at "at", (Kp.refl g H).up⟩
    · rintro σ' H' ⟨i, r, s, c, v, rfl, hi, hg, hl, kp⟩
      walk_at "go"
      refine if_dec (fun e1 => ?_) (fun e1 => ?_)
      · walk_at "go"
        exact k _ _ (Int.emod_nonneg _ (by omega)) (Int.emod_lt_of_pos _ hz) ⟨i, _, s, c, ns, upd_same, by walk_at "at", hi⟩ kp.up
      · walk_at "go"
        exact k _ _ (Int.emod_nonneg _ (by omega)) (Int.emod_lt_of_pos _ hz) ⟨i, r, s, c, ns, hg, hl, hi⟩ kp
end

/-! ### calls in the body of a try: what they raise is wished for at the slots as they stand -/
section
open PySem.Spec PyProof.Rows
variable {X : Cx} {CX : CXT} {k : Nat} {f C : Addr} {fd : FuncData} {ps : List Str} {sp : Sp} {dvs : List V} {ds : List Value} {E : L2.St → XK} {x m : Str} {p pos apos : Pos} {e o : Expr} {es : List Expr} {ta : TE} {t : TA}
theorem run_mkS {pins : List (Addr × Obj)} {σ : L2.St} {H : Hp} {s : Shared} {Q : VK} {us : List Value} {vs : List V} (M : Mk X.K C f) (F : FnOk X.prog X.w X.K X.mg X.base CX k f fd ps sp)
    (hr : Room (k + 1) X.A) (hb : Binds X.K fd ps ds) (hd : Vals dvs ds) (hx : PassesAt CX X σ (E σ)) (I : Inv X pins σ H s) (r : Vals vs us)
    (h : ∀ x dx, H x = none → H dx = none → dx ≠ x → sp (.ref x :: (vs ++ dvs)) (upd (upd H dx (.own x)) x (.ins C dx [])) (fun v H2 => v = .non ∧ Q (.ref x) H2) (E σ)) :
    wpAny (model X.prog X.w) X.A (call (.ref C) us) (EP X pins σ Q) X.xe s := by
  have a1 := h (s.heap.objs.size + 1) s.heap.objs.size (I.hok.fresh (Nat.le_succ _)) (I.hok.fresh (Nat.le_refl _)) (Nat.ne_of_lt (Nat.lt_succ_self _))
  have J := Inv.made (C := C) I
  have a2 : Vals (V.ref (s.heap.objs.size + 1) :: (vs ++ dvs)) (Value.ref (s.heap.objs.size + 1) :: (us ++ ds)) := .cons rfl (r.append hd)
  have a3 : (Value.ref (s.heap.objs.size + 1) :: us ++ ds).length = ps.length := by
    have z := a2.length
    rw [F.len _ _ _ _ a1] at z
    exact z.symm
  refine wpAny_call (make_map (f := f) I.kIn M.makes M.init (beq_iff_eq.mp M.fn) (codeAny_mono (F.run _ X.stack _ _ ⟨Value.ref (s.heap.objs.size + 1) :: us, []⟩
    (Value.ref (s.heap.objs.size + 1) :: (us ++ ds)) _ _ (E σ) (hr.make C us []) (J.env0.make C us []) (hb _ (Value.ref (s.heap.objs.size + 1) :: us) J.kIn a3) a2 a1) fun r s' z => ?_))
  cases r with
  | error u => exact hx pins _ _ u s' J z
  | ok fl =>
    cases fl with
    | ret u =>
      obtain ⟨v, H', J3, rv, ev, q3⟩ := J.after z
      subst ev
      exact ⟨rv, V.ref (s.heap.objs.size + 1), H', J3, rfl, q3⟩
    | next => exact z.elim
    | brk => exact z.elim
    | cont => exact z.elim
def tMakeS (C : Addr) (sp : Sp) (dvs : List V) (E : L2.St → XK) (t : TA) : TE := fun σ H Q => t σ H fun vs H1 => ∀ x dx, H1 x = none → H1 dx = none → dx ≠ x →
  sp (.ref x :: (vs ++ dvs)) (upd (upd H1 dx (.own x)) x (.ins C dx [])) (fun v H2 => v = .non ∧ Q (.ref x) H2) (E σ)
theorem pe_makeS (M : Mk X.K C f) (F : FnOk X.prog X.w X.K X.mg X.base CX k f fd ps sp) (hr : Room (k + 1) X.A) (hg : Gl X x) (hm : X.mg x = some (.ref C)) (hb : Binds X.K fd ps ds) (hd : Vals dvs ds) (hx : ∀ σ, PassesAt CX X σ (E σ))
    (ha : PA X (e :: es) t) (hdb : (x == ("__debug__" : Str)) = false := by decide) (he : starEach (e :: es) X.env = (false, eval e X.env) :: starEach es X.env := by rfl)
    (hpl : (backTo pos (starEach es X.env)).any (·.1) = false := by rfl) : PE X (.Call (.Name x p) (e :: es) [] pos) (tMakeS C sp dvs E t) := ⟨fun pins s σ H Q I h =>
  wpAny_Call_Name_kw (ld_glob I hg hm (PySem.W.callWith_K (h₀ := X.base) I.ok.mod.kin M.kp (thn (ha.run pos pins s σ H _ I h) fun us s1 ⟨vs, H1, I1, r, q⟩ => ⟨I1.kIn, run_mkS M F hr hb hd (hx σ) I1 r q⟩) he hpl) hdb)⟩
def tMethS (C : Addr) (m : Str) (sp : Sp) (E : L2.St → XK) (ta : TE) (t : TA) : TE := fun σ H Q => ta σ H fun x H1 => ∃ a dx fs, x = .ref a ∧ H1 a = some (.ins C dx fs) ∧ fs.lookup m = none ∧
  t σ H1 fun vs H2 => sp (.ref a :: vs) H2 Q (E σ)
theorem pe_methA {pl : Sem Bool} (he : PE X o ta) (c : Cls X.K C) (hm : Meth X.K C m f) (F : FnOk X.prog X.w X.K X.mg X.base CX k f fd ps sp) (hr : Room k X.A) (hb : Binds X.K fd ps []) (hx : ∀ σ, PassesAt CX X σ (E σ)) (ha : PA X (e :: es) t)
    (hst : starEach (e :: es) X.env = (false, eval e X.env) :: starEach es X.env := by rfl) (hpl : (backTo pos (starEach es X.env)).any (·.1) = false := by rfl)
    (ht : eval (.Call (.Attribute o m apos) (e :: es) [] pos) X.env = (eval o X.env >>= fun ov => standAt apos.atName >>= fun _ => holding [ov] (getMethod ov m pl) >>= fun (f, first) =>
      callWith pos f first (backTo pos (starEach (e :: es) X.env)) (backToKw pos (keywordEach [] X.env))) := by rfl) :
    PE X (.Call (.Attribute o m apos) (e :: es) [] pos) (tMethS C m sp E ta t) := by
  refine ⟨fun pins s σ H Q I h => ?_⟩
  refine PySem.W.methodCall_KW (pl := pl) (thn (he.run pins s σ H _ I h) fun u s1 ⟨x, H1, I1, rx, a, dx, fs, ex, ea, l, q⟩ => ?_) ht
  cases ex
  obtain rfl : u = Value.ref a := rx
  exact getmeth_ok I1 ea c hm l (PySem.W.callWith_K (first := [.ref a]) (h₀ := X.base) I.ok.mod.kin hm.kp (thn (ha.run pos pins s1 σ H1 _ I1 q) fun us s2 ⟨vs, H2, I2, r, q2⟩ =>
    ⟨I2.kIn, run_fnS (E := E) (us := .ref a :: us) (vs := .ref a :: vs) F hr hb (hx σ) I2 (.cons rfl r) q2⟩) hst hpl)

def oe0 : Obj := { cls := .none, data := .fields #[] }
variable {n : Str} {c : Value} {i : Nat} {body suite : List Stmt} {b0 : Stmt} {np pos' : Pos} {Wout : WX}
  {tb : WX → List (Addr × Obj) → (Value → Shared → Prop) → TS} {ts : Addr → Obj → Value → Option Addr → List (Addr × Obj) → TS}
/-- try: .. except x as n: .., the readings of the body and of the suite free of what they can't hang on (both shown by rfl) -/
theorem ps_tryV (hs : X.stack = X.env :: X.outer) (hf : X.env.frame = some X.env.locals) (hN : X.N.Nodup) (hi : X.N[i]? = some n) (hln : X.env.kindOf n = some .local) (hc : Names X x c) (tk : Takes X Wout)
    (hb : ∀ (W : WX) (pn : List (Addr × Obj)) (xe : Value → Shared → Prop), Takes (X.tr pn xe) W → PassesOwn (model X.prog X.w) X.A X.env xe → PSs (X.tr pn xe) body (tb W pn xe))
    (hsu : ∀ (a : Addr) (oe : Obj) (cls : Value) (d : Option Addr) (pn : List (Addr × Obj)), Zc cls d oe → (∃ vs, oe.data = .fields vs) → PSs (X.suite a ((a, oe) :: pn)) (b0 :: suite) (ts a oe cls d pn))
    (e1 : ∀ W pn xe, tb W pn xe = tb W [] (fun _ _ => False)) (e2 : ∀ a oe cls d pn, ts a oe cls d pn = ts a oe0 cls d []) :
    PS X (.Try body [.ExceptHandler (some (.Name x np)) (some n) (b0 :: suite) pos'] [] [] pos) (fun D σ H => tb (wAs X.K c i (fun a cls d => ts a oe0 cls d []) Wout D) [] (fun _ _ => False) D σ H) :=
  ps_try_as (tb := fun W => tb W [] (fun _ _ => False)) (ts := fun a cls d => ts a oe0 cls d []) hs hf hN hi hln hc tk (fun W pn xe k po => by rw [← e1 W pn xe]; exact hb W pn xe k po)
    (fun a oe cls d pn z f => by rw [← e2 a oe cls d pn]; exact hsu a oe cls d pn z f)
/-- isinstance(e, C) of the error that the suite holds, one without a dict of its own -/
def rIsEV (K : PySem.W.Frag) (cls : Value) (d : Option Addr) (a : Addr) : List V → Hp → VK → Prop := fun xs H Q => ∃ (D : Addr) (c : V) (cv : Value) (b : Bool), cls = .ref D ∧ d = none ∧ ExcC K D ∧ xs = [.ref a, c] ∧ (∀ u, RelV c u → u = cv) ∧ PySem.W.kitOne K (.ref D) cv = some b ∧ Q (.bl b) H
theorem call_isEV {a : Addr} {oe : Obj} {cls : Value} {d : Option Addr} {pn : List (Addr × Obj)} (hz : Zc cls d oe) (hf : ∃ vs, oe.data = .fields vs) : CallR (X.suite a ((a, oe) :: pn)) (.builtin "isinstance") (rIsEV X.K cls d a) := by
  intro pins s σ H xs us Q I r h
  obtain ⟨D, c, cv, b, rfl, rfl, C, h⟩ := h
  exact call_isE C hz hf pins s σ H xs us Q I r ⟨c, cv, b, h⟩
end
/-! ### list comprehensions: the readings of their parts free of what they can't hang on -/
section
open PySem.Spec PyProof.Rows
variable {X : Cx} {elt tg iter : Expr} {ifs : List Expr} {scope : Scope} {own : List (Str × Nat)} {pos spos py : Pos} {wi : TI} {i : Nat} {y : Str}
abbrev Bk (α : Type) := Shared → Hp → Addr → List (Str × Addr) → List Addr → α
abbrev Bk.at0 {α : Type} (f : Bk α) (X : Cx) : α := f X.s_0 X.H_0 0 [] []
variable {g : Bk TG} {tt : Bk TT} {te : Bk TE}
theorem pe_lcV (hc : X.calm = true) (hN : X.N.Nodup) (hi : PI X tg iter wi) (ok : BlkOk X.N X.env.scope scope own)
    (hg : ∀ s H C cl fp, PG (X.blk s H scope (compEnvC scope cl C X.env) fp) tg (g s H C cl fp)) (ht : ∀ s H C cl fp, PTs (X.blk s H scope (compEnvC scope cl C X.env) fp) ifs (tt s H C cl fp))
    (he : ∀ s H C cl fp, PE (X.blk s H scope (compEnvC scope cl C X.env) fp) elt (te s H C cl fp)) (e1 : ∀ s H C cl fp, g s H C cl fp = g.at0 X) (e2 : ∀ s H C cl fp, tt s H C cl fp = tt.at0 X)
    (e3 : ∀ s H C cl fp, te s H C cl fp = te.at0 X) (hs : ∀ x, foldedSetIterable iter X.env x = pure x := by intro _; rfl) :
    PE X (.ListComp elt [⟨tg, iter, ifs, 0⟩] scope pos) (tLc wi (g.at0 X) (tt.at0 X) (te.at0 X) (own.map (·.2))) :=
  pe_lc hc hN hi ok (fun s H C cl fp => by rw [← e1 s H C cl fp]; exact hg s H C cl fp) (fun s H C cl fp => by rw [← e2 s H C cl fp]; exact ht s H C cl fp) (fun s H C cl fp => by rw [← e3 s H C cl fp]; exact he s H C cl fp) hs
theorem ps_setLcV (hc : X.calm = true) (hN : X.N.Nodup) (hy : X.N[i]? = some y) (hyl : X.env.scope.names.lookup y = some .local)
    (hsw : swapsWith (.ListComp elt [⟨tg, iter, ifs, 0⟩] scope pos) (some (.Name y py)) spos.line X.env = pure true) (hi : PI X tg iter wi) (ok : BlkOk X.N X.env.scope scope own)
    (hg : ∀ s H C cl fp, PG (X.blk s H scope (compEnvC scope cl C X.env) fp) tg (g s H C cl fp)) (ht : ∀ s H C cl fp, PTs (X.blk s H scope (compEnvC scope cl C X.env) fp) ifs (tt s H C cl fp))
    (he : ∀ s H C cl fp, PE (X.blk s H scope (compEnvC scope cl C X.env) fp) elt (te s H C cl fp)) (e1 : ∀ s H C cl fp, g s H C cl fp = g.at0 X) (e2 : ∀ s H C cl fp, tt s H C cl fp = tt.at0 X)
    (e3 : ∀ s H C cl fp, te s H C cl fp = te.at0 X) (hs : ∀ x, foldedSetIterable iter X.env x = pure x := by intro _; rfl) :
    PS X (.Assign [.Name y py] (.ListComp elt [⟨tg, iter, ifs, 0⟩] scope pos) spos) (tAsg (tLc wi (g.at0 X) (tt.at0 X) (te.at0 X) (own.map (·.2))) (gName i)) :=
  ps_setLc hc hN hy hyl hsw hi ok (fun s H C cl fp => by rw [← e1 s H C cl fp]; exact hg s H C cl fp) (fun s H C cl fp => by rw [← e2 s H C cl fp]; exact ht s H C cl fp) (fun s H C cl fp => by rw [← e3 s H C cl fp]; exact he s H C cl fp) hs
end

/-! ### errors of own classes with fields -/
section
open PySem.Spec PyProof.Rows
variable {X : Cx} {CX : CXT} {k n : Nat} {f C CE : Addr} {fd : FuncData} {ps ks : List Str} {sp : Sp} {ds : List Value} {dvs : List V} {x : Str} {p p1 p2 pos : Pos} {e : Expr} {es : List Expr} {kws : List Keyword} {ta t tk : TA} {te : TE}
/-- B.__init__(self, ..), B an own class that has it from ValueError -/
theorem pe_ceinit {pl : Sem Bool} (hg : Gl X x) (hm : X.mg x = some (.ref CE)) (rd : PySem.W.readsIn X.K CE (.type "type") = true) (ga : PySem.W.specialIn X.K (.ref CE) "__getattribute__" = some (some (.builtin "type.__getattribute__")))
    (vV : PySem.W.findCls X.K (.ref CE) (.type "type") "__init__" = some (.val (.builtin "ValueError.__init__"))) (ha : PA X (e :: es) ta) (hdb : (x == ("__debug__" : Str)) = false := by decide)
    (hc : eval (.Call (.Attribute (.Name x p1) "__init__" p2) (e :: es) [] pos) X.env = (eval (.Name x p1) X.env >>= fun ov => standAt p2.atName >>= fun _ => holding [ov] (getMethod ov "__init__" pl) >>= fun (f, first) =>
      callWith pos f first (backTo pos (starEach (e :: es) X.env)) (backToKw pos (keywordEach [] X.env))) := by rfl)
    (he : starEach (e :: es) X.env = (false, eval e X.env) :: starEach es X.env := by rfl) (hpl : (backTo pos (starEach es X.env)).any (·.1) = false := by rfl) :
    PE X (.Call (.Attribute (.Name x p1) "__init__" p2) (e :: es) [] pos) (tVeI X.K ta) := by
  refine ⟨fun pins s σ H Q I h => ?_⟩
  refine PySem.W.methodCall_KW (ld_glob I hg hm ?_ hdb) hc
  refine PySem.W.method_cls I.kIn ga (PySem.W.cls_value I.kIn rd vV (by decide +kernel) ?_)
  refine callWith_method1 (first := []) (id := "ValueError.__init__") (thn (ha.run pos pins _ σ H _ (I.tok _) h) fun us s1 z => ?_) he hpl
  obtain ⟨vs, H1, J, r1, a, C, ws, rfl, hl, T, ea, q⟩ := z
  obtain ⟨u0, ur, rfl, ra, rr⟩ : ∃ u0 ur, us = u0 :: ur ∧ RelV (.ref a) u0 ∧ Vals ws ur := by
    cases r1 with
    | cons a1 b1 => exact ⟨_, _, rfl, a1, b1⟩
  obtain rfl : u0 = Value.ref a := ra
  exact oinit_ok T J ea (by rw [← rr.length, sizeLine_eq]; omega) fun s' J' => ⟨.non, H1, J', rfl, q⟩
/-- isinstance(e, C) of the error that the suite holds, one with a dict of its own -/
def rIsEW (K : PySem.W.Frag) (cls : Value) (d : Option Addr) (a : Addr) : List V → Hp → VK → Prop := fun xs H Q => ∃ (D dd : Addr) (fs : List (Str × V)) (c : V) (cv : Value) (b : Bool), cls = .ref D ∧ d = some dd ∧ H dd = some (.xd fs) ∧ ExcC K D ∧ xs = [.ref a, c] ∧
  (∀ u, RelV c u → u = cv) ∧ PySem.W.kitOne K (.ref D) cv = some b ∧ Q (.bl b) H
theorem call_isEW {a : Addr} {oe : Obj} {cls : Value} {d : Option Addr} {pn : List (Addr × Obj)} (hz : Zc cls d oe) (hf : ∃ vs, oe.data = .fields vs) : CallR (X.suite a ((a, oe) :: pn)) (.builtin "isinstance") (rIsEW X.K cls d a) := by
  intro pins s σ H xs us Q I r h
  obtain ⟨D, dd, fs, c, cv, b, rfl, rfl, hd, Z, rfl, hcv, hk, q⟩ := h
  obtain ⟨u1, u2, rfl, r1, r2⟩ : ∃ u1 u2, us = [u1, u2] ∧ RelV (.ref a) u1 ∧ RelV c u2 := by
    cases r with
    | cons a1 b1 =>
      cases b1 with
      | cons a2 b2 =>
        cases b2
        exact ⟨_, _, rfl, a1, a2⟩
  obtain rfl : u1 = Value.ref a := r1
  obtain rfl := hcv _ r2
  obtain ⟨hget, _⟩ := I.pin (a, oe) (List.mem_append_left _ List.mem_cons_self)
  obtain ⟨vs, hv⟩ := hf
  obtain ⟨mA, hns, _⟩ := (show ObjOk X.prog X.w H s.heap dd (.xd fs) from I.hok dd _ hd)
  obtain ⟨od, ho, _⟩ := lookIn_ns hns
  have J : PySem.W.InstAt s.heap a oe D (some od) := ⟨hget, hz.1, by unfold PySem.W.notCls; rw [hv] <;> rfl, by rw [hz.2]; exact ho⟩
  obtain ⟨cd, hcd, _⟩ := PySem.W.any_some Z.hd
  exact PySem.W.kia_one (PySem.W.kitx_exc (by rw [hcd]; rfl) Z.hg Z.hk Z.hs Z.ha Z.hn Z.ht Z.hm) I.kIn J hk (fun z => nomatch z) fun tk => ⟨.bl b, H, I.kept (t' := tk) fun _ _ z => z, rfl, q⟩
/-- C(.., k = v, ..) in the body of a try -/
def tMakeKS (C : Addr) (n m : Nat) (sp : Sp) (gV : List V → List V → List V) (E : L2.St → XK) (t tk : TA) : TE := fun σ H Q => t σ H fun vs H1 => tk σ H1 fun zs H2 => vs.length = n ∧ zs.length = m ∧ ∀ x dx, H2 x = none → H2 dx = none → dx ≠ x →
  sp (gV (.ref x :: vs) zs) (upd (upd H2 dx (.own x)) x (.ins C dx [])) (fun v H3 => v = .non ∧ Q (.ref x) H3) (E σ)
theorem pe_makeKS {g : List Value → List Value → List Value} {gV : List V → List V → List V} {E : L2.St → XK} (M : Mk X.K C f) (F : FnOk X.prog X.w X.K X.mg X.base CX k f fd ps sp) (hr : Room (k + 1) X.A) (hg : Gl X x) (hm : X.mg x = some (.ref C)) (hb : KBn X.K fd ps (n + 1) ks g gV)
    (hx : ∀ σ, PassesAt CX X σ (E σ)) (ha : PA X (e :: es) t) (hkw : PK X kws tk)
    (hall : (backToKw pos (keywordEach kws X.env)).all (·.1.isSome) = true := by rfl) (hks : (backToKw pos (keywordEach kws X.env)).filterMap (·.1) = ks := by rfl) (hdb : (x == ("__debug__" : Str)) = false := by decide)
    (he : starEach (e :: es) X.env = (false, eval e X.env) :: starEach es X.env := by rfl) (hpl : ((backTo pos (starEach (e :: es) X.env)).any (·.1) || (backToKw pos (keywordEach kws X.env)).any (·.1.isNone)) = false := by rfl) :
    PE X (.Call (.Name x p) (e :: es) kws pos) (tMakeKS C n ks.length sp gV E t tk) := by
  refine ⟨fun pins s σ H Q I h => wpAny_Call_Name_kw (ld_glob I hg hm (PySem.W.callWith_KW (h₀ := X.base) I.ok.mod.kin M.kp hall (thn (ha.run pos pins s σ H _ I h) fun us s1 z => ?_) hpl he) hdb)⟩
  obtain ⟨vs, H1, I1, r, q⟩ := z
  refine thn (hkw.run pos pins s1 σ H1 _ I1 q) fun ws s2 z => ?_
  obtain ⟨zs, H2, I2, rz, l1, l2, q2⟩ := z
  refine ⟨I2.kIn, ?_⟩
  rw [hks]
  have a1 := q2 (s2.heap.objs.size + 1) s2.heap.objs.size (I2.hok.fresh (Nat.le_succ _)) (I2.hok.fresh (Nat.le_refl _)) (Nat.ne_of_lt (Nat.lt_succ_self _))
  have J := Inv.made (C := C) I2
  have r1 : Vals (V.ref (s2.heap.objs.size + 1) :: vs) (Value.ref (s2.heap.objs.size + 1) :: us) := .cons rfl r
  refine wpAny_call (make_map (f := f) I2.kIn M.makes M.init (beq_iff_eq.mp M.fn) (codeAny_mono (F.run _ X.stack _ _ ⟨Value.ref (s2.heap.objs.size + 1) :: us, ks.zip ws⟩ (g (Value.ref (s2.heap.objs.size + 1) :: us) ws) _ _ (E σ) (hr.make C us (ks.zip ws))
    (J.env0.make C us (ks.zip ws)) (hb.to _ (Value.ref (s2.heap.objs.size + 1) :: us) ws J.kIn (by rw [List.length_cons, ← r.length, l1]) (rz.length.symm.trans l2)) (hb.rel r1 rz) a1) fun o s' z => ?_))
  cases o with
  | error u => exact hx σ pins _ _ u s' J z
  | ok fl =>
    cases fl with
    | ret u =>
      obtain ⟨v, H', J3, rv, ev, q3⟩ := J.after z
      subst ev
      exact ⟨rv, V.ref (s2.heap.objs.size + 1), H', J3, rfl, q3⟩
    | next => exact z.elim
    | brk => exact z.elim
    | cont => exact z.elim
end
/-- C.__init__(self, v): the error gets its dict with one field -/
def spExc1 (C : Addr) (f : Str) : Sp := fun vs H Q _ => ∃ (a : Addr) (v : V), vs = [.ref a, v] ∧ H a = some (exo a C none) ∧ ∀ d, H d = none → d ≠ a → Q .non (upd (upd H d (exd d [(f, v)])) a (exo a C (some d)))

/-! ### errors of own classes held as values -/
section
open PySem.Spec PyProof.Rows
variable {X : Cx} {CX : CXT} {k : Nat} {f C : Addr} {fd : FuncData} {ps : List Str} {sp : Sp} {x m : Str} {p pos : Pos} {e : Expr} {es : List Expr} {ta : TA} {te : TE}
/-- C(e, ..): a new error, its __init__ keeping sp -/
def tMkV (C : Addr) (sp : Sp) (ta : TA) : TE := fun σ H Q => ta σ H fun vs H1 => vs.length ≤ 1000 ∧ ∀ a, H1 a = none → sp (.ref a :: vs) (upd H1 a (exo a C none)) (fun v H2 => v = .non ∧ Q (.ref a) H2) E0
theorem pe_mkV (T : OexC X.K C) (hi : PySem.W.findIn X.K (.ref C) "__init__" = some (some (.ref f))) (ht : PySem.W.typeIn X.K (.ref f) = some (.type "function")) (F : FnOk X.prog X.w X.K X.mg X.base CX k f fd ps sp) (hr : Room (k + 1) X.A)
    (hb : Binds X.K fd ps []) (hx : Passes CX X E0) (hg : Gl X x) (hm : X.mg x = some (.ref C)) (ha : PA X (e :: es) ta) (hdb : (x == ("__debug__" : Str)) = false := by decide)
    (he : starEach (e :: es) X.env = (false, eval e X.env) :: starEach es X.env := by rfl) (hpl : (backTo pos (starEach es X.env)).any (·.1) = false := by rfl) : PE X (.Call (.Name x p) (e :: es) [] pos) (tMkV C sp ta) := by
  obtain ⟨nm, qn, N, bs, bm, sn, sub, ab, col, dd, k0, k1, k2, k3, k5, hC, hbm⟩ := T.cls
  refine ⟨fun pins s σ H Q I h => wpAny_Call_Name_kw (ld_glob I hg hm (PySem.W.callWith_K (h₀ := X.base) I.ok.mod.kin T.kC (thn (ha.run pos pins s σ H _ I h) fun us s1 z => ?_) he hpl) hdb)⟩
  obtain ⟨vs, H1, J, rv, hz, q⟩ := z
  refine ⟨J.kIn, ?_⟩
  obtain ⟨hh, gg, dr, tk, os⟩ := s1
  generalize ea : hh.objs.size + 1 = a
  have old : hh.objs.size ≤ a := by omega
  have J2 : Inv X pins σ (upd H1 a (exo a C none)) ⟨(hh.push (PySem.W.kdv_tup us)).push (PySem.HandSPX.excO C hh.objs.size), gg, dr, tk, os⟩ := by
    subst ea
    exact J.laid (t' := tk) (fun b o eo => Heap.get?_push_of_some _ (Heap.get?_push_of_some _ eo)) old (exo_ok (t1 := hh.objs.size) (by heap_get))
  have q2 := q a (J.hok.fresh old)
  have r2 : Vals (V.ref a :: vs) (Value.ref a :: us) := .cons rfl rv
  have len : (Value.ref a :: us).length = ps.length := by
    rw [← r2.length]
    exact F.len _ _ _ _ q2
  have bd := hb ⟨(hh.push (PySem.W.kdv_tup us)).push (PySem.HandSPX.excO C hh.objs.size), gg, dr, tk, os⟩ (Value.ref a :: us) J2.kIn (by rw [List.append_nil]; exact len)
  rw [List.append_nil] at bd
  have lus : us.length ≤ sizeLine := by
    rw [← rv.length, sizeLine_eq]
    omega
  have run := F.run _ X.stack _ _ ⟨Value.ref a :: us, []⟩ _ _ _ E0 (hr.make C us []) (J2.env0.make C us []) bd r2 q2
  subst ea
  refine wpAny_call (PySem.HandSPX.call_own PySem.F.excBase_ValueError (fun Y => PySem.HandSPX.refsVE_contains Y bm hbm) (J.kIn _ _ hC) (PySem.W.looks_findIn J.kIn hi) (fun self => PySem.W.bind_fn J.kIn self ht) lus (codeAny_mono run fun o s' z => ?_))
  cases o with
  | error u => exact hx pins σ _ _ u s' J2 z
  | ok fl =>
    cases fl with
    | ret u =>
      obtain ⟨v, H', J3, ru, ev, q3⟩ := J2.after z
      subst ev
      exact ⟨ru, V.ref (hh.objs.size + 1), H', J3, rfl, q3⟩
    | next => exact z.elim
    | brk => exact z.elim
    | cont => exact z.elim
/-- C(), C without own __init__ -/
theorem pe_exc0 {bmB : List Value} {B newId initId : String} (F : ExcBaseFacts B newId initId bmB) (q : PySem.W.excIn X.K C bmB newId = true) (gC : X.mg x = some (.ref C)) (kC : PySem.W.keepIn X.K (.ref C) = true) (hg : Gl X x)
    (hdb : (x == ("__debug__" : Str)) = false := by decide) : PE X (.Call (.Name x p) [] [] pos) (fun _ H Q => ∀ a, H a = none → Q (.ref a) (upd H a (ExO (.ref C) a))) := by
  refine ⟨fun pins s σ H Q I h => wpAny_Call_Name_kw (ld_glob I hg gC (PySem.W.callWith_K0 I.kIn kC ?_) hdb)⟩
  obtain ⟨bm, N, nm, qn, bs, hdct, sn, sub, ab, col, dd, k0, k1, k2, k3, k5, mN, hC, hN, hni, T⟩ := exc_obj I.kIn q
  refine wpAny_call_exc_subT F T hC hN hni (fun h' a hm => ?_) (Nat.zero_le _)
  obtain ⟨t, ht, _, _⟩ := hm.there
  have hn := I.hok.gone hm.new
  exact ⟨.ref a, _, I.laidN hm.keeps hm.new hn (exO_ok ht ⟨rfl, rfl⟩ rfl rfl rfl (Nat.le_of_ble_eq_true rfl)), rfl, h a hn⟩
/-- e.f of such an error -/
theorem pe_vf (he : PE X e te) (hb : attributeBase e m X.env (eval e X.env) = eval e X.env := by rfl) : PE X (.Attribute e m pos) (fun σ H Q => te σ H fun y H1 => ∃ (a C d : Addr) (fs : List (Str × V)) (v : V), y = .ref a ∧ XfC X.K C ∧
    PySem.W.findIn X.K (.ref C) m = some none ∧ H1 a = some (exo a C (some d)) ∧ H1 d = some (exd d fs) ∧ fs.lookup m = some v ∧ Q v H1) := by
  refine ⟨fun pins s σ H Q I h => attr_of hb (thn (he.run pins s σ H _ I h) fun u s1 z => ?_)⟩
  obtain ⟨y, H1, J, ry, a, C, d, fs, v, rfl, T, hno, ea, ed, hl, q⟩ := z
  obtain rfl : u = Value.ref a := ry
  obtain ⟨t1, ho⟩ := exo_at J.hok ea
  obtain ⟨mA, hns, rel⟩ := exd_at J.hok ed
  obtain ⟨od, hod, lk⟩ := lookIn_ns hns
  obtain ⟨w, hw, rw'⟩ := RelO.some_of (v := v) (o := mA m) (by rw [← hl]; exact rel m)
  have Z : PySem.W.InstAt s1.heap a _ C (some od) := ⟨ho, rfl, rfl, hod⟩
  exact HandSPX.exc_get J.kIn Z T.ga T.gg T.exC (PySem.W.findObj_own T.hdC hno rfl (by rw [lk, hw])) (handed_of rw') ⟨v, H1, J.tok _, rw', q⟩
/-- isinstance(e, c) of such an error -/
def ErrAt (H : Hp) (a C : Addr) : Prop := (∃ (d : Addr) (fs : List (Str × V)), H a = some (exo a C (some d)) ∧ H d = some (exd d fs)) ∨ H a = some (ExO (.ref C) a)
theorem call_isV : CallR X (.builtin "isinstance") (fun xs H Q => ∃ (a C : Addr) (c : V) (cv : Value) (b : Bool), xs = [.ref a, c] ∧ ErrAt H a C ∧ ExcC X.K C ∧ (∀ u, RelV c u → u = cv) ∧ PySem.W.kitOne X.K (.ref C) cv = some b ∧ Q (.bl b) H) := by
  intro pins s σ H xs us Q I r h
  obtain ⟨a, C, c, cv, b, rfl, hE, Z, hcv, hk, q⟩ := h
  obtain ⟨u1, u2, rfl, r1, r2⟩ : ∃ u1 u2, us = [u1, u2] ∧ RelV (.ref a) u1 ∧ RelV c u2 := by
    cases r with
    | cons a1 b1 =>
      cases b1 with
      | cons a2 b2 =>
        cases b2
        exact ⟨_, _, rfl, a1, a2⟩
  obtain rfl : u1 = Value.ref a := r1
  obtain rfl := hcv _ r2
  obtain ⟨cd, hcd, _⟩ := PySem.W.any_some Z.hd
  have fin : ∀ {ox : Obj} {od : Option Obj}, PySem.W.InstAt s.heap a ox C od → wpAny (model X.prog X.w) X.A (call (.builtin "isinstance") [.ref a, u2]) (EP X pins σ Q) X.xe s := fun J =>
    PySem.W.kia_one (PySem.W.kitx_exc (by rw [hcd]; rfl) Z.hg Z.hk Z.hs Z.ha Z.hn Z.ht Z.hm) I.kIn J hk (fun z => nomatch z) fun tk => ⟨.bl b, H, I.kept (t' := tk) fun _ _ z => z, rfl, q⟩
  rcases hE with ⟨d, fs, ea, ed⟩ | ea
  · obtain ⟨t1, ho⟩ := exo_at I.hok ea
    obtain ⟨mA, hns, _⟩ := exd_at I.hok ed
    obtain ⟨od, hod, _⟩ := lookIn_ns hns
    exact fin (od := some od) ⟨ho, rfl, rfl, hod⟩
  · obtain ⟨⟨oe, vs, ho, hz, hd, _⟩, _, _⟩ := I.hok a _ ea
    exact fin (od := none) ⟨ho, hz.1, by unfold PySem.W.notCls; rw [hd] <;> rfl, by rw [hz.2]; trivial⟩
end

/-! ### lists side by side -/
section
variable {α β : Type} {R S : α → β → Prop} {xs us : List α} {ys vs : List β} {x : α} {y : β} {i : Nat}
def All2 (R : α → β → Prop) (xs : List α) (ys : List β) : Prop := xs.length = ys.length ∧ ∀ (i : Nat) x y, xs[i]? = some x → ys[i]? = some y → R x y
theorem All2.nil : All2 R [] [] := ⟨rfl, fun i x y h => by simp at h⟩
theorem All2.mono (h : All2 R xs ys) (k : ∀ x y, R x y → S x y) : All2 S xs ys := ⟨h.1, fun i x y a b => k _ _ (h.2 i x y a b)⟩
theorem All2.cons (h : R x y) (k : All2 R xs ys) : All2 R (x :: xs) (y :: ys) := ⟨by rw [List.length_cons, List.length_cons, k.1], fun i a b ha hb => by
  cases i with
  | zero => simp at ha hb; subst ha; subst hb; exact h
  | succ i => simp at ha hb; exact k.2 i a b ha hb⟩
theorem All2.one (h : R x y) : All2 R [x] [y] := .cons h .nil
theorem All2.app (h : All2 R xs ys) (k : All2 R us vs) : All2 R (xs ++ us) (ys ++ vs) := ⟨by rw [List.length_append, List.length_append, h.1, k.1], fun i a b ha hb => by
  by_cases hi : i < xs.length
  · rw [List.getElem?_append_left hi] at ha
    rw [List.getElem?_append_left (by rw [← h.1]; exact hi)] at hb
    exact h.2 i a b ha hb
  · rw [List.getElem?_append_right (by omega)] at ha
    rw [List.getElem?_append_right (by rw [← h.1]; omega), ← h.1] at hb
    exact k.2 _ a b ha hb⟩
theorem All2.take (h : All2 R xs ys) (n : Nat) : All2 R (xs.take n) (ys.take n) := ⟨by rw [List.length_take, List.length_take, h.1], fun i a b ha hb => by
  rw [List.getElem?_take] at ha hb
  by_cases hi : i < n
  · rw [if_pos hi] at ha hb
    exact h.2 i a b ha hb
  · rw [if_neg hi] at ha
    cases ha⟩
theorem All2.drop (h : All2 R xs ys) (n : Nat) : All2 R (xs.drop n) (ys.drop n) := ⟨by rw [List.length_drop, List.length_drop, h.1], fun i a b ha hb => by
  rw [List.getElem?_drop] at ha hb
  exact h.2 _ a b ha hb⟩
theorem All2.get (h : All2 R xs ys) (hi : xs[i]? = some x) : ∃ y, ys[i]? = some y ∧ R x y := by
  have hl : i < ys.length := by
    rw [← h.1]
    exact (List.getElem?_eq_some_iff.mp hi).1
  have e : ys[i]? = some ys[i] := List.getElem?_eq_getElem hl
  exact ⟨_, e, h.2 i _ _ hi e⟩
theorem take_more {α : Type} {ys : List α} {y : α} {i : Nat} (h : ys[i]? = some y) : ys.take (i + 1) = ys.take i ++ [y] := by
  rw [List.take_add_one, h]
  rfl
end
section
open PySem.Spec PyProof.Rows
variable {X : Cx}
/-- one operator, two ways to read it -/
theorem op_mix {f : Value → Value → Sem Value} {r1 r2 : R2} (h1 : OpR X f r1) (h2 : OpR X f r2) : OpR X f (fun x y H Q => Wd (r1 x y H Q ∨ r2 x y H Q)) := by
  intro pins s σ H x y v u Q I rx ry h
  rcases h.ok with h | h
  · exact h1 pins s σ H x y v u Q I rx ry h
  · exact h2 pins s σ H x y v u Q I rx ry h
theorem vals_same {A : Around} {s : Shared} {xs : List V} (hx : ∀ x ∈ xs, flatB x = true ∨ ∃ a, x = .ref a) : ∀ {us ws : List Value}, Vals xs us → Vals xs ws → ∀ j (h1 : j < us.length) (h2 : j < ws.length), SeqAt.EqAt A s us[j] ws[j] true := by
  induction xs with
  | nil =>
    intro us ws r1 r2 j h1 h2
    cases r1
    exact absurd h1 (Nat.not_lt_zero j)
  | cons x xs ih =>
    intro us ws r1 r2 j h1 h2
    cases r1 with
    | cons a1 b1 =>
      cases r2 with
      | cons a2 b2 =>
        cases j with
        | zero =>
          rcases hx x List.mem_cons_self with f | ⟨a, rfl⟩
          · exact eqAt_same a1 a2 f
          · cases a1
            cases a2
            exact SeqAt.EqAt.same _
        | succ j => exact ih (fun y hy => hx y (List.mem_cons_of_mem _ hy)) b1 b2 j (Nat.lt_of_succ_lt_succ h1) (Nat.lt_of_succ_lt_succ h2)
/-- a != b, two lists of the same items -/
theorem op_neL (hu : X.A.units + 64 < cLine) : OpR X (compareOp .NotEq) (fun x y H Q => Wd (∃ (a b : Addr) (xs : List V), x = .ref a ∧ y = .ref b ∧ SqL X.K H a xs ∧ SqL X.K H b xs ∧ (∀ x ∈ xs, flatB x = true ∨ ∃ a, x = .ref a) ∧ Q (.bl false) H)) := by
  intro pins s σ H x y v u Q I rx ry h
  obtain ⟨a, b, xs, rfl, rfl, ha, hb, hx, q⟩ := h.ok
  cases rx
  cases ry
  obtain ⟨us, r1, p1, _⟩ := I.list ha
  obtain ⟨ws, r2, p2, _⟩ := I.list hb
  have hsz : us.toArray.size = ws.toArray.size := by
    rw [List.size_toArray, List.size_toArray, ← r1.length, ← r2.length]
  have k := SeqAt.RcNeAt.lists (A := X.A) (e := fun _ => true) p1.isList p2.isList hsz (by omega) (fun j h1 h2 => by
    have k := vals_same (A := X.A.in1) (s := s) hx r1 r2 j (by simpa using h1) (by simpa using h2)
    simpa using k)
  refine k X.prog X.w _ _ ?_
  rw [show ((List.range us.toArray.size).all fun _ => true) = true from List.all_eq_true.mpr fun _ _ => rfl]
  exact ⟨.bl false, H, I, rfl, q⟩
/-- a != b, two tuples of the same items -/
theorem op_neT (hu : X.A.units + 64 < cLine) : OpR X (compareOp .NotEq) (fun x y H Q => Wd (∃ (a b : Addr) (xs : List V), x = .ref a ∧ y = .ref b ∧ SqT X.K H a xs ∧ SqT X.K H b xs ∧ (∀ x ∈ xs, flatB x = true ∨ ∃ a, x = .ref a) ∧ Q (.bl false) H)) := by
  intro pins s σ H x y v u Q I rx ry h
  obtain ⟨a, b, xs, rfl, rfl, ha, hb, hx, q⟩ := h.ok
  cases rx
  cases ry
  obtain ⟨us, r1, p1, _⟩ := I.tuple ha
  obtain ⟨ws, r2, p2, _⟩ := I.tuple hb
  have hsz : us.toArray.size = ws.toArray.size := by
    rw [List.size_toArray, List.size_toArray, ← r1.length, ← r2.length]
  have k := SeqAt.RcNeAt.tuples (A := X.A) (e := fun _ => true) p1 p2 (by omega) (fun j h1 h2 => by
    have k := vals_same (A := X.A.in1) (s := s) hx r1 r2 j (by simpa using h1) (by simpa using h2)
    simpa using k)
  refine k X.prog X.w _ _ ?_
  refine ⟨.bl false, H, I, ?_, q⟩
  show Value.bool _ = Value.bool false
  simp [hsz]
end

/-! ### == and != of data of any depth, texts of any signs -/
section
open PySem.Spec PyProof.Rows
variable {X : Cx}
def rEqP (K : PySem.W.Frag) : R2 := fun x y H Q => Wd (∃ d e, Dp K H x d ∧ Dp K H y e ∧ d.plain = true ∧ e.plain = true ∧ d.depth ≤ 64 ∧ Q (.bl (PyData.eqv d e)) H)
def rNeP (K : PySem.W.Frag) : R2 := fun x y H Q => Wd (∃ d e, Dp K H x d ∧ Dp K H y e ∧ d.plain = true ∧ e.plain = true ∧ d.depth ≤ 64 ∧ Q (.bl (!PyData.eqv d e)) H)
theorem op_eqP (hu : X.A.units + 64 < cLine) : OpR X (compareOp .Eq) (rEqP X.K) := by
  intro pins s σ H x y v u Q I rx ry h
  obtain ⟨d, e, hd, he, sd, se, dp, q⟩ := h.ok
  obtain ⟨as, r1⟩ := Dp.reads I d x v hd rx
  obtain ⟨bs, r2⟩ := Dp.reads I e y u he ry
  have := Nat.min_le_left d.depth e.depth
  exact SeqAt.eq_plain r1 r2 sd se (by omega) ⟨.bl _, H, I, rfl, q⟩
theorem op_neP (hu : X.A.units + 64 < cLine) : OpR X (compareOp .NotEq) (rNeP X.K) := by
  intro pins s σ H x y v u Q I rx ry h
  obtain ⟨d, e, hd, he, sd, se, dp, q⟩ := h.ok
  obtain ⟨as, r1⟩ := Dp.reads I d x v hd rx
  obtain ⟨bs, r2⟩ := Dp.reads I e y u he ry
  have := Nat.min_le_left d.depth e.depth
  exact SeqAt.ne_plain r1 r2 sd se (by omega) ⟨.bl _, H, I, rfl, q⟩
theorem eqP_same {K : PySem.W.Frag} {x y : V} {H : Hp} {Q : VK} {d : PyData} (hx : Dp K H x d) (hy : Dp K H y d) (hp : d.plain = true) (hd : d.depth ≤ 64) (h : Q (.bl true) H) : rEqP K x y H Q :=
  ⟨d, d, hx, hy, hp, hp, hd, by rw [SeqAt.eqv_refl_plain d hp]; exact h⟩
theorem neP_same {K : PySem.W.Frag} {x y : V} {H : Hp} {Q : VK} {d : PyData} (hx : Dp K H x d) (hy : Dp K H y d) (hp : d.plain = true) (hd : d.depth ≤ 64) (h : Q (.bl false) H) : rNeP K x y H Q :=
  ⟨d, d, hx, hy, hp, hp, hd, by rw [SeqAt.eqv_refl_plain d hp]; exact h⟩
end

/-! ### the law's own helpers: bag, integer, divisor, lowest -/
def spBag (K : PySem.W.Frag) : Sp := fun vs H Q _ => ∃ (a : Addr) (ns : List Int), vs = [.ref a] ∧ SqL K H a (ns.map V.int) ∧ ∀ (g l : Addr) (H' : Hp), Same H H' → H g = none → H l = none → Bag H' g l → Q (.ref g) H'
def spInteger : Sp := fun vs H Q _ => ∃ g l : Addr, vs = [.ref g] ∧ Bag H g l ∧ ∀ (n : Int) (H' : Hp), n.natAbs ≤ 10 ^ 49 → Bag H' g l → Kp g H H' → Q (.int n) H'
def spLowest : Sp := fun vs H Q _ => ∃ t b : Int, vs = [.int t, .int b] ∧ b ≠ 0 ∧ b.natAbs < 2 ^ 9000 ∧ ∀ p, H p = none → Q (.ref p) (upd H p (.tup [.int (Rat.divInt t b).num, .int ((Rat.divInt t b).den : Int)]))
theorem Bag.keep {H H' : Hp} {g l : Addr} (b : Bag H g l) (s : Same H H') : Bag H' g l := by
  obtain ⟨i, r, sd, c, ns, hg, hl, hi⟩ := b
  exact ⟨i, r, sd, c, ns, s _ _ hg, s _ _ hl, hi⟩
theorem Bag.lst {H : Hp} {g l : Addr} (b : Bag H g l) : ∃ xs, H g = some (.lst xs) := by
  obtain ⟨i, r, sd, c, ns, hg, hl, hi⟩ := b
  exact ⟨_, hg⟩
theorem Bag.ne {H : Hp} {g l p : Addr} (b : Bag H g l) (hp : H p = none) : p ≠ g ∧ p ≠ l := by
  obtain ⟨i, r, sd, c, ns, hg, hl, hi⟩ := b
  exact ⟨(ne_of_none hg hp).symm, (ne_of_none hl hp).symm⟩
/-- a bag stands where nothing of it is written -/
theorem Bag.put {H : Hp} {g l p : Addr} {o : HO} (b : Bag H g l) (n : p ≠ g ∧ p ≠ l) : Bag (upd H p o) g l := by
  obtain ⟨i, r, sd, c, ns, hg, hl, hi⟩ := b
  exact ⟨i, r, sd, c, ns, by rw [upd_ne n.1.symm]; exact hg, by rw [upd_ne n.2.symm]; exact hl, hi⟩
theorem Bag.new {H : Hp} {g l p : Addr} {o : HO} (b : Bag H g l) (hp : H p = none) : Bag (upd H p o) g l := b.keep fun c u e => by
  rw [upd_ne (ne_of_none e hp)]
  exact e
theorem Kp.new {g p : Addr} {H H' : Hp} {o : HO} (k : Kp g H H') (hp : H' p = none) : Kp g H (upd H' p o) := fun b u e n => by
  have e1 := k b u e n
  rw [upd_ne (ne_of_none e1 hp)]
  exact e1
theorem Kp.put {g p : Addr} {H H' : Hp} {o : HO} (k : Kp g H H') (hp : H p = none) : Kp g H (upd H' p o) := fun b u e n => by
  rw [upd_ne (ne_of_none e hp)]
  exact k b u e n
theorem Kp.same {g : Addr} {H H' : Hp} (s : Same H H') : Kp g H H' := fun b u e _ => s b u e
theorem Same.new {H : Hp} {p : Addr} {o : HO} (hp : H p = none) : Same H (upd H p o) := fun b u e => by
  rw [upd_ne (ne_of_none e hp)]
  exact e
theorem size_at {c : Int} (h0 : 0 ≤ c) (h6 : c < 6) (hc : c ≠ 0) : ∃ z : Int, atI [V.int 1, V.int 2, V.int 3, V.int 12, V.int 1000, V.int (10 ^ (49 : Int).toNat)] c = some (.int z) ∧ 0 < z ∧ z ≤ 10 ^ 49 := by
  have : c = 1 ∨ c = 2 ∨ c = 3 ∨ c = 4 ∨ c = 5 := by omega
  rcases this with rfl | rfl | rfl | rfl | rfl
  · exact ⟨2, rfl, by decide, by decide⟩
  · exact ⟨3, rfl, by decide, by decide⟩
  · exact ⟨12, rfl, by decide, by decide⟩
  · exact ⟨1000, rfl, by decide, by decide⟩
  · exact ⟨10 ^ 49, rfl, by decide, by decide⟩
theorem big49 : (10 : Nat) ^ 49 < 2 ^ 200 := by decide
theorem pow_mono {a b : Nat} (h : a ≤ b) : (2 : Nat) ^ a ≤ 2 ^ b := Nat.pow_le_pow_right (by decide) h
theorem lt_pow {n a b : Nat} (h : n < 2 ^ a) (hab : a ≤ b) : n < 2 ^ b := Nat.lt_of_lt_of_le h (pow_mono hab)
theorem lt200 {n : Nat} (h : n ≤ 10 ^ 49) : n < 2 ^ 200 := Nat.lt_of_le_of_lt h big49
theorem lt9000 {n : Nat} (h : n ≤ 10 ^ 49) : n < 2 ^ 9000 := lt_pow (lt200 h) (by decide)
def spLaw (K : PySem.W.Frag) : Sp := fun vs H Q _ => ∃ (a : Addr) (ns : List Int), vs = [.ref a] ∧ SqL K H a (ns.map V.int) ∧ ns.length ≤ 63 ∧ ∀ H', Q (.bl true) H'
theorem neD_same {K : PySem.W.Frag} {H : Hp} {p q : Addr} {a b : Int} {Q : VK} (hp : H p = some (.tup [.int a, .int b])) (hq : H q = some (.tup [.int a, .int b])) (h : Q (.bl false) H) : rNeD K (.ref p) (.ref q) H Q := by
  refine ⟨.tuple [.int a, .int b], .tuple [.int a, .int b], .tup (SqT.of hp) (.cons (.int a) (.cons (.int b) .nil)), .tup (SqT.of hq) (.cons (.int a) (.cons (.int b) .nil)), rfl, rfl, ?_⟩
  have e : PyData.eqv (.tuple [.int a, .int b]) (.tuple [.int a, .int b]) = true := by simp [PyData.eqv, PyData.eqvAll]
  rw [e]
  exact h
theorem or_go {K : PySem.W.Frag} {H : Hp} {σ : L2.St} {Q : VK} {n d : Int} (hd : d ≠ 0) (h : ∀ m : Int, m ≠ 0 → (m = n ∨ m = d) → Q (.int m) H) : ∃ k, TruV K (.int n) H k ∧ if k = true then Q (.int n) H else tC (.int d) σ H Q := by
  by_cases e : n = 0
  · exact ⟨false, by rw [e]; rfl, iteF (h d hd (.inr rfl))⟩
  · exact ⟨true, (show true = (n != 0) by simp [e]), iteT (h n e (.inl rfl))⟩
theorem kit_self {K : PySem.W.Frag} {C : Addr} : PySem.W.kitOne K (.ref C) (.ref C) = some true := by simp [PySem.W.kitOne]
def spNumber : Sp := fun vs H Q _ => ∃ n : Int, vs = [.int n] ∧ Q (.bl true) H
section
variable {P : Program} {w : World} {K : PySem.W.Frag} {mg : Str → Option Value} {base : Heap} {A : Ad}
theorem ok_l_bag (T : Txt K mg A) : FnOk P w K mg base CX0 1 A.l_bag A.fd_l_bag P_l_bag (spBag K) := by
  refine T.F_l_bag.ok sc_l_bag (fun vs H Q E h => ?_) (fun cdv Ar outer s H vs Q E hr h => ?_)
  · obtain ⟨a, ns, rfl, _⟩ := h
    rfl
  · obtain ⟨a, ns, rfl, hS, k⟩ := h
    refine ⟨_, (pss_one (ps_ret (pe_lst (pa_cons (pe_callTy call_list_of (by rfl) T.z_list (by decide +kernel) (pa_cons (pv 0) pa_nil)) (pa_cons pe_int (pa_cons pe_int (pa_cons pe_int (pa_cons pe_int pa_nil)))))))), ?_⟩
    refine ⟨_, rfl, a, _, rfl, .inl hS, fun l hl => ⟨by walk_at "fact", fun g hg => ?_⟩⟩
    have nlg : l ≠ g := fun z => by
      rw [z, upd_same] at hg
      cases hg
    have hg0 : H g = none := by
      rw [upd_ne nlg.symm] at hg
      exact hg
    exact k g l _ ((Same.new hl).trans (Same.new hg)) hg0 hl ⟨0, 0, 17, 0, ns, upd_same, by rw [upd_ne nlg]; exact upd_same, by decide⟩
end

theorem Same.at_new {H H' : Hp} {D : Addr} {o : HO} (hD : H D = none) (s : Same H H') : Same H (upd H' D o) := fun b u e => by
  rw [upd_ne (ne_of_none e hD)]
  exact s b u e
/-- [.. for .. in a list], its parts keep what stands -/
theorem lc_same {K : PySem.W.Frag} {a : Addr} {xs : List V} {g : TG} {tt : TT} {te : TE} {vs : List Nat} {σ : L2.St} {H1 : Hp} {D : Addr} {Qd : Hp → Prop} (f : Nat → V) (hl : H1 a = some (.lst xs)) (hz : xs.length ≤ 1000) (hD : H1 D = none)
    (hs : ∀ i x H' (N : VK) (M : Hp → Prop), xs[i]? = some x → Same H1 H' → (∀ H4, Same H' H4 → N (f i) H4) → g x (wipe σ vs) H' fun σ2 H2 => wipe σ2 vs = wipe σ vs ∧ tt σ2 H2 fun b H3 => if b = true then te σ2 H3 N else M H3)
    (hd : ∀ H', Same H1 H' → H' D = some (.lst ((List.range xs.length).map f)) → Qd H') :
    ∃ W : Nat → Nat → Hp → Prop, (∃ m, W 0 m (upd H1 D (.lst []))) ∧ ∀ i m H, W i m H →
      ((Itl K a).stop i H ∧ Qd H) ∨ ((Itl K a).go i H ∧ ∃ Nx : Hp → Prop, (∀ H', Nx H' → ∃ m', m' < m ∧ W (i + 1) m' H') ∧ ∀ x H', (Itl K a).yld i H x H' → g x (wipe σ vs) H' fun σ2 H2 => wipe σ2 vs = wipe σ vs ∧ tt σ2 H2 fun b H3 =>
        if b = true then te σ2 H3 fun y H4 => ∃ acc, H4 D = some (.lst acc) ∧ acc.length < sizeLine ∧ Nx (upd H4 D (.lst (acc ++ [y]))) else Nx H3) := by
  refine lc_list (K := K) (a := a) (xs := xs) (fun i H' => Wd (Same H1 H' ∧ H' D = some (.lst ((List.range i).map f)))) ⟨Same.new hD, upd_same⟩ (fun i H' _ h => SqL.of (h.ok.1 _ _ hl)) ?_ (fun H' h => hd H' h.ok.1 h.ok.2)
  rintro i x H' hi ⟨s, hd'⟩
  refine hs i x H' _ _ hi s fun H4 s4 => ⟨_, s4 _ _ hd', ?_, Same.at_new hD (s.trans s4), ?_⟩
  · rw [List.length_map, List.length_range]
    have := (List.getElem?_eq_some_iff.mp hi).1
    exact Nat.lt_of_lt_of_le (Nat.lt_of_lt_of_le this hz) (by decide)
  · rw [upd_same, List.range_succ, List.map_append]
    rfl
theorem Same.none {H H' : Hp} {p : Addr} (s : Same H H') (h : H' p = none) : H p = none := by
  cases e : H p with
  | none => rfl
  | some o =>
    rw [s _ _ e] at h
    cases h

/-- what stands anywhere but at the list D is kept -/
theorem kp_of_same {D : Addr} {H H' : Hp} (s : Same H H') : Kp D H H' := fun b o e _ => s b o e
/-- [.. for .. in a list], its parts keep what stands; R tells of each item that is made -/
theorem lc_sameP {K : PySem.W.Frag} {a : Addr} {xs : List V} {g : TG} {tt : TT} {te : TE} {vs : List Nat} {σ : L2.St} {H1 : Hp} {D : Addr} {Qd : Hp → Prop} (R : Nat → V → Hp → Prop) (hl : H1 a = some (.lst xs)) (hz : xs.length ≤ 1000) (hD : H1 D = none)
    (mono : ∀ i y H H' acc, H D = some (.lst acc) → Kp D H H' → R i y H → R i y H')
    (hs : ∀ i x H' (N : VK) (M : Hp → Prop), xs[i]? = some x → Same H1 H' → (∀ y H4, Same H' H4 → R i y H4 → N y H4) → g x (wipe σ vs) H' fun σ2 H2 => wipe σ2 vs = wipe σ vs ∧ tt σ2 H2 fun b H3 => if b = true then te σ2 H3 N else M H3)
    (hd : ∀ ys H', Same H1 H' → ys.length = xs.length → (∀ i y, ys[i]? = some y → R i y H') → H' D = some (.lst ys) → Qd H') :
    ∃ W : Nat → Nat → Hp → Prop, (∃ m, W 0 m (upd H1 D (.lst []))) ∧ ∀ i m H, W i m H →
      ((Itl K a).stop i H ∧ Qd H) ∨ ((Itl K a).go i H ∧ ∃ Nx : Hp → Prop, (∀ H', Nx H' → ∃ m', m' < m ∧ W (i + 1) m' H') ∧ ∀ x H', (Itl K a).yld i H x H' → g x (wipe σ vs) H' fun σ2 H2 => wipe σ2 vs = wipe σ vs ∧ tt σ2 H2 fun b H3 =>
        if b = true then te σ2 H3 fun y H4 => ∃ acc, H4 D = some (.lst acc) ∧ acc.length < sizeLine ∧ Nx (upd H4 D (.lst (acc ++ [y]))) else Nx H3) := by
  refine lc_list (K := K) (a := a) (xs := xs) (fun i H' => Wd (∃ ys : List V, Same H1 H' ∧ ys.length = i ∧ H' D = some (.lst ys) ∧ ∀ j y, ys[j]? = some y → R j y H')) ⟨[], Same.new hD, rfl, upd_same, fun j y h => by cases h⟩ (fun i H' _ h => ?_) ?_ (fun H' h => ?_)
  · obtain ⟨ys, s, _⟩ := h.ok
    exact SqL.of (s _ _ hl)
  · rintro i x H' hi ⟨ys, s, hyl, hd', hR⟩
    refine hs i x H' _ _ hi s fun y H4 s4 r4 => ⟨_, s4 _ _ hd', ?_, ys ++ [y], Same.at_new hD (s.trans s4), ?_, upd_same, fun j z hz => ?_⟩
    · rw [hyl]
      have := (List.getElem?_eq_some_iff.mp hi).1
      exact Nat.lt_of_lt_of_le (Nat.lt_of_lt_of_le this hz) (by decide)
    · rw [List.length_append, hyl]
      rfl
    · have kp : Kp D H4 (upd H4 D (.lst (ys ++ [y]))) := (Kp.refl D H4).up
      rw [List.getElem?_append] at hz
      split at hz
      · exact mono _ _ _ _ _ (s4 _ _ hd') kp (mono _ _ _ _ _ hd' (kp_of_same s4) (hR j z hz))
      · have e : j - ys.length = 0 := by
          cases e : j - ys.length with
          | zero => rfl
          | succ n => rw [e] at hz; cases hz
        rw [e] at hz
        cases hz
        have : j = i := by omega
        subst this
        exact mono _ _ _ _ _ (s4 _ _ hd') kp r4
  · obtain ⟨ys, s, hyl, hd', hR⟩ := h.ok
    exact hd ys H' s hyl hR hd'

/-! ### the __init__ of the errors -/
/-- C.__init__(self, v, ..): the error gets its dict; fs: the fields, the last one first -/
def spExcF (C : Addr) (n : Nat) (fs : List V → List (Str × V)) : Sp := fun vs H Q _ => ∃ (a : Addr) (ws : List V), vs = .ref a :: ws ∧ ws.length = n ∧ H a = some (exo a C none) ∧
  ∀ (d : Addr) (H' : Hp), H d = none → d ≠ a → (∀ b o, H b = some o → b ≠ a → H' b = some o) → H' a = some (exo a C (some d)) → H' d = some (exd d (fs ws)) → Q .non H'
section
variable {P : Program} {w : World} {K : PySem.W.Frag} {mg : Str → Option Value} {base : Heap} {A : Ad}
def fs_BadName : List V → List (Str × V)
  | [v0] => [("name", v0)]
  | _ => []
theorem ok_m_BadName_init (T : Txt K mg A) : FnOk P w K mg base CX0 3 A.m_BadName_init A.fd_m_BadName_init P_m_BadName_init (spExcF A.BadName 1 fs_BadName) := by
  refine T.F_m_BadName_init.ok sc_m_BadName_init (fun vs H Q E h => ?_) (fun cdv Ar outer s H vs Q E hr h => ?_)
  · obtain ⟨a, ws, rfl, hl, _⟩ := h
    rw [List.length_cons, hl]
    rfl
  · obtain ⟨a, ws, rfl, hl, ha, k⟩ := h
    match ws, hl with
    | [v0], _ =>
      refine ⟨_, (pss_cons (ps_expr (pe_ceinit (by rfl) T.g_CostError T.rd_CostError T.cg_CostError T.vi_CostError (pa_cons (pv 0) (pa_cons pe_str pa_nil))))
      (pss_one (ps_ost (pv 0) (pv 1)))), ?_⟩
      refine ⟨_, rfl, a, A.BadName, _, rfl, by show 1 ≤ 1000; decide, T.ox_BadName, ha, ?_⟩
      refine ⟨_, rfl, _, rfl, a, A.BadName, rfl, T.ox_BadName, T.n_BadName_name, .inl ⟨ha, fun d hd nd => ?_⟩⟩
      have ea : upd (upd H d (exd d [("name", v0)])) a (exo a A.BadName (some d)) a = some (exo a A.BadName (some d)) := upd_same
      have ed : upd (upd H d (exd d [("name", v0)])) a (exo a A.BadName (some d)) d = some (exd d [("name", v0)]) := by rw [upd_ne nd, upd_same]
      exact k d _ hd nd (fun b o e n => by rw [upd_ne n, upd_ne (ne_of_none e hd)]; exact e) ea ed
def fs_NoPrice : List V → List (Str × V)
  | [v0] => [("name", v0)]
  | _ => []
theorem ok_m_NoPrice_init (T : Txt K mg A) : FnOk P w K mg base CX0 3 A.m_NoPrice_init A.fd_m_NoPrice_init P_m_NoPrice_init (spExcF A.NoPrice 1 fs_NoPrice) := by
  refine T.F_m_NoPrice_init.ok sc_m_NoPrice_init (fun vs H Q E h => ?_) (fun cdv Ar outer s H vs Q E hr h => ?_)
  · obtain ⟨a, ws, rfl, hl, _⟩ := h
    rw [List.length_cons, hl]
    rfl
  · obtain ⟨a, ws, rfl, hl, ha, k⟩ := h
    match ws, hl with
    | [v0], _ =>
      refine ⟨_, (pss_cons (ps_expr (pe_ceinit (by rfl) T.g_CostError T.rd_CostError T.cg_CostError T.vi_CostError (pa_cons (pv 0) (pa_cons pe_str pa_nil))))
      (pss_one (ps_ost (pv 0) (pv 1)))), ?_⟩
      refine ⟨_, rfl, a, A.NoPrice, _, rfl, by show 1 ≤ 1000; decide, T.ox_NoPrice, ha, ?_⟩
      refine ⟨_, rfl, _, rfl, a, A.NoPrice, rfl, T.ox_NoPrice, T.n_NoPrice_name, .inl ⟨ha, fun d hd nd => ?_⟩⟩
      have ea : upd (upd H d (exd d [("name", v0)])) a (exo a A.NoPrice (some d)) a = some (exo a A.NoPrice (some d)) := upd_same
      have ed : upd (upd H d (exd d [("name", v0)])) a (exo a A.NoPrice (some d)) d = some (exd d [("name", v0)]) := by rw [upd_ne nd, upd_same]
      exact k d _ hd nd (fun b o e n => by rw [upd_ne n, upd_ne (ne_of_none e hd)]; exact e) ea ed
def fs_Negative : List V → List (Str × V)
  | [v0] => [("name", v0)]
  | _ => []
theorem ok_m_Negative_init (T : Txt K mg A) : FnOk P w K mg base CX0 3 A.m_Negative_init A.fd_m_Negative_init P_m_Negative_init (spExcF A.Negative 1 fs_Negative) := by
  refine T.F_m_Negative_init.ok sc_m_Negative_init (fun vs H Q E h => ?_) (fun cdv Ar outer s H vs Q E hr h => ?_)
  · obtain ⟨a, ws, rfl, hl, _⟩ := h
    rw [List.length_cons, hl]
    rfl
  · obtain ⟨a, ws, rfl, hl, ha, k⟩ := h
    match ws, hl with
    | [v0], _ =>
      refine ⟨_, (pss_cons (ps_expr (pe_ceinit (by rfl) T.g_CostError T.rd_CostError T.cg_CostError T.vi_CostError (pa_cons (pv 0) (pa_cons pe_str pa_nil))))
      (pss_one (ps_ost (pv 0) (pv 1)))), ?_⟩
      refine ⟨_, rfl, a, A.Negative, _, rfl, by show 1 ≤ 1000; decide, T.ox_Negative, ha, ?_⟩
      refine ⟨_, rfl, _, rfl, a, A.Negative, rfl, T.ox_Negative, T.n_Negative_name, .inl ⟨ha, fun d hd nd => ?_⟩⟩
      have ea : upd (upd H d (exd d [("name", v0)])) a (exo a A.Negative (some d)) a = some (exo a A.Negative (some d)) := upd_same
      have ed : upd (upd H d (exd d [("name", v0)])) a (exo a A.Negative (some d)) d = some (exd d [("name", v0)]) := by rw [upd_ne nd, upd_same]
      exact k d _ hd nd (fun b o e n => by rw [upd_ne n, upd_ne (ne_of_none e hd)]; exact e) ea ed
def fs_BadEntry : List V → List (Str × V)
  | [v0, v1] => [("number", v1), ("day", v0)]
  | _ => []
theorem ok_m_BadEntry_init (T : Txt K mg A) : FnOk P w K mg base CX0 3 A.m_BadEntry_init A.fd_m_BadEntry_init P_m_BadEntry_init (spExcF A.BadEntry 2 fs_BadEntry) := by
  refine T.F_m_BadEntry_init.ok sc_m_BadEntry_init (fun vs H Q E h => ?_) (fun cdv Ar outer s H vs Q E hr h => ?_)
  · obtain ⟨a, ws, rfl, hl, _⟩ := h
    rw [List.length_cons, hl]
    rfl
  · obtain ⟨a, ws, rfl, hl, ha, k⟩ := h
    match ws, hl with
    | [v0, v1], _ =>
      refine ⟨_, (pss_cons (ps_expr (pe_ceinit (by rfl) T.g_CostError T.rd_CostError T.cg_CostError T.vi_CostError (pa_cons (pv 0) (pa_cons pe_str pa_nil))))
      (pss_cons (ps_ost (pv 0) (pv 1))
      (pss_one (ps_ost (pv 0) (pv 2))))), ?_⟩
      refine ⟨_, rfl, a, A.BadEntry, _, rfl, by show 1 ≤ 1000; decide, T.ox_BadEntry, ha, ?_⟩
      refine ⟨_, rfl, _, rfl, a, A.BadEntry, rfl, T.ox_BadEntry, T.n_BadEntry_day, .inl ⟨ha, fun d hd nd => ?_⟩⟩
      have ea : upd (upd H d (exd d [("day", v0)])) a (exo a A.BadEntry (some d)) a = some (exo a A.BadEntry (some d)) := upd_same
      have ed : upd (upd H d (exd d [("day", v0)])) a (exo a A.BadEntry (some d)) d = some (exd d [("day", v0)]) := by rw [upd_ne nd, upd_same]
      refine ⟨_, rfl, _, rfl, a, A.BadEntry, rfl, T.ox_BadEntry, T.n_BadEntry_number, .inr ⟨d, _, ea, ed, by show 1 ≤ 900; decide, ?_⟩⟩
      exact k d _ hd nd (fun b o e n => by rw [upd_ne (ne_of_none e hd), upd_ne n, upd_ne (ne_of_none e hd)]; exact e) (by rw [upd_ne nd.symm]; exact ea) upd_same
def fs_NoEntry : List V → List (Str × V)
  | [v0, v1] => [("number", v1), ("day", v0)]
  | _ => []
theorem ok_m_NoEntry_init (T : Txt K mg A) : FnOk P w K mg base CX0 3 A.m_NoEntry_init A.fd_m_NoEntry_init P_m_NoEntry_init (spExcF A.NoEntry 2 fs_NoEntry) := by
  refine T.F_m_NoEntry_init.ok sc_m_NoEntry_init (fun vs H Q E h => ?_) (fun cdv Ar outer s H vs Q E hr h => ?_)
  · obtain ⟨a, ws, rfl, hl, _⟩ := h
    rw [List.length_cons, hl]
    rfl
  · obtain ⟨a, ws, rfl, hl, ha, k⟩ := h
    match ws, hl with
    | [v0, v1], _ =>
      refine ⟨_, (pss_cons (ps_expr (pe_ceinit (by rfl) T.g_CostError T.rd_CostError T.cg_CostError T.vi_CostError (pa_cons (pv 0) (pa_cons pe_str pa_nil))))
      (pss_cons (ps_ost (pv 0) (pv 1))
      (pss_one (ps_ost (pv 0) (pv 2))))), ?_⟩
      refine ⟨_, rfl, a, A.NoEntry, _, rfl, by show 1 ≤ 1000; decide, T.ox_NoEntry, ha, ?_⟩
      refine ⟨_, rfl, _, rfl, a, A.NoEntry, rfl, T.ox_NoEntry, T.n_NoEntry_day, .inl ⟨ha, fun d hd nd => ?_⟩⟩
      have ea : upd (upd H d (exd d [("day", v0)])) a (exo a A.NoEntry (some d)) a = some (exo a A.NoEntry (some d)) := upd_same
      have ed : upd (upd H d (exd d [("day", v0)])) a (exo a A.NoEntry (some d)) d = some (exd d [("day", v0)]) := by rw [upd_ne nd, upd_same]
      refine ⟨_, rfl, _, rfl, a, A.NoEntry, rfl, T.ox_NoEntry, T.n_NoEntry_number, .inr ⟨d, _, ea, ed, by show 1 ≤ 900; decide, ?_⟩⟩
      exact k d _ hd nd (fun b o e n => by rw [upd_ne (ne_of_none e hd), upd_ne n, upd_ne (ne_of_none e hd)]; exact e) (by rw [upd_ne nd.symm]; exact ea) upd_same
def fs_BadRule : List V → List (Str × V)
  | [v0] => [("word", v0)]
  | _ => []
theorem ok_m_BadRule_init (T : Txt K mg A) : FnOk P w K mg base CX0 3 A.m_BadRule_init A.fd_m_BadRule_init P_m_BadRule_init (spExcF A.BadRule 1 fs_BadRule) := by
  refine T.F_m_BadRule_init.ok sc_m_BadRule_init (fun vs H Q E h => ?_) (fun cdv Ar outer s H vs Q E hr h => ?_)
  · obtain ⟨a, ws, rfl, hl, _⟩ := h
    rw [List.length_cons, hl]
    rfl
  · obtain ⟨a, ws, rfl, hl, ha, k⟩ := h
    match ws, hl with
    | [v0], _ =>
      refine ⟨_, (pss_cons (ps_expr (pe_ceinit (by rfl) T.g_CostError T.rd_CostError T.cg_CostError T.vi_CostError (pa_cons (pv 0) (pa_cons pe_str pa_nil))))
      (pss_one (ps_ost (pv 0) (pv 1)))), ?_⟩
      refine ⟨_, rfl, a, A.BadRule, _, rfl, by show 1 ≤ 1000; decide, T.ox_BadRule, ha, ?_⟩
      refine ⟨_, rfl, _, rfl, a, A.BadRule, rfl, T.ox_BadRule, T.n_BadRule_word, .inl ⟨ha, fun d hd nd => ?_⟩⟩
      have ea : upd (upd H d (exd d [("word", v0)])) a (exo a A.BadRule (some d)) a = some (exo a A.BadRule (some d)) := upd_same
      have ed : upd (upd H d (exd d [("word", v0)])) a (exo a A.BadRule (some d)) d = some (exd d [("word", v0)]) := by rw [upd_ne nd, upd_same]
      exact k d _ hd nd (fun b o e n => by rw [upd_ne n, upd_ne (ne_of_none e hd)]; exact e) ea ed
def fs_Short : List V → List (Str × V)
  | [v0] => [("missing", v0)]
  | _ => []
theorem ok_m_Short_init (T : Txt K mg A) : FnOk P w K mg base CX0 3 A.m_Short_init A.fd_m_Short_init P_m_Short_init (spExcF A.Short 1 fs_Short) := by
  refine T.F_m_Short_init.ok sc_m_Short_init (fun vs H Q E h => ?_) (fun cdv Ar outer s H vs Q E hr h => ?_)
  · obtain ⟨a, ws, rfl, hl, _⟩ := h
    rw [List.length_cons, hl]
    rfl
  · obtain ⟨a, ws, rfl, hl, ha, k⟩ := h
    match ws, hl with
    | [v0], _ =>
      refine ⟨_, (pss_cons (ps_expr (pe_ceinit (by rfl) T.g_CostError T.rd_CostError T.cg_CostError T.vi_CostError (pa_cons (pv 0) (pa_cons pe_str pa_nil))))
      (pss_one (ps_ost (pv 0) (pv 1)))), ?_⟩
      refine ⟨_, rfl, a, A.Short, _, rfl, by show 1 ≤ 1000; decide, T.ox_Short, ha, ?_⟩
      refine ⟨_, rfl, _, rfl, a, A.Short, rfl, T.ox_Short, T.n_Short_missing, .inl ⟨ha, fun d hd nd => ?_⟩⟩
      have ea : upd (upd H d (exd d [("missing", v0)])) a (exo a A.Short (some d)) a = some (exo a A.Short (some d)) := upd_same
      have ed : upd (upd H d (exd d [("missing", v0)])) a (exo a A.Short (some d)) d = some (exd d [("missing", v0)]) := by rw [upd_ne nd, upd_same]
      exact k d _ hd nd (fun b o e n => by rw [upd_ne n, upd_ne (ne_of_none e hd)]; exact e) ea ed
def fs_NameTaken : List V → List (Str × V)
  | [v0] => [("name", v0)]
  | _ => []
theorem ok_m_NameTaken_init (T : Txt K mg A) : FnOk P w K mg base CX0 3 A.m_NameTaken_init A.fd_m_NameTaken_init P_m_NameTaken_init (spExcF A.NameTaken 1 fs_NameTaken) := by
  refine T.F_m_NameTaken_init.ok sc_m_NameTaken_init (fun vs H Q E h => ?_) (fun cdv Ar outer s H vs Q E hr h => ?_)
  · obtain ⟨a, ws, rfl, hl, _⟩ := h
    rw [List.length_cons, hl]
    rfl
  · obtain ⟨a, ws, rfl, hl, ha, k⟩ := h
    match ws, hl with
    | [v0], _ =>
      refine ⟨_, (pss_cons (ps_expr (pe_ceinit (by rfl) T.g_CostError T.rd_CostError T.cg_CostError T.vi_CostError (pa_cons (pv 0) (pa_cons pe_str pa_nil))))
      (pss_one (ps_ost (pv 0) (pv 1)))), ?_⟩
      refine ⟨_, rfl, a, A.NameTaken, _, rfl, by show 1 ≤ 1000; decide, T.ox_NameTaken, ha, ?_⟩
      refine ⟨_, rfl, _, rfl, a, A.NameTaken, rfl, T.ox_NameTaken, T.n_NameTaken_name, .inl ⟨ha, fun d hd nd => ?_⟩⟩
      have ea : upd (upd H d (exd d [("name", v0)])) a (exo a A.NameTaken (some d)) a = some (exo a A.NameTaken (some d)) := upd_same
      have ed : upd (upd H d (exd d [("name", v0)])) a (exo a A.NameTaken (some d)) d = some (exd d [("name", v0)]) := by rw [upd_ne nd, upd_same]
      exact k d _ hd nd (fun b o e n => by rw [upd_ne n, upd_ne (ne_of_none e hd)]; exact e) ea ed
def fs_UnknownName : List V → List (Str × V)
  | [v0] => [("name", v0)]
  | _ => []
theorem ok_m_UnknownName_init (T : Txt K mg A) : FnOk P w K mg base CX0 3 A.m_UnknownName_init A.fd_m_UnknownName_init P_m_UnknownName_init (spExcF A.UnknownName 1 fs_UnknownName) := by
  refine T.F_m_UnknownName_init.ok sc_m_UnknownName_init (fun vs H Q E h => ?_) (fun cdv Ar outer s H vs Q E hr h => ?_)
  · obtain ⟨a, ws, rfl, hl, _⟩ := h
    rw [List.length_cons, hl]
    rfl
  · obtain ⟨a, ws, rfl, hl, ha, k⟩ := h
    match ws, hl with
    | [v0], _ =>
      refine ⟨_, (pss_cons (ps_expr (pe_ceinit (by rfl) T.g_CostError T.rd_CostError T.cg_CostError T.vi_CostError (pa_cons (pv 0) (pa_cons pe_str pa_nil))))
      (pss_one (ps_ost (pv 0) (pv 1)))), ?_⟩
      refine ⟨_, rfl, a, A.UnknownName, _, rfl, by show 1 ≤ 1000; decide, T.ox_UnknownName, ha, ?_⟩
      refine ⟨_, rfl, _, rfl, a, A.UnknownName, rfl, T.ox_UnknownName, T.n_UnknownName_name, .inl ⟨ha, fun d hd nd => ?_⟩⟩
      have ea : upd (upd H d (exd d [("name", v0)])) a (exo a A.UnknownName (some d)) a = some (exo a A.UnknownName (some d)) := upd_same
      have ed : upd (upd H d (exd d [("name", v0)])) a (exo a A.UnknownName (some d)) d = some (exd d [("name", v0)]) := by rw [upd_ne nd, upd_same]
      exact k d _ hd nd (fun b o e n => by rw [upd_ne n, upd_ne (ne_of_none e hd)]; exact e) ea ed
def fs_NotEnough : List V → List (Str × V)
  | [v0, v1, v2] => [("missing", v2), ("number", v1), ("day", v0)]
  | _ => []
theorem ok_m_NotEnough_init (T : Txt K mg A) : FnOk P w K mg base CX0 3 A.m_NotEnough_init A.fd_m_NotEnough_init P_m_NotEnough_init (spExcF A.NotEnough 3 fs_NotEnough) := by
  refine T.F_m_NotEnough_init.ok sc_m_NotEnough_init (fun vs H Q E h => ?_) (fun cdv Ar outer s H vs Q E hr h => ?_)
  · obtain ⟨a, ws, rfl, hl, _⟩ := h
    rw [List.length_cons, hl]
    rfl
  · obtain ⟨a, ws, rfl, hl, ha, k⟩ := h
    match ws, hl with
    | [v0, v1, v2], _ =>
      refine ⟨_, (pss_cons (ps_expr (pe_ceinit (by rfl) T.g_CostError T.rd_CostError T.cg_CostError T.vi_CostError (pa_cons (pv 0) (pa_cons pe_str pa_nil))))
      (pss_cons (ps_ost (pv 0) (pv 1))
      (pss_cons (ps_ost (pv 0) (pv 2))
      (pss_one (ps_ost (pv 0) (pv 3)))))), ?_⟩
      refine ⟨_, rfl, a, A.NotEnough, _, rfl, by show 1 ≤ 1000; decide, T.ox_NotEnough, ha, ?_⟩
      refine ⟨_, rfl, _, rfl, a, A.NotEnough, rfl, T.ox_NotEnough, T.n_NotEnough_day, .inl ⟨ha, fun d hd nd => ?_⟩⟩
      have ea : upd (upd H d (exd d [("day", v0)])) a (exo a A.NotEnough (some d)) a = some (exo a A.NotEnough (some d)) := upd_same
      have ed : upd (upd H d (exd d [("day", v0)])) a (exo a A.NotEnough (some d)) d = some (exd d [("day", v0)]) := by rw [upd_ne nd, upd_same]
      refine ⟨_, rfl, _, rfl, a, A.NotEnough, rfl, T.ox_NotEnough, T.n_NotEnough_number, .inr ⟨d, _, ea, ed, by show 1 ≤ 900; decide, ?_⟩⟩
      refine ⟨_, rfl, _, rfl, a, A.NotEnough, rfl, T.ox_NotEnough, T.n_NotEnough_missing, .inr ⟨d, _, (by rw [upd_ne nd.symm]; exact ea), upd_same, by show 2 ≤ 900; decide, ?_⟩⟩
      rw [upd_upd]
      exact k d _ hd nd (fun b o e n => by rw [upd_ne (ne_of_none e hd), upd_ne n, upd_ne (ne_of_none e hd)]; exact e) (by rw [upd_ne nd.symm]; exact ea) upd_same
def fs_TooMany : List V → List (Str × V)
  | [v0, v1, v2] => [("left", v2), ("number", v1), ("day", v0)]
  | _ => []
theorem ok_m_TooMany_init (T : Txt K mg A) : FnOk P w K mg base CX0 3 A.m_TooMany_init A.fd_m_TooMany_init P_m_TooMany_init (spExcF A.TooMany 3 fs_TooMany) := by
  refine T.F_m_TooMany_init.ok sc_m_TooMany_init (fun vs H Q E h => ?_) (fun cdv Ar outer s H vs Q E hr h => ?_)
  · obtain ⟨a, ws, rfl, hl, _⟩ := h
    rw [List.length_cons, hl]
    rfl
  · obtain ⟨a, ws, rfl, hl, ha, k⟩ := h
    match ws, hl with
    | [v0, v1, v2], _ =>
      refine ⟨_, (pss_cons (ps_expr (pe_ceinit (by rfl) T.g_CostError T.rd_CostError T.cg_CostError T.vi_CostError (pa_cons (pv 0) (pa_cons pe_str pa_nil))))
      (pss_cons (ps_ost (pv 0) (pv 1))
      (pss_cons (ps_ost (pv 0) (pv 2))
      (pss_one (ps_ost (pv 0) (pv 3)))))), ?_⟩
      refine ⟨_, rfl, a, A.TooMany, _, rfl, by show 1 ≤ 1000; decide, T.ox_TooMany, ha, ?_⟩
      refine ⟨_, rfl, _, rfl, a, A.TooMany, rfl, T.ox_TooMany, T.n_TooMany_day, .inl ⟨ha, fun d hd nd => ?_⟩⟩
      have ea : upd (upd H d (exd d [("day", v0)])) a (exo a A.TooMany (some d)) a = some (exo a A.TooMany (some d)) := upd_same
      have ed : upd (upd H d (exd d [("day", v0)])) a (exo a A.TooMany (some d)) d = some (exd d [("day", v0)]) := by rw [upd_ne nd, upd_same]
      refine ⟨_, rfl, _, rfl, a, A.TooMany, rfl, T.ox_TooMany, T.n_TooMany_number, .inr ⟨d, _, ea, ed, by show 1 ≤ 900; decide, ?_⟩⟩
      refine ⟨_, rfl, _, rfl, a, A.TooMany, rfl, T.ox_TooMany, T.n_TooMany_left, .inr ⟨d, _, (by rw [upd_ne nd.symm]; exact ea), upd_same, by show 2 ≤ 900; decide, ?_⟩⟩
      rw [upd_upd]
      exact k d _ hd nd (fun b o e n => by rw [upd_ne (ne_of_none e hd), upd_ne n, upd_ne (ne_of_none e hd)]; exact e) (by rw [upd_ne nd.symm]; exact ea) upd_same
def fs_Contradiction : List V → List (Str × V)
  | [v0] => [("pair", v0)]
  | _ => []
theorem ok_m_Contradiction_init (T : Txt K mg A) : FnOk P w K mg base CX0 3 A.m_Contradiction_init A.fd_m_Contradiction_init P_m_Contradiction_init (spExcF A.Contradiction 1 fs_Contradiction) := by
  refine T.F_m_Contradiction_init.ok sc_m_Contradiction_init (fun vs H Q E h => ?_) (fun cdv Ar outer s H vs Q E hr h => ?_)
  · obtain ⟨a, ws, rfl, hl, _⟩ := h
    rw [List.length_cons, hl]
    rfl
  · obtain ⟨a, ws, rfl, hl, ha, k⟩ := h
    match ws, hl with
    | [v0], _ =>
      refine ⟨_, (pss_cons (ps_expr (pe_ceinit (by rfl) T.g_CostError T.rd_CostError T.cg_CostError T.vi_CostError (pa_cons (pv 0) (pa_cons pe_str pa_nil))))
      (pss_one (ps_ost (pv 0) (pv 1)))), ?_⟩
      refine ⟨_, rfl, a, A.Contradiction, _, rfl, by show 1 ≤ 1000; decide, T.ox_Contradiction, ha, ?_⟩
      refine ⟨_, rfl, _, rfl, a, A.Contradiction, rfl, T.ox_Contradiction, T.n_Contradiction_pair, .inl ⟨ha, fun d hd nd => ?_⟩⟩
      have ea : upd (upd H d (exd d [("pair", v0)])) a (exo a A.Contradiction (some d)) a = some (exo a A.Contradiction (some d)) := upd_same
      have ed : upd (upd H d (exd d [("pair", v0)])) a (exo a A.Contradiction (some d)) d = some (exd d [("pair", v0)]) := by rw [upd_ne nd, upd_same]
      exact k d _ hd nd (fun b o e n => by rw [upd_ne n, upd_ne (ne_of_none e hd)]; exact e) ea ed
def fs_NotPlain : List V → List (Str × V)
  | [v0, v1] => [("number", v1), ("day", v0)]
  | _ => []
theorem ok_m_NotPlain_init (T : Txt K mg A) : FnOk P w K mg base CX0 3 A.m_NotPlain_init A.fd_m_NotPlain_init P_m_NotPlain_init (spExcF A.NotPlain 2 fs_NotPlain) := by
  refine T.F_m_NotPlain_init.ok sc_m_NotPlain_init (fun vs H Q E h => ?_) (fun cdv Ar outer s H vs Q E hr h => ?_)
  · obtain ⟨a, ws, rfl, hl, _⟩ := h
    rw [List.length_cons, hl]
    rfl
  · obtain ⟨a, ws, rfl, hl, ha, k⟩ := h
    match ws, hl with
    | [v0, v1], _ =>
      refine ⟨_, (pss_cons (ps_expr (pe_ceinit (by rfl) T.g_CostError T.rd_CostError T.cg_CostError T.vi_CostError (pa_cons (pv 0) (pa_cons pe_str pa_nil))))
      (pss_cons (ps_ost (pv 0) (pv 1))
      (pss_one (ps_ost (pv 0) (pv 2))))), ?_⟩
      refine ⟨_, rfl, a, A.NotPlain, _, rfl, by show 1 ≤ 1000; decide, T.ox_NotPlain, ha, ?_⟩
      refine ⟨_, rfl, _, rfl, a, A.NotPlain, rfl, T.ox_NotPlain, T.n_NotPlain_day, .inl ⟨ha, fun d hd nd => ?_⟩⟩
      have ea : upd (upd H d (exd d [("day", v0)])) a (exo a A.NotPlain (some d)) a = some (exo a A.NotPlain (some d)) := upd_same
      have ed : upd (upd H d (exd d [("day", v0)])) a (exo a A.NotPlain (some d)) d = some (exd d [("day", v0)]) := by rw [upd_ne nd, upd_same]
      refine ⟨_, rfl, _, rfl, a, A.NotPlain, rfl, T.ox_NotPlain, T.n_NotPlain_number, .inr ⟨d, _, ea, ed, by show 1 ≤ 900; decide, ?_⟩⟩
      exact k d _ hd nd (fun b o e n => by rw [upd_ne (ne_of_none e hd), upd_ne n, upd_ne (ne_of_none e hd)]; exact e) (by rw [upd_ne nd.symm]; exact ea) upd_same
def fs_Shut : List V → List (Str × V)
  | [v0] => [("day", v0)]
  | _ => []
theorem ok_m_Shut_init (T : Txt K mg A) : FnOk P w K mg base CX0 3 A.m_Shut_init A.fd_m_Shut_init P_m_Shut_init (spExcF A.Shut 1 fs_Shut) := by
  refine T.F_m_Shut_init.ok sc_m_Shut_init (fun vs H Q E h => ?_) (fun cdv Ar outer s H vs Q E hr h => ?_)
  · obtain ⟨a, ws, rfl, hl, _⟩ := h
    rw [List.length_cons, hl]
    rfl
  · obtain ⟨a, ws, rfl, hl, ha, k⟩ := h
    match ws, hl with
    | [v0], _ =>
      refine ⟨_, (pss_cons (ps_expr (pe_ceinit (by rfl) T.g_CostError T.rd_CostError T.cg_CostError T.vi_CostError (pa_cons (pv 0) (pa_cons pe_str pa_nil))))
      (pss_one (ps_ost (pv 0) (pv 1)))), ?_⟩
      refine ⟨_, rfl, a, A.Shut, _, rfl, by show 1 ≤ 1000; decide, T.ox_Shut, ha, ?_⟩
      refine ⟨_, rfl, _, rfl, a, A.Shut, rfl, T.ox_Shut, T.n_Shut_day, .inl ⟨ha, fun d hd nd => ?_⟩⟩
      have ea : upd (upd H d (exd d [("day", v0)])) a (exo a A.Shut (some d)) a = some (exo a A.Shut (some d)) := upd_same
      have ed : upd (upd H d (exd d [("day", v0)])) a (exo a A.Shut (some d)) d = some (exd d [("day", v0)]) := by rw [upd_ne nd, upd_same]
      exact k d _ hd nd (fun b o e n => by rw [upd_ne n, upd_ne (ne_of_none e hd)]; exact e) ea ed
def fs_NotClosed : List V → List (Str × V)
  | [v0] => [("day", v0)]
  | _ => []
theorem ok_m_NotClosed_init (T : Txt K mg A) : FnOk P w K mg base CX0 3 A.m_NotClosed_init A.fd_m_NotClosed_init P_m_NotClosed_init (spExcF A.NotClosed 1 fs_NotClosed) := by
  refine T.F_m_NotClosed_init.ok sc_m_NotClosed_init (fun vs H Q E h => ?_) (fun cdv Ar outer s H vs Q E hr h => ?_)
  · obtain ⟨a, ws, rfl, hl, _⟩ := h
    rw [List.length_cons, hl]
    rfl
  · obtain ⟨a, ws, rfl, hl, ha, k⟩ := h
    match ws, hl with
    | [v0], _ =>
      refine ⟨_, (pss_cons (ps_expr (pe_ceinit (by rfl) T.g_CostError T.rd_CostError T.cg_CostError T.vi_CostError (pa_cons (pv 0) (pa_cons pe_str pa_nil))))
      (pss_one (ps_ost (pv 0) (pv 1)))), ?_⟩
      refine ⟨_, rfl, a, A.NotClosed, _, rfl, by show 1 ≤ 1000; decide, T.ox_NotClosed, ha, ?_⟩
      refine ⟨_, rfl, _, rfl, a, A.NotClosed, rfl, T.ox_NotClosed, T.n_NotClosed_day, .inl ⟨ha, fun d hd nd => ?_⟩⟩
      have ea : upd (upd H d (exd d [("day", v0)])) a (exo a A.NotClosed (some d)) a = some (exo a A.NotClosed (some d)) := upd_same
      have ed : upd (upd H d (exd d [("day", v0)])) a (exo a A.NotClosed (some d)) d = some (exd d [("day", v0)]) := by rw [upd_ne nd, upd_same]
      exact k d _ hd nd (fun b o e n => by rw [upd_ne n, upd_ne (ne_of_none e hd)]; exact e) ea ed
def fs_Unfit : List V → List (Str × V)
  | [v0] => [("factors", v0)]
  | _ => []
theorem ok_m_Unfit_init (T : Txt K mg A) : FnOk P w K mg base CX0 3 A.m_Unfit_init A.fd_m_Unfit_init P_m_Unfit_init (spExcF A.Unfit 1 fs_Unfit) := by
  refine T.F_m_Unfit_init.ok sc_m_Unfit_init (fun vs H Q E h => ?_) (fun cdv Ar outer s H vs Q E hr h => ?_)
  · obtain ⟨a, ws, rfl, hl, _⟩ := h
    rw [List.length_cons, hl]
    rfl
  · obtain ⟨a, ws, rfl, hl, ha, k⟩ := h
    match ws, hl with
    | [v0], _ =>
      refine ⟨_, (pss_cons (ps_expr (pe_ceinit (by rfl) T.g_CostError T.rd_CostError T.cg_CostError T.vi_CostError (pa_cons (pv 0) (pa_cons pe_str pa_nil))))
      (pss_one (ps_ost (pv 0) (pv 1)))), ?_⟩
      refine ⟨_, rfl, a, A.Unfit, _, rfl, by show 1 ≤ 1000; decide, T.ox_Unfit, ha, ?_⟩
      refine ⟨_, rfl, _, rfl, a, A.Unfit, rfl, T.ox_Unfit, T.n_Unfit_factors, .inl ⟨ha, fun d hd nd => ?_⟩⟩
      have ea : upd (upd H d (exd d [("factors", v0)])) a (exo a A.Unfit (some d)) a = some (exo a A.Unfit (some d)) := upd_same
      have ed : upd (upd H d (exd d [("factors", v0)])) a (exo a A.Unfit (some d)) d = some (exd d [("factors", v0)]) := by rw [upd_ne nd, upd_same]
      exact k d _ hd nd (fun b o e n => by rw [upd_ne n, upd_ne (ne_of_none e hd)]; exact e) ea ed
end

/-! ### names that the law draws -/
section
open PySem.Spec PyProof.Rows
variable {X : Cx}
/-- a text times 0 or 1 -/
theorem op_mul01 : OpR X (binaryOp .Mult) (fun x y H Q => ∃ (z : Str) (n : Int), x = .str z ∧ y = .int n ∧ (n = 0 ∨ n = 1) ∧ Q (.str (if n = 0 then Str.empty else z)) H) := by
  intro pins s σ H x y v u Q I rx ry h
  obtain ⟨z, n, rfl, rfl, hn, q⟩ := h
  obtain ⟨t, rfl⟩ := rx
  obtain ⟨t', rfl⟩ := ry
  rcases hn with rfl | rfl
  · exact PySem.P.mul_str_none (by decide) (by decide) ⟨.str Str.empty, H, I.tok _, ⟨_, rfl⟩, q⟩
  · refine PySem.P.mul_str (by decide) (fun _ h => absurd h (by simp)) (fun _ h => absurd h (by simp)) ?_
    show (Made.val (.str z t)).post _ s
    exact ⟨.str z, H, I, ⟨_, rfl⟩, q⟩
end
/-- a name: a few small letters -/
def NmOk (n : List Nat) : Prop := 1 ≤ n.length ∧ n.length ≤ 13 ∧ ∀ c ∈ n, 97 ≤ c ∧ c < 123
def vS (l : List Nat) : V := .str (SX.S l)
/-- the k-th name -/
def nmAt (st : List Nat) (wh : Nat) (sh lo : Int) (k : Nat) : List Nat := st.take wh ++ [97 + ((sh + 7 * (k : Int)) % 26).toNat] ++ st.drop wh ++ (if (k : Int) % 3 = lo then [97 + sh.toNat] else [])
theorem nm_len {st : List Nat} {wh : Nat} {sh lo : Int} {k : Nat} : (nmAt st wh sh lo k).length = st.length + 1 + (if (k : Int) % 3 = lo then 1 else 0) := by
  unfold nmAt
  rw [List.length_append, List.length_append, List.length_append, List.length_take, List.length_drop, List.length_singleton]
  split
  · rw [List.length_singleton]
    omega
  · rw [List.length_nil]
    omega
theorem nm_at {st : List Nat} {wh : Nat} {sh lo : Int} {k : Nat} (hw : wh ≤ st.length) : (nmAt st wh sh lo k)[wh]? = some (97 + ((sh + 7 * (k : Int)) % 26).toNat) := by
  have h1 : (st.take wh).length = wh := by
    rw [List.length_take]
    omega
  unfold nmAt
  rw [List.append_assoc, List.append_assoc, List.getElem?_append_right (by omega), h1, Nat.sub_self]
  rfl
theorem nm_inj {st : List Nat} {wh : Nat} {sh lo : Int} {k j : Nat} (hw : wh ≤ st.length) (hk : k < 26) (hj : j < 26) (e : nmAt st wh sh lo k = nmAt st wh sh lo j) : k = j := by
  have h := nm_at (sh := sh) (lo := lo) (k := k) hw
  rw [e, nm_at hw] at h
  have h := Option.some.inj h
  omega
theorem nm_ok {st : List Nat} {wh : Nat} {sh lo : Int} {k : Nat} (hs : st.length ≤ 10) (hc : ∀ c ∈ st, 97 ≤ c ∧ c < 123) (h0 : 0 ≤ sh) (h1 : sh < 26) : NmOk (nmAt st wh sh lo k) := by
  refine ⟨by rw [nm_len]; omega, by rw [nm_len]; split <;> omega, fun c hm => ?_⟩
  unfold nmAt at hm
  simp only [List.mem_append, List.mem_singleton] at hm
  rcases hm with ((hm | hm) | hm) | hm
  · exact hc c (List.mem_of_mem_take hm)
  · omega
  · exact hc c (List.mem_of_mem_drop hm)
  · split at hm
    · rw [List.mem_singleton] at hm
      omega
    · cases hm
def lettersZ : Str := "abcdefghijklmnopqrstuvwxyz"
theorem letter_at {c : Int} (h0 : 0 ≤ c) (h1 : c < 26) : atI lettersZ.cps.toList c = some (97 + c.toNat) := by
  have : ∀ n : Fin 26, atI lettersZ.cps.toList ((n.val : Nat) : Int) = some (97 + n.val) := by decide +kernel
  have h := this ⟨c.toNat, by omega⟩
  rw [show ((c.toNat : Nat) : Int) = c by omega] at h
  exact h
def spNames : Sp := fun vs H Q _ => ∃ (g l q : Addr) (cnt : Int) (ws : List (List Nat)), vs = [.ref g, .int cnt, .ref q] ∧ Bag H g l ∧ q ≠ g ∧ 1 ≤ cnt ∧ cnt ≤ 26 ∧ H q = some (.lst (ws.map vS)) ∧ 1 ≤ ws.length ∧ ws.length ≤ 1000 ∧ (∀ w ∈ ws, w.length ≤ 1000) ∧
  ∀ (p : Addr) (ns : List (List Nat)) (H' : Hp), H p = none → H' p = some (.lst (ns.map vS)) → ns.length = cnt.toNat → ns.Nodup → (∀ n ∈ ns, NmOk n ∨ n ∈ ws) → Bag H' g l → Kp g H H' → Q (.ref p) H'
theorem len_at {c : Int} (h0 : 0 ≤ c) (h5 : c < 5) : ∃ z : Int, atI [V.int 0, .int 1, .int 2, .int 3, .int 10] c = some (.int z) ∧ 0 ≤ z ∧ z ≤ 10 := by
  have : c = 0 ∨ c = 1 ∨ c = 2 ∨ c = 3 ∨ c = 4 := by omega
  rcases this with rfl | rfl | rfl | rfl | rfl
  · exact ⟨0, rfl, by decide, by decide⟩
  · exact ⟨1, rfl, by decide, by decide⟩
  · exact ⟨2, rfl, by decide, by decide⟩
  · exact ⟨3, rfl, by decide, by decide⟩
  · exact ⟨10, rfl, by decide, by decide⟩
theorem kp_none {g p : Addr} {H H' : Hp} (k : Kp g H H') (h : H' p = none) (n : p ≠ g) : H p = none := by
  cases e : H p with
  | none => rfl
  | some o =>
    rw [k _ _ e n] at h
    cases h
theorem joinL_chars : ∀ cs : List Nat, TL.joinL [] (cs.map fun c => [c]) = cs
  | [] => rfl
  | [c] => rfl
  | c :: d :: cs => by
    have ih := joinL_chars (d :: cs)
    show [c] ++ ([] ++ TL.joinL [] ((d :: cs).map fun c => [c])) = _
    rw [ih]
    rfl
theorem join_chars (cs : List Nat) : Txt.join (Str.ofString "") (cs.map fun c => SX.S [c]) = SX.S cs := by
  have h := SX.join_S [] (cs.map fun c => [c])
  rw [List.map_map, joinL_chars] at h
  exact h
theorem cut_to {st : List Nat} {wh : Int} (h0 : 0 ≤ wh) (h1 : wh.toNat ≤ st.length) : cutS (SX.S st) none (some wh) = SX.S (st.take wh.toNat) := by
  have e : HT.sIx (SX.S st).length (SX.S st).length (some wh) = wh.toNat := by
    show (if wh < 0 then _ else min wh.toNat _) = _
    rw [if_neg (by omega), SX.S_len]
    omega
  unfold cutS
  rw [HT.sIx_none, e, Nat.sub_zero, List.drop_zero]
theorem cut_from {st : List Nat} {wh : Int} (h0 : 0 ≤ wh) (h1 : wh.toNat ≤ st.length) : cutS (SX.S st) (some wh) none = SX.S (st.drop wh.toNat) := by
  have e : HT.sIx (SX.S st).length 0 (some wh) = wh.toNat := by
    show (if wh < 0 then _ else min wh.toNat _) = _
    rw [if_neg (by omega), SX.S_len]
    omega
  unfold cutS
  rw [HT.sIx_none, e, SX.S_len, List.take_of_length_le (by rw [List.length_drop]; exact Nat.le_refl _)]
theorem nodup_set {α : Type} {l : List α} {j : Nat} {x : α} (h : l.Nodup) (hx : x ∉ l) : (l.set j x).Nodup := by
  unfold List.Nodup at *
  rw [List.pairwise_iff_getElem] at *
  intro a b ha hb hab
  rw [List.length_set] at ha hb
  rw [List.getElem_set, List.getElem_set]
  split
  · rw [if_neg (by omega)]
    exact fun e => hx (e ▸ List.getElem_mem _)
  · split
    · exact fun e => hx (e ▸ List.getElem_mem _)
    · exact h a b ha hb hab
theorem ixN_in {n : Nat} {i : Int} (h0 : 0 ≤ i) (h1 : i < (n : Int)) : ixN n i = some i.toNat := by
  unfold ixN
  rw [if_pos h0, if_pos h1]
theorem mem_set_of {α : Type} {l : List α} {j : Nat} {x y : α} (h : y ∈ l.set j x) : y = x ∨ y ∈ l := by
  rcases List.mem_or_eq_of_mem_set h with h | h
  · exact .inr h
  · exact .inl h
theorem inV_names {ns : List (List Nat)} {x : List Nat} : inV (vS x) (ns.map vS) = decide (x ∈ ns) := by
  unfold inV
  rw [List.any_map, Bool.eq_iff_iff, List.any_eq_true, decide_eq_true_iff]
  constructor
  · rintro ⟨y, hy, e⟩
    have e2 : (SX.S y == SX.S x) = true := e
    rw [SX.S_beq, beq_iff_eq] at e2
    exact e2 ▸ hy
  · intro h
    refine ⟨x, h, ?_⟩
    show (SX.S x == SX.S x) = true
    rw [SX.S_beq, beq_iff_eq]
theorem flat_names (ns : List (List Nat)) : (ns.map vS).all flatV = true := by
  rw [List.all_map, List.all_eq_true]
  intro x _
  rfl
/-- what the names are, once they stand -/
def NmsOk (ns ws : List (List Nat)) (cnt : Int) : Prop := ns.length = cnt.toNat ∧ ns.Nodup ∧ ∀ n ∈ ns, NmOk n ∨ n ∈ ws
theorem nms_set {ns ws : List (List Nat)} {cnt : Int} {j : Nat} {x : List Nat} (h : NmsOk ns ws cnt) (hx : x ∉ ns) (ok : NmOk x ∨ x ∈ ws) : NmsOk (ns.set j x) ws cnt :=
  ⟨by rw [List.length_set]; exact h.1, nodup_set h.2.1 hx, fun n hn => by
    rcases mem_set_of hn with rfl | hn
    · exact ok
    · exact h.2.2 n hn⟩
theorem nms_range {st : List Nat} {wh : Nat} {sh lo cnt : Int} {ws : List (List Nat)} (hw : wh ≤ st.length) (hs : st.length ≤ 10) (hc : ∀ c ∈ st, 97 ≤ c ∧ c < 123) (h0 : 0 ≤ sh) (h1 : sh < 26) (hcn : cnt ≤ 26) :
    NmsOk ((List.range cnt.toNat).map fun k => nmAt st wh sh lo k) ws cnt := by
  refine ⟨by rw [List.length_map, List.length_range], ?_, fun n hn => ?_⟩
  · unfold List.Nodup
    rw [List.pairwise_map]
    refine List.Pairwise.imp_of_mem ?_ List.nodup_range
    intro a b ha hb hab e
    rw [List.mem_range] at ha hb
    exact hab (nm_inj hw (by omega) (by omega) e)
  · obtain ⟨k, _, rfl⟩ := List.mem_map.mp hn
    exact .inl (nm_ok hs hc h0 h1)
section
variable {P : Program} {w : World} {K : PySem.W.Frag} {mg : Str → Option Value} {base : Heap} {A : Ad}
theorem ok_l_names (T : Txt K mg A) : FnOk P w K mg base CX0 2 A.l_names A.fd_l_names P_l_names spNames := by
  refine T.F_l_names.ok sc_l_names (fun vs H Q E h => ?_) (fun cdv Ar outer s H vs Q E hr h => ?_)
  · obtain ⟨g, l, q, cnt, ws, rfl, _⟩ := h
    rfl
  · obtain ⟨g, l, q, cnt, ws, rfl, hB, nqg, hc1, hc26, hq, hw1, hw2, hw3, k⟩ := h
    refine ⟨_, (pss_cons (ps_set (i := 3) sc_l_names.nd rfl (Or.inr rfl) pe_str)
      (pss_cons (ps_set (i := 4) sc_l_names.nd rfl (Or.inl rfl) (pe_ix ix_list (pe_lst (pa_cons pe_int (pa_cons pe_int (pa_cons pe_int (pa_cons pe_int (pa_cons pe_int pa_nil)))))) (pe_call (ok_l_draw T) (hr.mono (by decide)) (by rfl) T.g__law_draw T.F_l_draw.kp T.b_l_draw .nil pass0 (pa_cons (pv 0) (pa_cons pe_int pa_nil))) (fun _ _ => rfl)))
      (pss_cons (ps_set (i := 5) sc_l_names.nd rfl (Or.inl rfl) (pe_join pe_str (pe_g (pe_lcV (own := [("_law_k", 10)]) rfl sc_l_names.nd (pi_range1 rfl T.z_range (pa_cons (pv 4) pa_nil)) (blkOk_by (own := [("_law_k", 10)]) (N := N_l_names) (sc := defScope s_l_names) (by decide +kernel)) (fun _ _ _ _ _ => (pg_name (i := 10) sc_l_names.nd rfl (Or.inl rfl))) (fun _ _ _ _ _ => pts_nil) (fun _ _ _ _ _ => (pe_ix ix_str (pv 3) (pe_call (ok_l_draw T) (hr.mono (by decide)) (by rfl) T.g__law_draw T.F_l_draw.kp T.b_l_draw .nil pass0 (pa_cons (pv 0) (pa_cons pe_int pa_nil))) (fun _ _ => rfl))) (fun _ _ _ _ _ => rfl) (fun _ _ _ _ _ => rfl) (fun _ _ _ _ _ => rfl)))))
      (pss_cons (ps_set (i := 6) sc_l_names.nd rfl (Or.inl rfl) (pe_call (ok_l_draw T) (hr.mono (by decide)) (by rfl) T.g__law_draw T.F_l_draw.kp T.b_l_draw .nil pass0 (pa_cons (pv 0) (pa_cons (pe_op op_add (pv 4) pe_int) pa_nil))))
      (pss_cons (ps_set (i := 7) sc_l_names.nd rfl (Or.inl rfl) (pe_call (ok_l_draw T) (hr.mono (by decide)) (by rfl) T.g__law_draw T.F_l_draw.kp T.b_l_draw .nil pass0 (pa_cons (pv 0) (pa_cons pe_int pa_nil))))
      (pss_cons (ps_set (i := 8) sc_l_names.nd rfl (Or.inl rfl) (pe_call (ok_l_draw T) (hr.mono (by decide)) (by rfl) T.g__law_draw T.F_l_draw.kp T.b_l_draw .nil pass0 (pa_cons (pv 0) (pa_cons pe_int pa_nil))))
      (pss_cons (ps_set (i := 9) sc_l_names.nd rfl (Or.inl rfl) (pe_lst pa_nil))
      (pss_cons (ps_g (ps_for PassesOwn.never rfl (pi_range1 rfl T.z_range (pa_cons (pv 1) pa_nil)) (pg_name (i := 10) sc_l_names.nd rfl (Or.inl rfl)) (pss_cons (ps_set (i := 11) sc_l_names.nd rfl (Or.inl rfl) (pe_op op_add_str (pe_op op_add_str (pe_slice sl_str (pv 5) po_none (po_some (pv 6))) (pe_ix ix_str (pv 3) (pe_op op_mod (pe_callTy call_int1 (by rfl) T.z_int (by decide +kernel) (pa_cons (pe_op op_add (pv 7) (pe_op op_mul pe_int (pv 10))) pa_nil)) pe_int) (fun _ _ => rfl))) (pe_slice sl_str (pv 5) (po_some (pv 6)) po_none)))
      (pss_one (ps_expr (pe_bm PySem.F.plainAttrs_list PySem.F.slot_list_append PySem.F.type_list_append mt_append (pv 9) (pa_cons (pe_op op_add_str (pv 11) (pe_op op_mul01 (pe_ix ix_str (pv 3) (pv 7) (fun _ _ => rfl)) (pe_callTy call_int1 (by rfl) T.z_int (by decide +kernel) (pa_cons (pe_cmpR op_eq (pe_op op_mod (pe_callTy call_int1 (by rfl) T.z_int (by decide +kernel) (pa_cons (pv 10) pa_nil)) pe_int) (pv 8) (nomark _)) pa_nil)))) pa_nil)))))))
      (pss_g (Evl.pss_cut (ps_if (PW.pt (pw_and (pt_cmpR op_gt (pv 1) pe_int (nomark _)) (pw_and (pt_cmpR op_lt (pv 4) pe_int (nomark _)) (pw_and1 (pt_cmpR op_eq (pv 8) pe_int (nomark _)))))) (pss_one (ps_asg (pe_op op_add_str (pe_ix ix_list (pv 9) pe_int (fun _ _ => rfl)) (pe_ix ix_str (pv 3) (pe_call (ok_l_draw T) (hr.mono (by decide)) (by rfl) T.g__law_draw T.F_l_draw.kp T.b_l_draw .nil pass0 (pa_cons (pv 0) (pa_cons pe_int pa_nil))) (fun _ _ => rfl))) (pg_sub (pv 9) pe_int set_list))) pss_nil)
      (pss_cons (ps_set (i := 12) sc_l_names.nd rfl (Or.inl rfl) (pe_call (ok_l_draw T) (hr.mono (by decide)) (by rfl) T.g__law_draw T.F_l_draw.kp T.b_l_draw .nil pass0 (pa_cons (pv 0) (pa_cons (pe_op op_mul pe_int (pv 1)) pa_nil))))
      (pss_cons (ps_set (i := 13) sc_l_names.nd rfl (Or.inl rfl) (pe_ix ix_list (pv 2) (pe_call (ok_l_draw T) (hr.mono (by decide)) (by rfl) T.g__law_draw T.F_l_draw.kp T.b_l_draw .nil pass0 (pa_cons (pv 0) (pa_cons (pe_callB call_len_seq (by rfl) T.z_len (by decide +kernel) (pa_cons (pv 2) pa_nil)) pa_nil))) (fun _ _ => rfl)))
      (pss_g (Evl.pss_cut (ps_if (PW.pt (pw_and (pt_cmpR op_lt (pv 12) (pv 1) (nomark _)) (pw_and1 (pt_cmpR op_notIn_seq (pv 13) (pv 9) (by rfl))))) (pss_one (ps_asg (pv 13) (pg_sub (pv 9) (pv 12) set_list))) pss_nil)
      (pss_one (ps_ret (pv 9))))))))))))))))), ?_⟩
    walk_at "go"
    intro p1 hp1
    have B1 := hB.new (o := .lst [V.int 0, .int 1, .int 2, .int 3, .int 10]) hp1
    have nq1 := ne_of_none hq hp1
    have hq1 := Same.new (o := .lst [V.int 0, .int 1, .int 2, .int 3, .int 10]) hp1 _ _ hq
    walk_at "go"
    intro c0 H2 c00 c01 B2 K2
    obtain ⟨sz, hsz, hsz0, hsz1⟩ := len_at c00 c01
    have hl2 := K2 _ _ upd_same (hB.ne hp1).1
    have hq2 := K2 _ _ hq1 nqg
    have K02 : Kp g H H2 := (Kp.same (Same.new hp1)).trans K2
    refine ⟨p1, _, _, _, rfl, rfl, SqL.of hl2, hsz, ?_⟩
    refine ⟨⟨_, rfl⟩, ?_⟩
    refine ⟨⟨_, rfl, _, rfl, by omega, by omega, fun D hD => ?_⟩⟩
    have nD := (B2.ne hD).1
    have hD0 : H D = none := kp_none K02 hD nD
    refine lc_range (fun i H' => Wd (∃ cs : List Nat, cs.length = i ∧ (∀ c ∈ cs, 97 ≤ c ∧ c < 123) ∧ H' D = some (.lst (cs.map fun c => vS [c])) ∧ Bag H' g l ∧ Kp g H H')) ⟨[], rfl, fun c h => (by cases h), upd_same, B2.new hD, K02.new hD⟩ ?_ ?_
    · rintro i H3 hi ⟨cs, hcl, hcs, hD3, B3, K3⟩
      refine ⟨rfl, ⟨_, rfl, _, rfl, g, l, _, rfl, B3, by decide, by decide, fun n H4 n0 n1 B4 K4 => ?_⟩⟩
      refine ⟨_, _, _, rfl, rfl, (by decide : lettersZ.length ≤ sizeLine), letter_at n0 n1, _, K4 _ _ hD3 nD, ?_, ?_⟩
      · rw [List.length_map, hcl]
        exact Nat.lt_of_lt_of_le (by omega : i < 100) (by decide)
      · refine ⟨cs ++ [97 + n.toNat], by rw [List.length_append, hcl]; rfl, fun c hm => ?_, ?_, B4.put (B2.ne hD), (K3.trans K4).put hD0⟩
        · rcases List.mem_append.mp hm with hm | hm
          · exact hcs c hm
          · rw [List.mem_singleton] at hm
            omega
        · rw [upd_same, List.map_append]
          rfl
    · rintro H3 ⟨st, hsl, hst, hD3, B3, K3⟩
      have hq3 := K3 _ _ hq nqg
      refine ⟨_, D, st.map fun c => SX.S [c], rfl, rfl, .inl (SqL.of (by rw [List.map_map]; exact hD3)), ?_, ?_⟩
      · have e : ∀ cs : List Nat, ((cs.map fun c => SX.S [c]).map (·.length)).sum = cs.length := fun cs => by
          induction cs with
          | nil => rfl
          | cons c cs ih =>
            rw [List.map_cons, List.map_cons, List.sum_cons, ih, List.length_cons, Nat.add_comm]
            rfl
        rw [e, List.length_map, hsl]
        show sz.toNat + sz.toNat * 0 ≤ _
        omega
      · rw [join_chars]
        have hz9 : (sz + 1).natAbs < 2 ^ 9000 := lt_pow (a := 10) (by omega) (by decide)
        walk_at "go"
        intro wh H4 wh0 wh1 B4 K4
        walk_at "go"
        intro sh H5 sh0 sh1 B5 K5
        walk_at "go"
        intro lo H6 lo0 lo1 B6 K6
        walk_at "go"
        intro f hf
        have K36 := K4.trans (K5.trans K6)
        have K6' := K3.trans K36
        have nf := B6.ne hf
        have hf0 : H f = none := kp_none K6' hf nf.1
        have hq6 := K6' _ _ hq nqg
        have hwl : wh.toNat ≤ st.length := by omega
        have c1 : cutS (SX.S st) none (some wh) = SX.S (st.take wh.toNat) := cut_to wh0 hwl
        have c2 : cutS (SX.S st) (some wh) none = SX.S (st.drop wh.toNat) := cut_from wh0 hwl
        have sl : ∀ l : List Nat, l.length ≤ 1000 → (SX.S l).length ≤ sizeLine := fun l h => by
          rw [SX.S_len]
          exact Nat.le_trans h (by decide)
        refine ⟨⟨_, rfl, _, rfl, by omega, by omega, for_range (lo := 0) (n := cnt.toNat) (fun i σ' H' => Wd (∃ o10 o11 : Option V, σ' = [some (.ref g), some (.int cnt), some (.ref q), some (.str lettersZ), some (.int sz), some (vS st), some (.int wh), some (.int sh), some (.int lo), some (.ref f), o10, o11, none, none] ∧
          H' = upd H6 f (.lst ((List.range i).map fun k => vS (nmAt st wh.toNat sh lo k))))) ⟨none, none, rfl, rfl⟩ ?_ ?_⟩⟩
        · rintro i σ' H7 hi ⟨o10, o11, rfl, rfl⟩
          refine ⟨_, rfl, _, rfl, wh, rfl, _, rfl, sl st (by omega), ?_⟩
          rw [c1]
          have hi26 : (i : Int) < 26 := by omega
          refine ⟨_, rfl, _, rfl, _, rfl, _, _, rfl, rfl, .inl ⟨by decide, by decide⟩, _, _, rfl, rfl, .inl ⟨_, rfl, _, _, rfl, rfl, (show (0 : Int) < 26 by decide), _, _, _, rfl, rfl, (by decide : lettersZ.length ≤ sizeLine), letter_at (Int.emod_nonneg _ (by decide)) (Int.emod_lt_of_pos _ (by decide)), ?_⟩⟩
          have e1 : SX.S (st.take wh.toNat) ++ (⟨#[97 + ((sh + 7 * (0 + (i : Int))) % 26).toNat]⟩ : Str) = SX.S (st.take wh.toNat ++ [97 + ((sh + 7 * (i : Int)) % 26).toNat]) := by
            rw [Int.zero_add]
            exact SX.S_cat _ _
          have l1 : (st.take wh.toNat).length ≤ 10 := by
            rw [List.length_take]
            omega
          have l2 : (st.drop wh.toNat).length ≤ 10 := by
            rw [List.length_drop]
            omega
          refine ⟨_, _, rfl, rfl, ?_, ?_⟩
          · rw [SX.S_len]
            exact Nat.le_trans (by show _ + 1 ≤ 1000; omega) (by decide : 1000 ≤ sizeLine)
          rw [e1]
          refine ⟨_, rfl, _, rfl, wh, rfl, _, rfl, sl st (by omega), ?_⟩
          rw [c2]
          refine ⟨_, _, rfl, rfl, ?_, ?_⟩
          · rw [SX.S_len, SX.S_len, List.length_append]
            exact Nat.le_trans (by rw [List.length_singleton]; omega) (by decide : 1000 ≤ sizeLine)
          rw [SX.S_cat]
          refine ⟨_, rfl, .inl ⟨rfl, _, SqL.of upd_same⟩, _, rfl, _, rfl, _, rfl, _, _, _, rfl, rfl, (by decide : lettersZ.length ≤ sizeLine), letter_at sh0 sh1, ?_⟩
          refine ⟨_, rfl, .inl ⟨_, rfl, _, _, rfl, rfl, (show (0 : Int) < 3 by decide), _, rfl, rfl, .inr ⟨_, rfl, ?_⟩⟩⟩
          refine ⟨_, _, rfl, rfl, ?_, ?_⟩
          · split
            · exact .inr rfl
            · exact .inl rfl
          have e2 : SX.S (st.take wh.toNat ++ [97 + ((sh + 7 * (i : Int)) % 26).toNat] ++ st.drop wh.toNat) ++ (if (if (decide (V.int ((0 + (i : Int)) % 3) = V.int lo)) = true then (1 : Int) else 0) = 0 then Str.empty else (⟨#[97 + sh.toNat]⟩ : Str)) = SX.S (nmAt st wh.toNat sh lo i) := by
            unfold nmAt
            rw [Int.zero_add]
            by_cases e : (i : Int) % 3 = lo
            · rw [if_pos (decide_eq_true (congrArg V.int e)), if_neg (by decide), if_pos e]
              exact SX.S_cat _ _
            · rw [if_neg (fun z => e (V.int.inj (of_decide_eq_true z))), if_pos rfl, if_neg e]
              exact SX.S_cat _ []
          refine ⟨_, _, rfl, rfl, ?_, ?_⟩
          · rw [SX.S_len, List.length_append, List.length_append, List.length_singleton]
            refine Nat.le_trans (Nat.add_le_add_left (m := 1) ?_ _) (Nat.le_trans (by omega : _ ≤ 1000) (by decide : 1000 ≤ sizeLine))
            split
            · rw [if_neg (by decide)]
              exact Nat.le_refl 1
            · rw [if_pos rfl]
              exact Nat.zero_le 1
          rw [e2]
          refine ⟨f, _, _, rfl, rfl, upd_same, ?_, _, _, rfl, ?_⟩
          · rw [List.length_map, List.length_range]
            exact Nat.lt_of_lt_of_le (by omega : i < 1000) (by decide)
          · rw [upd_upd, List.range_succ, List.map_append]
            rfl
        · rintro σ' H7 ⟨o10, o11, rfl, rfl⟩
          have hnm := nms_range (st := st) (wh := wh.toNat) (sh := sh) (lo := lo) (cnt := cnt) (ws := ws) hwl (by omega) hst sh0 sh1 hc26
          have nfq : f ≠ q := fun e => by rw [e, hq6] at hf; cases hf
          refine ⟨⟨fun σ' H' => Wd (∃ (ns : List (List Nat)), σ' = [some (.ref g), some (.int cnt), some (.ref q), some (.str lettersZ), some (.int sz), some (vS st), some (.int wh), some (.int sh), some (.int lo), some (.ref f), o10, o11, none, none] ∧
            H' f = some (.lst (ns.map vS)) ∧ NmsOk ns ws cnt ∧ Bag H' g l ∧ Kp g H H'), ?_, ?_⟩⟩
          · have B7 := B6.new (o := .lst ((List.range cnt.toNat).map fun k => vS (nmAt st wh.toNat sh lo k))) hf
            have K7 : Kp g H (upd H6 f (.lst ((List.range cnt.toNat).map fun k => vS (nmAt st wh.toNat sh lo k)))) := K6'.put hf0
            have stay : Wd (∃ (ns : List (List Nat)), [some (.ref g), some (.int cnt), some (.ref q), some (.str lettersZ), some (.int sz), some (vS st), some (.int wh), some (.int sh), some (.int lo), some (.ref f), o10, o11, none, none] = [some (.ref g), some (.int cnt), some (.ref q), some (.str lettersZ), some (.int sz), some (vS st), some (.int wh), some (.int sh), some (.int lo), some (.ref f), o10, o11, none, none] ∧
              (upd H6 f (.lst ((List.range cnt.toNat).map fun k => vS (nmAt st wh.toNat sh lo k)))) f = some (.lst (ns.map vS)) ∧ NmsOk ns ws cnt ∧ Bag (upd H6 f (.lst ((List.range cnt.toNat).map fun k => vS (nmAt st wh.toNat sh lo k)))) g l ∧ Kp g H (upd H6 f (.lst ((List.range cnt.toNat).map fun k => vS (nmAt st wh.toNat sh lo k))))) :=
              ⟨_, rfl, by rw [upd_same, List.map_map]; rfl, hnm, B7, K7⟩
            walk_at "go"
            refine if_dec (fun e1 => ?_) (fun _ => stay)
            walk_at "go"
            refine if_dec (fun e2 => ?_) (fun _ => stay)
            walk_at "go"
            refine if_int (fun e3 => ?_) (fun _ => stay)
            subst e3
            obtain ⟨m, hm⟩ : ∃ m, cnt.toNat = m + 2 := ⟨cnt.toNat - 2, by omega⟩
            refine ⟨_, rfl, f, _, _, vS (nmAt st wh.toNat sh 3 0), rfl, rfl, SqL.of upd_same, ?_, _, rfl, _, rfl, g, l, _, rfl, B7, by decide, by decide, fun n H8 n0 n1 B8 K8 => ?_⟩
            · refine atI_nat (j := 0) ?_
              rw [List.getElem?_map, List.getElem?_range (by omega)]
              rfl
            have hf8 := K8 _ _ upd_same nf.1
            refine ⟨_, _, _, rfl, rfl, (by decide : lettersZ.length ≤ sizeLine), letter_at n0 n1, _, _, rfl, rfl, ?_, ?_⟩
            · show (SX.S _).length + 1 ≤ _
              rw [SX.S_len, nm_len]
              refine Nat.le_trans ?_ (by decide : 1000 ≤ sizeLine)
              split <;> omega
            have e4 : SX.S (nmAt st wh.toNat sh 3 0) ++ (⟨#[97 + n.toNat]⟩ : Str) = SX.S (nmAt st wh.toNat sh 3 0 ++ [97 + n.toNat]) := SX.S_cat _ _
            have n3 : ∀ k : Nat, ((k : Int) % 3 = 3) = False := fun k => by
              rw [eq_iff_iff]
              exact ⟨fun h => by omega, fun h => h.elim⟩
            have le : ∀ k, (nmAt st wh.toNat sh 3 k).length = st.length + 1 := fun k => by
              rw [nm_len, if_neg (by rw [n3]; exact fun h => h)]
            refine ⟨_, rfl, f, _, _, 1, rfl, rfl, hf8, ?_, ?_⟩
            · rw [List.length_map, List.length_range, hm]
              exact ixN_in (by decide) (by show (1 : Int) < ((m + 2 : Nat) : Int); omega)
            · refine ⟨((List.range cnt.toNat).map fun k => nmAt st wh.toNat sh 3 k).set 1 (nmAt st wh.toNat sh 3 0 ++ [97 + n.toNat]), rfl, ?_, nms_set hnm ?_ (.inl ?_), B8.put nf, (K7.trans K8).put hf0⟩
              · rw [upd_same, List.map_set, List.map_map]
                show some (HO.lst (List.set _ 1 (V.str (SX.S (nmAt st wh.toNat sh 3 0) ++ (⟨#[97 + n.toNat]⟩ : Str))))) = _
                rw [e4]
                rfl
              · intro hm
                obtain ⟨k, _, e⟩ := List.mem_map.mp hm
                have e5 := congrArg List.length e
                rw [List.length_append, le, le, List.length_singleton] at e5
                omega
              · have ok := nm_ok (st := st) (wh := wh.toNat) (sh := sh) (lo := 3) (k := 0) (by omega) hst sh0 sh1
                refine ⟨by rw [List.length_append, le]; omega, by rw [List.length_append, le, List.length_singleton]; omega, fun c hc => ?_⟩
                rcases List.mem_append.mp hc with hc | hc
                · exact ok.2.2 c hc
                · rw [List.mem_singleton] at hc
                  omega
          · rintro σ' H8 ⟨ns, rfl, hf8, hnm8, B8, K8⟩
            have hc9 : (4 * cnt).natAbs < 2 ^ 9000 := lt_pow (a := 10) (by omega) (by decide)
            walk_at "go"
            intro sp H9 sp0 sp1 B9 K9
            have hq9 := (K8.trans K9) _ _ hq nqg
            have hf9 := K9 _ _ hf8 nf.1
            have hw9 : ((ws.map vS).length : Int).natAbs < 2 ^ 9000 := lt_pow (a := 10) (by rw [List.length_map]; omega) (by decide)
            refine ⟨_, rfl, _, rfl, _, rfl, q, _, rfl, .inl (SqL.of hq9), g, l, _, rfl, B9, ?_, hw9, fun wi H10 wi0 wi1 B10 K10 => ?_⟩
            · rw [List.length_map]
              omega
            rw [List.length_map] at wi1
            obtain ⟨j, rfl⟩ := Int.eq_ofNat_of_zero_le wi0
            have hj : j < ws.length := by omega
            have hwj : (ws.map vS)[j]? = some (vS ws[j]) := by rw [List.getElem?_map, List.getElem?_eq_getElem hj]; rfl
            have hq10 := K10 _ _ hq9 nqg
            have hf10 := K10 _ _ hf9 nf.1
            have K10' := (K8.trans K9).trans K10
            refine ⟨q, _, _, _, rfl, rfl, SqL.of hq10, atI_nat hwj, ?_⟩
            refine ⟨⟨fun σ' H' => Wd (∃ (ns : List (List Nat)) (o : List (Option V)), σ' = [some (.ref g), some (.int cnt), some (.ref q), some (.str lettersZ), some (.int sz), some (vS st), some (.int wh), some (.int sh), some (.int lo), some (.ref f)] ++ o ∧
              H' f = some (.lst (ns.map vS)) ∧ NmsOk ns ws cnt ∧ Bag H' g l ∧ Kp g H H'), ?_, ?_⟩⟩
            · walk_at "go"
              refine if_dec (fun e1 => ?_) (fun _ => ⟨ns, [_, _, _, _], rfl, hf10, hnm8, B10, K10'⟩)
              refine ⟨_, rfl, _, rfl, f, _, rfl, .inl (SqL.of hf10), rfl, flat_names ns, _, rfl, ?_⟩
              show if (!inV (vS ws[j]) (ns.map vS)) = true then _ else _
              rw [inV_names]
              by_cases hm : ws[j] ∈ ns
              · rw [decide_eq_true hm]
                exact iteF ⟨ns, [_, _, _, _], rfl, hf10, hnm8, B10, K10'⟩
              · rw [decide_eq_false hm]
                refine iteT ⟨_, rfl, _, rfl, _, rfl, f, _, _, sp.toNat, rfl, rfl, hf10, ?_, ?_⟩
                · rw [List.length_map, hnm8.1]
                  exact ixN_in sp0 (by omega)
                · refine ⟨ns.set sp.toNat ws[j], [_, _, _, _], rfl, ?_, nms_set hnm8 hm (.inr (List.getElem_mem _)), B10.put nf, K10'.put hf0⟩
                  rw [upd_same, List.map_set]
            · rintro σ' H11 ⟨ns, o, rfl, hf11, hnm11, B11, K11⟩
              exact ⟨_, rfl, k f ns H11 hf0 hf11 hnm11.1 hnm11.2.1 hnm11.2.2 B11 K11⟩
end

/-! ### sum(xs) of a list of bools -/
def oneOf (b : Bool) : Int := if b then 1 else 0
theorem pre_bounds (val : Nat → Bool) : ∀ n : Nat, 0 ≤ PySem.preSum (fun i => oneOf (val i)) n ∧ PySem.preSum (fun i => oneOf (val i)) n ≤ (n : Int)
  | 0 => ⟨Int.le_refl _, Int.le_refl _⟩
  | n + 1 => by
    have h := pre_bounds val n
    have e : PySem.preSum (fun i => oneOf (val i)) (n + 1) = PySem.preSum (fun i => oneOf (val i)) n + oneOf (val n) := rfl
    have o : 0 ≤ oneOf (val n) ∧ oneOf (val n) ≤ 1 := by unfold oneOf; split <;> omega
    rw [e]
    omega
section
open PySem PyProof.Rows
variable {prog : Program} {w : World} {A : Around} {R : Result → Shared → Prop} {I : Addr} {fp wr : List Addr} {n : Nat} {P : Nat → Value → Prop} {St : Nat → Heap → Prop}
theorem wp_ifT {α : Type} {M : Model} {E : Value → Shared → Prop} {s : Shared} {b : Bool} {x y : Sem α} {Q : α → Shared → Prop} (hb : b = true) (h : wpAny M A x Q E s) : wpAny M A (if b = true then x else y) Q E s := by
  rw [if_pos hb]
  exact h
theorem sum_loopB (W : Walks prog w A.in1 I fp wr n P St) (val : Nat → Bool) (hval : ∀ i v, P i v → v = .bool (val i)) (hn : n ≤ 1000000) (S : Addr) (hSf : S ∉ fp) :
    ∀ (k i : Nat) (s : Shared) (tA : Tok) (c : Nat), n - i = k → i ≤ n → St i s.heap → s.heap.get? S = some { cls := .type "list", dict := none, data := .seq #[.int (preSum (fun i => oneOf (val i)) i) tA] c, slots := #[] } →
    (∀ h' tk t', (∀ b o, b ∉ wr → b ≠ S → s.heap.get? b = some o → h'.get? b = some o) → R (.ok (.ret (.int (preSum (fun i => oneOf (val i)) n) t'))) { s with heap := h', toks := tk }) →
    codeAny (model prog w) A (.builtin "sum.loop" ⟨[.ref I, .ref S, rawInt 0, rawInt 0], []⟩) R s := by
  have hSw : S ∉ wr := fun h => hSf (W.sub _ h)
  intro k
  induction k with
  | zero =>
    intro i s tA c hk hi hst hS hR
    have hin : i = n := by omega
    subst hin
    refine codeAny_builtin F.entry_sum_loop ?_
    rw [Around.under_plainId F.plain_sum_loop _]
    show wpAny _ A.in1 (seqItems? (.ref S) >>= _) _ _ s
    refine wpAny_bind (wpAny_seqItems hS rfl ?_)
    show wpAny _ A.in1 (tryCatch (pyNext (.ref I)) _ >>= _) _ _ s
    exact wpAny_bind (wpAny_tryCatch (W.done s _ _ hst fun h' tk hk' => wpAny_pure (hR h' tk tA fun b o hbw _ e => hk' b o hbw e)))
  | succ k ih =>
    intro i s tA c hk hi hst hS hR
    have hlt : i < n := by omega
    refine codeAny_builtin F.entry_sum_loop ?_
    rw [Around.under_plainId F.plain_sum_loop _]
    show wpAny _ A.in1 (seqItems? (.ref S) >>= _) _ _ s
    refine wpAny_bind (wpAny_seqItems hS rfl ?_)
    show wpAny _ A.in1 (tryCatch (pyNext (.ref I)) _ >>= _) _ _ s
    refine wpAny_bind (wpAny_tryCatch (W.item i s _ _ hlt hst fun v h' tk hP hst' hk' => ?_))
    obtain rfl := hval i v hP
    have hS' := hk' S _ hSw hS
    obtain ⟨f1, f2⟩ := pre_bounds val i
    have o1 : 0 ≤ oneOf (val i) ∧ oneOf (val i) ≤ 1 := by unfold oneOf; split <;> omega
    have hc : ((decide (-(2 ^ 63) ≤ oneOf (val i)) && decide (oneOf (val i) < 2 ^ 63)) && (decide (-(2 ^ 63) ≤ preSum (fun i => oneOf (val i)) i + oneOf (val i)) && decide (preSum (fun i => oneOf (val i)) i + oneOf (val i) < 2 ^ 63))) = true := by
      simp only [Bool.and_eq_true, decide_eq_true_eq]
      refine ⟨⟨by omega, by omega⟩, by omega, by omega⟩
    show wpAny _ A.in1 (if (_ : Bool) = true then (mkInt (preSum (fun i => oneOf (val i)) i + oneOf (val i)) >>= _) else _) _ _ _
    refine wp_ifT ?_ (wpAny_bind (wpAny_mkInt ?_))
    · exact hc
    show wpAny _ A.in1 (updateSeq S (fun _ => #[.int (preSum (fun i => oneOf (val i)) i + oneOf (val i)) tk]) >>= _) _ _ _
    refine wpAny_bind ?_
    refine wpAny_updateSeq hS' rfl (wpAny_pure ⟨plainId_quiet F.plain_sum_loop _, ih (i + 1) _ tk _ (by omega) hlt (W.frame _ _ _ hst' fun b hb o e => ?fr) (Heap.get?_update_self _ hS' rfl) fun h'' tk'' t'' hk'' => ?re⟩)
    case fr => exact (Heap.get?_update_other _ _ (fun h : S = b => hSf (by rw [h]; exact hb))).trans e
    case re => exact hR h'' tk'' t'' fun b o hbw hbS e => hk'' b o hbw hbS ((Heap.get?_update_other _ _ (Ne.symm hbS)).trans (hk' b o hbw e))
theorem call_sumB {E : Value → Shared → Prop} {s : Shared} {x : Value} {Q : Value → Shared → Prop}
    (h : wpAny (model prog w) A.in1 (pyIter x) (fun it s₂ => ∃ I fp wr n P St, ∃ val : Nat → Bool, it = .ref I ∧ Walks prog w A.in1 I fp wr n P St ∧ St 0 s₂.heap ∧ (∀ b ∈ fp, b < s₂.heap.objs.size) ∧
      (∀ i v, P i v → v = .bool (val i)) ∧ n ≤ 1000000 ∧
      ∀ h' tk t', (∀ b o, b ∉ wr → s₂.heap.get? b = some o → h'.get? b = some o) → Q (.int (preSum (fun i => oneOf (val i)) n) t') { s₂ with heap := h', toks := tk }) E s) :
    wpAny (model prog w) A (call (.builtin "sum") [x]) Q E s := by
  refine call_function_tree F.kind_sum F.plain_sum F.entry_sum (F.args_sum1 _) ?_
  unfold Builtin.«sum»
  simp only [List.length_cons, List.length_nil]
  rw [if_neg (by decide)]
  refine wpAny_bind (wpAny_of_eq (show Builtin.Builtins.bindParams "sum" ["start"] 0 { } = pure [none] from rfl) ?_)
  refine wpAny_bind (wpAny_mono h (fun it s₂ h₂ => ?_) fun _ _ e => e)
  obtain ⟨I, fp, wr, n, P, St, val, rfl, W, hst, hfp, hval, hn, hQ⟩ := h₂
  refine wpAny_bind (wpAny_mkInt (wpAny_bind (wpAny_pure ?_)))
  simp only [List.forIn_cons, List.forIn_nil]
  refine wpAny_bind (wpAny_bind (wpAny_bind (wpAny_isInstance (T := "int") (b := false) (typeIs_int _ _ _) PySem.sub_int_str ?_)))
  simp only [Bool.false_eq_true, if_false]
  refine wpAny_pure (wpAny_bind (wpAny_bind (wpAny_isInstance (T := "int") (b := false) (typeIs_int _ _ _) PySem.sub_int_bytes ?_)))
  simp only [Bool.false_eq_true, if_false]
  refine wpAny_pure (wpAny_bind (wpAny_bind (wpAny_isInstance (T := "int") (b := false) (typeIs_int _ _ _) PySem.sub_int_bytearray ?_)))
  simp only [Bool.false_eq_true, if_false]
  refine wpAny_pure (wpAny_pure (wpAny_bind (wpAny_newObj_type ?_)))
  have hSf : s₂.heap.objs.size ∉ fp := fun hm => Nat.lt_irrefl _ (hfp _ hm)
  refine wpAny_pure ⟨plainId_quiet F.plain_sum_loop _, sum_loopB W val hval hn s₂.heap.objs.size hSf n 0 _ s₂.toks 0 rfl (Nat.zero_le _)
    (W.frame _ _ _ hst fun b _ o e => Heap.get?_push_of_some _ e) (Heap.get?_push_size _ rfl) fun h' tk t' hk => ?_⟩
  exact hQ h' tk t' fun b o hbw e => hk b o hbw (Nat.ne_of_lt (Heap.lt_size e)) (Heap.get?_push_of_some _ e)
end
theorem preB_eq : ∀ (bs : List Bool) (n : Nat), n ≤ bs.length → PySem.preSum (fun i => oneOf (bs.getD i false)) n = (((bs.take n).count true : Nat) : Int)
  | bs, 0, _ => by simp [PySem.preSum]
  | bs, n + 1, h => by
    have hlt : n < bs.length := h
    show PySem.preSum (fun i => oneOf (bs.getD i false)) n + oneOf (bs.getD n false) = _
    rw [preB_eq bs n (Nat.le_of_lt hlt), List.take_succ, List.count_append, List.getD_eq_getElem?_getD, List.getElem?_eq_getElem hlt]
    cases bs[n] <;> simp [oneOf]
section
open PySem.Spec PyProof.Rows
variable {X : Cx}
def rSumB (K : PySem.W.Frag) : List V → Hp → VK → Prop := fun vs H Q => ∃ (a : Addr) (bs : List Bool), vs = [V.ref a] ∧ SqL K H a (bs.map V.bl) ∧ bs.length ≤ 1000000 ∧ Q (.int ((bs.count true : Nat) : Int)) H
theorem cr_sumB (hc : X.calm = true) : CallR X (.builtin "sum") (rSumB X.K) := by
  intro pins s σ H vs us Q I r h
  obtain ⟨a, bs, rfl, hs, hbl, q⟩ := h
  obtain ⟨its, rv, hl, _⟩ := I.list hs
  rw [Vals.ref1 r]
  have hb := rv.bls
  have hsz : its.toArray.size = bs.length := by rw [hb, List.size_toArray, List.length_map]
  refine call_sumB (iter_any hl.isList fun s₂ e2 st hne => ?_)
  subst e2
  have hlt : a < s.heap.objs.size := by obtain ⟨_, e, _⟩ := hl.isList; exact Heap.lt_size e
  refine ⟨_, _, _, _, _, _, fun i => bs.getD i false, rfl, Walks.list (A := X.A.in1) (I.ok.hd hc) _ a hne its.toArray, st, fun b hb => ?_, fun i v hv => ?_, by rw [hsz]; exact hbl, fun h' tk t' hk => ?_⟩
  · show b < (s.heap.push _).objs.size
    rw [Heap.size_push]
    rcases List.mem_cons.mp hb with rfl | hb
    · exact Nat.lt_succ_self _
    · rcases List.mem_cons.mp hb with rfl | hb
      · exact Nat.lt_succ_of_lt hlt
      · cases hb
  · have hv' : its[i]? = some v := by simpa using hv
    rw [hb, List.getElem?_map] at hv'
    obtain ⟨b, hb, rfl⟩ := Option.map_eq_some_iff.mp hv'
    show Value.bool b = Value.bool (bs.getD i false)
    rw [List.getD_eq_getElem?_getD, hb]
    rfl
  · refine ⟨.int _, H, I.kept fun b o eo => hk b o (fun hmem => ?_) (Heap.get?_push_of_some _ eo), ⟨_, rfl⟩, ?_⟩
    · rcases List.mem_cons.mp hmem with e1 | hmem
      · exact absurd (e1 ▸ Heap.lt_size eo) (Nat.lt_irrefl _)
      · cases hmem
    · rw [hsz, preB_eq bs _ (Nat.le_refl _), List.take_length]
      exact q
end

/-! ### the errors of the law -/
/-- an error of the class C that keeps v under m -/
def ErF (K : PySem.W.Frag) (H : Hp) (e C : Addr) (m : Str) (v : V) : Prop := ∃ (d : Addr) (fs : List (Str × V)), H e = some (exo e C (some d)) ∧ H d = some (exd d fs) ∧ XfC K C ∧ PySem.W.findIn K (.ref C) m = some none ∧ fs.lookup m = some v
theorem mk_err {C : Addr} {n : Nat} {fs : List V → List (Str × V)} {H : Hp} {ws : List V} {R : Addr → Hp → Prop}
    (h : ∀ a d H', H a = none → H d = none → Same H H' → H' a = some (exo a C (some d)) → H' d = some (exd d (fs ws)) → R a H') (hl : ws.length = n := by rfl) :
    ∀ a, H a = none → spExcF C n fs (.ref a :: ws) (upd H a (exo a C none)) (fun v H2 => v = .non ∧ R a H2) E0 := fun a ha => by
  refine ⟨a, ws, rfl, hl, upd_same, fun d H' hd nd keep ea ed => ⟨rfl, ?_⟩⟩
  rw [upd_ne nd] at hd
  exact h a d H' ha hd (fun b o e => keep b o (by rw [upd_ne (ne_of_none e ha)]; exact e) (ne_of_none e ha)) ea ed
/-- the classes of the package -/
def cls19 (A : Ad) : List Addr := [A.BadEntry, A.BadName, A.BadRule, A.Contradiction, A.NameTaken, A.Negative, A.NoEntry, A.NoPrice, A.NoRatio, A.NotClosed, A.NotEnough, A.NotPlain, A.NotPossible, A.NotTold, A.Short, A.Shut, A.TooMany, A.Unfit, A.UnknownName]
/-- a pair of an error and True -/
def Good (A : Ad) (H : Hp) (v : V) : Prop := ∃ t e C, v = .ref t ∧ H t = some (.tup [.ref e, .bl true]) ∧ ErrAt H e C ∧ C ∈ cls19 A
theorem Good.keep {A : Ad} {H H' : Hp} {v : V} (h : Good A H v) (s : ∀ b o, H b = some o → (∀ xs, o ≠ .lst xs) → H' b = some o) : Good A H' v := by
  obtain ⟨t, e, C, rfl, ht, he, hC⟩ := h
  refine ⟨t, e, C, rfl, s _ _ ht (fun xs z => by cases z), ?_, hC⟩
  rcases he with ⟨d, fs, h1, h2⟩ | h1
  · exact .inl ⟨d, fs, s _ _ h1 (fun xs z => by cases z), s _ _ h2 (fun xs z => by cases z)⟩
  · exact .inr (s _ _ h1 (fun xs z => by cases z))
theorem Good.same {A : Ad} {H H' : Hp} {v : V} (h : Good A H v) (s : Same H H') : Good A H' v := h.keep fun b o e _ => s b o e
theorem Good.kp {A : Ad} {H H' : Hp} {v : V} {D : Addr} {acc : List V} (h : Good A H v) (hD : H D = some (.lst acc)) (k : Kp D H H') : Good A H' v := h.keep fun b o e n => k b o e fun z => by
  subst z
  rw [hD] at e
  cases e
  exact n _ rfl
/-- a new list of n such pairs -/
def spGoods (A : Ad) (n : Nat) (Pr : List V → Prop) : Sp := fun vs H Q _ => Pr vs ∧ ∀ p ys H', Same H H' → H p = none → H' p = some (.lst ys) → ys.length = n → (∀ y ∈ ys, Good A H' y) → Q (.ref p) H'
section
variable {P : Program} {w : World} {K : PySem.W.Frag} {mg : Str → Option Value} {base : Heap} {A : Ad}
theorem xf_BadEntry (T : Txt K mg A) : XfC K A.BadEntry := ⟨T.xg_BadEntry, T.xk_BadEntry, T.eb_BadEntry, T.eh_BadEntry⟩
theorem excC_BadEntry (T : Txt K mg A) : ExcC K A.BadEntry := ⟨T.xg_BadEntry, T.xk_BadEntry, T.eb_BadEntry, T.eh_BadEntry, T.xa_BadEntry, T.xn_BadEntry, T.xt_BadEntry, T.xm_BadEntry⟩
theorem xf_BadName (T : Txt K mg A) : XfC K A.BadName := ⟨T.xg_BadName, T.xk_BadName, T.eb_BadName, T.eh_BadName⟩
theorem excC_BadName (T : Txt K mg A) : ExcC K A.BadName := ⟨T.xg_BadName, T.xk_BadName, T.eb_BadName, T.eh_BadName, T.xa_BadName, T.xn_BadName, T.xt_BadName, T.xm_BadName⟩
theorem xf_BadRule (T : Txt K mg A) : XfC K A.BadRule := ⟨T.xg_BadRule, T.xk_BadRule, T.eb_BadRule, T.eh_BadRule⟩
theorem excC_BadRule (T : Txt K mg A) : ExcC K A.BadRule := ⟨T.xg_BadRule, T.xk_BadRule, T.eb_BadRule, T.eh_BadRule, T.xa_BadRule, T.xn_BadRule, T.xt_BadRule, T.xm_BadRule⟩
theorem xf_Contradiction (T : Txt K mg A) : XfC K A.Contradiction := ⟨T.xg_Contradiction, T.xk_Contradiction, T.eb_Contradiction, T.eh_Contradiction⟩
theorem excC_Contradiction (T : Txt K mg A) : ExcC K A.Contradiction := ⟨T.xg_Contradiction, T.xk_Contradiction, T.eb_Contradiction, T.eh_Contradiction, T.xa_Contradiction, T.xn_Contradiction, T.xt_Contradiction, T.xm_Contradiction⟩
theorem xf_NameTaken (T : Txt K mg A) : XfC K A.NameTaken := ⟨T.xg_NameTaken, T.xk_NameTaken, T.eb_NameTaken, T.eh_NameTaken⟩
theorem excC_NameTaken (T : Txt K mg A) : ExcC K A.NameTaken := ⟨T.xg_NameTaken, T.xk_NameTaken, T.eb_NameTaken, T.eh_NameTaken, T.xa_NameTaken, T.xn_NameTaken, T.xt_NameTaken, T.xm_NameTaken⟩
theorem xf_Negative (T : Txt K mg A) : XfC K A.Negative := ⟨T.xg_Negative, T.xk_Negative, T.eb_Negative, T.eh_Negative⟩
theorem excC_Negative (T : Txt K mg A) : ExcC K A.Negative := ⟨T.xg_Negative, T.xk_Negative, T.eb_Negative, T.eh_Negative, T.xa_Negative, T.xn_Negative, T.xt_Negative, T.xm_Negative⟩
theorem xf_NoEntry (T : Txt K mg A) : XfC K A.NoEntry := ⟨T.xg_NoEntry, T.xk_NoEntry, T.eb_NoEntry, T.eh_NoEntry⟩
theorem excC_NoEntry (T : Txt K mg A) : ExcC K A.NoEntry := ⟨T.xg_NoEntry, T.xk_NoEntry, T.eb_NoEntry, T.eh_NoEntry, T.xa_NoEntry, T.xn_NoEntry, T.xt_NoEntry, T.xm_NoEntry⟩
theorem xf_NoPrice (T : Txt K mg A) : XfC K A.NoPrice := ⟨T.xg_NoPrice, T.xk_NoPrice, T.eb_NoPrice, T.eh_NoPrice⟩
theorem excC_NoPrice (T : Txt K mg A) : ExcC K A.NoPrice := ⟨T.xg_NoPrice, T.xk_NoPrice, T.eb_NoPrice, T.eh_NoPrice, T.xa_NoPrice, T.xn_NoPrice, T.xt_NoPrice, T.xm_NoPrice⟩
theorem xf_NoRatio (T : Txt K mg A) : XfC K A.NoRatio := ⟨T.xg_NoRatio, T.xk_NoRatio, T.eb_NoRatio, T.eh_NoRatio⟩
theorem excC_NoRatio (T : Txt K mg A) : ExcC K A.NoRatio := ⟨T.xg_NoRatio, T.xk_NoRatio, T.eb_NoRatio, T.eh_NoRatio, T.xa_NoRatio, T.xn_NoRatio, T.xt_NoRatio, T.xm_NoRatio⟩
theorem xf_NotClosed (T : Txt K mg A) : XfC K A.NotClosed := ⟨T.xg_NotClosed, T.xk_NotClosed, T.eb_NotClosed, T.eh_NotClosed⟩
theorem excC_NotClosed (T : Txt K mg A) : ExcC K A.NotClosed := ⟨T.xg_NotClosed, T.xk_NotClosed, T.eb_NotClosed, T.eh_NotClosed, T.xa_NotClosed, T.xn_NotClosed, T.xt_NotClosed, T.xm_NotClosed⟩
theorem xf_NotEnough (T : Txt K mg A) : XfC K A.NotEnough := ⟨T.xg_NotEnough, T.xk_NotEnough, T.eb_NotEnough, T.eh_NotEnough⟩
theorem excC_NotEnough (T : Txt K mg A) : ExcC K A.NotEnough := ⟨T.xg_NotEnough, T.xk_NotEnough, T.eb_NotEnough, T.eh_NotEnough, T.xa_NotEnough, T.xn_NotEnough, T.xt_NotEnough, T.xm_NotEnough⟩
theorem xf_NotPlain (T : Txt K mg A) : XfC K A.NotPlain := ⟨T.xg_NotPlain, T.xk_NotPlain, T.eb_NotPlain, T.eh_NotPlain⟩
theorem excC_NotPlain (T : Txt K mg A) : ExcC K A.NotPlain := ⟨T.xg_NotPlain, T.xk_NotPlain, T.eb_NotPlain, T.eh_NotPlain, T.xa_NotPlain, T.xn_NotPlain, T.xt_NotPlain, T.xm_NotPlain⟩
theorem xf_NotPossible (T : Txt K mg A) : XfC K A.NotPossible := ⟨T.xg_NotPossible, T.xk_NotPossible, T.eb_NotPossible, T.eh_NotPossible⟩
theorem excC_NotPossible (T : Txt K mg A) : ExcC K A.NotPossible := ⟨T.xg_NotPossible, T.xk_NotPossible, T.eb_NotPossible, T.eh_NotPossible, T.xa_NotPossible, T.xn_NotPossible, T.xt_NotPossible, T.xm_NotPossible⟩
theorem xf_NotTold (T : Txt K mg A) : XfC K A.NotTold := ⟨T.xg_NotTold, T.xk_NotTold, T.eb_NotTold, T.eh_NotTold⟩
theorem excC_NotTold (T : Txt K mg A) : ExcC K A.NotTold := ⟨T.xg_NotTold, T.xk_NotTold, T.eb_NotTold, T.eh_NotTold, T.xa_NotTold, T.xn_NotTold, T.xt_NotTold, T.xm_NotTold⟩
theorem xf_Short (T : Txt K mg A) : XfC K A.Short := ⟨T.xg_Short, T.xk_Short, T.eb_Short, T.eh_Short⟩
theorem excC_Short (T : Txt K mg A) : ExcC K A.Short := ⟨T.xg_Short, T.xk_Short, T.eb_Short, T.eh_Short, T.xa_Short, T.xn_Short, T.xt_Short, T.xm_Short⟩
theorem xf_Shut (T : Txt K mg A) : XfC K A.Shut := ⟨T.xg_Shut, T.xk_Shut, T.eb_Shut, T.eh_Shut⟩
theorem excC_Shut (T : Txt K mg A) : ExcC K A.Shut := ⟨T.xg_Shut, T.xk_Shut, T.eb_Shut, T.eh_Shut, T.xa_Shut, T.xn_Shut, T.xt_Shut, T.xm_Shut⟩
theorem xf_TooMany (T : Txt K mg A) : XfC K A.TooMany := ⟨T.xg_TooMany, T.xk_TooMany, T.eb_TooMany, T.eh_TooMany⟩
theorem excC_TooMany (T : Txt K mg A) : ExcC K A.TooMany := ⟨T.xg_TooMany, T.xk_TooMany, T.eb_TooMany, T.eh_TooMany, T.xa_TooMany, T.xn_TooMany, T.xt_TooMany, T.xm_TooMany⟩
theorem xf_Unfit (T : Txt K mg A) : XfC K A.Unfit := ⟨T.xg_Unfit, T.xk_Unfit, T.eb_Unfit, T.eh_Unfit⟩
theorem excC_Unfit (T : Txt K mg A) : ExcC K A.Unfit := ⟨T.xg_Unfit, T.xk_Unfit, T.eb_Unfit, T.eh_Unfit, T.xa_Unfit, T.xn_Unfit, T.xt_Unfit, T.xm_Unfit⟩
theorem xf_UnknownName (T : Txt K mg A) : XfC K A.UnknownName := ⟨T.xg_UnknownName, T.xk_UnknownName, T.eb_UnknownName, T.eh_UnknownName⟩
theorem excC_UnknownName (T : Txt K mg A) : ExcC K A.UnknownName := ⟨T.xg_UnknownName, T.xk_UnknownName, T.eb_UnknownName, T.eh_UnknownName, T.xa_UnknownName, T.xn_UnknownName, T.xt_UnknownName, T.xm_UnknownName⟩
end
section
variable {P : Program} {w : World} {K : PySem.W.Frag} {mg : Str → Option Value} {base : Heap} {A : Ad}
theorem ok_l_named (T : Txt K mg A) : FnOk P w K mg base CX0 5 A.l_named A.fd_l_named P_l_named (spGoods A 5 (fun vs => ∃ n, vs = [.str n])) := by
  refine T.F_l_named.ok sc_l_named (fun vs H Q E h => ?_) (fun cdv Ar outer s H vs Q E hr h => ?_)
  · obtain ⟨⟨n, rfl⟩, _⟩ := h
    rfl
  · obtain ⟨⟨n, rfl⟩, k⟩ := h
    refine ⟨_, (pss_cons (ps_set (i := 1) sc_l_named.nd rfl (Or.inl rfl) (pe_lst (pa_cons (pe_mkV T.ox_NoPrice T.oi_NoPrice T.ot_NoPrice (ok_m_NoPrice_init T) (hr.mono (by decide)) T.b_m_NoPrice_init pass0 (by rfl) T.g_NoPrice (pa_cons (pv 0) pa_nil)) (pa_cons (pe_mkV T.ox_Negative T.oi_Negative T.ot_Negative (ok_m_Negative_init T) (hr.mono (by decide)) T.b_m_Negative_init pass0 (by rfl) T.g_Negative (pa_cons (pv 0) pa_nil)) (pa_cons (pe_mkV T.ox_BadName T.oi_BadName T.ot_BadName (ok_m_BadName_init T) (hr.mono (by decide)) T.b_m_BadName_init pass0 (by rfl) T.g_BadName (pa_cons (pv 0) pa_nil)) (pa_cons (pe_mkV T.ox_NameTaken T.oi_NameTaken T.ot_NameTaken (ok_m_NameTaken_init T) (hr.mono (by decide)) T.b_m_NameTaken_init pass0 (by rfl) T.g_NameTaken (pa_cons (pv 0) pa_nil)) (pa_cons (pe_mkV T.ox_UnknownName T.oi_UnknownName T.ot_UnknownName (ok_m_UnknownName_init T) (hr.mono (by decide)) T.b_m_UnknownName_init pass0 (by rfl) T.g_UnknownName (pa_cons (pv 0) pa_nil)) pa_nil)))))))
      (pss_one (ps_ret (pe_g (pe_lcV (own := [("_law_error", 2)]) rfl sc_l_named.nd (pi_list (pv 1)) (blkOk_by (own := [("_law_error", 2)]) (N := N_l_named) (sc := defScope s_l_named) (by decide +kernel)) (fun _ _ _ _ _ => (pg_name (i := 2) sc_l_named.nd rfl (Or.inl rfl))) (fun _ _ _ _ _ => pts_nil) (fun _ _ _ _ _ => (pe_tup (pa_cons (pv 2) (pa_cons (pe_cmpR op_eq (pe_vf (pv 2)) (pv 0) (nomark _)) pa_nil)))) (fun _ _ _ _ _ => rfl) (fun _ _ _ _ _ => rfl) (fun _ _ _ _ _ => rfl)))))), ?_⟩
    refine ⟨_, rfl, (by show 1 ≤ 1000; decide), mk_err fun e1 d1 H1 _ _ s1 h1 g1 => ?_⟩
    refine ⟨_, rfl, (by show 1 ≤ 1000; decide), mk_err fun e2 d2 H2 _ _ s2 h2 g2 => ?_⟩
    refine ⟨_, rfl, (by show 1 ≤ 1000; decide), mk_err fun e3 d3 H3 _ _ s3 h3 g3 => ?_⟩
    refine ⟨_, rfl, (by show 1 ≤ 1000; decide), mk_err fun e4 d4 H4 _ _ s4 h4 g4 => ?_⟩
    refine ⟨_, rfl, (by show 1 ≤ 1000; decide), mk_err fun e5 d5 H5 _ _ s5 h5 g5 => ?_⟩
    refine ⟨(by show 5 ≤ sizeLine; decide), fun p hp => ?_⟩
    have S5 := s1.trans (s2.trans (s3.trans (s4.trans s5)))
    have Sp := Same.new (o := .lst [.ref e1, .ref e2, .ref e3, .ref e4, .ref e5]) hp
    have F1 : ErF K H5 e1 A.NoPrice "name" (.str n) := ⟨d1, _, (s2.trans (s3.trans (s4.trans s5))) _ _ h1, (s2.trans (s3.trans (s4.trans s5))) _ _ g1, xf_NoPrice T, T.n_NoPrice_name, rfl⟩
    have F2 : ErF K H5 e2 A.Negative "name" (.str n) := ⟨d2, _, (s3.trans (s4.trans s5)) _ _ h2, (s3.trans (s4.trans s5)) _ _ g2, xf_Negative T, T.n_Negative_name, rfl⟩
    have F3 : ErF K H5 e3 A.BadName "name" (.str n) := ⟨d3, _, (s4.trans s5) _ _ h3, (s4.trans s5) _ _ g3, xf_BadName T, T.n_BadName_name, rfl⟩
    have F4 : ErF K H5 e4 A.NameTaken "name" (.str n) := ⟨d4, _, s5 _ _ h4, s5 _ _ g4, xf_NameTaken T, T.n_NameTaken_name, rfl⟩
    have F5 : ErF K H5 e5 A.UnknownName "name" (.str n) := ⟨d5, _, h5, g5, xf_UnknownName T, T.n_UnknownName_name, rfl⟩
    have all : ∀ x ∈ [V.ref e1, .ref e2, .ref e3, .ref e4, .ref e5], ∃ e C, x = V.ref e ∧ ErF K H5 e C "name" (.str n) ∧ C ∈ cls19 A := by
      intro x hx
      simp only [List.mem_cons, List.not_mem_nil, or_false] at hx
      rcases hx with rfl | rfl | rfl | rfl | rfl
      · exact ⟨e1, _, rfl, F1, by simp [cls19]⟩
      · exact ⟨e2, _, rfl, F2, by simp [cls19]⟩
      · exact ⟨e3, _, rfl, F3, by simp [cls19]⟩
      · exact ⟨e4, _, rfl, F4, by simp [cls19]⟩
      · exact ⟨e5, _, rfl, F5, by simp [cls19]⟩
    refine ⟨⟨_, rfl, p, rfl, ⟨_, SqL.of upd_same⟩, fun D hD => ?_⟩⟩
    refine lc_sameP (fun _ y H' => Good A H' y) upd_same (by show 5 ≤ 1000; decide) hD (fun i y H H' acc hDl kp g => g.kp hDl kp) ?_ ?_
    · intro i x H' N M hx s' hN
      obtain ⟨e, C, rfl, ⟨d, fs, he, hd, xf, nf, hl⟩, hC⟩ := all x (List.mem_of_getElem? hx)
      refine ⟨rfl, _, rfl, _, rfl, e, C, d, fs, _, rfl, xf, nf, (Sp.trans s') _ _ he, (Sp.trans s') _ _ hd, hl, _, rfl, rfl, (by show 2 ≤ sizeLine; decide), fun q hq => ?_⟩
      refine hN _ _ (Same.new hq) ⟨q, e, C, rfl, ?_, .inl ⟨d, fs, Same.new hq _ _ ((Sp.trans s') _ _ he), Same.new hq _ _ ((Sp.trans s') _ _ hd)⟩, hC⟩
      rw [upd_same, decide_eq_true rfl]
    · intro ys H' s' hyl hR hD'
      exact k D ys H' (S5.trans (Sp.trans s')) (Same.none S5 (Same.none Sp hD)) hD' hyl (fun y hy => by
        obtain ⟨i, hi⟩ := List.mem_iff_getElem?.mp hy
        exact hR i y hi)
theorem ok_l_placed (T : Txt K mg A) : FnOk P w K mg base CX0 5 A.l_placed A.fd_l_placed P_l_placed (spGoods A 3 (fun vs => ∃ a b : Int, vs = [.int a, .int b])) := by
  refine T.F_l_placed.ok sc_l_placed (fun vs H Q E h => ?_) (fun cdv Ar outer s H vs Q E hr h => ?_)
  · obtain ⟨⟨a, b, rfl⟩, _⟩ := h
    rfl
  · obtain ⟨⟨a, b, rfl⟩, k⟩ := h
    refine ⟨_, (pss_cons (ps_set (i := 2) sc_l_placed.nd rfl (Or.inl rfl) (pe_lst (pa_cons (pe_mkV T.ox_BadEntry T.oi_BadEntry T.ot_BadEntry (ok_m_BadEntry_init T) (hr.mono (by decide)) T.b_m_BadEntry_init pass0 (by rfl) T.g_BadEntry (pa_cons (pv 0) (pa_cons (pv 1) pa_nil))) (pa_cons (pe_mkV T.ox_NoEntry T.oi_NoEntry T.ot_NoEntry (ok_m_NoEntry_init T) (hr.mono (by decide)) T.b_m_NoEntry_init pass0 (by rfl) T.g_NoEntry (pa_cons (pv 0) (pa_cons (pv 1) pa_nil))) (pa_cons (pe_mkV T.ox_NotPlain T.oi_NotPlain T.ot_NotPlain (ok_m_NotPlain_init T) (hr.mono (by decide)) T.b_m_NotPlain_init pass0 (by rfl) T.g_NotPlain (pa_cons (pv 0) (pa_cons (pv 1) pa_nil))) pa_nil)))))
      (pss_one (ps_ret (pe_g (pe_lcV (own := [("_law_error", 3)]) rfl sc_l_placed.nd (pi_list (pv 2)) (blkOk_by (own := [("_law_error", 3)]) (N := N_l_placed) (sc := defScope s_l_placed) (by decide +kernel)) (fun _ _ _ _ _ => (pg_name (i := 3) sc_l_placed.nd rfl (Or.inl rfl))) (fun _ _ _ _ _ => pts_nil) (fun _ _ _ _ _ => (pe_tup (pa_cons (pv 3) (pa_cons (pe_cmpR (op_eqP hr.units) (pe_tup (pa_cons (pe_vf (pv 3)) (pa_cons (pe_vf (pv 3)) pa_nil))) (pe_tup (pa_cons (pv 0) (pa_cons (pv 1) pa_nil))) (nomark _)) pa_nil)))) (fun _ _ _ _ _ => rfl) (fun _ _ _ _ _ => rfl) (fun _ _ _ _ _ => rfl)))))), ?_⟩
    refine ⟨_, rfl, _, rfl, (by show 2 ≤ 1000; decide), mk_err fun e1 d1 H1 _ _ s1 h1 g1 => ?_⟩
    refine ⟨_, rfl, _, rfl, (by show 2 ≤ 1000; decide), mk_err fun e2 d2 H2 _ _ s2 h2 g2 => ?_⟩
    refine ⟨_, rfl, _, rfl, (by show 2 ≤ 1000; decide), mk_err fun e3 d3 H3 _ _ s3 h3 g3 => ?_⟩
    refine ⟨(by show 3 ≤ sizeLine; decide), fun p hp => ?_⟩
    have S5 := s1.trans (s2.trans s3)
    have Sp := Same.new (o := .lst [.ref e1, .ref e2, .ref e3]) hp
    have all : ∀ x ∈ [V.ref e1, .ref e2, .ref e3], ∃ e C, x = V.ref e ∧ (∃ (d : Addr), H3 e = some (exo e C (some d)) ∧ H3 d = some (exd d [("number", .int b), ("day", .int a)]) ∧ XfC K C ∧ PySem.W.findIn K (.ref C) "day" = some none ∧ PySem.W.findIn K (.ref C) "number" = some none) ∧ C ∈ cls19 A := by
      intro x hx
      simp only [List.mem_cons, List.not_mem_nil, or_false] at hx
      rcases hx with rfl | rfl | rfl
      · exact ⟨e1, _, rfl, ⟨d1, (s2.trans s3) _ _ h1, (s2.trans s3) _ _ g1, xf_BadEntry T, T.n_BadEntry_day, T.n_BadEntry_number⟩, by simp [cls19]⟩
      · exact ⟨e2, _, rfl, ⟨d2, s3 _ _ h2, s3 _ _ g2, xf_NoEntry T, T.n_NoEntry_day, T.n_NoEntry_number⟩, by simp [cls19]⟩
      · exact ⟨e3, _, rfl, ⟨d3, h3, g3, xf_NotPlain T, T.n_NotPlain_day, T.n_NotPlain_number⟩, by simp [cls19]⟩
    refine ⟨⟨_, rfl, p, rfl, ⟨_, SqL.of upd_same⟩, fun D hD => ?_⟩⟩
    refine lc_sameP (fun _ y H' => Good A H' y) upd_same (by show 3 ≤ 1000; decide) hD (fun i y H H' acc hDl kp g => g.kp hDl kp) ?_ ?_
    · intro i x H' N M hx s' hN
      obtain ⟨e, C, rfl, ⟨d, he, hd, xf, n1, n2⟩, hC⟩ := all x (List.mem_of_getElem? hx)
      have he' := (Sp.trans s') _ _ he
      have hd' := (Sp.trans s') _ _ hd
      refine ⟨rfl, _, rfl, _, rfl, e, C, d, _, _, rfl, xf, n1, he', hd', rfl, _, rfl, e, C, d, _, _, rfl, xf, n2, he', hd', rfl, (by show 2 ≤ sizeLine; decide), fun q hq => ?_⟩
      refine ⟨_, rfl, _, rfl, (by show 2 ≤ sizeLine; decide), fun r hr => ?_⟩
      have nqr := ne_of_none upd_same hr
      refine eqP_same (d := .tuple [.int a, .int b]) (.tup (SqT.of (by walk_at "at")) (.cons (.int a) (.cons (.int b) .nil))) (.tup (SqT.of (by walk_at "at")) (.cons (.int a) (.cons (.int b) .nil))) rfl (Nat.le_of_ble_eq_true rfl) ⟨(by show 2 ≤ sizeLine; decide), fun t ht => ?_⟩
      have St := (Same.new (o := .tup [V.int a, .int b]) hq).trans ((Same.new (o := .tup [V.int a, .int b]) hr).trans (Same.new (o := .tup [.ref e, .bl true]) ht))
      exact hN _ _ St ⟨t, e, C, rfl, upd_same, .inl ⟨d, _, St _ _ he', St _ _ hd'⟩, hC⟩
    · intro ys H' s' hyl hR hD'
      exact k D ys H' (S5.trans (Sp.trans s')) (Same.none S5 (Same.none Sp hD)) hD' hyl (fun y hy => by
        obtain ⟨i, hi⟩ := List.mem_iff_getElem?.mp hy
        exact hR i y hi)
end
/-- the list at f, of n pairs -/
def Ft (A : Ad) (H0 H : Hp) (f : Addr) (n : Nat) : Prop := ∃ ys, H0 f = none ∧ Same H0 H ∧ H f = some (.lst ys) ∧ ys.length = n ∧ ∀ y ∈ ys, Good A H y
theorem Ft.at_ {A : Ad} {H0 H : Hp} {f : Addr} {n : Nat} (F : Ft A H0 H f n) : ∃ ys, H f = some (.lst ys) := by
  obtain ⟨ys, _, _, h, _⟩ := F
  exact ⟨ys, h⟩
theorem Ft.step {A : Ad} {H0 H H1 : Hp} {f t e C : Addr} {n : Nat} (F : Ft A H0 H f n) (s : Same H H1) (ht : H1 t = none) (hE : ErrAt H1 e C) (hC : C ∈ cls19 A) (hn : n < 1000 := by decide) :
    ∃ ys, upd H1 t (.tup [.ref e, .bl true]) f = some (.lst ys) ∧ ys.length < sizeLine ∧ Ft A H0 (upd (upd H1 t (.tup [.ref e, .bl true])) f (.lst (ys ++ [.ref t]))) f (n + 1) := by
  obtain ⟨ys, f0, s0, hf, hl, hg⟩ := F
  have s1 := Same.new (o := .tup [V.ref e, .bl true]) ht
  have hf1 := s1 _ _ (s _ _ hf)
  have g1 : Good A (upd H1 t (.tup [.ref e, .bl true])) (.ref t) := by
    refine ⟨t, e, C, rfl, upd_same, ?_, hC⟩
    rcases hE with ⟨d, fs, h1, h2⟩ | h1
    · exact .inl ⟨d, fs, s1 _ _ h1, s1 _ _ h2⟩
    · exact .inr (s1 _ _ h1)
  refine ⟨ys, hf1, Nat.lt_of_lt_of_le (hl ▸ hn) (by decide), ys ++ [.ref t], f0, Same.at_new f0 (s0.trans (s.trans s1)), upd_same, by rw [List.length_append, hl]; rfl, fun y hy => ?_⟩
  refine Good.kp (D := f) ?_ hf1 (Kp.refl f _).up
  rcases List.mem_append.mp hy with hy | hy
  · exact (hg y hy).same (s.trans s1)
  · rw [List.mem_singleton] at hy
    subst hy
    exact g1
section
variable {P : Program} {w : World} {K : PySem.W.Frag} {mg : Str → Option Value} {base : Heap} {A : Ad}
theorem ok_l_others (T : Txt K mg A) : FnOk P w K mg base CX0 5 A.l_others A.fd_l_others P_l_others (spGoods A 11 (fun vs => ∃ (a b u : Int) (n : Str), vs = [.int a, .int b, .int u, .str n])) := by
  refine T.F_l_others.ok sc_l_others (fun vs H Q E h => ?_) (fun cdv Ar outer s H vs Q E hr h => ?_)
  · obtain ⟨⟨a, b, u, n, rfl⟩, _⟩ := h
    rfl
  · obtain ⟨⟨a, b, u, n, rfl⟩, k⟩ := h
    refine ⟨_, (pss_cons (ps_set (i := 4) sc_l_others.nd rfl (Or.inl rfl) (pe_lst (pa_cons (pe_tup (pa_cons (pe_exc0 PySem.F.excBase_ValueError T.xP_NoRatio T.g_NoRatio T.ek_NoRatio (by rfl)) (pa_cons pe_bl pa_nil))) (pa_cons (pe_tup (pa_cons (pe_exc0 PySem.F.excBase_ValueError T.xP_NotPossible T.g_NotPossible T.ek_NotPossible (by rfl)) (pa_cons pe_bl pa_nil))) (pa_cons (pe_tup (pa_cons (pe_exc0 PySem.F.excBase_ValueError T.xP_NotTold T.g_NotTold T.ek_NotTold (by rfl)) (pa_cons pe_bl pa_nil))) pa_nil)))))
      (pss_cons (ps_set (i := 5) sc_l_others.nd rfl (Or.inl rfl) (pe_mkV T.ox_NotEnough T.oi_NotEnough T.ot_NotEnough (ok_m_NotEnough_init T) (hr.mono (by decide)) T.b_m_NotEnough_init pass0 (by rfl) T.g_NotEnough (pa_cons (pv 0) (pa_cons (pv 1) (pa_cons (pv 2) pa_nil)))))
      (pss_cons (ps_expr (pe_bm PySem.F.plainAttrs_list PySem.F.slot_list_append PySem.F.type_list_append mt_append (pv 4) (pa_cons (pe_tup (pa_cons (pv 5) (pa_cons (pe_cmpR (op_eqP hr.units) (pe_tup (pa_cons (pe_vf (pv 5)) (pa_cons (pe_vf (pv 5)) (pa_cons (pe_vf (pv 5)) pa_nil)))) (pe_tup (pa_cons (pv 0) (pa_cons (pv 1) (pa_cons (pv 2) pa_nil)))) (nomark _)) pa_nil))) pa_nil)))
      (pss_cons (ps_set (i := 6) sc_l_others.nd rfl (Or.inl rfl) (pe_mkV T.ox_TooMany T.oi_TooMany T.ot_TooMany (ok_m_TooMany_init T) (hr.mono (by decide)) T.b_m_TooMany_init pass0 (by rfl) T.g_TooMany (pa_cons (pv 0) (pa_cons (pv 1) (pa_cons (pv 2) pa_nil)))))
      (pss_cons (ps_expr (pe_bm PySem.F.plainAttrs_list PySem.F.slot_list_append PySem.F.type_list_append mt_append (pv 4) (pa_cons (pe_tup (pa_cons (pv 6) (pa_cons (pe_cmpR (op_eqP hr.units) (pe_tup (pa_cons (pe_vf (pv 6)) (pa_cons (pe_vf (pv 6)) (pa_cons (pe_vf (pv 6)) pa_nil)))) (pe_tup (pa_cons (pv 0) (pa_cons (pv 1) (pa_cons (pv 2) pa_nil)))) (nomark _)) pa_nil))) pa_nil)))
      (pss_cons (ps_expr (pe_bm PySem.F.plainAttrs_list PySem.F.slot_list_append PySem.F.type_list_append mt_append (pv 4) (pa_cons (pe_tup (pa_cons (pe_mkV T.ox_BadRule T.oi_BadRule T.ot_BadRule (ok_m_BadRule_init T) (hr.mono (by decide)) T.b_m_BadRule_init pass0 (by rfl) T.g_BadRule (pa_cons (pv 3) pa_nil)) (pa_cons (pe_cmpR op_eq (pe_vf (pe_mkV T.ox_BadRule T.oi_BadRule T.ot_BadRule (ok_m_BadRule_init T) (hr.mono (by decide)) T.b_m_BadRule_init pass0 (by rfl) T.g_BadRule (pa_cons (pv 3) pa_nil))) (pv 3) (nomark _)) pa_nil))) pa_nil)))
      (pss_cons (ps_expr (pe_bm PySem.F.plainAttrs_list PySem.F.slot_list_append PySem.F.type_list_append mt_append (pv 4) (pa_cons (pe_tup (pa_cons (pe_mkV T.ox_Short T.oi_Short T.ot_Short (ok_m_Short_init T) (hr.mono (by decide)) T.b_m_Short_init pass0 (by rfl) T.g_Short (pa_cons (pv 2) pa_nil)) (pa_cons (pe_cmpR op_eq (pe_vf (pe_mkV T.ox_Short T.oi_Short T.ot_Short (ok_m_Short_init T) (hr.mono (by decide)) T.b_m_Short_init pass0 (by rfl) T.g_Short (pa_cons (pv 2) pa_nil))) (pv 2) (nomark _)) pa_nil))) pa_nil)))
      (pss_cons (ps_set (i := 7) sc_l_others.nd rfl (Or.inl rfl) (pe_mkV T.ox_Contradiction T.oi_Contradiction T.ot_Contradiction (ok_m_Contradiction_init T) (hr.mono (by decide)) T.b_m_Contradiction_init pass0 (by rfl) T.g_Contradiction (pa_cons (pe_tup (pa_cons (pv 3) (pa_cons pe_str pa_nil))) pa_nil)))
      (pss_cons (ps_expr (pe_bm PySem.F.plainAttrs_list PySem.F.slot_list_append PySem.F.type_list_append mt_append (pv 4) (pa_cons (pe_tup (pa_cons (pv 7) (pa_cons (pe_cmpR (op_eqP hr.units) (pe_vf (pv 7)) (pe_tup (pa_cons (pv 3) (pa_cons pe_str pa_nil))) (nomark _)) pa_nil))) pa_nil)))
      (pss_cons (ps_expr (pe_bm PySem.F.plainAttrs_list PySem.F.slot_list_append PySem.F.type_list_append mt_append (pv 4) (pa_cons (pe_tup (pa_cons (pe_mkV T.ox_Shut T.oi_Shut T.ot_Shut (ok_m_Shut_init T) (hr.mono (by decide)) T.b_m_Shut_init pass0 (by rfl) T.g_Shut (pa_cons (pv 0) pa_nil)) (pa_cons (pe_cmpR op_eq (pe_vf (pe_mkV T.ox_Shut T.oi_Shut T.ot_Shut (ok_m_Shut_init T) (hr.mono (by decide)) T.b_m_Shut_init pass0 (by rfl) T.g_Shut (pa_cons (pv 0) pa_nil))) (pv 0) (nomark _)) pa_nil))) pa_nil)))
      (pss_cons (ps_expr (pe_bm PySem.F.plainAttrs_list PySem.F.slot_list_append PySem.F.type_list_append mt_append (pv 4) (pa_cons (pe_tup (pa_cons (pe_mkV T.ox_NotClosed T.oi_NotClosed T.ot_NotClosed (ok_m_NotClosed_init T) (hr.mono (by decide)) T.b_m_NotClosed_init pass0 (by rfl) T.g_NotClosed (pa_cons (pv 1) pa_nil)) (pa_cons (pe_cmpR op_eq (pe_vf (pe_mkV T.ox_NotClosed T.oi_NotClosed T.ot_NotClosed (ok_m_NotClosed_init T) (hr.mono (by decide)) T.b_m_NotClosed_init pass0 (by rfl) T.g_NotClosed (pa_cons (pv 1) pa_nil))) (pv 1) (nomark _)) pa_nil))) pa_nil)))
      (pss_cons (ps_expr (pe_bm PySem.F.plainAttrs_list PySem.F.slot_list_append PySem.F.type_list_append mt_append (pv 4) (pa_cons (pe_tup (pa_cons (pe_mkV T.ox_Unfit T.oi_Unfit T.ot_Unfit (ok_m_Unfit_init T) (hr.mono (by decide)) T.b_m_Unfit_init pass0 (by rfl) T.g_Unfit (pa_cons (pe_lst (pa_cons (pv 2) (pa_cons (pv 0) pa_nil))) pa_nil)) (pa_cons (pe_cmpR (op_eqP hr.units) (pe_vf (pe_mkV T.ox_Unfit T.oi_Unfit T.ot_Unfit (ok_m_Unfit_init T) (hr.mono (by decide)) T.b_m_Unfit_init pass0 (by rfl) T.g_Unfit (pa_cons (pe_lst (pa_cons (pv 2) (pa_cons (pv 0) pa_nil))) pa_nil))) (pe_lst (pa_cons (pv 2) (pa_cons (pv 0) pa_nil))) (nomark _)) pa_nil))) pa_nil)))
      (pss_one (ps_ret (pv 4))))))))))))))), ?_⟩
    intro e1 n1
    refine ⟨(by show 2 ≤ sizeLine; decide), fun t1 m1 e2 n2 => ⟨(by show 2 ≤ sizeLine; decide), fun t2 m2 e3 n3 => ⟨(by show 2 ≤ sizeLine; decide), fun t3 m3 => ⟨(by show 3 ≤ sizeLine; decide), fun f hf => ?_⟩⟩⟩⟩
    have F : Ft A H (upd (upd (upd (upd (upd (upd (upd H e1 (ExO (.ref A.NoRatio) e1)) t1 (.tup [.ref e1, .bl true])) e2 (ExO (.ref A.NotPossible) e2)) t2 (.tup [.ref e2, .bl true])) e3 (ExO (.ref A.NotTold) e3)) t3 (.tup [.ref e3, .bl true])) f (.lst [.ref t1, .ref t2, .ref t3])) f 3 := by
      have s1 := Same.new (o := ExO (.ref A.NoRatio) e1) n1
      have s2 := Same.new (o := .tup [.ref e1, .bl true]) m1
      have s3 := Same.new (o := ExO (.ref A.NotPossible) e2) n2
      have s4 := Same.new (o := .tup [.ref e2, .bl true]) m2
      have s5 := Same.new (o := ExO (.ref A.NotTold) e3) n3
      have s6 := Same.new (o := .tup [.ref e3, .bl true]) m3
      have s7 := Same.new (o := .lst [.ref t1, .ref t2, .ref t3]) hf
      have st := s1.trans (s2.trans (s3.trans (s4.trans (s5.trans s6))))
      have q1 := s3.trans (s4.trans (s5.trans (s6.trans s7)))
      have q2 := s5.trans (s6.trans s7)
      refine ⟨_, Same.none st hf, st.trans s7, upd_same, rfl, fun y hy => ?_⟩
      simp only [List.mem_cons, List.not_mem_nil, or_false] at hy
      rcases hy with rfl | rfl | rfl
      · exact ⟨t1, e1, _, rfl, q1 _ _ upd_same, .inr (q1 _ _ (s2 _ _ upd_same)), by simp [cls19]⟩
      · exact ⟨t2, e2, _, rfl, q2 _ _ upd_same, .inr (q2 _ _ (s4 _ _ upd_same)), by simp [cls19]⟩
      · exact ⟨t3, e3, _, rfl, s7 _ _ upd_same, .inr (s7 _ _ (s6 _ _ upd_same)), by simp [cls19]⟩
    generalize (upd (upd (upd (upd (upd (upd (upd H e1 (ExO (.ref A.NoRatio) e1)) t1 (.tup [.ref e1, .bl true])) e2 (ExO (.ref A.NotPossible) e2)) t2 (.tup [.ref e2, .bl true])) e3 (ExO (.ref A.NotTold) e3)) t3 (.tup [.ref e3, .bl true])) f (.lst [.ref t1, .ref t2, .ref t3])) = Ha at F ⊢
    clear hf m3 n3 m2 n2 m1 n1
    have pT : (PyData.tuple [.int a, .int b, .int u]).plain = true := rfl
    refine ⟨_, rfl, _, rfl, _, rfl, (by show 3 ≤ 1000; decide), mk_err fun x1 d1 H1 _ _ s1 h1 g1 => ?_⟩
    obtain ⟨ys1, hf1⟩ := F.at_
    refine ⟨_, rfl, .inl ⟨rfl, _, SqL.of (s1 _ _ hf1)⟩, _, rfl, _, rfl, x1, _, d1, _, _, rfl, xf_NotEnough T, T.n_NotEnough_day, h1, g1, rfl, _, rfl, x1, _, d1, _, _, rfl, xf_NotEnough T, T.n_NotEnough_number, h1, g1, rfl, _, rfl, x1, _, d1, _, _, rfl, xf_NotEnough T, T.n_NotEnough_missing, h1, g1, rfl, (by show 3 ≤ sizeLine; decide), fun p1 hp1 => ?_⟩
    refine ⟨_, rfl, _, rfl, _, rfl, (by show 3 ≤ sizeLine; decide), fun q1 hq1 => ?_⟩
    have nq1 := ne_of_none upd_same hq1
    refine eqP_same (d := .tuple [.int a, .int b, .int u]) (.tup (SqT.of (by walk_at "at")) (.cons (.int _) (.cons (.int _) (.cons (.int _) .nil)))) (.tup (SqT.of (by walk_at "at")) (.cons (.int _) (.cons (.int _) (.cons (.int _) .nil)))) pT (Nat.le_of_ble_eq_true rfl) ⟨(by show 2 ≤ sizeLine; decide), fun r1 hr1 => ?_⟩
    have w1 := (Same.new (o := .tup [V.int a, .int b, .int u]) hp1).trans (Same.new (o := .tup [V.int a, .int b, .int u]) hq1)
    obtain ⟨zs1, z1, z2, F⟩ := F.step (s1.trans w1) hr1 (C := A.NotEnough) (.inl ⟨d1, _, w1 _ _ h1, w1 _ _ g1⟩) (by simp [cls19])
    refine ⟨f, zs1, _, rfl, rfl, z1, z2, ?_⟩
    generalize upd (upd (upd (upd H1 p1 (.tup [V.int a, .int b, .int u])) q1 (.tup [V.int a, .int b, .int u])) r1 (.tup [.ref x1, .bl true])) f (.lst (zs1 ++ [.ref r1])) = Hb1 at F ⊢
    refine ⟨_, rfl, _, rfl, _, rfl, (by show 3 ≤ 1000; decide), mk_err fun x2 d2 H2 _ _ s2 h2 g2 => ?_⟩
    obtain ⟨ys2, hf2⟩ := F.at_
    refine ⟨_, rfl, .inl ⟨rfl, _, SqL.of (s2 _ _ hf2)⟩, _, rfl, _, rfl, x2, _, d2, _, _, rfl, xf_TooMany T, T.n_TooMany_day, h2, g2, rfl, _, rfl, x2, _, d2, _, _, rfl, xf_TooMany T, T.n_TooMany_number, h2, g2, rfl, _, rfl, x2, _, d2, _, _, rfl, xf_TooMany T, T.n_TooMany_left, h2, g2, rfl, (by show 3 ≤ sizeLine; decide), fun p2 hp2 => ?_⟩
    refine ⟨_, rfl, _, rfl, _, rfl, (by show 3 ≤ sizeLine; decide), fun q2 hq2 => ?_⟩
    have nq2 := ne_of_none upd_same hq2
    refine eqP_same (d := .tuple [.int a, .int b, .int u]) (.tup (SqT.of (by walk_at "at")) (.cons (.int _) (.cons (.int _) (.cons (.int _) .nil)))) (.tup (SqT.of (by walk_at "at")) (.cons (.int _) (.cons (.int _) (.cons (.int _) .nil)))) pT (Nat.le_of_ble_eq_true rfl) ⟨(by show 2 ≤ sizeLine; decide), fun r2 hr2 => ?_⟩
    have w2 := (Same.new (o := .tup [V.int a, .int b, .int u]) hp2).trans (Same.new (o := .tup [V.int a, .int b, .int u]) hq2)
    obtain ⟨zs2, z1, z2, F⟩ := F.step (s2.trans w2) hr2 (C := A.TooMany) (.inl ⟨d2, _, w2 _ _ h2, w2 _ _ g2⟩) (by simp [cls19])
    refine ⟨f, zs2, _, rfl, rfl, z1, z2, ?_⟩
    generalize upd (upd (upd (upd H2 p2 (.tup [V.int a, .int b, .int u])) q2 (.tup [V.int a, .int b, .int u])) r2 (.tup [.ref x2, .bl true])) f (.lst (zs2 ++ [.ref r2])) = Hb2 at F ⊢
    obtain ⟨ys3, hf3⟩ := F.at_
    refine ⟨_, rfl, .inl ⟨rfl, _, SqL.of hf3⟩, _, rfl, (by show 1 ≤ 1000; decide), mk_err fun x3 d3 H3 _ _ s3 h3 g3 => ?_⟩
    refine ⟨_, rfl, (by show 1 ≤ 1000; decide), mk_err fun y3 c3 G3 _ _ v3 i3 j3 => ?_⟩
    refine ⟨y3, _, c3, _, _, rfl, xf_BadRule T, T.n_BadRule_word, i3, j3, rfl, _, rfl, rfl, (by show 2 ≤ sizeLine; decide), fun r3 hr3 => ?_⟩
    rw [decide_eq_true rfl]
    obtain ⟨zs3, z1, z2, F⟩ := F.step (s3.trans v3) hr3 (C := A.BadRule) (.inl ⟨d3, _, v3 _ _ h3, v3 _ _ g3⟩) (by simp [cls19])
    refine ⟨f, zs3, _, rfl, rfl, z1, z2, ?_⟩
    generalize upd (upd G3 r3 (.tup [.ref x3, .bl true])) f (.lst (zs3 ++ [.ref r3])) = Hb3 at F ⊢
    obtain ⟨ys4, hf4⟩ := F.at_
    refine ⟨_, rfl, .inl ⟨rfl, _, SqL.of hf4⟩, _, rfl, (by show 1 ≤ 1000; decide), mk_err fun x4 d4 H4 _ _ s4 h4 g4 => ?_⟩
    refine ⟨_, rfl, (by show 1 ≤ 1000; decide), mk_err fun y4 c4 G4 _ _ v4 i4 j4 => ?_⟩
    refine ⟨y4, _, c4, _, _, rfl, xf_Short T, T.n_Short_missing, i4, j4, rfl, _, rfl, rfl, (by show 2 ≤ sizeLine; decide), fun r4 hr4 => ?_⟩
    rw [decide_eq_true rfl]
    obtain ⟨zs4, z1, z2, F⟩ := F.step (s4.trans v4) hr4 (C := A.Short) (.inl ⟨d4, _, v4 _ _ h4, v4 _ _ g4⟩) (by simp [cls19])
    refine ⟨f, zs4, _, rfl, rfl, z1, z2, ?_⟩
    generalize upd (upd G4 r4 (.tup [.ref x4, .bl true])) f (.lst (zs4 ++ [.ref r4])) = Hb4 at F ⊢
    refine ⟨_, rfl, (by show 2 ≤ sizeLine; decide), fun t hpt => ⟨(by show 1 ≤ 1000; decide), mk_err fun x5 d5 H5 _ _ s5 h5 g5 => ?_⟩⟩
    have ht5 := s5 _ _ upd_same
    obtain ⟨ys5, hf5⟩ := F.at_
    have sn := Same.new (o := .tup [V.str n, .str "other"]) hpt
    refine ⟨_, rfl, .inl ⟨rfl, _, SqL.of (s5 _ _ (sn _ _ hf5))⟩, _, rfl, _, rfl, x5, _, d5, _, _, rfl, xf_Contradiction T, T.n_Contradiction_pair, h5, g5, rfl, _, rfl, (by show 2 ≤ sizeLine; decide), fun q5 hq5 => ?_⟩
    have w5 := Same.new (o := .tup [V.str n, .str "other"]) hq5
    refine eqP_same (d := .tuple [.str n, .str "other"]) (.tup (SqT.of (w5 _ _ ht5)) (.cons (.str _) (.cons (.str _) .nil))) (.tup (SqT.of upd_same) (.cons (.str _) (.cons (.str _) .nil))) rfl (Nat.le_of_ble_eq_true rfl) ⟨(by show 2 ≤ sizeLine; decide), fun r5 hr5 => ?_⟩
    obtain ⟨zs5, z1, z2, F⟩ := F.step (sn.trans (s5.trans w5)) hr5 (C := A.Contradiction) (.inl ⟨d5, _, w5 _ _ h5, w5 _ _ g5⟩) (by simp [cls19])
    refine ⟨f, zs5, _, rfl, rfl, z1, z2, ?_⟩
    generalize upd (upd (upd H5 q5 (.tup [V.str n, .str "other"])) r5 (.tup [.ref x5, .bl true])) f (.lst (zs5 ++ [.ref r5])) = Hb5 at F ⊢
    obtain ⟨ys6, hf6⟩ := F.at_
    refine ⟨_, rfl, .inl ⟨rfl, _, SqL.of hf6⟩, _, rfl, (by show 1 ≤ 1000; decide), mk_err fun x6 d6 H6 _ _ s6 h6 g6 => ?_⟩
    refine ⟨_, rfl, (by show 1 ≤ 1000; decide), mk_err fun y6 c6 G6 _ _ v6 i6 j6 => ?_⟩
    refine ⟨y6, _, c6, _, _, rfl, xf_Shut T, T.n_Shut_day, i6, j6, rfl, _, rfl, rfl, (by show 2 ≤ sizeLine; decide), fun r6 hr6 => ?_⟩
    rw [decide_eq_true rfl]
    obtain ⟨zs6, z1, z2, F⟩ := F.step (s6.trans v6) hr6 (C := A.Shut) (.inl ⟨d6, _, v6 _ _ h6, v6 _ _ g6⟩) (by simp [cls19])
    refine ⟨f, zs6, _, rfl, rfl, z1, z2, ?_⟩
    generalize upd (upd G6 r6 (.tup [.ref x6, .bl true])) f (.lst (zs6 ++ [.ref r6])) = Hb6 at F ⊢
    obtain ⟨ys7, hf7⟩ := F.at_
    refine ⟨_, rfl, .inl ⟨rfl, _, SqL.of hf7⟩, _, rfl, (by show 1 ≤ 1000; decide), mk_err fun x7 d7 H7 _ _ s7 h7 g7 => ?_⟩
    refine ⟨_, rfl, (by show 1 ≤ 1000; decide), mk_err fun y7 c7 G7 _ _ v7 i7 j7 => ?_⟩
    refine ⟨y7, _, c7, _, _, rfl, xf_NotClosed T, T.n_NotClosed_day, i7, j7, rfl, _, rfl, rfl, (by show 2 ≤ sizeLine; decide), fun r7 hr7 => ?_⟩
    rw [decide_eq_true rfl]
    obtain ⟨zs7, z1, z2, F⟩ := F.step (s7.trans v7) hr7 (C := A.NotClosed) (.inl ⟨d7, _, v7 _ _ h7, v7 _ _ g7⟩) (by simp [cls19])
    refine ⟨f, zs7, _, rfl, rfl, z1, z2, ?_⟩
    generalize upd (upd G7 r7 (.tup [.ref x7, .bl true])) f (.lst (zs7 ++ [.ref r7])) = Hb7 at F ⊢
    obtain ⟨ys8, hf8⟩ := F.at_
    refine ⟨_, rfl, .inl ⟨rfl, _, SqL.of hf8⟩, _, rfl, _, rfl, (by show 2 ≤ sizeLine; decide), fun t hpt => ⟨(by show 1 ≤ 1000; decide), mk_err fun x8 d8 H8 _ _ s8 h8 g8 => ?_⟩⟩
    have sn := Same.new (o := .lst [V.int u, .int a]) hpt
    refine ⟨_, rfl, _, rfl, (by show 2 ≤ sizeLine; decide), fun t' hpt' => ⟨(by show 1 ≤ 1000; decide), mk_err fun y8 c8 G8 _ _ v8 i8 j8 => ?_⟩⟩
    have sn' := Same.new (o := .lst [V.int u, .int a]) hpt'
    have ht' := v8 _ _ upd_same
    refine ⟨y8, _, c8, _, _, rfl, xf_Unfit T, T.n_Unfit_factors, i8, j8, rfl, _, rfl, _, rfl, (by show 2 ≤ sizeLine; decide), fun q8 hq8 => ?_⟩
    have w8 := Same.new (o := .lst [V.int u, .int a]) hq8
    refine eqP_same (d := .list [.int u, .int a]) (.lst (SqL.of (w8 _ _ ht')) (.cons (.int _) (.cons (.int _) .nil))) (.lst (SqL.of upd_same) (.cons (.int _) (.cons (.int _) .nil))) rfl (Nat.le_of_ble_eq_true rfl) ⟨(by show 2 ≤ sizeLine; decide), fun r8 hr8 => ?_⟩
    have vv := sn'.trans (v8.trans w8)
    obtain ⟨zs8, z1, z2, F⟩ := F.step (sn.trans (s8.trans vv)) hr8 (C := A.Unfit) (.inl ⟨d8, _, vv _ _ h8, vv _ _ g8⟩) (by simp [cls19])
    refine ⟨f, zs8, _, rfl, rfl, z1, z2, _, rfl, ?_⟩
    obtain ⟨ys, f0, s0, hf, hl, hg⟩ := F
    exact k f ys _ s0 f0 hf hl hg
end
section
variable {P : Program} {w : World} {K : PySem.W.Frag} {mg : Str → Option Value} {base : Heap} {A : Ad}
theorem exc_all (T : Txt K mg A) : ∀ C ∈ cls19 A, ExcC K C := by
  intro C hC
  simp only [cls19, List.mem_cons, List.not_mem_nil, or_false] at hC
  rcases hC with rfl | rfl | rfl | rfl | rfl | rfl | rfl | rfl | rfl | rfl | rfl | rfl | rfl | rfl | rfl | rfl | rfl | rfl | rfl
  · exact excC_BadEntry T
  · exact excC_BadName T
  · exact excC_BadRule T
  · exact excC_Contradiction T
  · exact excC_NameTaken T
  · exact excC_Negative T
  · exact excC_NoEntry T
  · exact excC_NoPrice T
  · exact excC_NoRatio T
  · exact excC_NotClosed T
  · exact excC_NotEnough T
  · exact excC_NotPlain T
  · exact excC_NotPossible T
  · exact excC_NotTold T
  · exact excC_Short T
  · exact excC_Shut T
  · exact excC_TooMany T
  · exact excC_Unfit T
  · exact excC_UnknownName T
theorem kit_all (T : Txt K mg A) {C : Addr} (hC : C ∈ cls19 A) : (cls19 A).count C = 1 ∧ (∀ D ∈ cls19 A, PySem.W.kitOne K (.ref C) (.ref D) = some (C == D)) ∧ PySem.W.kitOne K (.ref C) (.ref A.CostError) = some true ∧ PySem.W.kitOne K (.ref C) (.type "ValueError") = some true := by
  have h := T.kit_Unfit
  unfold kitAll at h
  have h := List.all_eq_true.mp h C hC
  simp only [Bool.and_eq_true, beq_iff_eq, List.all_eq_true] at h
  exact ⟨h.1.1.1, h.1.1.2, h.1.2, h.2⟩
theorem cnt_eq (C : Addr) : ∀ l : List Addr, (l.map fun D => C == D).count true = l.count C
  | [] => rfl
  | D :: l => by
    have h : (C == D) = (D == C) := by
      rw [Bool.eq_iff_iff, beq_iff_eq, beq_iff_eq]
      exact eq_comm
    rw [List.map_cons, List.count_cons, List.count_cons, cnt_eq C l, h]
    cases D == C <;> rfl
def spClasses (A : Ad) : Sp := fun vs H Q _ => ∃ e C, vs = [.ref e] ∧ ErrAt H e C ∧ C ∈ cls19 A ∧ ∀ H', Same H H' → Q (.int 1) H'
theorem ErrAt.same {H H' : Hp} {e C : Addr} (h : ErrAt H e C) (s : Same H H') : ErrAt H' e C := by
  rcases h with ⟨d, fs, h1, h2⟩ | h1
  · exact .inl ⟨d, fs, s _ _ h1, s _ _ h2⟩
  · exact .inr (s _ _ h1)
theorem ok_l_classes (T : Txt K mg A) : FnOk P w K mg base CX0 1 A.l_classes A.fd_l_classes P_l_classes (spClasses A) := by
  refine T.F_l_classes.ok sc_l_classes (fun vs H Q E h => ?_) (fun cdv Ar outer s H vs Q E hr h => ?_)
  · obtain ⟨e, C, rfl, _⟩ := h
    rfl
  · obtain ⟨e, C, rfl, hE, hC, k⟩ := h
    have X := exc_all T C hC
    obtain ⟨k1, k2, _, _⟩ := kit_all T hC
    refine ⟨_, (pss_cons (ps_set (i := 1) sc_l_classes.nd rfl (Or.inl rfl) (pe_lst (pa_cons (pe_callB (call_isV) (by rfl) T.z_isinstance (by decide +kernel) (pa_cons (pv 0) (pa_cons (pe_glob (v := .ref A.BadEntry) (by rfl) T.g_BadEntry rfl) pa_nil))) (pa_cons (pe_callB (call_isV) (by rfl) T.z_isinstance (by decide +kernel) (pa_cons (pv 0) (pa_cons (pe_glob (v := .ref A.BadName) (by rfl) T.g_BadName rfl) pa_nil))) (pa_cons (pe_callB (call_isV) (by rfl) T.z_isinstance (by decide +kernel) (pa_cons (pv 0) (pa_cons (pe_glob (v := .ref A.BadRule) (by rfl) T.g_BadRule rfl) pa_nil))) pa_nil)))))
      (pss_cons (ps_set (i := 2) sc_l_classes.nd rfl (Or.inl rfl) (pe_lst (pa_cons (pe_callB (call_isV) (by rfl) T.z_isinstance (by decide +kernel) (pa_cons (pv 0) (pa_cons (pe_glob (v := .ref A.Contradiction) (by rfl) T.g_Contradiction rfl) pa_nil))) (pa_cons (pe_callB (call_isV) (by rfl) T.z_isinstance (by decide +kernel) (pa_cons (pv 0) (pa_cons (pe_glob (v := .ref A.NameTaken) (by rfl) T.g_NameTaken rfl) pa_nil))) (pa_cons (pe_callB (call_isV) (by rfl) T.z_isinstance (by decide +kernel) (pa_cons (pv 0) (pa_cons (pe_glob (v := .ref A.Negative) (by rfl) T.g_Negative rfl) pa_nil))) pa_nil)))))
      (pss_cons (ps_set (i := 3) sc_l_classes.nd rfl (Or.inl rfl) (pe_lst (pa_cons (pe_callB (call_isV) (by rfl) T.z_isinstance (by decide +kernel) (pa_cons (pv 0) (pa_cons (pe_glob (v := .ref A.NoEntry) (by rfl) T.g_NoEntry rfl) pa_nil))) (pa_cons (pe_callB (call_isV) (by rfl) T.z_isinstance (by decide +kernel) (pa_cons (pv 0) (pa_cons (pe_glob (v := .ref A.NoPrice) (by rfl) T.g_NoPrice rfl) pa_nil))) (pa_cons (pe_callB (call_isV) (by rfl) T.z_isinstance (by decide +kernel) (pa_cons (pv 0) (pa_cons (pe_glob (v := .ref A.NoRatio) (by rfl) T.g_NoRatio rfl) pa_nil))) pa_nil)))))
      (pss_cons (ps_set (i := 4) sc_l_classes.nd rfl (Or.inl rfl) (pe_lst (pa_cons (pe_callB (call_isV) (by rfl) T.z_isinstance (by decide +kernel) (pa_cons (pv 0) (pa_cons (pe_glob (v := .ref A.NotClosed) (by rfl) T.g_NotClosed rfl) pa_nil))) (pa_cons (pe_callB (call_isV) (by rfl) T.z_isinstance (by decide +kernel) (pa_cons (pv 0) (pa_cons (pe_glob (v := .ref A.NotEnough) (by rfl) T.g_NotEnough rfl) pa_nil))) (pa_cons (pe_callB (call_isV) (by rfl) T.z_isinstance (by decide +kernel) (pa_cons (pv 0) (pa_cons (pe_glob (v := .ref A.NotPlain) (by rfl) T.g_NotPlain rfl) pa_nil))) pa_nil)))))
      (pss_cons (ps_set (i := 5) sc_l_classes.nd rfl (Or.inl rfl) (pe_lst (pa_cons (pe_callB (call_isV) (by rfl) T.z_isinstance (by decide +kernel) (pa_cons (pv 0) (pa_cons (pe_glob (v := .ref A.NotPossible) (by rfl) T.g_NotPossible rfl) pa_nil))) (pa_cons (pe_callB (call_isV) (by rfl) T.z_isinstance (by decide +kernel) (pa_cons (pv 0) (pa_cons (pe_glob (v := .ref A.NotTold) (by rfl) T.g_NotTold rfl) pa_nil))) (pa_cons (pe_callB (call_isV) (by rfl) T.z_isinstance (by decide +kernel) (pa_cons (pv 0) (pa_cons (pe_glob (v := .ref A.Short) (by rfl) T.g_Short rfl) pa_nil))) pa_nil)))))
      (pss_cons (ps_set (i := 6) sc_l_classes.nd rfl (Or.inl rfl) (pe_lst (pa_cons (pe_callB (call_isV) (by rfl) T.z_isinstance (by decide +kernel) (pa_cons (pv 0) (pa_cons (pe_glob (v := .ref A.Shut) (by rfl) T.g_Shut rfl) pa_nil))) (pa_cons (pe_callB (call_isV) (by rfl) T.z_isinstance (by decide +kernel) (pa_cons (pv 0) (pa_cons (pe_glob (v := .ref A.TooMany) (by rfl) T.g_TooMany rfl) pa_nil))) (pa_cons (pe_callB (call_isV) (by rfl) T.z_isinstance (by decide +kernel) (pa_cons (pv 0) (pa_cons (pe_glob (v := .ref A.Unfit) (by rfl) T.g_Unfit rfl) pa_nil))) pa_nil)))))
      (pss_cons (ps_set (i := 7) sc_l_classes.nd rfl (Or.inl rfl) (pe_op op_cat (pe_op op_cat (pe_op op_cat (pv 1) (pv 2)) (pv 3)) (pv 4)))
      (pss_one (ps_ret (pe_op op_add (pe_callB (cr_sumB rfl) (by rfl) T.z_sum (by decide +kernel) (pa_cons (pe_op op_cat (pe_op op_cat (pv 7) (pv 5)) (pv 6)) pa_nil)) (pe_callTy call_int1 (by rfl) T.z_int (by decide +kernel) (pa_cons (pe_callB (call_isV) (by rfl) T.z_isinstance (by decide +kernel) (pa_cons (pv 0) (pa_cons (pe_glob (v := .ref A.UnknownName) (by rfl) T.g_UnknownName rfl) pa_nil))) pa_nil)))))))))))), ?_⟩
    have b0 := k2 A.BadEntry (by simp [cls19])
    have b1 := k2 A.BadName (by simp [cls19])
    have b2 := k2 A.BadRule (by simp [cls19])
    have b3 := k2 A.Contradiction (by simp [cls19])
    have b4 := k2 A.NameTaken (by simp [cls19])
    have b5 := k2 A.Negative (by simp [cls19])
    have b6 := k2 A.NoEntry (by simp [cls19])
    have b7 := k2 A.NoPrice (by simp [cls19])
    have b8 := k2 A.NoRatio (by simp [cls19])
    have b9 := k2 A.NotClosed (by simp [cls19])
    have b10 := k2 A.NotEnough (by simp [cls19])
    have b11 := k2 A.NotPlain (by simp [cls19])
    have b12 := k2 A.NotPossible (by simp [cls19])
    have b13 := k2 A.NotTold (by simp [cls19])
    have b14 := k2 A.Short (by simp [cls19])
    have b15 := k2 A.Shut (by simp [cls19])
    have b16 := k2 A.TooMany (by simp [cls19])
    have b17 := k2 A.Unfit (by simp [cls19])
    have b18 := k2 A.UnknownName (by simp [cls19])
    have E0' := hE
    refine ⟨_, rfl, e, C, _, _, _, rfl, E0', X, (fun _ r => r), b0, _, rfl, e, C, _, _, _, rfl, E0', X, (fun _ r => r), b1, _, rfl, e, C, _, _, _, rfl, E0', X, (fun _ r => r), b2, (by show 3 ≤ sizeLine; decide), fun p0 hp0 => ?_⟩
    have s0 := Same.new (o := .lst [V.bl (C == A.BadEntry), V.bl (C == A.BadName), V.bl (C == A.BadRule)]) hp0
    have E1' := E0'.same s0
    refine ⟨_, rfl, e, C, _, _, _, rfl, E1', X, (fun _ r => r), b3, _, rfl, e, C, _, _, _, rfl, E1', X, (fun _ r => r), b4, _, rfl, e, C, _, _, _, rfl, E1', X, (fun _ r => r), b5, (by show 3 ≤ sizeLine; decide), fun p1 hp1 => ?_⟩
    have s1 := Same.new (o := .lst [V.bl (C == A.Contradiction), V.bl (C == A.NameTaken), V.bl (C == A.Negative)]) hp1
    have E2' := E1'.same s1
    refine ⟨_, rfl, e, C, _, _, _, rfl, E2', X, (fun _ r => r), b6, _, rfl, e, C, _, _, _, rfl, E2', X, (fun _ r => r), b7, _, rfl, e, C, _, _, _, rfl, E2', X, (fun _ r => r), b8, (by show 3 ≤ sizeLine; decide), fun p2 hp2 => ?_⟩
    have s2 := Same.new (o := .lst [V.bl (C == A.NoEntry), V.bl (C == A.NoPrice), V.bl (C == A.NoRatio)]) hp2
    have E3' := E2'.same s2
    refine ⟨_, rfl, e, C, _, _, _, rfl, E3', X, (fun _ r => r), b9, _, rfl, e, C, _, _, _, rfl, E3', X, (fun _ r => r), b10, _, rfl, e, C, _, _, _, rfl, E3', X, (fun _ r => r), b11, (by show 3 ≤ sizeLine; decide), fun p3 hp3 => ?_⟩
    have s3 := Same.new (o := .lst [V.bl (C == A.NotClosed), V.bl (C == A.NotEnough), V.bl (C == A.NotPlain)]) hp3
    have E4' := E3'.same s3
    refine ⟨_, rfl, e, C, _, _, _, rfl, E4', X, (fun _ r => r), b12, _, rfl, e, C, _, _, _, rfl, E4', X, (fun _ r => r), b13, _, rfl, e, C, _, _, _, rfl, E4', X, (fun _ r => r), b14, (by show 3 ≤ sizeLine; decide), fun p4 hp4 => ?_⟩
    have s4 := Same.new (o := .lst [V.bl (C == A.NotPossible), V.bl (C == A.NotTold), V.bl (C == A.Short)]) hp4
    have E5' := E4'.same s4
    refine ⟨_, rfl, e, C, _, _, _, rfl, E5', X, (fun _ r => r), b15, _, rfl, e, C, _, _, _, rfl, E5', X, (fun _ r => r), b16, _, rfl, e, C, _, _, _, rfl, E5', X, (fun _ r => r), b17, (by show 3 ≤ sizeLine; decide), fun p5 hp5 => ?_⟩
    have s5 := Same.new (o := .lst [V.bl (C == A.Shut), V.bl (C == A.TooMany), V.bl (C == A.Unfit)]) hp5
    have E6' := E5'.same s5
    have c0 := (s5 _ _ (s4 _ _ (s3 _ _ (s2 _ _ (s1 _ _ (upd_same))))) : _ = some (HO.lst [V.bl (C == A.BadEntry), V.bl (C == A.BadName), V.bl (C == A.BadRule)]))
    have c1 := (s5 _ _ (s4 _ _ (s3 _ _ (s2 _ _ (upd_same)))) : _ = some (HO.lst [V.bl (C == A.Contradiction), V.bl (C == A.NameTaken), V.bl (C == A.Negative)]))
    have c2 := (s5 _ _ (s4 _ _ (s3 _ _ (upd_same))) : _ = some (HO.lst [V.bl (C == A.NoEntry), V.bl (C == A.NoPrice), V.bl (C == A.NoRatio)]))
    have c3 := (s5 _ _ (s4 _ _ (upd_same)) : _ = some (HO.lst [V.bl (C == A.NotClosed), V.bl (C == A.NotEnough), V.bl (C == A.NotPlain)]))
    have c4 := (s5 _ _ (upd_same) : _ = some (HO.lst [V.bl (C == A.NotPossible), V.bl (C == A.NotTold), V.bl (C == A.Short)]))
    have z18 : 18 ≤ sizeLine := by decide
    refine ⟨_, rfl, _, rfl, p0, p1, _, _, rfl, rfl, c0, c1, (by show 3 + 3 ≤ sizeLine; decide), fun u1 hu1 => ?_⟩
    have w1 := Same.new (o := .lst ([V.bl (C == A.BadEntry), .bl (C == A.BadName), .bl (C == A.BadRule)] ++ [V.bl (C == A.Contradiction), .bl (C == A.NameTaken), .bl (C == A.Negative)])) hu1
    refine ⟨_, rfl, u1, p2, _, _, rfl, rfl, upd_same, w1 _ _ c2, (by show 6 + 3 ≤ sizeLine; decide), fun u2 hu2 => ?_⟩
    have w2 := Same.new (o := .lst ([V.bl (C == A.BadEntry), .bl (C == A.BadName), .bl (C == A.BadRule)] ++ [V.bl (C == A.Contradiction), .bl (C == A.NameTaken), .bl (C == A.Negative)] ++ [V.bl (C == A.NoEntry), .bl (C == A.NoPrice), .bl (C == A.NoRatio)])) hu2
    refine ⟨_, rfl, u2, p3, _, _, rfl, rfl, upd_same, w2 _ _ (w1 _ _ c3), (by show 9 + 3 ≤ sizeLine; decide), fun u3 hu3 => ?_⟩
    have w3 := Same.new (o := .lst ([V.bl (C == A.BadEntry), .bl (C == A.BadName), .bl (C == A.BadRule)] ++ [V.bl (C == A.Contradiction), .bl (C == A.NameTaken), .bl (C == A.Negative)] ++ [V.bl (C == A.NoEntry), .bl (C == A.NoPrice), .bl (C == A.NoRatio)] ++ [V.bl (C == A.NotClosed), .bl (C == A.NotEnough), .bl (C == A.NotPlain)])) hu3
    have w13 := w1.trans (w2.trans w3)
    refine ⟨_, rfl, _, rfl, u3, p4, _, _, rfl, rfl, upd_same, w13 _ _ c4, (by show 12 + 3 ≤ sizeLine; decide), fun u4 hu4 => ?_⟩
    have w4 := Same.new (o := .lst ([V.bl (C == A.BadEntry), .bl (C == A.BadName), .bl (C == A.BadRule)] ++ [V.bl (C == A.Contradiction), .bl (C == A.NameTaken), .bl (C == A.Negative)] ++ [V.bl (C == A.NoEntry), .bl (C == A.NoPrice), .bl (C == A.NoRatio)] ++ [V.bl (C == A.NotClosed), .bl (C == A.NotEnough), .bl (C == A.NotPlain)] ++ [V.bl (C == A.NotPossible), .bl (C == A.NotTold), .bl (C == A.Short)])) hu4
    have w14 := w13.trans w4
    refine ⟨_, rfl, u4, p5, _, _, rfl, rfl, upd_same, w14 _ _ upd_same, (by show 15 + 3 ≤ sizeLine; decide), fun u5 hu5 => ?_⟩
    refine ⟨u5, ((cls19 A).take 18).map (fun D => C == D), rfl, SqL.of upd_same, (by show 18 ≤ 1000000; decide), ?_⟩
    have w5 := Same.new (o := .lst ([V.bl (C == A.BadEntry), .bl (C == A.BadName), .bl (C == A.BadRule)] ++ [V.bl (C == A.Contradiction), .bl (C == A.NameTaken), .bl (C == A.Negative)] ++ [V.bl (C == A.NoEntry), .bl (C == A.NoPrice), .bl (C == A.NoRatio)] ++ [V.bl (C == A.NotClosed), .bl (C == A.NotEnough), .bl (C == A.NotPlain)] ++ [V.bl (C == A.NotPossible), .bl (C == A.NotTold), .bl (C == A.Short)] ++ [V.bl (C == A.Shut), .bl (C == A.TooMany), .bl (C == A.Unfit)])) hu5
    have sAll := s0.trans (s1.trans (s2.trans (s3.trans (s4.trans (s5.trans (w14.trans w5))))))
    refine ⟨_, rfl, e, C, _, _, _, rfl, hE.same sAll, X, (fun _ r => r), b18, .inr ⟨_, rfl, _, _, rfl, rfl, ?_⟩⟩
    have e1 : (((((cls19 A).take 18).map (fun D => C == D)).count true : Nat) : Int) + (if (C == A.UnknownName) = true then 1 else 0) = 1 := by
      have e2 : (cls19 A).count C = (((cls19 A).take 18) ++ [A.UnknownName]).count C := rfl
      rw [e2, List.count_append, ← cnt_eq, ← cnt_eq] at k1
      generalize (((cls19 A).take 18).map (fun D => C == D)).count true = m at k1 ⊢
      by_cases h : (C == A.UnknownName) = true
      · rw [if_pos h]
        rw [List.map_singleton, h] at k1
        have k1 : m + 1 = 1 := k1
        omega
      · rw [if_neg h]
        rw [List.map_singleton, (by simpa using h : (C == A.UnknownName) = false)] at k1
        have k1 : m + 0 = 1 := k1
        omega
    have kk := k _ sAll
    rw [← e1] at kk
    exact kk
theorem ok_f_law (T : Txt K mg A) : FnOk P w K mg base CX0 6 A.f_law A.fd_f_law P_f_law (spLaw K) := by
  refine T.F_f_law.ok sc_f_law (fun vs H Q E h => ?_) (fun cdv Ar outer s H vs Q E hr h => ?_)
  · obtain ⟨a, ns, rfl, _⟩ := h
    rfl
  · obtain ⟨a, ns, rfl, hs, hl, k⟩ := h
    refine ⟨_, (pss_cons (ps_set (i := 1) sc_f_law.nd rfl (Or.inl rfl) (pe_call (ok_l_bag T) (hr.mono (by decide)) (by rfl) T.g__law_bag T.F_l_bag.kp T.b_l_bag .nil pass0 (pa_cons (pv 0) pa_nil)))
      (pss_cons (ps_set (i := 2) sc_f_law.nd rfl (Or.inl rfl) (pe_ix ix_list (pe_call (ok_l_names T) (hr.mono (by decide)) (by rfl) T.g__law_names T.F_l_names.kp T.b_l_names .nil pass0 (pa_cons (pv 1) (pa_cons pe_int (pa_cons (pe_lst (pa_cons pe_str pa_nil)) pa_nil)))) pe_int (fun _ _ => rfl)))
      (pss_cons (ps_set (i := 3) sc_f_law.nd rfl (Or.inl rfl) (pe_call (ok_l_draw T) (hr.mono (by decide)) (by rfl) T.g__law_draw T.F_l_draw.kp T.b_l_draw .nil pass0 (pa_cons (pv 1) (pa_cons pe_int pa_nil))))
      (pss_cons (ps_set (i := 4) sc_f_law.nd rfl (Or.inl rfl) (pe_call (ok_l_draw T) (hr.mono (by decide)) (by rfl) T.g__law_draw T.F_l_draw.kp T.b_l_draw .nil pass0 (pa_cons (pv 1) (pa_cons pe_int pa_nil))))
      (pss_cons (ps_set (i := 5) sc_f_law.nd rfl (Or.inl rfl) (pe_op op_add pe_int (pe_call (ok_l_draw T) (hr.mono (by decide)) (by rfl) T.g__law_draw T.F_l_draw.kp T.b_l_draw .nil pass0 (pa_cons (pv 1) (pa_cons pe_int pa_nil)))))
      (pss_cons (ps_set (i := 6) sc_f_law.nd rfl (Or.inl rfl) (pe_op op_cat (pe_call (ok_l_named T) (hr.mono (by decide)) (by rfl) T.g__law_named T.F_l_named.kp T.b_l_named .nil pass0 (pa_cons (pv 2) pa_nil)) (pe_call (ok_l_placed T) (hr.mono (by decide)) (by rfl) T.g__law_placed T.F_l_placed.kp T.b_l_placed .nil pass0 (pa_cons (pv 3) (pa_cons (pv 4) pa_nil)))))
      (pss_cons (ps_set (i := 6) sc_f_law.nd rfl (Or.inl rfl) (pe_op op_cat (pv 6) (pe_call (ok_l_others T) (hr.mono (by decide)) (by rfl) T.g__law_others T.F_l_others.kp T.b_l_others .nil pass0 (pa_cons (pv 3) (pa_cons (pv 4) (pa_cons (pv 5) (pa_cons (pv 2) pa_nil)))))))
      (pss_cons (ps_g (ps_for PassesOwn.never rfl (pi_list (pv 6)) (pg_tup (n := 2) rfl (pgs_cons (pg_name (i := 7) sc_f_law.nd rfl (Or.inl rfl)) (pgs_cons (pg_name (i := 8) sc_f_law.nd rfl (Or.inl rfl)) pgs_nil))) (pss_cons (ps_if (PW.pt (pw_or (pt_not (pt_val (pv 8))) (pw_or1 (pt_cmpR op_ne (pe_call (ok_l_classes T) (hr.mono (by decide)) (by rfl) T.g__law_classes T.F_l_classes.kp T.b_l_classes .nil pass0 (pa_cons (pv 7) pa_nil)) pe_int (nomark _))))) (pss_one (ps_ret pe_bl)) pss_nil)
      (pss_one (ps_if (PW.pt (pw_or (pt_not (pt_val (pe_callB (call_isV) (by rfl) T.z_isinstance (by decide +kernel) (pa_cons (pv 7) (pa_cons (pe_glob (v := .ref A.CostError) (by rfl) T.g_CostError rfl) pa_nil))))) (pw_or1 (pt_not (pt_val (pe_callB (call_isV) (by rfl) T.z_isinstance (by decide +kernel) (pa_cons (pv 7) (pa_cons (pe_bltn (v := .ty "ValueError") (by rfl) T.z_ValueError (by decide +kernel) rfl) pa_nil)))))))) (pss_one (ps_ret pe_bl)) pss_nil)))))
      (pss_one (ps_ret (pe_cmpR op_eq (pe_callB call_len_seq (by rfl) T.z_len (by decide +kernel) (pa_cons (pv 6) pa_nil)) pe_int (nomark _)))))))))))), ?_⟩
    refine ⟨_, rfl, a, ns, rfl, hs, fun g l H1 s1 ng nl B1 => ?_⟩
    refine ⟨_, rfl, (by show 1 ≤ sizeLine; decide), fun q hq => ?_⟩
    have B2 := B1.new (o := .lst [V.str "late"]) hq
    refine ⟨g, l, q, 1, [[108, 97, 116, 101]], rfl, B2, (B1.ne hq).1, by decide, by decide, upd_same, by decide, by decide, by decide, fun p nm H2 np hp hnl _ _ B3 K3 => ?_⟩
    match nm, hnl with
    | [n], _ =>
      refine ⟨p, _, _, vS n, rfl, rfl, SqL.of hp, rfl, ?_⟩
      refine ⟨_, rfl, g, l, _, rfl, B3, by decide, lt_pow (a := 20) (by decide) (by decide), fun day H3 d0 d1 B4 K4 => ?_⟩
      refine ⟨_, rfl, g, l, _, rfl, B4, by decide, lt_pow (a := 20) (by decide) (by decide), fun num H4 m0 m1 B5 K5 => ?_⟩
      refine ⟨_, rfl, g, l, _, rfl, B5, by decide, lt_pow (a := 20) (by decide) (by decide), fun un H5 u0 u1 B6 K6 => ?_⟩
      refine ⟨_, _, rfl, rfl, ?_⟩
      refine ⟨_, rfl, ⟨_, rfl⟩, fun p1 y1 H6 s6 _ hp1 hy1 G1 => ?_⟩
      refine ⟨_, rfl, _, rfl, ⟨_, _, rfl⟩, fun p2 y2 H7 s7 _ hp2 hy2 G2 => ?_⟩
      refine ⟨p1, p2, y1, y2, rfl, rfl, s7 _ _ hp1, hp2, ?_, fun p3 hp3 => ?_⟩
      · rw [hy1, hy2]
        decide
      have w3 := Same.new (o := .lst (y1 ++ y2)) hp3
      refine ⟨_, rfl, _, rfl, _, rfl, _, rfl, _, rfl, ⟨_, _, _, _, rfl⟩, fun p4 y4 H8 s8 _ hp4 hy4 G4 => ?_⟩
      refine ⟨p3, p4, y1 ++ y2, y4, rfl, rfl, s8 _ _ upd_same, hp4, ?_, fun p5 hp5 => ?_⟩
      · rw [List.length_append, hy1, hy2, hy4]
        decide
      have w5 := Same.new (o := .lst (y1 ++ y2 ++ y4)) hp5
      have GA : ∀ y ∈ y1 ++ y2 ++ y4, Good A (upd H8 p5 (.lst (y1 ++ y2 ++ y4))) y := fun y hy => by
        rcases List.mem_append.mp hy with hy | hy
        · rcases List.mem_append.mp hy with hy | hy
          · exact (G1 y hy).same (s7.trans (w3.trans (s8.trans w5)))
          · exact (G2 y hy).same (w3.trans (s8.trans w5))
        · exact (G4 y hy).same w5
      have hlen : (y1 ++ y2 ++ y4).length = 19 := by rw [List.length_append, List.length_append, hy1, hy2, hy4]
      generalize hY : y1 ++ y2 ++ y4 = ys at *
      generalize hHa : upd H8 p5 (.lst ys) = Ha at *
      have hp : Ha p5 = some (.lst ys) := by rw [← hHa]; exact upd_same
      refine ⟨⟨_, rfl, p5, rfl, ⟨_, SqL.of hp⟩, for_list (xs := ys) (fun i σ' H' => Wd (∃ o7 o8 : Option V, Same Ha H' ∧ σ' = [some (.ref a), some (.ref g), some (vS n), some (.int day), some (.int num), some (.int (1 + un)), some (.ref p5), o7, o8])) ⟨none, none, fun _ _ h => h, rfl⟩ ?_ ?_ ?_⟩⟩
      · rintro i σ' H' _ ⟨o7, o8, sm, rfl⟩
        exact SqL.of (sm _ _ hp)
      · rintro i x σ' H' hx ⟨o7, o8, sm, rfl⟩
        obtain ⟨t, e, C, rfl, ht, hE, hC⟩ := (GA x (List.mem_of_getElem? hx)).same sm
        have X := exc_all T C hC
        obtain ⟨_, _, k3, k4⟩ := kit_all T hC
        refine ⟨t, _, rfl, SqT.of ht, rfl, _, _, rfl, _, _, rfl, rfl, _, rfl, _, rfl, iteF ⟨_, rfl, e, C, rfl, hE, hC, fun H2 s2 => ⟨rfl, _, rfl, iteF ?_⟩⟩⟩
        have hE2 := hE.same s2
        refine ⟨_, rfl, e, C, _, _, _, rfl, hE2, X, (fun _ r => r), k3, _, rfl, iteF ?_⟩
        refine ⟨_, rfl, e, C, _, _, _, rfl, hE2, X, (fun _ r => r), k4, _, rfl, iteF ?_⟩
        exact ⟨_, _, sm.trans s2, rfl⟩
      · rintro σ' H' ⟨o7, o8, sm, rfl⟩
        refine ⟨_, rfl, p5, ys, rfl, .inl (SqL.of (sm _ _ hp)), rfl, ?_⟩
        have := k H'
        rw [hlen]
        exact this
end

theorem all_mk {l : PySem.W.OpenLaw} {w : World} {K : PySem.W.Frag} {h : Heap} {mg : Str → Option Value} {fa a_CostError a_NoRatio a_BadName a_NoPrice a_Negative a_BadEntry a_NoEntry a_BadRule a_Short a_NameTaken a_UnknownName a_NotEnough a_TooMany a_Contradiction a_NotPlain a_NotPossible a_Shut a_NotClosed a_NotTold a_Unfit a_m_BadName_init a_m_NoPrice_init a_m_Negative_init a_m_BadEntry_init a_m_NoEntry_init a_m_BadRule_init a_m_Short_init a_m_NameTaken_init a_m_UnknownName_init a_m_NotEnough_init a_m_TooMany_init a_m_Contradiction_init a_m_NotPlain_init a_m_Shut_init a_m_NotClosed_init a_m_Unfit_init a_l_bag a_l_draw a_l_names a_l_named a_l_placed a_l_others a_l_classes a_f_law : Addr} (X : K.In h) (G : h.Ns mainGlobals mg) (hfa : mg "law" = some (.ref fa))
    {od_m_BadName_init : Option Addr} {an_m_BadName_init : Option Addr} {sl_m_BadName_init : Array (Option Value)} {oc_m_BadName_init : Value} {kV_m_BadName_init : Value} {dc_m_BadName_init : Value} {pm_m_BadName_init : Value} {cd_m_BadName_init : Value} {ct_m_BadName_init : Value} {od_m_NoPrice_init : Option Addr} {an_m_NoPrice_init : Option Addr} {sl_m_NoPrice_init : Array (Option Value)} {oc_m_NoPrice_init : Value} {kV_m_NoPrice_init : Value} {dc_m_NoPrice_init : Value} {pm_m_NoPrice_init : Value} {cd_m_NoPrice_init : Value} {ct_m_NoPrice_init : Value} {od_m_Negative_init : Option Addr} {an_m_Negative_init : Option Addr} {sl_m_Negative_init : Array (Option Value)} {oc_m_Negative_init : Value} {kV_m_Negative_init : Value} {dc_m_Negative_init : Value} {pm_m_Negative_init : Value} {cd_m_Negative_init : Value} {ct_m_Negative_init : Value} {od_m_BadEntry_init : Option Addr} {an_m_BadEntry_init : Option Addr} {sl_m_BadEntry_init : Array (Option Value)} {oc_m_BadEntry_init : Value} {kV_m_BadEntry_init : Value} {dc_m_BadEntry_init : Value} {pm_m_BadEntry_init : Value} {cd_m_BadEntry_init : Value} {ct_m_BadEntry_init : Value} {od_m_NoEntry_init : Option Addr} {an_m_NoEntry_init : Option Addr} {sl_m_NoEntry_init : Array (Option Value)} {oc_m_NoEntry_init : Value} {kV_m_NoEntry_init : Value} {dc_m_NoEntry_init : Value} {pm_m_NoEntry_init : Value} {cd_m_NoEntry_init : Value} {ct_m_NoEntry_init : Value} {od_m_BadRule_init : Option Addr} {an_m_BadRule_init : Option Addr} {sl_m_BadRule_init : Array (Option Value)} {oc_m_BadRule_init : Value} {kV_m_BadRule_init : Value} {dc_m_BadRule_init : Value} {pm_m_BadRule_init : Value} {cd_m_BadRule_init : Value} {ct_m_BadRule_init : Value} {od_m_Short_init : Option Addr} {an_m_Short_init : Option Addr} {sl_m_Short_init : Array (Option Value)} {oc_m_Short_init : Value} {kV_m_Short_init : Value} {dc_m_Short_init : Value} {pm_m_Short_init : Value} {cd_m_Short_init : Value} {ct_m_Short_init : Value} {od_m_NameTaken_init : Option Addr} {an_m_NameTaken_init : Option Addr} {sl_m_NameTaken_init : Array (Option Value)} {oc_m_NameTaken_init : Value} {kV_m_NameTaken_init : Value} {dc_m_NameTaken_init : Value} {pm_m_NameTaken_init : Value} {cd_m_NameTaken_init : Value} {ct_m_NameTaken_init : Value} {od_m_UnknownName_init : Option Addr} {an_m_UnknownName_init : Option Addr} {sl_m_UnknownName_init : Array (Option Value)} {oc_m_UnknownName_init : Value} {kV_m_UnknownName_init : Value} {dc_m_UnknownName_init : Value} {pm_m_UnknownName_init : Value} {cd_m_UnknownName_init : Value} {ct_m_UnknownName_init : Value} {od_m_NotEnough_init : Option Addr} {an_m_NotEnough_init : Option Addr} {sl_m_NotEnough_init : Array (Option Value)} {oc_m_NotEnough_init : Value} {kV_m_NotEnough_init : Value} {dc_m_NotEnough_init : Value} {pm_m_NotEnough_init : Value} {cd_m_NotEnough_init : Value} {ct_m_NotEnough_init : Value} {od_m_TooMany_init : Option Addr} {an_m_TooMany_init : Option Addr} {sl_m_TooMany_init : Array (Option Value)} {oc_m_TooMany_init : Value} {kV_m_TooMany_init : Value} {dc_m_TooMany_init : Value} {pm_m_TooMany_init : Value} {cd_m_TooMany_init : Value} {ct_m_TooMany_init : Value} {od_m_Contradiction_init : Option Addr} {an_m_Contradiction_init : Option Addr} {sl_m_Contradiction_init : Array (Option Value)} {oc_m_Contradiction_init : Value} {kV_m_Contradiction_init : Value} {dc_m_Contradiction_init : Value} {pm_m_Contradiction_init : Value} {cd_m_Contradiction_init : Value} {ct_m_Contradiction_init : Value} {od_m_NotPlain_init : Option Addr} {an_m_NotPlain_init : Option Addr} {sl_m_NotPlain_init : Array (Option Value)} {oc_m_NotPlain_init : Value} {kV_m_NotPlain_init : Value} {dc_m_NotPlain_init : Value} {pm_m_NotPlain_init : Value} {cd_m_NotPlain_init : Value} {ct_m_NotPlain_init : Value} {od_m_Shut_init : Option Addr} {an_m_Shut_init : Option Addr} {sl_m_Shut_init : Array (Option Value)} {oc_m_Shut_init : Value} {kV_m_Shut_init : Value} {dc_m_Shut_init : Value} {pm_m_Shut_init : Value} {cd_m_Shut_init : Value} {ct_m_Shut_init : Value} {od_m_NotClosed_init : Option Addr} {an_m_NotClosed_init : Option Addr} {sl_m_NotClosed_init : Array (Option Value)} {oc_m_NotClosed_init : Value} {kV_m_NotClosed_init : Value} {dc_m_NotClosed_init : Value} {pm_m_NotClosed_init : Value} {cd_m_NotClosed_init : Value} {ct_m_NotClosed_init : Value} {od_m_Unfit_init : Option Addr} {an_m_Unfit_init : Option Addr} {sl_m_Unfit_init : Array (Option Value)} {oc_m_Unfit_init : Value} {kV_m_Unfit_init : Value} {dc_m_Unfit_init : Value} {pm_m_Unfit_init : Value} {cd_m_Unfit_init : Value} {ct_m_Unfit_init : Value} {od_l_bag : Option Addr} {an_l_bag : Option Addr} {sl_l_bag : Array (Option Value)} {oc_l_bag : Value} {kV_l_bag : Value} {dc_l_bag : Value} {pm_l_bag : Value} {cd_l_bag : Value} {ct_l_bag : Value} {od_l_draw : Option Addr} {an_l_draw : Option Addr} {sl_l_draw : Array (Option Value)} {oc_l_draw : Value} {kV_l_draw : Value} {dc_l_draw : Value} {pm_l_draw : Value} {cd_l_draw : Value} {ct_l_draw : Value} {od_l_names : Option Addr} {an_l_names : Option Addr} {sl_l_names : Array (Option Value)} {oc_l_names : Value} {kV_l_names : Value} {dc_l_names : Value} {pm_l_names : Value} {cd_l_names : Value} {ct_l_names : Value} {od_l_named : Option Addr} {an_l_named : Option Addr} {sl_l_named : Array (Option Value)} {oc_l_named : Value} {kV_l_named : Value} {dc_l_named : Value} {pm_l_named : Value} {cd_l_named : Value} {ct_l_named : Value} {od_l_placed : Option Addr} {an_l_placed : Option Addr} {sl_l_placed : Array (Option Value)} {oc_l_placed : Value} {kV_l_placed : Value} {dc_l_placed : Value} {pm_l_placed : Value} {cd_l_placed : Value} {ct_l_placed : Value} {od_l_others : Option Addr} {an_l_others : Option Addr} {sl_l_others : Array (Option Value)} {oc_l_others : Value} {kV_l_others : Value} {dc_l_others : Value} {pm_l_others : Value} {cd_l_others : Value} {ct_l_others : Value} {od_l_classes : Option Addr} {an_l_classes : Option Addr} {sl_l_classes : Array (Option Value)} {oc_l_classes : Value} {kV_l_classes : Value} {dc_l_classes : Value} {pm_l_classes : Value} {cd_l_classes : Value} {ct_l_classes : Value} {od_f_law : Option Addr} {an_f_law : Option Addr} {sl_f_law : Array (Option Value)} {oc_f_law : Value} {kV_f_law : Value} {dc_f_law : Value} {pm_f_law : Value} {cd_f_law : Value} {ct_f_law : Value} {xnm_BadName : Str} {xq_BadName : Str} {xN_BadName : Addr} {xbs_BadName : List Value} {xbm_BadName : List Value} {xsn_BadName : List Str} {xsub_BadName : List Value} {xab_BadName : Bool} {xcol_BadName : Option Bool} {xdd_BadName : Option Addr} {xk0_BadName : Option Value} {xk1_BadName : Option Value} {xk2_BadName : Option Value} {xk3_BadName : Option Value} {xk5_BadName : Option Value} {xnm_NoPrice : Str} {xq_NoPrice : Str} {xN_NoPrice : Addr} {xbs_NoPrice : List Value} {xbm_NoPrice : List Value} {xsn_NoPrice : List Str} {xsub_NoPrice : List Value} {xab_NoPrice : Bool} {xcol_NoPrice : Option Bool} {xdd_NoPrice : Option Addr} {xk0_NoPrice : Option Value} {xk1_NoPrice : Option Value} {xk2_NoPrice : Option Value} {xk3_NoPrice : Option Value} {xk5_NoPrice : Option Value} {xnm_Negative : Str} {xq_Negative : Str} {xN_Negative : Addr} {xbs_Negative : List Value} {xbm_Negative : List Value} {xsn_Negative : List Str} {xsub_Negative : List Value} {xab_Negative : Bool} {xcol_Negative : Option Bool} {xdd_Negative : Option Addr} {xk0_Negative : Option Value} {xk1_Negative : Option Value} {xk2_Negative : Option Value} {xk3_Negative : Option Value} {xk5_Negative : Option Value} {xnm_BadEntry : Str} {xq_BadEntry : Str} {xN_BadEntry : Addr} {xbs_BadEntry : List Value} {xbm_BadEntry : List Value} {xsn_BadEntry : List Str} {xsub_BadEntry : List Value} {xab_BadEntry : Bool} {xcol_BadEntry : Option Bool} {xdd_BadEntry : Option Addr} {xk0_BadEntry : Option Value} {xk1_BadEntry : Option Value} {xk2_BadEntry : Option Value} {xk3_BadEntry : Option Value} {xk5_BadEntry : Option Value} {xnm_NoEntry : Str} {xq_NoEntry : Str} {xN_NoEntry : Addr} {xbs_NoEntry : List Value} {xbm_NoEntry : List Value} {xsn_NoEntry : List Str} {xsub_NoEntry : List Value} {xab_NoEntry : Bool} {xcol_NoEntry : Option Bool} {xdd_NoEntry : Option Addr} {xk0_NoEntry : Option Value} {xk1_NoEntry : Option Value} {xk2_NoEntry : Option Value} {xk3_NoEntry : Option Value} {xk5_NoEntry : Option Value} {xnm_BadRule : Str} {xq_BadRule : Str} {xN_BadRule : Addr} {xbs_BadRule : List Value} {xbm_BadRule : List Value} {xsn_BadRule : List Str} {xsub_BadRule : List Value} {xab_BadRule : Bool} {xcol_BadRule : Option Bool} {xdd_BadRule : Option Addr} {xk0_BadRule : Option Value} {xk1_BadRule : Option Value} {xk2_BadRule : Option Value} {xk3_BadRule : Option Value} {xk5_BadRule : Option Value} {xnm_Short : Str} {xq_Short : Str} {xN_Short : Addr} {xbs_Short : List Value} {xbm_Short : List Value} {xsn_Short : List Str} {xsub_Short : List Value} {xab_Short : Bool} {xcol_Short : Option Bool} {xdd_Short : Option Addr} {xk0_Short : Option Value} {xk1_Short : Option Value} {xk2_Short : Option Value} {xk3_Short : Option Value} {xk5_Short : Option Value} {xnm_NameTaken : Str} {xq_NameTaken : Str} {xN_NameTaken : Addr} {xbs_NameTaken : List Value} {xbm_NameTaken : List Value} {xsn_NameTaken : List Str} {xsub_NameTaken : List Value} {xab_NameTaken : Bool} {xcol_NameTaken : Option Bool} {xdd_NameTaken : Option Addr} {xk0_NameTaken : Option Value} {xk1_NameTaken : Option Value} {xk2_NameTaken : Option Value} {xk3_NameTaken : Option Value} {xk5_NameTaken : Option Value} {xnm_UnknownName : Str} {xq_UnknownName : Str} {xN_UnknownName : Addr} {xbs_UnknownName : List Value} {xbm_UnknownName : List Value} {xsn_UnknownName : List Str} {xsub_UnknownName : List Value} {xab_UnknownName : Bool} {xcol_UnknownName : Option Bool} {xdd_UnknownName : Option Addr} {xk0_UnknownName : Option Value} {xk1_UnknownName : Option Value} {xk2_UnknownName : Option Value} {xk3_UnknownName : Option Value} {xk5_UnknownName : Option Value} {xnm_NotEnough : Str} {xq_NotEnough : Str} {xN_NotEnough : Addr} {xbs_NotEnough : List Value} {xbm_NotEnough : List Value} {xsn_NotEnough : List Str} {xsub_NotEnough : List Value} {xab_NotEnough : Bool} {xcol_NotEnough : Option Bool} {xdd_NotEnough : Option Addr} {xk0_NotEnough : Option Value} {xk1_NotEnough : Option Value} {xk2_NotEnough : Option Value} {xk3_NotEnough : Option Value} {xk5_NotEnough : Option Value} {xnm_TooMany : Str} {xq_TooMany : Str} {xN_TooMany : Addr} {xbs_TooMany : List Value} {xbm_TooMany : List Value} {xsn_TooMany : List Str} {xsub_TooMany : List Value} {xab_TooMany : Bool} {xcol_TooMany : Option Bool} {xdd_TooMany : Option Addr} {xk0_TooMany : Option Value} {xk1_TooMany : Option Value} {xk2_TooMany : Option Value} {xk3_TooMany : Option Value} {xk5_TooMany : Option Value} {xnm_Contradiction : Str} {xq_Contradiction : Str} {xN_Contradiction : Addr} {xbs_Contradiction : List Value} {xbm_Contradiction : List Value} {xsn_Contradiction : List Str} {xsub_Contradiction : List Value} {xab_Contradiction : Bool} {xcol_Contradiction : Option Bool} {xdd_Contradiction : Option Addr} {xk0_Contradiction : Option Value} {xk1_Contradiction : Option Value} {xk2_Contradiction : Option Value} {xk3_Contradiction : Option Value} {xk5_Contradiction : Option Value} {xnm_NotPlain : Str} {xq_NotPlain : Str} {xN_NotPlain : Addr} {xbs_NotPlain : List Value} {xbm_NotPlain : List Value} {xsn_NotPlain : List Str} {xsub_NotPlain : List Value} {xab_NotPlain : Bool} {xcol_NotPlain : Option Bool} {xdd_NotPlain : Option Addr} {xk0_NotPlain : Option Value} {xk1_NotPlain : Option Value} {xk2_NotPlain : Option Value} {xk3_NotPlain : Option Value} {xk5_NotPlain : Option Value} {xnm_Shut : Str} {xq_Shut : Str} {xN_Shut : Addr} {xbs_Shut : List Value} {xbm_Shut : List Value} {xsn_Shut : List Str} {xsub_Shut : List Value} {xab_Shut : Bool} {xcol_Shut : Option Bool} {xdd_Shut : Option Addr} {xk0_Shut : Option Value} {xk1_Shut : Option Value} {xk2_Shut : Option Value} {xk3_Shut : Option Value} {xk5_Shut : Option Value} {xnm_NotClosed : Str} {xq_NotClosed : Str} {xN_NotClosed : Addr} {xbs_NotClosed : List Value} {xbm_NotClosed : List Value} {xsn_NotClosed : List Str} {xsub_NotClosed : List Value} {xab_NotClosed : Bool} {xcol_NotClosed : Option Bool} {xdd_NotClosed : Option Addr} {xk0_NotClosed : Option Value} {xk1_NotClosed : Option Value} {xk2_NotClosed : Option Value} {xk3_NotClosed : Option Value} {xk5_NotClosed : Option Value} {xnm_Unfit : Str} {xq_Unfit : Str} {xN_Unfit : Addr} {xbs_Unfit : List Value} {xbm_Unfit : List Value} {xsn_Unfit : List Str} {xsub_Unfit : List Value} {xab_Unfit : Bool} {xcol_Unfit : Option Bool} {xdd_Unfit : Option Addr} {xk0_Unfit : Option Value} {xk1_Unfit : Option Value} {xk2_Unfit : Option Value} {xk3_Unfit : Option Value} {xk5_Unfit : Option Value}
    (pz_ValueError : PySem.W.nsIn K mainGlobals "ValueError" = some none)
    (pz_abs : PySem.W.nsIn K mainGlobals "abs" = some none)
    (pz_int : PySem.W.nsIn K mainGlobals "int" = some none)
    (pz_isinstance : PySem.W.nsIn K mainGlobals "isinstance" = some none)
    (pz_len : PySem.W.nsIn K mainGlobals "len" = some none)
    (pz_list : PySem.W.nsIn K mainGlobals "list" = some none)
    (pz_range : PySem.W.nsIn K mainGlobals "range" = some none)
    (pz_sum : PySem.W.nsIn K mainGlobals "sum" = some none)
    (pg_CostError : PySem.W.nsIn K mainGlobals "CostError" = some (some (.ref a_CostError)))
    (pek_CostError : PySem.W.keepIn K (.ref a_CostError) = true)
    (peb_CostError : PySem.W.subIn K (.ref a_CostError) (.type "BaseException") = some true)
    (pet_CostError : PySem.W.typeIn K (.ref a_CostError) = some (.type "type"))
    (peh_CostError : PySem.W.hasDictIn K a_CostError = true)
    (peic_CostError : PySem.W.isClsIn K a_CostError = true)
    (pes_CostError : PySem.W.subIn K (.ref a_CostError) (.ref a_CostError) = some true)
    (pxg_CostError : PySem.W.findIn K (.ref a_CostError) "__getattribute__" = some (some (.builtin "BaseException.__getattribute__")))
    (pxk_CostError : PySem.W.findIn K (.ref a_CostError) "__getattr__" = some none)
    (pxa_CostError : PySem.W.findIn K (.ref a_CostError) "__class__" = some (some (.builtin "object.__class__")))
    (pxn_CostError : PySem.W.specialIn K (.builtin "object.__class__") "__get__" = some (some (.builtin "getset_descriptor.__get__")))
    (pxt_CostError : PySem.W.takesIn K (.builtin "object.__class__") = some true)
    (pxm_CostError : PySem.W.mroIn K a_CostError (.type "object") = some true)
    (prd_CostError : PySem.W.readsIn K a_CostError (.type "type") = true)
    (pcg_CostError : PySem.W.specialIn K (.ref a_CostError) "__getattribute__" = some (some (.builtin "type.__getattribute__")))
    (pvi_CostError : PySem.W.findCls K (.ref a_CostError) (.type "type") "__init__" = some (.val (.builtin "ValueError.__init__")))
    (pg_NoRatio : PySem.W.nsIn K mainGlobals "NoRatio" = some (some (.ref a_NoRatio)))
    (pek_NoRatio : PySem.W.keepIn K (.ref a_NoRatio) = true)
    (peb_NoRatio : PySem.W.subIn K (.ref a_NoRatio) (.type "BaseException") = some true)
    (pet_NoRatio : PySem.W.typeIn K (.ref a_NoRatio) = some (.type "type"))
    (peh_NoRatio : PySem.W.hasDictIn K a_NoRatio = true)
    (peic_NoRatio : PySem.W.isClsIn K a_NoRatio = true)
    (pes_NoRatio : PySem.W.subIn K (.ref a_NoRatio) (.ref a_NoRatio) = some true)
    (pxg_NoRatio : PySem.W.findIn K (.ref a_NoRatio) "__getattribute__" = some (some (.builtin "BaseException.__getattribute__")))
    (pxk_NoRatio : PySem.W.findIn K (.ref a_NoRatio) "__getattr__" = some none)
    (pxa_NoRatio : PySem.W.findIn K (.ref a_NoRatio) "__class__" = some (some (.builtin "object.__class__")))
    (pxn_NoRatio : PySem.W.specialIn K (.builtin "object.__class__") "__get__" = some (some (.builtin "getset_descriptor.__get__")))
    (pxt_NoRatio : PySem.W.takesIn K (.builtin "object.__class__") = some true)
    (pxm_NoRatio : PySem.W.mroIn K a_NoRatio (.type "object") = some true)
    (pxP_NoRatio : PySem.W.excIn K a_NoRatio [.type "ValueError", .type "Exception", .type "BaseException", .type "object"] "ValueError.__new__" = true)
    (pg_BadName : PySem.W.nsIn K mainGlobals "BadName" = some (some (.ref a_BadName)))
    (pek_BadName : PySem.W.keepIn K (.ref a_BadName) = true)
    (peb_BadName : PySem.W.subIn K (.ref a_BadName) (.type "BaseException") = some true)
    (pet_BadName : PySem.W.typeIn K (.ref a_BadName) = some (.type "type"))
    (peh_BadName : PySem.W.hasDictIn K a_BadName = true)
    (peic_BadName : PySem.W.isClsIn K a_BadName = true)
    (pes_BadName : PySem.W.subIn K (.ref a_BadName) (.ref a_BadName) = some true)
    (pxg_BadName : PySem.W.findIn K (.ref a_BadName) "__getattribute__" = some (some (.builtin "BaseException.__getattribute__")))
    (pxk_BadName : PySem.W.findIn K (.ref a_BadName) "__getattr__" = some none)
    (pxa_BadName : PySem.W.findIn K (.ref a_BadName) "__class__" = some (some (.builtin "object.__class__")))
    (pxn_BadName : PySem.W.specialIn K (.builtin "object.__class__") "__get__" = some (some (.builtin "getset_descriptor.__get__")))
    (pxt_BadName : PySem.W.takesIn K (.builtin "object.__class__") = some true)
    (pxm_BadName : PySem.W.mroIn K a_BadName (.type "object") = some true)
    (pn_BadName_name : PySem.W.findIn K (.ref a_BadName) "name" = some none)
    (poi_BadName : PySem.W.findIn K (.ref a_BadName) "__init__" = some (some (.ref a_m_BadName_init)))
    (pot_BadName : PySem.W.typeIn K (.ref a_m_BadName_init) = some (.type "function"))
    (pol_BadName : K.lookup a_BadName = some (excClassObj xnm_BadName xq_BadName a_BadName xN_BadName xbs_BadName xbm_BadName true xsn_BadName xsub_BadName xab_BadName xcol_BadName xdd_BadName xk0_BadName xk1_BadName xk2_BadName xk3_BadName xk5_BadName "ValueError.__new__"))
    (pov_BadName : PySem.HandSPX.refsVE xbm_BadName = true)
    (posa_BadName : PySem.W.findIn K (.ref a_BadName) "__setattr__" = some (some (.builtin "object.__setattr__")))
    (pg_NoPrice : PySem.W.nsIn K mainGlobals "NoPrice" = some (some (.ref a_NoPrice)))
    (pek_NoPrice : PySem.W.keepIn K (.ref a_NoPrice) = true)
    (peb_NoPrice : PySem.W.subIn K (.ref a_NoPrice) (.type "BaseException") = some true)
    (pet_NoPrice : PySem.W.typeIn K (.ref a_NoPrice) = some (.type "type"))
    (peh_NoPrice : PySem.W.hasDictIn K a_NoPrice = true)
    (peic_NoPrice : PySem.W.isClsIn K a_NoPrice = true)
    (pes_NoPrice : PySem.W.subIn K (.ref a_NoPrice) (.ref a_NoPrice) = some true)
    (pxg_NoPrice : PySem.W.findIn K (.ref a_NoPrice) "__getattribute__" = some (some (.builtin "BaseException.__getattribute__")))
    (pxk_NoPrice : PySem.W.findIn K (.ref a_NoPrice) "__getattr__" = some none)
    (pxa_NoPrice : PySem.W.findIn K (.ref a_NoPrice) "__class__" = some (some (.builtin "object.__class__")))
    (pxn_NoPrice : PySem.W.specialIn K (.builtin "object.__class__") "__get__" = some (some (.builtin "getset_descriptor.__get__")))
    (pxt_NoPrice : PySem.W.takesIn K (.builtin "object.__class__") = some true)
    (pxm_NoPrice : PySem.W.mroIn K a_NoPrice (.type "object") = some true)
    (pn_NoPrice_name : PySem.W.findIn K (.ref a_NoPrice) "name" = some none)
    (poi_NoPrice : PySem.W.findIn K (.ref a_NoPrice) "__init__" = some (some (.ref a_m_NoPrice_init)))
    (pot_NoPrice : PySem.W.typeIn K (.ref a_m_NoPrice_init) = some (.type "function"))
    (pol_NoPrice : K.lookup a_NoPrice = some (excClassObj xnm_NoPrice xq_NoPrice a_NoPrice xN_NoPrice xbs_NoPrice xbm_NoPrice true xsn_NoPrice xsub_NoPrice xab_NoPrice xcol_NoPrice xdd_NoPrice xk0_NoPrice xk1_NoPrice xk2_NoPrice xk3_NoPrice xk5_NoPrice "ValueError.__new__"))
    (pov_NoPrice : PySem.HandSPX.refsVE xbm_NoPrice = true)
    (posa_NoPrice : PySem.W.findIn K (.ref a_NoPrice) "__setattr__" = some (some (.builtin "object.__setattr__")))
    (pg_Negative : PySem.W.nsIn K mainGlobals "Negative" = some (some (.ref a_Negative)))
    (pek_Negative : PySem.W.keepIn K (.ref a_Negative) = true)
    (peb_Negative : PySem.W.subIn K (.ref a_Negative) (.type "BaseException") = some true)
    (pet_Negative : PySem.W.typeIn K (.ref a_Negative) = some (.type "type"))
    (peh_Negative : PySem.W.hasDictIn K a_Negative = true)
    (peic_Negative : PySem.W.isClsIn K a_Negative = true)
    (pes_Negative : PySem.W.subIn K (.ref a_Negative) (.ref a_Negative) = some true)
    (pxg_Negative : PySem.W.findIn K (.ref a_Negative) "__getattribute__" = some (some (.builtin "BaseException.__getattribute__")))
    (pxk_Negative : PySem.W.findIn K (.ref a_Negative) "__getattr__" = some none)
    (pxa_Negative : PySem.W.findIn K (.ref a_Negative) "__class__" = some (some (.builtin "object.__class__")))
    (pxn_Negative : PySem.W.specialIn K (.builtin "object.__class__") "__get__" = some (some (.builtin "getset_descriptor.__get__")))
    (pxt_Negative : PySem.W.takesIn K (.builtin "object.__class__") = some true)
    (pxm_Negative : PySem.W.mroIn K a_Negative (.type "object") = some true)
    (pn_Negative_name : PySem.W.findIn K (.ref a_Negative) "name" = some none)
    (poi_Negative : PySem.W.findIn K (.ref a_Negative) "__init__" = some (some (.ref a_m_Negative_init)))
    (pot_Negative : PySem.W.typeIn K (.ref a_m_Negative_init) = some (.type "function"))
    (pol_Negative : K.lookup a_Negative = some (excClassObj xnm_Negative xq_Negative a_Negative xN_Negative xbs_Negative xbm_Negative true xsn_Negative xsub_Negative xab_Negative xcol_Negative xdd_Negative xk0_Negative xk1_Negative xk2_Negative xk3_Negative xk5_Negative "ValueError.__new__"))
    (pov_Negative : PySem.HandSPX.refsVE xbm_Negative = true)
    (posa_Negative : PySem.W.findIn K (.ref a_Negative) "__setattr__" = some (some (.builtin "object.__setattr__")))
    (pg_BadEntry : PySem.W.nsIn K mainGlobals "BadEntry" = some (some (.ref a_BadEntry)))
    (pek_BadEntry : PySem.W.keepIn K (.ref a_BadEntry) = true)
    (peb_BadEntry : PySem.W.subIn K (.ref a_BadEntry) (.type "BaseException") = some true)
    (pet_BadEntry : PySem.W.typeIn K (.ref a_BadEntry) = some (.type "type"))
    (peh_BadEntry : PySem.W.hasDictIn K a_BadEntry = true)
    (peic_BadEntry : PySem.W.isClsIn K a_BadEntry = true)
    (pes_BadEntry : PySem.W.subIn K (.ref a_BadEntry) (.ref a_BadEntry) = some true)
    (pxg_BadEntry : PySem.W.findIn K (.ref a_BadEntry) "__getattribute__" = some (some (.builtin "BaseException.__getattribute__")))
    (pxk_BadEntry : PySem.W.findIn K (.ref a_BadEntry) "__getattr__" = some none)
    (pxa_BadEntry : PySem.W.findIn K (.ref a_BadEntry) "__class__" = some (some (.builtin "object.__class__")))
    (pxn_BadEntry : PySem.W.specialIn K (.builtin "object.__class__") "__get__" = some (some (.builtin "getset_descriptor.__get__")))
    (pxt_BadEntry : PySem.W.takesIn K (.builtin "object.__class__") = some true)
    (pxm_BadEntry : PySem.W.mroIn K a_BadEntry (.type "object") = some true)
    (pn_BadEntry_day : PySem.W.findIn K (.ref a_BadEntry) "day" = some none)
    (pn_BadEntry_number : PySem.W.findIn K (.ref a_BadEntry) "number" = some none)
    (poi_BadEntry : PySem.W.findIn K (.ref a_BadEntry) "__init__" = some (some (.ref a_m_BadEntry_init)))
    (pot_BadEntry : PySem.W.typeIn K (.ref a_m_BadEntry_init) = some (.type "function"))
    (pol_BadEntry : K.lookup a_BadEntry = some (excClassObj xnm_BadEntry xq_BadEntry a_BadEntry xN_BadEntry xbs_BadEntry xbm_BadEntry true xsn_BadEntry xsub_BadEntry xab_BadEntry xcol_BadEntry xdd_BadEntry xk0_BadEntry xk1_BadEntry xk2_BadEntry xk3_BadEntry xk5_BadEntry "ValueError.__new__"))
    (pov_BadEntry : PySem.HandSPX.refsVE xbm_BadEntry = true)
    (posa_BadEntry : PySem.W.findIn K (.ref a_BadEntry) "__setattr__" = some (some (.builtin "object.__setattr__")))
    (pg_NoEntry : PySem.W.nsIn K mainGlobals "NoEntry" = some (some (.ref a_NoEntry)))
    (pek_NoEntry : PySem.W.keepIn K (.ref a_NoEntry) = true)
    (peb_NoEntry : PySem.W.subIn K (.ref a_NoEntry) (.type "BaseException") = some true)
    (pet_NoEntry : PySem.W.typeIn K (.ref a_NoEntry) = some (.type "type"))
    (peh_NoEntry : PySem.W.hasDictIn K a_NoEntry = true)
    (peic_NoEntry : PySem.W.isClsIn K a_NoEntry = true)
    (pes_NoEntry : PySem.W.subIn K (.ref a_NoEntry) (.ref a_NoEntry) = some true)
    (pxg_NoEntry : PySem.W.findIn K (.ref a_NoEntry) "__getattribute__" = some (some (.builtin "BaseException.__getattribute__")))
    (pxk_NoEntry : PySem.W.findIn K (.ref a_NoEntry) "__getattr__" = some none)
    (pxa_NoEntry : PySem.W.findIn K (.ref a_NoEntry) "__class__" = some (some (.builtin "object.__class__")))
    (pxn_NoEntry : PySem.W.specialIn K (.builtin "object.__class__") "__get__" = some (some (.builtin "getset_descriptor.__get__")))
    (pxt_NoEntry : PySem.W.takesIn K (.builtin "object.__class__") = some true)
    (pxm_NoEntry : PySem.W.mroIn K a_NoEntry (.type "object") = some true)
    (pn_NoEntry_day : PySem.W.findIn K (.ref a_NoEntry) "day" = some none)
    (pn_NoEntry_number : PySem.W.findIn K (.ref a_NoEntry) "number" = some none)
    (poi_NoEntry : PySem.W.findIn K (.ref a_NoEntry) "__init__" = some (some (.ref a_m_NoEntry_init)))
    (pot_NoEntry : PySem.W.typeIn K (.ref a_m_NoEntry_init) = some (.type "function"))
    (pol_NoEntry : K.lookup a_NoEntry = some (excClassObj xnm_NoEntry xq_NoEntry a_NoEntry xN_NoEntry xbs_NoEntry xbm_NoEntry true xsn_NoEntry xsub_NoEntry xab_NoEntry xcol_NoEntry xdd_NoEntry xk0_NoEntry xk1_NoEntry xk2_NoEntry xk3_NoEntry xk5_NoEntry "ValueError.__new__"))
    (pov_NoEntry : PySem.HandSPX.refsVE xbm_NoEntry = true)
    (posa_NoEntry : PySem.W.findIn K (.ref a_NoEntry) "__setattr__" = some (some (.builtin "object.__setattr__")))
    (pg_BadRule : PySem.W.nsIn K mainGlobals "BadRule" = some (some (.ref a_BadRule)))
    (pek_BadRule : PySem.W.keepIn K (.ref a_BadRule) = true)
    (peb_BadRule : PySem.W.subIn K (.ref a_BadRule) (.type "BaseException") = some true)
    (pet_BadRule : PySem.W.typeIn K (.ref a_BadRule) = some (.type "type"))
    (peh_BadRule : PySem.W.hasDictIn K a_BadRule = true)
    (peic_BadRule : PySem.W.isClsIn K a_BadRule = true)
    (pes_BadRule : PySem.W.subIn K (.ref a_BadRule) (.ref a_BadRule) = some true)
    (pxg_BadRule : PySem.W.findIn K (.ref a_BadRule) "__getattribute__" = some (some (.builtin "BaseException.__getattribute__")))
    (pxk_BadRule : PySem.W.findIn K (.ref a_BadRule) "__getattr__" = some none)
    (pxa_BadRule : PySem.W.findIn K (.ref a_BadRule) "__class__" = some (some (.builtin "object.__class__")))
    (pxn_BadRule : PySem.W.specialIn K (.builtin "object.__class__") "__get__" = some (some (.builtin "getset_descriptor.__get__")))
    (pxt_BadRule : PySem.W.takesIn K (.builtin "object.__class__") = some true)
    (pxm_BadRule : PySem.W.mroIn K a_BadRule (.type "object") = some true)
    (pn_BadRule_word : PySem.W.findIn K (.ref a_BadRule) "word" = some none)
    (poi_BadRule : PySem.W.findIn K (.ref a_BadRule) "__init__" = some (some (.ref a_m_BadRule_init)))
    (pot_BadRule : PySem.W.typeIn K (.ref a_m_BadRule_init) = some (.type "function"))
    (pol_BadRule : K.lookup a_BadRule = some (excClassObj xnm_BadRule xq_BadRule a_BadRule xN_BadRule xbs_BadRule xbm_BadRule true xsn_BadRule xsub_BadRule xab_BadRule xcol_BadRule xdd_BadRule xk0_BadRule xk1_BadRule xk2_BadRule xk3_BadRule xk5_BadRule "ValueError.__new__"))
    (pov_BadRule : PySem.HandSPX.refsVE xbm_BadRule = true)
    (posa_BadRule : PySem.W.findIn K (.ref a_BadRule) "__setattr__" = some (some (.builtin "object.__setattr__")))
    (pg_Short : PySem.W.nsIn K mainGlobals "Short" = some (some (.ref a_Short)))
    (pek_Short : PySem.W.keepIn K (.ref a_Short) = true)
    (peb_Short : PySem.W.subIn K (.ref a_Short) (.type "BaseException") = some true)
    (pet_Short : PySem.W.typeIn K (.ref a_Short) = some (.type "type"))
    (peh_Short : PySem.W.hasDictIn K a_Short = true)
    (peic_Short : PySem.W.isClsIn K a_Short = true)
    (pes_Short : PySem.W.subIn K (.ref a_Short) (.ref a_Short) = some true)
    (pxg_Short : PySem.W.findIn K (.ref a_Short) "__getattribute__" = some (some (.builtin "BaseException.__getattribute__")))
    (pxk_Short : PySem.W.findIn K (.ref a_Short) "__getattr__" = some none)
    (pxa_Short : PySem.W.findIn K (.ref a_Short) "__class__" = some (some (.builtin "object.__class__")))
    (pxn_Short : PySem.W.specialIn K (.builtin "object.__class__") "__get__" = some (some (.builtin "getset_descriptor.__get__")))
    (pxt_Short : PySem.W.takesIn K (.builtin "object.__class__") = some true)
    (pxm_Short : PySem.W.mroIn K a_Short (.type "object") = some true)
    (pn_Short_missing : PySem.W.findIn K (.ref a_Short) "missing" = some none)
    (poi_Short : PySem.W.findIn K (.ref a_Short) "__init__" = some (some (.ref a_m_Short_init)))
    (pot_Short : PySem.W.typeIn K (.ref a_m_Short_init) = some (.type "function"))
    (pol_Short : K.lookup a_Short = some (excClassObj xnm_Short xq_Short a_Short xN_Short xbs_Short xbm_Short true xsn_Short xsub_Short xab_Short xcol_Short xdd_Short xk0_Short xk1_Short xk2_Short xk3_Short xk5_Short "ValueError.__new__"))
    (pov_Short : PySem.HandSPX.refsVE xbm_Short = true)
    (posa_Short : PySem.W.findIn K (.ref a_Short) "__setattr__" = some (some (.builtin "object.__setattr__")))
    (pg_NameTaken : PySem.W.nsIn K mainGlobals "NameTaken" = some (some (.ref a_NameTaken)))
    (pek_NameTaken : PySem.W.keepIn K (.ref a_NameTaken) = true)
    (peb_NameTaken : PySem.W.subIn K (.ref a_NameTaken) (.type "BaseException") = some true)
    (pet_NameTaken : PySem.W.typeIn K (.ref a_NameTaken) = some (.type "type"))
    (peh_NameTaken : PySem.W.hasDictIn K a_NameTaken = true)
    (peic_NameTaken : PySem.W.isClsIn K a_NameTaken = true)
    (pes_NameTaken : PySem.W.subIn K (.ref a_NameTaken) (.ref a_NameTaken) = some true)
    (pxg_NameTaken : PySem.W.findIn K (.ref a_NameTaken) "__getattribute__" = some (some (.builtin "BaseException.__getattribute__")))
    (pxk_NameTaken : PySem.W.findIn K (.ref a_NameTaken) "__getattr__" = some none)
    (pxa_NameTaken : PySem.W.findIn K (.ref a_NameTaken) "__class__" = some (some (.builtin "object.__class__")))
    (pxn_NameTaken : PySem.W.specialIn K (.builtin "object.__class__") "__get__" = some (some (.builtin "getset_descriptor.__get__")))
    (pxt_NameTaken : PySem.W.takesIn K (.builtin "object.__class__") = some true)
    (pxm_NameTaken : PySem.W.mroIn K a_NameTaken (.type "object") = some true)
    (pn_NameTaken_name : PySem.W.findIn K (.ref a_NameTaken) "name" = some none)
    (poi_NameTaken : PySem.W.findIn K (.ref a_NameTaken) "__init__" = some (some (.ref a_m_NameTaken_init)))
    (pot_NameTaken : PySem.W.typeIn K (.ref a_m_NameTaken_init) = some (.type "function"))
    (pol_NameTaken : K.lookup a_NameTaken = some (excClassObj xnm_NameTaken xq_NameTaken a_NameTaken xN_NameTaken xbs_NameTaken xbm_NameTaken true xsn_NameTaken xsub_NameTaken xab_NameTaken xcol_NameTaken xdd_NameTaken xk0_NameTaken xk1_NameTaken xk2_NameTaken xk3_NameTaken xk5_NameTaken "ValueError.__new__"))
    (pov_NameTaken : PySem.HandSPX.refsVE xbm_NameTaken = true)
    (posa_NameTaken : PySem.W.findIn K (.ref a_NameTaken) "__setattr__" = some (some (.builtin "object.__setattr__")))
    (pg_UnknownName : PySem.W.nsIn K mainGlobals "UnknownName" = some (some (.ref a_UnknownName)))
    (pek_UnknownName : PySem.W.keepIn K (.ref a_UnknownName) = true)
    (peb_UnknownName : PySem.W.subIn K (.ref a_UnknownName) (.type "BaseException") = some true)
    (pet_UnknownName : PySem.W.typeIn K (.ref a_UnknownName) = some (.type "type"))
    (peh_UnknownName : PySem.W.hasDictIn K a_UnknownName = true)
    (peic_UnknownName : PySem.W.isClsIn K a_UnknownName = true)
    (pes_UnknownName : PySem.W.subIn K (.ref a_UnknownName) (.ref a_UnknownName) = some true)
    (pxg_UnknownName : PySem.W.findIn K (.ref a_UnknownName) "__getattribute__" = some (some (.builtin "BaseException.__getattribute__")))
    (pxk_UnknownName : PySem.W.findIn K (.ref a_UnknownName) "__getattr__" = some none)
    (pxa_UnknownName : PySem.W.findIn K (.ref a_UnknownName) "__class__" = some (some (.builtin "object.__class__")))
    (pxn_UnknownName : PySem.W.specialIn K (.builtin "object.__class__") "__get__" = some (some (.builtin "getset_descriptor.__get__")))
    (pxt_UnknownName : PySem.W.takesIn K (.builtin "object.__class__") = some true)
    (pxm_UnknownName : PySem.W.mroIn K a_UnknownName (.type "object") = some true)
    (pn_UnknownName_name : PySem.W.findIn K (.ref a_UnknownName) "name" = some none)
    (poi_UnknownName : PySem.W.findIn K (.ref a_UnknownName) "__init__" = some (some (.ref a_m_UnknownName_init)))
    (pot_UnknownName : PySem.W.typeIn K (.ref a_m_UnknownName_init) = some (.type "function"))
    (pol_UnknownName : K.lookup a_UnknownName = some (excClassObj xnm_UnknownName xq_UnknownName a_UnknownName xN_UnknownName xbs_UnknownName xbm_UnknownName true xsn_UnknownName xsub_UnknownName xab_UnknownName xcol_UnknownName xdd_UnknownName xk0_UnknownName xk1_UnknownName xk2_UnknownName xk3_UnknownName xk5_UnknownName "ValueError.__new__"))
    (pov_UnknownName : PySem.HandSPX.refsVE xbm_UnknownName = true)
    (posa_UnknownName : PySem.W.findIn K (.ref a_UnknownName) "__setattr__" = some (some (.builtin "object.__setattr__")))
    (pg_NotEnough : PySem.W.nsIn K mainGlobals "NotEnough" = some (some (.ref a_NotEnough)))
    (pek_NotEnough : PySem.W.keepIn K (.ref a_NotEnough) = true)
    (peb_NotEnough : PySem.W.subIn K (.ref a_NotEnough) (.type "BaseException") = some true)
    (pet_NotEnough : PySem.W.typeIn K (.ref a_NotEnough) = some (.type "type"))
    (peh_NotEnough : PySem.W.hasDictIn K a_NotEnough = true)
    (peic_NotEnough : PySem.W.isClsIn K a_NotEnough = true)
    (pes_NotEnough : PySem.W.subIn K (.ref a_NotEnough) (.ref a_NotEnough) = some true)
    (pxg_NotEnough : PySem.W.findIn K (.ref a_NotEnough) "__getattribute__" = some (some (.builtin "BaseException.__getattribute__")))
    (pxk_NotEnough : PySem.W.findIn K (.ref a_NotEnough) "__getattr__" = some none)
    (pxa_NotEnough : PySem.W.findIn K (.ref a_NotEnough) "__class__" = some (some (.builtin "object.__class__")))
    (pxn_NotEnough : PySem.W.specialIn K (.builtin "object.__class__") "__get__" = some (some (.builtin "getset_descriptor.__get__")))
    (pxt_NotEnough : PySem.W.takesIn K (.builtin "object.__class__") = some true)
    (pxm_NotEnough : PySem.W.mroIn K a_NotEnough (.type "object") = some true)
    (pn_NotEnough_day : PySem.W.findIn K (.ref a_NotEnough) "day" = some none)
    (pn_NotEnough_number : PySem.W.findIn K (.ref a_NotEnough) "number" = some none)
    (pn_NotEnough_missing : PySem.W.findIn K (.ref a_NotEnough) "missing" = some none)
    (poi_NotEnough : PySem.W.findIn K (.ref a_NotEnough) "__init__" = some (some (.ref a_m_NotEnough_init)))
    (pot_NotEnough : PySem.W.typeIn K (.ref a_m_NotEnough_init) = some (.type "function"))
    (pol_NotEnough : K.lookup a_NotEnough = some (excClassObj xnm_NotEnough xq_NotEnough a_NotEnough xN_NotEnough xbs_NotEnough xbm_NotEnough true xsn_NotEnough xsub_NotEnough xab_NotEnough xcol_NotEnough xdd_NotEnough xk0_NotEnough xk1_NotEnough xk2_NotEnough xk3_NotEnough xk5_NotEnough "ValueError.__new__"))
    (pov_NotEnough : PySem.HandSPX.refsVE xbm_NotEnough = true)
    (posa_NotEnough : PySem.W.findIn K (.ref a_NotEnough) "__setattr__" = some (some (.builtin "object.__setattr__")))
    (pg_TooMany : PySem.W.nsIn K mainGlobals "TooMany" = some (some (.ref a_TooMany)))
    (pek_TooMany : PySem.W.keepIn K (.ref a_TooMany) = true)
    (peb_TooMany : PySem.W.subIn K (.ref a_TooMany) (.type "BaseException") = some true)
    (pet_TooMany : PySem.W.typeIn K (.ref a_TooMany) = some (.type "type"))
    (peh_TooMany : PySem.W.hasDictIn K a_TooMany = true)
    (peic_TooMany : PySem.W.isClsIn K a_TooMany = true)
    (pes_TooMany : PySem.W.subIn K (.ref a_TooMany) (.ref a_TooMany) = some true)
    (pxg_TooMany : PySem.W.findIn K (.ref a_TooMany) "__getattribute__" = some (some (.builtin "BaseException.__getattribute__")))
    (pxk_TooMany : PySem.W.findIn K (.ref a_TooMany) "__getattr__" = some none)
    (pxa_TooMany : PySem.W.findIn K (.ref a_TooMany) "__class__" = some (some (.builtin "object.__class__")))
    (pxn_TooMany : PySem.W.specialIn K (.builtin "object.__class__") "__get__" = some (some (.builtin "getset_descriptor.__get__")))
    (pxt_TooMany : PySem.W.takesIn K (.builtin "object.__class__") = some true)
    (pxm_TooMany : PySem.W.mroIn K a_TooMany (.type "object") = some true)
    (pn_TooMany_day : PySem.W.findIn K (.ref a_TooMany) "day" = some none)
    (pn_TooMany_number : PySem.W.findIn K (.ref a_TooMany) "number" = some none)
    (pn_TooMany_left : PySem.W.findIn K (.ref a_TooMany) "left" = some none)
    (poi_TooMany : PySem.W.findIn K (.ref a_TooMany) "__init__" = some (some (.ref a_m_TooMany_init)))
    (pot_TooMany : PySem.W.typeIn K (.ref a_m_TooMany_init) = some (.type "function"))
    (pol_TooMany : K.lookup a_TooMany = some (excClassObj xnm_TooMany xq_TooMany a_TooMany xN_TooMany xbs_TooMany xbm_TooMany true xsn_TooMany xsub_TooMany xab_TooMany xcol_TooMany xdd_TooMany xk0_TooMany xk1_TooMany xk2_TooMany xk3_TooMany xk5_TooMany "ValueError.__new__"))
    (pov_TooMany : PySem.HandSPX.refsVE xbm_TooMany = true)
    (posa_TooMany : PySem.W.findIn K (.ref a_TooMany) "__setattr__" = some (some (.builtin "object.__setattr__")))
    (pg_Contradiction : PySem.W.nsIn K mainGlobals "Contradiction" = some (some (.ref a_Contradiction)))
    (pek_Contradiction : PySem.W.keepIn K (.ref a_Contradiction) = true)
    (peb_Contradiction : PySem.W.subIn K (.ref a_Contradiction) (.type "BaseException") = some true)
    (pet_Contradiction : PySem.W.typeIn K (.ref a_Contradiction) = some (.type "type"))
    (peh_Contradiction : PySem.W.hasDictIn K a_Contradiction = true)
    (peic_Contradiction : PySem.W.isClsIn K a_Contradiction = true)
    (pes_Contradiction : PySem.W.subIn K (.ref a_Contradiction) (.ref a_Contradiction) = some true)
    (pxg_Contradiction : PySem.W.findIn K (.ref a_Contradiction) "__getattribute__" = some (some (.builtin "BaseException.__getattribute__")))
    (pxk_Contradiction : PySem.W.findIn K (.ref a_Contradiction) "__getattr__" = some none)
    (pxa_Contradiction : PySem.W.findIn K (.ref a_Contradiction) "__class__" = some (some (.builtin "object.__class__")))
    (pxn_Contradiction : PySem.W.specialIn K (.builtin "object.__class__") "__get__" = some (some (.builtin "getset_descriptor.__get__")))
    (pxt_Contradiction : PySem.W.takesIn K (.builtin "object.__class__") = some true)
    (pxm_Contradiction : PySem.W.mroIn K a_Contradiction (.type "object") = some true)
    (pn_Contradiction_pair : PySem.W.findIn K (.ref a_Contradiction) "pair" = some none)
    (poi_Contradiction : PySem.W.findIn K (.ref a_Contradiction) "__init__" = some (some (.ref a_m_Contradiction_init)))
    (pot_Contradiction : PySem.W.typeIn K (.ref a_m_Contradiction_init) = some (.type "function"))
    (pol_Contradiction : K.lookup a_Contradiction = some (excClassObj xnm_Contradiction xq_Contradiction a_Contradiction xN_Contradiction xbs_Contradiction xbm_Contradiction true xsn_Contradiction xsub_Contradiction xab_Contradiction xcol_Contradiction xdd_Contradiction xk0_Contradiction xk1_Contradiction xk2_Contradiction xk3_Contradiction xk5_Contradiction "ValueError.__new__"))
    (pov_Contradiction : PySem.HandSPX.refsVE xbm_Contradiction = true)
    (posa_Contradiction : PySem.W.findIn K (.ref a_Contradiction) "__setattr__" = some (some (.builtin "object.__setattr__")))
    (pg_NotPlain : PySem.W.nsIn K mainGlobals "NotPlain" = some (some (.ref a_NotPlain)))
    (pek_NotPlain : PySem.W.keepIn K (.ref a_NotPlain) = true)
    (peb_NotPlain : PySem.W.subIn K (.ref a_NotPlain) (.type "BaseException") = some true)
    (pet_NotPlain : PySem.W.typeIn K (.ref a_NotPlain) = some (.type "type"))
    (peh_NotPlain : PySem.W.hasDictIn K a_NotPlain = true)
    (peic_NotPlain : PySem.W.isClsIn K a_NotPlain = true)
    (pes_NotPlain : PySem.W.subIn K (.ref a_NotPlain) (.ref a_NotPlain) = some true)
    (pxg_NotPlain : PySem.W.findIn K (.ref a_NotPlain) "__getattribute__" = some (some (.builtin "BaseException.__getattribute__")))
    (pxk_NotPlain : PySem.W.findIn K (.ref a_NotPlain) "__getattr__" = some none)
    (pxa_NotPlain : PySem.W.findIn K (.ref a_NotPlain) "__class__" = some (some (.builtin "object.__class__")))
    (pxn_NotPlain : PySem.W.specialIn K (.builtin "object.__class__") "__get__" = some (some (.builtin "getset_descriptor.__get__")))
    (pxt_NotPlain : PySem.W.takesIn K (.builtin "object.__class__") = some true)
    (pxm_NotPlain : PySem.W.mroIn K a_NotPlain (.type "object") = some true)
    (pn_NotPlain_day : PySem.W.findIn K (.ref a_NotPlain) "day" = some none)
    (pn_NotPlain_number : PySem.W.findIn K (.ref a_NotPlain) "number" = some none)
    (poi_NotPlain : PySem.W.findIn K (.ref a_NotPlain) "__init__" = some (some (.ref a_m_NotPlain_init)))
    (pot_NotPlain : PySem.W.typeIn K (.ref a_m_NotPlain_init) = some (.type "function"))
    (pol_NotPlain : K.lookup a_NotPlain = some (excClassObj xnm_NotPlain xq_NotPlain a_NotPlain xN_NotPlain xbs_NotPlain xbm_NotPlain true xsn_NotPlain xsub_NotPlain xab_NotPlain xcol_NotPlain xdd_NotPlain xk0_NotPlain xk1_NotPlain xk2_NotPlain xk3_NotPlain xk5_NotPlain "ValueError.__new__"))
    (pov_NotPlain : PySem.HandSPX.refsVE xbm_NotPlain = true)
    (posa_NotPlain : PySem.W.findIn K (.ref a_NotPlain) "__setattr__" = some (some (.builtin "object.__setattr__")))
    (pg_NotPossible : PySem.W.nsIn K mainGlobals "NotPossible" = some (some (.ref a_NotPossible)))
    (pek_NotPossible : PySem.W.keepIn K (.ref a_NotPossible) = true)
    (peb_NotPossible : PySem.W.subIn K (.ref a_NotPossible) (.type "BaseException") = some true)
    (pet_NotPossible : PySem.W.typeIn K (.ref a_NotPossible) = some (.type "type"))
    (peh_NotPossible : PySem.W.hasDictIn K a_NotPossible = true)
    (peic_NotPossible : PySem.W.isClsIn K a_NotPossible = true)
    (pes_NotPossible : PySem.W.subIn K (.ref a_NotPossible) (.ref a_NotPossible) = some true)
    (pxg_NotPossible : PySem.W.findIn K (.ref a_NotPossible) "__getattribute__" = some (some (.builtin "BaseException.__getattribute__")))
    (pxk_NotPossible : PySem.W.findIn K (.ref a_NotPossible) "__getattr__" = some none)
    (pxa_NotPossible : PySem.W.findIn K (.ref a_NotPossible) "__class__" = some (some (.builtin "object.__class__")))
    (pxn_NotPossible : PySem.W.specialIn K (.builtin "object.__class__") "__get__" = some (some (.builtin "getset_descriptor.__get__")))
    (pxt_NotPossible : PySem.W.takesIn K (.builtin "object.__class__") = some true)
    (pxm_NotPossible : PySem.W.mroIn K a_NotPossible (.type "object") = some true)
    (pxP_NotPossible : PySem.W.excIn K a_NotPossible [.type "ValueError", .type "Exception", .type "BaseException", .type "object"] "ValueError.__new__" = true)
    (pg_Shut : PySem.W.nsIn K mainGlobals "Shut" = some (some (.ref a_Shut)))
    (pek_Shut : PySem.W.keepIn K (.ref a_Shut) = true)
    (peb_Shut : PySem.W.subIn K (.ref a_Shut) (.type "BaseException") = some true)
    (pet_Shut : PySem.W.typeIn K (.ref a_Shut) = some (.type "type"))
    (peh_Shut : PySem.W.hasDictIn K a_Shut = true)
    (peic_Shut : PySem.W.isClsIn K a_Shut = true)
    (pes_Shut : PySem.W.subIn K (.ref a_Shut) (.ref a_Shut) = some true)
    (pxg_Shut : PySem.W.findIn K (.ref a_Shut) "__getattribute__" = some (some (.builtin "BaseException.__getattribute__")))
    (pxk_Shut : PySem.W.findIn K (.ref a_Shut) "__getattr__" = some none)
    (pxa_Shut : PySem.W.findIn K (.ref a_Shut) "__class__" = some (some (.builtin "object.__class__")))
    (pxn_Shut : PySem.W.specialIn K (.builtin "object.__class__") "__get__" = some (some (.builtin "getset_descriptor.__get__")))
    (pxt_Shut : PySem.W.takesIn K (.builtin "object.__class__") = some true)
    (pxm_Shut : PySem.W.mroIn K a_Shut (.type "object") = some true)
    (pn_Shut_day : PySem.W.findIn K (.ref a_Shut) "day" = some none)
    (poi_Shut : PySem.W.findIn K (.ref a_Shut) "__init__" = some (some (.ref a_m_Shut_init)))
    (pot_Shut : PySem.W.typeIn K (.ref a_m_Shut_init) = some (.type "function"))
    (pol_Shut : K.lookup a_Shut = some (excClassObj xnm_Shut xq_Shut a_Shut xN_Shut xbs_Shut xbm_Shut true xsn_Shut xsub_Shut xab_Shut xcol_Shut xdd_Shut xk0_Shut xk1_Shut xk2_Shut xk3_Shut xk5_Shut "ValueError.__new__"))
    (pov_Shut : PySem.HandSPX.refsVE xbm_Shut = true)
    (posa_Shut : PySem.W.findIn K (.ref a_Shut) "__setattr__" = some (some (.builtin "object.__setattr__")))
    (pg_NotClosed : PySem.W.nsIn K mainGlobals "NotClosed" = some (some (.ref a_NotClosed)))
    (pek_NotClosed : PySem.W.keepIn K (.ref a_NotClosed) = true)
    (peb_NotClosed : PySem.W.subIn K (.ref a_NotClosed) (.type "BaseException") = some true)
    (pet_NotClosed : PySem.W.typeIn K (.ref a_NotClosed) = some (.type "type"))
    (peh_NotClosed : PySem.W.hasDictIn K a_NotClosed = true)
    (peic_NotClosed : PySem.W.isClsIn K a_NotClosed = true)
    (pes_NotClosed : PySem.W.subIn K (.ref a_NotClosed) (.ref a_NotClosed) = some true)
    (pxg_NotClosed : PySem.W.findIn K (.ref a_NotClosed) "__getattribute__" = some (some (.builtin "BaseException.__getattribute__")))
    (pxk_NotClosed : PySem.W.findIn K (.ref a_NotClosed) "__getattr__" = some none)
    (pxa_NotClosed : PySem.W.findIn K (.ref a_NotClosed) "__class__" = some (some (.builtin "object.__class__")))
    (pxn_NotClosed : PySem.W.specialIn K (.builtin "object.__class__") "__get__" = some (some (.builtin "getset_descriptor.__get__")))
    (pxt_NotClosed : PySem.W.takesIn K (.builtin "object.__class__") = some true)
    (pxm_NotClosed : PySem.W.mroIn K a_NotClosed (.type "object") = some true)
    (pn_NotClosed_day : PySem.W.findIn K (.ref a_NotClosed) "day" = some none)
    (poi_NotClosed : PySem.W.findIn K (.ref a_NotClosed) "__init__" = some (some (.ref a_m_NotClosed_init)))
    (pot_NotClosed : PySem.W.typeIn K (.ref a_m_NotClosed_init) = some (.type "function"))
    (pol_NotClosed : K.lookup a_NotClosed = some (excClassObj xnm_NotClosed xq_NotClosed a_NotClosed xN_NotClosed xbs_NotClosed xbm_NotClosed true xsn_NotClosed xsub_NotClosed xab_NotClosed xcol_NotClosed xdd_NotClosed xk0_NotClosed xk1_NotClosed xk2_NotClosed xk3_NotClosed xk5_NotClosed "ValueError.__new__"))
    (pov_NotClosed : PySem.HandSPX.refsVE xbm_NotClosed = true)
    (posa_NotClosed : PySem.W.findIn K (.ref a_NotClosed) "__setattr__" = some (some (.builtin "object.__setattr__")))
    (pg_NotTold : PySem.W.nsIn K mainGlobals "NotTold" = some (some (.ref a_NotTold)))
    (pek_NotTold : PySem.W.keepIn K (.ref a_NotTold) = true)
    (peb_NotTold : PySem.W.subIn K (.ref a_NotTold) (.type "BaseException") = some true)
    (pet_NotTold : PySem.W.typeIn K (.ref a_NotTold) = some (.type "type"))
    (peh_NotTold : PySem.W.hasDictIn K a_NotTold = true)
    (peic_NotTold : PySem.W.isClsIn K a_NotTold = true)
    (pes_NotTold : PySem.W.subIn K (.ref a_NotTold) (.ref a_NotTold) = some true)
    (pxg_NotTold : PySem.W.findIn K (.ref a_NotTold) "__getattribute__" = some (some (.builtin "BaseException.__getattribute__")))
    (pxk_NotTold : PySem.W.findIn K (.ref a_NotTold) "__getattr__" = some none)
    (pxa_NotTold : PySem.W.findIn K (.ref a_NotTold) "__class__" = some (some (.builtin "object.__class__")))
    (pxn_NotTold : PySem.W.specialIn K (.builtin "object.__class__") "__get__" = some (some (.builtin "getset_descriptor.__get__")))
    (pxt_NotTold : PySem.W.takesIn K (.builtin "object.__class__") = some true)
    (pxm_NotTold : PySem.W.mroIn K a_NotTold (.type "object") = some true)
    (pxP_NotTold : PySem.W.excIn K a_NotTold [.type "ValueError", .type "Exception", .type "BaseException", .type "object"] "ValueError.__new__" = true)
    (pg_Unfit : PySem.W.nsIn K mainGlobals "Unfit" = some (some (.ref a_Unfit)))
    (pek_Unfit : PySem.W.keepIn K (.ref a_Unfit) = true)
    (peb_Unfit : PySem.W.subIn K (.ref a_Unfit) (.type "BaseException") = some true)
    (pet_Unfit : PySem.W.typeIn K (.ref a_Unfit) = some (.type "type"))
    (peh_Unfit : PySem.W.hasDictIn K a_Unfit = true)
    (peic_Unfit : PySem.W.isClsIn K a_Unfit = true)
    (pes_Unfit : PySem.W.subIn K (.ref a_Unfit) (.ref a_Unfit) = some true)
    (pxg_Unfit : PySem.W.findIn K (.ref a_Unfit) "__getattribute__" = some (some (.builtin "BaseException.__getattribute__")))
    (pxk_Unfit : PySem.W.findIn K (.ref a_Unfit) "__getattr__" = some none)
    (pxa_Unfit : PySem.W.findIn K (.ref a_Unfit) "__class__" = some (some (.builtin "object.__class__")))
    (pxn_Unfit : PySem.W.specialIn K (.builtin "object.__class__") "__get__" = some (some (.builtin "getset_descriptor.__get__")))
    (pxt_Unfit : PySem.W.takesIn K (.builtin "object.__class__") = some true)
    (pxm_Unfit : PySem.W.mroIn K a_Unfit (.type "object") = some true)
    (pkit_Unfit : kitAll K [a_BadEntry, a_BadName, a_BadRule, a_Contradiction, a_NameTaken, a_Negative, a_NoEntry, a_NoPrice, a_NoRatio, a_NotClosed, a_NotEnough, a_NotPlain, a_NotPossible, a_NotTold, a_Short, a_Shut, a_TooMany, a_Unfit, a_UnknownName] a_CostError = true)
    (pn_Unfit_factors : PySem.W.findIn K (.ref a_Unfit) "factors" = some none)
    (poi_Unfit : PySem.W.findIn K (.ref a_Unfit) "__init__" = some (some (.ref a_m_Unfit_init)))
    (pot_Unfit : PySem.W.typeIn K (.ref a_m_Unfit_init) = some (.type "function"))
    (pol_Unfit : K.lookup a_Unfit = some (excClassObj xnm_Unfit xq_Unfit a_Unfit xN_Unfit xbs_Unfit xbm_Unfit true xsn_Unfit xsub_Unfit xab_Unfit xcol_Unfit xdd_Unfit xk0_Unfit xk1_Unfit xk2_Unfit xk3_Unfit xk5_Unfit "ValueError.__new__"))
    (pov_Unfit : PySem.HandSPX.refsVE xbm_Unfit = true)
    (posa_Unfit : PySem.W.findIn K (.ref a_Unfit) "__setattr__" = some (some (.builtin "object.__setattr__")))
    (pe_m_BadName_init : PySem.W.findIn K (.ref a_BadName) "__init__" = some (some (.ref a_m_BadName_init)))
    (pl_m_BadName_init : K.lookup a_m_BadName_init = some ⟨oc_m_BadName_init, od_m_BadName_init, .func (PySem.W.fnOf "__init__" "BadName.__init__" (defArgs s_m_BadName_init) (defBody s_m_BadName_init) (defScope s_m_BadName_init) .none kV_m_BadName_init dc_m_BadName_init pm_m_BadName_init an_m_BadName_init cd_m_BadName_init ct_m_BadName_init), sl_m_BadName_init⟩)
    (pc_m_BadName_init : PySem.W.codeIn K cd_m_BadName_init "BadName.__init__" = true)
    (pq_m_BadName_init : PySem.W.keepIn K (.ref a_m_BadName_init) = true)
    (pe_m_NoPrice_init : PySem.W.findIn K (.ref a_NoPrice) "__init__" = some (some (.ref a_m_NoPrice_init)))
    (pl_m_NoPrice_init : K.lookup a_m_NoPrice_init = some ⟨oc_m_NoPrice_init, od_m_NoPrice_init, .func (PySem.W.fnOf "__init__" "NoPrice.__init__" (defArgs s_m_NoPrice_init) (defBody s_m_NoPrice_init) (defScope s_m_NoPrice_init) .none kV_m_NoPrice_init dc_m_NoPrice_init pm_m_NoPrice_init an_m_NoPrice_init cd_m_NoPrice_init ct_m_NoPrice_init), sl_m_NoPrice_init⟩)
    (pc_m_NoPrice_init : PySem.W.codeIn K cd_m_NoPrice_init "NoPrice.__init__" = true)
    (pq_m_NoPrice_init : PySem.W.keepIn K (.ref a_m_NoPrice_init) = true)
    (pe_m_Negative_init : PySem.W.findIn K (.ref a_Negative) "__init__" = some (some (.ref a_m_Negative_init)))
    (pl_m_Negative_init : K.lookup a_m_Negative_init = some ⟨oc_m_Negative_init, od_m_Negative_init, .func (PySem.W.fnOf "__init__" "Negative.__init__" (defArgs s_m_Negative_init) (defBody s_m_Negative_init) (defScope s_m_Negative_init) .none kV_m_Negative_init dc_m_Negative_init pm_m_Negative_init an_m_Negative_init cd_m_Negative_init ct_m_Negative_init), sl_m_Negative_init⟩)
    (pc_m_Negative_init : PySem.W.codeIn K cd_m_Negative_init "Negative.__init__" = true)
    (pq_m_Negative_init : PySem.W.keepIn K (.ref a_m_Negative_init) = true)
    (pe_m_BadEntry_init : PySem.W.findIn K (.ref a_BadEntry) "__init__" = some (some (.ref a_m_BadEntry_init)))
    (pl_m_BadEntry_init : K.lookup a_m_BadEntry_init = some ⟨oc_m_BadEntry_init, od_m_BadEntry_init, .func (PySem.W.fnOf "__init__" "BadEntry.__init__" (defArgs s_m_BadEntry_init) (defBody s_m_BadEntry_init) (defScope s_m_BadEntry_init) .none kV_m_BadEntry_init dc_m_BadEntry_init pm_m_BadEntry_init an_m_BadEntry_init cd_m_BadEntry_init ct_m_BadEntry_init), sl_m_BadEntry_init⟩)
    (pc_m_BadEntry_init : PySem.W.codeIn K cd_m_BadEntry_init "BadEntry.__init__" = true)
    (pq_m_BadEntry_init : PySem.W.keepIn K (.ref a_m_BadEntry_init) = true)
    (pe_m_NoEntry_init : PySem.W.findIn K (.ref a_NoEntry) "__init__" = some (some (.ref a_m_NoEntry_init)))
    (pl_m_NoEntry_init : K.lookup a_m_NoEntry_init = some ⟨oc_m_NoEntry_init, od_m_NoEntry_init, .func (PySem.W.fnOf "__init__" "NoEntry.__init__" (defArgs s_m_NoEntry_init) (defBody s_m_NoEntry_init) (defScope s_m_NoEntry_init) .none kV_m_NoEntry_init dc_m_NoEntry_init pm_m_NoEntry_init an_m_NoEntry_init cd_m_NoEntry_init ct_m_NoEntry_init), sl_m_NoEntry_init⟩)
    (pc_m_NoEntry_init : PySem.W.codeIn K cd_m_NoEntry_init "NoEntry.__init__" = true)
    (pq_m_NoEntry_init : PySem.W.keepIn K (.ref a_m_NoEntry_init) = true)
    (pe_m_BadRule_init : PySem.W.findIn K (.ref a_BadRule) "__init__" = some (some (.ref a_m_BadRule_init)))
    (pl_m_BadRule_init : K.lookup a_m_BadRule_init = some ⟨oc_m_BadRule_init, od_m_BadRule_init, .func (PySem.W.fnOf "__init__" "BadRule.__init__" (defArgs s_m_BadRule_init) (defBody s_m_BadRule_init) (defScope s_m_BadRule_init) .none kV_m_BadRule_init dc_m_BadRule_init pm_m_BadRule_init an_m_BadRule_init cd_m_BadRule_init ct_m_BadRule_init), sl_m_BadRule_init⟩)
    (pc_m_BadRule_init : PySem.W.codeIn K cd_m_BadRule_init "BadRule.__init__" = true)
    (pq_m_BadRule_init : PySem.W.keepIn K (.ref a_m_BadRule_init) = true)
    (pe_m_Short_init : PySem.W.findIn K (.ref a_Short) "__init__" = some (some (.ref a_m_Short_init)))
    (pl_m_Short_init : K.lookup a_m_Short_init = some ⟨oc_m_Short_init, od_m_Short_init, .func (PySem.W.fnOf "__init__" "Short.__init__" (defArgs s_m_Short_init) (defBody s_m_Short_init) (defScope s_m_Short_init) .none kV_m_Short_init dc_m_Short_init pm_m_Short_init an_m_Short_init cd_m_Short_init ct_m_Short_init), sl_m_Short_init⟩)
    (pc_m_Short_init : PySem.W.codeIn K cd_m_Short_init "Short.__init__" = true)
    (pq_m_Short_init : PySem.W.keepIn K (.ref a_m_Short_init) = true)
    (pe_m_NameTaken_init : PySem.W.findIn K (.ref a_NameTaken) "__init__" = some (some (.ref a_m_NameTaken_init)))
    (pl_m_NameTaken_init : K.lookup a_m_NameTaken_init = some ⟨oc_m_NameTaken_init, od_m_NameTaken_init, .func (PySem.W.fnOf "__init__" "NameTaken.__init__" (defArgs s_m_NameTaken_init) (defBody s_m_NameTaken_init) (defScope s_m_NameTaken_init) .none kV_m_NameTaken_init dc_m_NameTaken_init pm_m_NameTaken_init an_m_NameTaken_init cd_m_NameTaken_init ct_m_NameTaken_init), sl_m_NameTaken_init⟩)
    (pc_m_NameTaken_init : PySem.W.codeIn K cd_m_NameTaken_init "NameTaken.__init__" = true)
    (pq_m_NameTaken_init : PySem.W.keepIn K (.ref a_m_NameTaken_init) = true)
    (pe_m_UnknownName_init : PySem.W.findIn K (.ref a_UnknownName) "__init__" = some (some (.ref a_m_UnknownName_init)))
    (pl_m_UnknownName_init : K.lookup a_m_UnknownName_init = some ⟨oc_m_UnknownName_init, od_m_UnknownName_init, .func (PySem.W.fnOf "__init__" "UnknownName.__init__" (defArgs s_m_UnknownName_init) (defBody s_m_UnknownName_init) (defScope s_m_UnknownName_init) .none kV_m_UnknownName_init dc_m_UnknownName_init pm_m_UnknownName_init an_m_UnknownName_init cd_m_UnknownName_init ct_m_UnknownName_init), sl_m_UnknownName_init⟩)
    (pc_m_UnknownName_init : PySem.W.codeIn K cd_m_UnknownName_init "UnknownName.__init__" = true)
    (pq_m_UnknownName_init : PySem.W.keepIn K (.ref a_m_UnknownName_init) = true)
    (pe_m_NotEnough_init : PySem.W.findIn K (.ref a_NotEnough) "__init__" = some (some (.ref a_m_NotEnough_init)))
    (pl_m_NotEnough_init : K.lookup a_m_NotEnough_init = some ⟨oc_m_NotEnough_init, od_m_NotEnough_init, .func (PySem.W.fnOf "__init__" "NotEnough.__init__" (defArgs s_m_NotEnough_init) (defBody s_m_NotEnough_init) (defScope s_m_NotEnough_init) .none kV_m_NotEnough_init dc_m_NotEnough_init pm_m_NotEnough_init an_m_NotEnough_init cd_m_NotEnough_init ct_m_NotEnough_init), sl_m_NotEnough_init⟩)
    (pc_m_NotEnough_init : PySem.W.codeIn K cd_m_NotEnough_init "NotEnough.__init__" = true)
    (pq_m_NotEnough_init : PySem.W.keepIn K (.ref a_m_NotEnough_init) = true)
    (pe_m_TooMany_init : PySem.W.findIn K (.ref a_TooMany) "__init__" = some (some (.ref a_m_TooMany_init)))
    (pl_m_TooMany_init : K.lookup a_m_TooMany_init = some ⟨oc_m_TooMany_init, od_m_TooMany_init, .func (PySem.W.fnOf "__init__" "TooMany.__init__" (defArgs s_m_TooMany_init) (defBody s_m_TooMany_init) (defScope s_m_TooMany_init) .none kV_m_TooMany_init dc_m_TooMany_init pm_m_TooMany_init an_m_TooMany_init cd_m_TooMany_init ct_m_TooMany_init), sl_m_TooMany_init⟩)
    (pc_m_TooMany_init : PySem.W.codeIn K cd_m_TooMany_init "TooMany.__init__" = true)
    (pq_m_TooMany_init : PySem.W.keepIn K (.ref a_m_TooMany_init) = true)
    (pe_m_Contradiction_init : PySem.W.findIn K (.ref a_Contradiction) "__init__" = some (some (.ref a_m_Contradiction_init)))
    (pl_m_Contradiction_init : K.lookup a_m_Contradiction_init = some ⟨oc_m_Contradiction_init, od_m_Contradiction_init, .func (PySem.W.fnOf "__init__" "Contradiction.__init__" (defArgs s_m_Contradiction_init) (defBody s_m_Contradiction_init) (defScope s_m_Contradiction_init) .none kV_m_Contradiction_init dc_m_Contradiction_init pm_m_Contradiction_init an_m_Contradiction_init cd_m_Contradiction_init ct_m_Contradiction_init), sl_m_Contradiction_init⟩)
    (pc_m_Contradiction_init : PySem.W.codeIn K cd_m_Contradiction_init "Contradiction.__init__" = true)
    (pq_m_Contradiction_init : PySem.W.keepIn K (.ref a_m_Contradiction_init) = true)
    (pe_m_NotPlain_init : PySem.W.findIn K (.ref a_NotPlain) "__init__" = some (some (.ref a_m_NotPlain_init)))
    (pl_m_NotPlain_init : K.lookup a_m_NotPlain_init = some ⟨oc_m_NotPlain_init, od_m_NotPlain_init, .func (PySem.W.fnOf "__init__" "NotPlain.__init__" (defArgs s_m_NotPlain_init) (defBody s_m_NotPlain_init) (defScope s_m_NotPlain_init) .none kV_m_NotPlain_init dc_m_NotPlain_init pm_m_NotPlain_init an_m_NotPlain_init cd_m_NotPlain_init ct_m_NotPlain_init), sl_m_NotPlain_init⟩)
    (pc_m_NotPlain_init : PySem.W.codeIn K cd_m_NotPlain_init "NotPlain.__init__" = true)
    (pq_m_NotPlain_init : PySem.W.keepIn K (.ref a_m_NotPlain_init) = true)
    (pe_m_Shut_init : PySem.W.findIn K (.ref a_Shut) "__init__" = some (some (.ref a_m_Shut_init)))
    (pl_m_Shut_init : K.lookup a_m_Shut_init = some ⟨oc_m_Shut_init, od_m_Shut_init, .func (PySem.W.fnOf "__init__" "Shut.__init__" (defArgs s_m_Shut_init) (defBody s_m_Shut_init) (defScope s_m_Shut_init) .none kV_m_Shut_init dc_m_Shut_init pm_m_Shut_init an_m_Shut_init cd_m_Shut_init ct_m_Shut_init), sl_m_Shut_init⟩)
    (pc_m_Shut_init : PySem.W.codeIn K cd_m_Shut_init "Shut.__init__" = true)
    (pq_m_Shut_init : PySem.W.keepIn K (.ref a_m_Shut_init) = true)
    (pe_m_NotClosed_init : PySem.W.findIn K (.ref a_NotClosed) "__init__" = some (some (.ref a_m_NotClosed_init)))
    (pl_m_NotClosed_init : K.lookup a_m_NotClosed_init = some ⟨oc_m_NotClosed_init, od_m_NotClosed_init, .func (PySem.W.fnOf "__init__" "NotClosed.__init__" (defArgs s_m_NotClosed_init) (defBody s_m_NotClosed_init) (defScope s_m_NotClosed_init) .none kV_m_NotClosed_init dc_m_NotClosed_init pm_m_NotClosed_init an_m_NotClosed_init cd_m_NotClosed_init ct_m_NotClosed_init), sl_m_NotClosed_init⟩)
    (pc_m_NotClosed_init : PySem.W.codeIn K cd_m_NotClosed_init "NotClosed.__init__" = true)
    (pq_m_NotClosed_init : PySem.W.keepIn K (.ref a_m_NotClosed_init) = true)
    (pe_m_Unfit_init : PySem.W.findIn K (.ref a_Unfit) "__init__" = some (some (.ref a_m_Unfit_init)))
    (pl_m_Unfit_init : K.lookup a_m_Unfit_init = some ⟨oc_m_Unfit_init, od_m_Unfit_init, .func (PySem.W.fnOf "__init__" "Unfit.__init__" (defArgs s_m_Unfit_init) (defBody s_m_Unfit_init) (defScope s_m_Unfit_init) .none kV_m_Unfit_init dc_m_Unfit_init pm_m_Unfit_init an_m_Unfit_init cd_m_Unfit_init ct_m_Unfit_init), sl_m_Unfit_init⟩)
    (pc_m_Unfit_init : PySem.W.codeIn K cd_m_Unfit_init "Unfit.__init__" = true)
    (pq_m_Unfit_init : PySem.W.keepIn K (.ref a_m_Unfit_init) = true)
    (pa_l_bag : PySem.W.nsIn K mainGlobals "_law_bag" = some (some (.ref a_l_bag)))
    (pl_l_bag : K.lookup a_l_bag = some ⟨oc_l_bag, od_l_bag, .func (PySem.W.fnOf "_law_bag" "_law_bag" (defArgs s_l_bag) (defBody s_l_bag) (defScope s_l_bag) .none kV_l_bag dc_l_bag pm_l_bag an_l_bag cd_l_bag ct_l_bag), sl_l_bag⟩)
    (pc_l_bag : PySem.W.codeIn K cd_l_bag "_law_bag" = true)
    (pq_l_bag : PySem.W.keepIn K (.ref a_l_bag) = true)
    (pa_l_draw : PySem.W.nsIn K mainGlobals "_law_draw" = some (some (.ref a_l_draw)))
    (pl_l_draw : K.lookup a_l_draw = some ⟨oc_l_draw, od_l_draw, .func (PySem.W.fnOf "_law_draw" "_law_draw" (defArgs s_l_draw) (defBody s_l_draw) (defScope s_l_draw) .none kV_l_draw dc_l_draw pm_l_draw an_l_draw cd_l_draw ct_l_draw), sl_l_draw⟩)
    (pc_l_draw : PySem.W.codeIn K cd_l_draw "_law_draw" = true)
    (pq_l_draw : PySem.W.keepIn K (.ref a_l_draw) = true)
    (pa_l_names : PySem.W.nsIn K mainGlobals "_law_names" = some (some (.ref a_l_names)))
    (pl_l_names : K.lookup a_l_names = some ⟨oc_l_names, od_l_names, .func (PySem.W.fnOf "_law_names" "_law_names" (defArgs s_l_names) (defBody s_l_names) (defScope s_l_names) .none kV_l_names dc_l_names pm_l_names an_l_names cd_l_names ct_l_names), sl_l_names⟩)
    (pc_l_names : PySem.W.codeIn K cd_l_names "_law_names" = true)
    (pq_l_names : PySem.W.keepIn K (.ref a_l_names) = true)
    (pa_l_named : PySem.W.nsIn K mainGlobals "_law_named" = some (some (.ref a_l_named)))
    (pl_l_named : K.lookup a_l_named = some ⟨oc_l_named, od_l_named, .func (PySem.W.fnOf "_law_named" "_law_named" (defArgs s_l_named) (defBody s_l_named) (defScope s_l_named) .none kV_l_named dc_l_named pm_l_named an_l_named cd_l_named ct_l_named), sl_l_named⟩)
    (pc_l_named : PySem.W.codeIn K cd_l_named "_law_named" = true)
    (pq_l_named : PySem.W.keepIn K (.ref a_l_named) = true)
    (pa_l_placed : PySem.W.nsIn K mainGlobals "_law_placed" = some (some (.ref a_l_placed)))
    (pl_l_placed : K.lookup a_l_placed = some ⟨oc_l_placed, od_l_placed, .func (PySem.W.fnOf "_law_placed" "_law_placed" (defArgs s_l_placed) (defBody s_l_placed) (defScope s_l_placed) .none kV_l_placed dc_l_placed pm_l_placed an_l_placed cd_l_placed ct_l_placed), sl_l_placed⟩)
    (pc_l_placed : PySem.W.codeIn K cd_l_placed "_law_placed" = true)
    (pq_l_placed : PySem.W.keepIn K (.ref a_l_placed) = true)
    (pa_l_others : PySem.W.nsIn K mainGlobals "_law_others" = some (some (.ref a_l_others)))
    (pl_l_others : K.lookup a_l_others = some ⟨oc_l_others, od_l_others, .func (PySem.W.fnOf "_law_others" "_law_others" (defArgs s_l_others) (defBody s_l_others) (defScope s_l_others) .none kV_l_others dc_l_others pm_l_others an_l_others cd_l_others ct_l_others), sl_l_others⟩)
    (pc_l_others : PySem.W.codeIn K cd_l_others "_law_others" = true)
    (pq_l_others : PySem.W.keepIn K (.ref a_l_others) = true)
    (pa_l_classes : PySem.W.nsIn K mainGlobals "_law_classes" = some (some (.ref a_l_classes)))
    (pl_l_classes : K.lookup a_l_classes = some ⟨oc_l_classes, od_l_classes, .func (PySem.W.fnOf "_law_classes" "_law_classes" (defArgs s_l_classes) (defBody s_l_classes) (defScope s_l_classes) .none kV_l_classes dc_l_classes pm_l_classes an_l_classes cd_l_classes ct_l_classes), sl_l_classes⟩)
    (pc_l_classes : PySem.W.codeIn K cd_l_classes "_law_classes" = true)
    (pq_l_classes : PySem.W.keepIn K (.ref a_l_classes) = true)
    (pa_f_law : PySem.W.nsIn K mainGlobals "law" = some (some (.ref a_f_law)))
    (pl_f_law : K.lookup a_f_law = some ⟨oc_f_law, od_f_law, .func (PySem.W.fnOf "law" "law" (defArgs s_f_law) (defBody s_f_law) (defScope s_f_law) .none kV_f_law dc_f_law pm_f_law an_f_law cd_f_law ct_f_law), sl_f_law⟩)
    (pc_f_law : PySem.W.codeIn K cd_f_law "law" = true)
    (pq_f_law : PySem.W.keepIn K (.ref a_f_law) = true) :
    ∃ fd : FuncData, (∀ (s : Shared) (v : Value), BindsTo s fd ⟨[v], []⟩ [("_law_script", v)]) ∧ ∀ base : Heap, K.In base → base.Ns mainGlobals mg → FnOk l.prog w K mg base CX0 6 fa fd P_f_law (spLaw K) := by
  have e := hfa.symm.trans (PySem.W.mg_of X G pa_f_law)
  cases e
  have F_m_BadName_init := fun_mk (st := s_m_BadName_init) pl_m_BadName_init pc_m_BadName_init pq_m_BadName_init
  have b_m_BadName_init := F_m_BadName_init.binds (ps := P_m_BadName_init) fun _ _ _ _ _ _ us hl => match us, hl with | [_, _], _ => rfl
  have F_m_NoPrice_init := fun_mk (st := s_m_NoPrice_init) pl_m_NoPrice_init pc_m_NoPrice_init pq_m_NoPrice_init
  have b_m_NoPrice_init := F_m_NoPrice_init.binds (ps := P_m_NoPrice_init) fun _ _ _ _ _ _ us hl => match us, hl with | [_, _], _ => rfl
  have F_m_Negative_init := fun_mk (st := s_m_Negative_init) pl_m_Negative_init pc_m_Negative_init pq_m_Negative_init
  have b_m_Negative_init := F_m_Negative_init.binds (ps := P_m_Negative_init) fun _ _ _ _ _ _ us hl => match us, hl with | [_, _], _ => rfl
  have F_m_BadEntry_init := fun_mk (st := s_m_BadEntry_init) pl_m_BadEntry_init pc_m_BadEntry_init pq_m_BadEntry_init
  have b_m_BadEntry_init := F_m_BadEntry_init.binds (ps := P_m_BadEntry_init) fun _ _ _ _ _ _ us hl => match us, hl with | [_, _, _], _ => rfl
  have F_m_NoEntry_init := fun_mk (st := s_m_NoEntry_init) pl_m_NoEntry_init pc_m_NoEntry_init pq_m_NoEntry_init
  have b_m_NoEntry_init := F_m_NoEntry_init.binds (ps := P_m_NoEntry_init) fun _ _ _ _ _ _ us hl => match us, hl with | [_, _, _], _ => rfl
  have F_m_BadRule_init := fun_mk (st := s_m_BadRule_init) pl_m_BadRule_init pc_m_BadRule_init pq_m_BadRule_init
  have b_m_BadRule_init := F_m_BadRule_init.binds (ps := P_m_BadRule_init) fun _ _ _ _ _ _ us hl => match us, hl with | [_, _], _ => rfl
  have F_m_Short_init := fun_mk (st := s_m_Short_init) pl_m_Short_init pc_m_Short_init pq_m_Short_init
  have b_m_Short_init := F_m_Short_init.binds (ps := P_m_Short_init) fun _ _ _ _ _ _ us hl => match us, hl with | [_, _], _ => rfl
  have F_m_NameTaken_init := fun_mk (st := s_m_NameTaken_init) pl_m_NameTaken_init pc_m_NameTaken_init pq_m_NameTaken_init
  have b_m_NameTaken_init := F_m_NameTaken_init.binds (ps := P_m_NameTaken_init) fun _ _ _ _ _ _ us hl => match us, hl with | [_, _], _ => rfl
  have F_m_UnknownName_init := fun_mk (st := s_m_UnknownName_init) pl_m_UnknownName_init pc_m_UnknownName_init pq_m_UnknownName_init
  have b_m_UnknownName_init := F_m_UnknownName_init.binds (ps := P_m_UnknownName_init) fun _ _ _ _ _ _ us hl => match us, hl with | [_, _], _ => rfl
  have F_m_NotEnough_init := fun_mk (st := s_m_NotEnough_init) pl_m_NotEnough_init pc_m_NotEnough_init pq_m_NotEnough_init
  have b_m_NotEnough_init := F_m_NotEnough_init.binds (ps := P_m_NotEnough_init) fun _ _ _ _ _ _ us hl => match us, hl with | [_, _, _, _], _ => rfl
  have F_m_TooMany_init := fun_mk (st := s_m_TooMany_init) pl_m_TooMany_init pc_m_TooMany_init pq_m_TooMany_init
  have b_m_TooMany_init := F_m_TooMany_init.binds (ps := P_m_TooMany_init) fun _ _ _ _ _ _ us hl => match us, hl with | [_, _, _, _], _ => rfl
  have F_m_Contradiction_init := fun_mk (st := s_m_Contradiction_init) pl_m_Contradiction_init pc_m_Contradiction_init pq_m_Contradiction_init
  have b_m_Contradiction_init := F_m_Contradiction_init.binds (ps := P_m_Contradiction_init) fun _ _ _ _ _ _ us hl => match us, hl with | [_, _], _ => rfl
  have F_m_NotPlain_init := fun_mk (st := s_m_NotPlain_init) pl_m_NotPlain_init pc_m_NotPlain_init pq_m_NotPlain_init
  have b_m_NotPlain_init := F_m_NotPlain_init.binds (ps := P_m_NotPlain_init) fun _ _ _ _ _ _ us hl => match us, hl with | [_, _, _], _ => rfl
  have F_m_Shut_init := fun_mk (st := s_m_Shut_init) pl_m_Shut_init pc_m_Shut_init pq_m_Shut_init
  have b_m_Shut_init := F_m_Shut_init.binds (ps := P_m_Shut_init) fun _ _ _ _ _ _ us hl => match us, hl with | [_, _], _ => rfl
  have F_m_NotClosed_init := fun_mk (st := s_m_NotClosed_init) pl_m_NotClosed_init pc_m_NotClosed_init pq_m_NotClosed_init
  have b_m_NotClosed_init := F_m_NotClosed_init.binds (ps := P_m_NotClosed_init) fun _ _ _ _ _ _ us hl => match us, hl with | [_, _], _ => rfl
  have F_m_Unfit_init := fun_mk (st := s_m_Unfit_init) pl_m_Unfit_init pc_m_Unfit_init pq_m_Unfit_init
  have b_m_Unfit_init := F_m_Unfit_init.binds (ps := P_m_Unfit_init) fun _ _ _ _ _ _ us hl => match us, hl with | [_, _], _ => rfl
  have F_l_bag := fun_mk (st := s_l_bag) pl_l_bag pc_l_bag pq_l_bag
  have b_l_bag := F_l_bag.binds (ps := P_l_bag) fun _ _ _ _ _ _ us hl => match us, hl with | [_], _ => rfl
  have F_l_draw := fun_mk (st := s_l_draw) pl_l_draw pc_l_draw pq_l_draw
  have b_l_draw := F_l_draw.binds (ps := P_l_draw) fun _ _ _ _ _ _ us hl => match us, hl with | [_, _], _ => rfl
  have F_l_names := fun_mk (st := s_l_names) pl_l_names pc_l_names pq_l_names
  have b_l_names := F_l_names.binds (ps := P_l_names) fun _ _ _ _ _ _ us hl => match us, hl with | [_, _, _], _ => rfl
  have F_l_named := fun_mk (st := s_l_named) pl_l_named pc_l_named pq_l_named
  have b_l_named := F_l_named.binds (ps := P_l_named) fun _ _ _ _ _ _ us hl => match us, hl with | [_], _ => rfl
  have F_l_placed := fun_mk (st := s_l_placed) pl_l_placed pc_l_placed pq_l_placed
  have b_l_placed := F_l_placed.binds (ps := P_l_placed) fun _ _ _ _ _ _ us hl => match us, hl with | [_, _], _ => rfl
  have F_l_others := fun_mk (st := s_l_others) pl_l_others pc_l_others pq_l_others
  have b_l_others := F_l_others.binds (ps := P_l_others) fun _ _ _ _ _ _ us hl => match us, hl with | [_, _, _, _], _ => rfl
  have F_l_classes := fun_mk (st := s_l_classes) pl_l_classes pc_l_classes pq_l_classes
  have b_l_classes := F_l_classes.binds (ps := P_l_classes) fun _ _ _ _ _ _ us hl => match us, hl with | [_], _ => rfl
  have F_f_law := fun_mk (st := s_f_law) pl_f_law pc_f_law pq_f_law
  have b_f_law := F_f_law.binds (ps := P_f_law) fun _ _ _ _ _ _ us hl => match us, hl with | [_], _ => rfl
  have T : Txt K mg ⟨a_CostError, a_NoRatio, a_BadName, a_NoPrice, a_Negative, a_BadEntry, a_NoEntry, a_BadRule, a_Short, a_NameTaken, a_UnknownName, a_NotEnough, a_TooMany, a_Contradiction, a_NotPlain, a_NotPossible, a_Shut, a_NotClosed, a_NotTold, a_Unfit, a_m_BadName_init, (PySem.W.fnOf "__init__" "BadName.__init__" (defArgs s_m_BadName_init) (defBody s_m_BadName_init) (defScope s_m_BadName_init) .none kV_m_BadName_init dc_m_BadName_init pm_m_BadName_init an_m_BadName_init cd_m_BadName_init ct_m_BadName_init), a_m_NoPrice_init, (PySem.W.fnOf "__init__" "NoPrice.__init__" (defArgs s_m_NoPrice_init) (defBody s_m_NoPrice_init) (defScope s_m_NoPrice_init) .none kV_m_NoPrice_init dc_m_NoPrice_init pm_m_NoPrice_init an_m_NoPrice_init cd_m_NoPrice_init ct_m_NoPrice_init), a_m_Negative_init, (PySem.W.fnOf "__init__" "Negative.__init__" (defArgs s_m_Negative_init) (defBody s_m_Negative_init) (defScope s_m_Negative_init) .none kV_m_Negative_init dc_m_Negative_init pm_m_Negative_init an_m_Negative_init cd_m_Negative_init ct_m_Negative_init), a_m_BadEntry_init, (PySem.W.fnOf "__init__" "BadEntry.__init__" (defArgs s_m_BadEntry_init) (defBody s_m_BadEntry_init) (defScope s_m_BadEntry_init) .none kV_m_BadEntry_init dc_m_BadEntry_init pm_m_BadEntry_init an_m_BadEntry_init cd_m_BadEntry_init ct_m_BadEntry_init), a_m_NoEntry_init, (PySem.W.fnOf "__init__" "NoEntry.__init__" (defArgs s_m_NoEntry_init) (defBody s_m_NoEntry_init) (defScope s_m_NoEntry_init) .none kV_m_NoEntry_init dc_m_NoEntry_init pm_m_NoEntry_init an_m_NoEntry_init cd_m_NoEntry_init ct_m_NoEntry_init), a_m_BadRule_init, (PySem.W.fnOf "__init__" "BadRule.__init__" (defArgs s_m_BadRule_init) (defBody s_m_BadRule_init) (defScope s_m_BadRule_init) .none kV_m_BadRule_init dc_m_BadRule_init pm_m_BadRule_init an_m_BadRule_init cd_m_BadRule_init ct_m_BadRule_init), a_m_Short_init, (PySem.W.fnOf "__init__" "Short.__init__" (defArgs s_m_Short_init) (defBody s_m_Short_init) (defScope s_m_Short_init) .none kV_m_Short_init dc_m_Short_init pm_m_Short_init an_m_Short_init cd_m_Short_init ct_m_Short_init), a_m_NameTaken_init, (PySem.W.fnOf "__init__" "NameTaken.__init__" (defArgs s_m_NameTaken_init) (defBody s_m_NameTaken_init) (defScope s_m_NameTaken_init) .none kV_m_NameTaken_init dc_m_NameTaken_init pm_m_NameTaken_init an_m_NameTaken_init cd_m_NameTaken_init ct_m_NameTaken_init), a_m_UnknownName_init, (PySem.W.fnOf "__init__" "UnknownName.__init__" (defArgs s_m_UnknownName_init) (defBody s_m_UnknownName_init) (defScope s_m_UnknownName_init) .none kV_m_UnknownName_init dc_m_UnknownName_init pm_m_UnknownName_init an_m_UnknownName_init cd_m_UnknownName_init ct_m_UnknownName_init), a_m_NotEnough_init, (PySem.W.fnOf "__init__" "NotEnough.__init__" (defArgs s_m_NotEnough_init) (defBody s_m_NotEnough_init) (defScope s_m_NotEnough_init) .none kV_m_NotEnough_init dc_m_NotEnough_init pm_m_NotEnough_init an_m_NotEnough_init cd_m_NotEnough_init ct_m_NotEnough_init), a_m_TooMany_init, (PySem.W.fnOf "__init__" "TooMany.__init__" (defArgs s_m_TooMany_init) (defBody s_m_TooMany_init) (defScope s_m_TooMany_init) .none kV_m_TooMany_init dc_m_TooMany_init pm_m_TooMany_init an_m_TooMany_init cd_m_TooMany_init ct_m_TooMany_init), a_m_Contradiction_init, (PySem.W.fnOf "__init__" "Contradiction.__init__" (defArgs s_m_Contradiction_init) (defBody s_m_Contradiction_init) (defScope s_m_Contradiction_init) .none kV_m_Contradiction_init dc_m_Contradiction_init pm_m_Contradiction_init an_m_Contradiction_init cd_m_Contradiction_init ct_m_Contradiction_init), a_m_NotPlain_init, (PySem.W.fnOf "__init__" "NotPlain.__init__" (defArgs s_m_NotPlain_init) (defBody s_m_NotPlain_init) (defScope s_m_NotPlain_init) .none kV_m_NotPlain_init dc_m_NotPlain_init pm_m_NotPlain_init an_m_NotPlain_init cd_m_NotPlain_init ct_m_NotPlain_init), a_m_Shut_init, (PySem.W.fnOf "__init__" "Shut.__init__" (defArgs s_m_Shut_init) (defBody s_m_Shut_init) (defScope s_m_Shut_init) .none kV_m_Shut_init dc_m_Shut_init pm_m_Shut_init an_m_Shut_init cd_m_Shut_init ct_m_Shut_init), a_m_NotClosed_init, (PySem.W.fnOf "__init__" "NotClosed.__init__" (defArgs s_m_NotClosed_init) (defBody s_m_NotClosed_init) (defScope s_m_NotClosed_init) .none kV_m_NotClosed_init dc_m_NotClosed_init pm_m_NotClosed_init an_m_NotClosed_init cd_m_NotClosed_init ct_m_NotClosed_init), a_m_Unfit_init, (PySem.W.fnOf "__init__" "Unfit.__init__" (defArgs s_m_Unfit_init) (defBody s_m_Unfit_init) (defScope s_m_Unfit_init) .none kV_m_Unfit_init dc_m_Unfit_init pm_m_Unfit_init an_m_Unfit_init cd_m_Unfit_init ct_m_Unfit_init), a_l_bag, (PySem.W.fnOf "_law_bag" "_law_bag" (defArgs s_l_bag) (defBody s_l_bag) (defScope s_l_bag) .none kV_l_bag dc_l_bag pm_l_bag an_l_bag cd_l_bag ct_l_bag), a_l_draw, (PySem.W.fnOf "_law_draw" "_law_draw" (defArgs s_l_draw) (defBody s_l_draw) (defScope s_l_draw) .none kV_l_draw dc_l_draw pm_l_draw an_l_draw cd_l_draw ct_l_draw), a_l_names, (PySem.W.fnOf "_law_names" "_law_names" (defArgs s_l_names) (defBody s_l_names) (defScope s_l_names) .none kV_l_names dc_l_names pm_l_names an_l_names cd_l_names ct_l_names), a_l_named, (PySem.W.fnOf "_law_named" "_law_named" (defArgs s_l_named) (defBody s_l_named) (defScope s_l_named) .none kV_l_named dc_l_named pm_l_named an_l_named cd_l_named ct_l_named), a_l_placed, (PySem.W.fnOf "_law_placed" "_law_placed" (defArgs s_l_placed) (defBody s_l_placed) (defScope s_l_placed) .none kV_l_placed dc_l_placed pm_l_placed an_l_placed cd_l_placed ct_l_placed), a_l_others, (PySem.W.fnOf "_law_others" "_law_others" (defArgs s_l_others) (defBody s_l_others) (defScope s_l_others) .none kV_l_others dc_l_others pm_l_others an_l_others cd_l_others ct_l_others), a_l_classes, (PySem.W.fnOf "_law_classes" "_law_classes" (defArgs s_l_classes) (defBody s_l_classes) (defScope s_l_classes) .none kV_l_classes dc_l_classes pm_l_classes an_l_classes cd_l_classes ct_l_classes), fa, (PySem.W.fnOf "law" "law" (defArgs s_f_law) (defBody s_f_law) (defScope s_f_law) .none kV_f_law dc_f_law pm_f_law an_f_law cd_f_law ct_f_law)⟩ := {
    z_ValueError := PySem.W.mg_none_of X G pz_ValueError,
    z_abs := PySem.W.mg_none_of X G pz_abs,
    z_int := PySem.W.mg_none_of X G pz_int,
    z_isinstance := PySem.W.mg_none_of X G pz_isinstance,
    z_len := PySem.W.mg_none_of X G pz_len,
    z_list := PySem.W.mg_none_of X G pz_list,
    z_range := PySem.W.mg_none_of X G pz_range,
    z_sum := PySem.W.mg_none_of X G pz_sum,
    g_CostError := PySem.W.mg_of X G pg_CostError,
    ek_CostError := pek_CostError,
    eb_CostError := peb_CostError,
    et_CostError := pet_CostError,
    eh_CostError := peh_CostError,
    eic_CostError := peic_CostError,
    es_CostError := pes_CostError,
    xg_CostError := pxg_CostError,
    xk_CostError := pxk_CostError,
    xa_CostError := pxa_CostError,
    xn_CostError := pxn_CostError,
    xt_CostError := pxt_CostError,
    xm_CostError := pxm_CostError,
    rd_CostError := prd_CostError,
    cg_CostError := pcg_CostError,
    vi_CostError := pvi_CostError,
    g_NoRatio := PySem.W.mg_of X G pg_NoRatio,
    ek_NoRatio := pek_NoRatio,
    eb_NoRatio := peb_NoRatio,
    et_NoRatio := pet_NoRatio,
    eh_NoRatio := peh_NoRatio,
    eic_NoRatio := peic_NoRatio,
    es_NoRatio := pes_NoRatio,
    xg_NoRatio := pxg_NoRatio,
    xk_NoRatio := pxk_NoRatio,
    xa_NoRatio := pxa_NoRatio,
    xn_NoRatio := pxn_NoRatio,
    xt_NoRatio := pxt_NoRatio,
    xm_NoRatio := pxm_NoRatio,
    xP_NoRatio := pxP_NoRatio,
    g_BadName := PySem.W.mg_of X G pg_BadName,
    ek_BadName := pek_BadName,
    eb_BadName := peb_BadName,
    et_BadName := pet_BadName,
    eh_BadName := peh_BadName,
    eic_BadName := peic_BadName,
    es_BadName := pes_BadName,
    xg_BadName := pxg_BadName,
    xk_BadName := pxk_BadName,
    xa_BadName := pxa_BadName,
    xn_BadName := pxn_BadName,
    xt_BadName := pxt_BadName,
    xm_BadName := pxm_BadName,
    n_BadName_name := pn_BadName_name,
    oi_BadName := poi_BadName,
    ot_BadName := pot_BadName,
    ox_BadName := ⟨⟨_, _, _, _, _, _, _, _, _, _, _, _, _, _, _, pol_BadName, pov_BadName⟩, posa_BadName, peb_BadName, pet_BadName, pek_BadName⟩,
    g_NoPrice := PySem.W.mg_of X G pg_NoPrice,
    ek_NoPrice := pek_NoPrice,
    eb_NoPrice := peb_NoPrice,
    et_NoPrice := pet_NoPrice,
    eh_NoPrice := peh_NoPrice,
    eic_NoPrice := peic_NoPrice,
    es_NoPrice := pes_NoPrice,
    xg_NoPrice := pxg_NoPrice,
    xk_NoPrice := pxk_NoPrice,
    xa_NoPrice := pxa_NoPrice,
    xn_NoPrice := pxn_NoPrice,
    xt_NoPrice := pxt_NoPrice,
    xm_NoPrice := pxm_NoPrice,
    n_NoPrice_name := pn_NoPrice_name,
    oi_NoPrice := poi_NoPrice,
    ot_NoPrice := pot_NoPrice,
    ox_NoPrice := ⟨⟨_, _, _, _, _, _, _, _, _, _, _, _, _, _, _, pol_NoPrice, pov_NoPrice⟩, posa_NoPrice, peb_NoPrice, pet_NoPrice, pek_NoPrice⟩,
    g_Negative := PySem.W.mg_of X G pg_Negative,
    ek_Negative := pek_Negative,
    eb_Negative := peb_Negative,
    et_Negative := pet_Negative,
    eh_Negative := peh_Negative,
    eic_Negative := peic_Negative,
    es_Negative := pes_Negative,
    xg_Negative := pxg_Negative,
    xk_Negative := pxk_Negative,
    xa_Negative := pxa_Negative,
    xn_Negative := pxn_Negative,
    xt_Negative := pxt_Negative,
    xm_Negative := pxm_Negative,
    n_Negative_name := pn_Negative_name,
    oi_Negative := poi_Negative,
    ot_Negative := pot_Negative,
    ox_Negative := ⟨⟨_, _, _, _, _, _, _, _, _, _, _, _, _, _, _, pol_Negative, pov_Negative⟩, posa_Negative, peb_Negative, pet_Negative, pek_Negative⟩,
    g_BadEntry := PySem.W.mg_of X G pg_BadEntry,
    ek_BadEntry := pek_BadEntry,
    eb_BadEntry := peb_BadEntry,
    et_BadEntry := pet_BadEntry,
    eh_BadEntry := peh_BadEntry,
    eic_BadEntry := peic_BadEntry,
    es_BadEntry := pes_BadEntry,
    xg_BadEntry := pxg_BadEntry,
    xk_BadEntry := pxk_BadEntry,
    xa_BadEntry := pxa_BadEntry,
    xn_BadEntry := pxn_BadEntry,
    xt_BadEntry := pxt_BadEntry,
    xm_BadEntry := pxm_BadEntry,
    n_BadEntry_day := pn_BadEntry_day,
    n_BadEntry_number := pn_BadEntry_number,
    oi_BadEntry := poi_BadEntry,
    ot_BadEntry := pot_BadEntry,
    ox_BadEntry := ⟨⟨_, _, _, _, _, _, _, _, _, _, _, _, _, _, _, pol_BadEntry, pov_BadEntry⟩, posa_BadEntry, peb_BadEntry, pet_BadEntry, pek_BadEntry⟩,
    g_NoEntry := PySem.W.mg_of X G pg_NoEntry,
    ek_NoEntry := pek_NoEntry,
    eb_NoEntry := peb_NoEntry,
    et_NoEntry := pet_NoEntry,
    eh_NoEntry := peh_NoEntry,
    eic_NoEntry := peic_NoEntry,
    es_NoEntry := pes_NoEntry,
    xg_NoEntry := pxg_NoEntry,
    xk_NoEntry := pxk_NoEntry,
    xa_NoEntry := pxa_NoEntry,
    xn_NoEntry := pxn_NoEntry,
    xt_NoEntry := pxt_NoEntry,
    xm_NoEntry := pxm_NoEntry,
    n_NoEntry_day := pn_NoEntry_day,
    n_NoEntry_number := pn_NoEntry_number,
    oi_NoEntry := poi_NoEntry,
    ot_NoEntry := pot_NoEntry,
    ox_NoEntry := ⟨⟨_, _, _, _, _, _, _, _, _, _, _, _, _, _, _, pol_NoEntry, pov_NoEntry⟩, posa_NoEntry, peb_NoEntry, pet_NoEntry, pek_NoEntry⟩,
    g_BadRule := PySem.W.mg_of X G pg_BadRule,
    ek_BadRule := pek_BadRule,
    eb_BadRule := peb_BadRule,
    et_BadRule := pet_BadRule,
    eh_BadRule := peh_BadRule,
    eic_BadRule := peic_BadRule,
    es_BadRule := pes_BadRule,
    xg_BadRule := pxg_BadRule,
    xk_BadRule := pxk_BadRule,
    xa_BadRule := pxa_BadRule,
    xn_BadRule := pxn_BadRule,
    xt_BadRule := pxt_BadRule,
    xm_BadRule := pxm_BadRule,
    n_BadRule_word := pn_BadRule_word,
    oi_BadRule := poi_BadRule,
    ot_BadRule := pot_BadRule,
    ox_BadRule := ⟨⟨_, _, _, _, _, _, _, _, _, _, _, _, _, _, _, pol_BadRule, pov_BadRule⟩, posa_BadRule, peb_BadRule, pet_BadRule, pek_BadRule⟩,
    g_Short := PySem.W.mg_of X G pg_Short,
    ek_Short := pek_Short,
    eb_Short := peb_Short,
    et_Short := pet_Short,
    eh_Short := peh_Short,
    eic_Short := peic_Short,
    es_Short := pes_Short,
    xg_Short := pxg_Short,
    xk_Short := pxk_Short,
    xa_Short := pxa_Short,
    xn_Short := pxn_Short,
    xt_Short := pxt_Short,
    xm_Short := pxm_Short,
    n_Short_missing := pn_Short_missing,
    oi_Short := poi_Short,
    ot_Short := pot_Short,
    ox_Short := ⟨⟨_, _, _, _, _, _, _, _, _, _, _, _, _, _, _, pol_Short, pov_Short⟩, posa_Short, peb_Short, pet_Short, pek_Short⟩,
    g_NameTaken := PySem.W.mg_of X G pg_NameTaken,
    ek_NameTaken := pek_NameTaken,
    eb_NameTaken := peb_NameTaken,
    et_NameTaken := pet_NameTaken,
    eh_NameTaken := peh_NameTaken,
    eic_NameTaken := peic_NameTaken,
    es_NameTaken := pes_NameTaken,
    xg_NameTaken := pxg_NameTaken,
    xk_NameTaken := pxk_NameTaken,
    xa_NameTaken := pxa_NameTaken,
    xn_NameTaken := pxn_NameTaken,
    xt_NameTaken := pxt_NameTaken,
    xm_NameTaken := pxm_NameTaken,
    n_NameTaken_name := pn_NameTaken_name,
    oi_NameTaken := poi_NameTaken,
    ot_NameTaken := pot_NameTaken,
    ox_NameTaken := ⟨⟨_, _, _, _, _, _, _, _, _, _, _, _, _, _, _, pol_NameTaken, pov_NameTaken⟩, posa_NameTaken, peb_NameTaken, pet_NameTaken, pek_NameTaken⟩,
    g_UnknownName := PySem.W.mg_of X G pg_UnknownName,
    ek_UnknownName := pek_UnknownName,
    eb_UnknownName := peb_UnknownName,
    et_UnknownName := pet_UnknownName,
    eh_UnknownName := peh_UnknownName,
    eic_UnknownName := peic_UnknownName,
    es_UnknownName := pes_UnknownName,
    xg_UnknownName := pxg_UnknownName,
    xk_UnknownName := pxk_UnknownName,
    xa_UnknownName := pxa_UnknownName,
    xn_UnknownName := pxn_UnknownName,
    xt_UnknownName := pxt_UnknownName,
    xm_UnknownName := pxm_UnknownName,
    n_UnknownName_name := pn_UnknownName_name,
    oi_UnknownName := poi_UnknownName,
    ot_UnknownName := pot_UnknownName,
    ox_UnknownName := ⟨⟨_, _, _, _, _, _, _, _, _, _, _, _, _, _, _, pol_UnknownName, pov_UnknownName⟩, posa_UnknownName, peb_UnknownName, pet_UnknownName, pek_UnknownName⟩,
    g_NotEnough := PySem.W.mg_of X G pg_NotEnough,
    ek_NotEnough := pek_NotEnough,
    eb_NotEnough := peb_NotEnough,
    et_NotEnough := pet_NotEnough,
    eh_NotEnough := peh_NotEnough,
    eic_NotEnough := peic_NotEnough,
    es_NotEnough := pes_NotEnough,
    xg_NotEnough := pxg_NotEnough,
    xk_NotEnough := pxk_NotEnough,
    xa_NotEnough := pxa_NotEnough,
    xn_NotEnough := pxn_NotEnough,
    xt_NotEnough := pxt_NotEnough,
    xm_NotEnough := pxm_NotEnough,
    n_NotEnough_day := pn_NotEnough_day,
    n_NotEnough_number := pn_NotEnough_number,
    n_NotEnough_missing := pn_NotEnough_missing,
    oi_NotEnough := poi_NotEnough,
    ot_NotEnough := pot_NotEnough,
    ox_NotEnough := ⟨⟨_, _, _, _, _, _, _, _, _, _, _, _, _, _, _, pol_NotEnough, pov_NotEnough⟩, posa_NotEnough, peb_NotEnough, pet_NotEnough, pek_NotEnough⟩,
    g_TooMany := PySem.W.mg_of X G pg_TooMany,
    ek_TooMany := pek_TooMany,
    eb_TooMany := peb_TooMany,
    et_TooMany := pet_TooMany,
    eh_TooMany := peh_TooMany,
    eic_TooMany := peic_TooMany,
    es_TooMany := pes_TooMany,
    xg_TooMany := pxg_TooMany,
    xk_TooMany := pxk_TooMany,
    xa_TooMany := pxa_TooMany,
    xn_TooMany := pxn_TooMany,
    xt_TooMany := pxt_TooMany,
    xm_TooMany := pxm_TooMany,
    n_TooMany_day := pn_TooMany_day,
    n_TooMany_number := pn_TooMany_number,
    n_TooMany_left := pn_TooMany_left,
    oi_TooMany := poi_TooMany,
    ot_TooMany := pot_TooMany,
    ox_TooMany := ⟨⟨_, _, _, _, _, _, _, _, _, _, _, _, _, _, _, pol_TooMany, pov_TooMany⟩, posa_TooMany, peb_TooMany, pet_TooMany, pek_TooMany⟩,
    g_Contradiction := PySem.W.mg_of X G pg_Contradiction,
    ek_Contradiction := pek_Contradiction,
    eb_Contradiction := peb_Contradiction,
    et_Contradiction := pet_Contradiction,
    eh_Contradiction := peh_Contradiction,
    eic_Contradiction := peic_Contradiction,
    es_Contradiction := pes_Contradiction,
    xg_Contradiction := pxg_Contradiction,
    xk_Contradiction := pxk_Contradiction,
    xa_Contradiction := pxa_Contradiction,
    xn_Contradiction := pxn_Contradiction,
    xt_Contradiction := pxt_Contradiction,
    xm_Contradiction := pxm_Contradiction,
    n_Contradiction_pair := pn_Contradiction_pair,
    oi_Contradiction := poi_Contradiction,
    ot_Contradiction := pot_Contradiction,
    ox_Contradiction := ⟨⟨_, _, _, _, _, _, _, _, _, _, _, _, _, _, _, pol_Contradiction, pov_Contradiction⟩, posa_Contradiction, peb_Contradiction, pet_Contradiction, pek_Contradiction⟩,
    g_NotPlain := PySem.W.mg_of X G pg_NotPlain,
    ek_NotPlain := pek_NotPlain,
    eb_NotPlain := peb_NotPlain,
    et_NotPlain := pet_NotPlain,
    eh_NotPlain := peh_NotPlain,
    eic_NotPlain := peic_NotPlain,
    es_NotPlain := pes_NotPlain,
    xg_NotPlain := pxg_NotPlain,
    xk_NotPlain := pxk_NotPlain,
    xa_NotPlain := pxa_NotPlain,
    xn_NotPlain := pxn_NotPlain,
    xt_NotPlain := pxt_NotPlain,
    xm_NotPlain := pxm_NotPlain,
    n_NotPlain_day := pn_NotPlain_day,
    n_NotPlain_number := pn_NotPlain_number,
    oi_NotPlain := poi_NotPlain,
    ot_NotPlain := pot_NotPlain,
    ox_NotPlain := ⟨⟨_, _, _, _, _, _, _, _, _, _, _, _, _, _, _, pol_NotPlain, pov_NotPlain⟩, posa_NotPlain, peb_NotPlain, pet_NotPlain, pek_NotPlain⟩,
    g_NotPossible := PySem.W.mg_of X G pg_NotPossible,
    ek_NotPossible := pek_NotPossible,
    eb_NotPossible := peb_NotPossible,
    et_NotPossible := pet_NotPossible,
    eh_NotPossible := peh_NotPossible,
    eic_NotPossible := peic_NotPossible,
    es_NotPossible := pes_NotPossible,
    xg_NotPossible := pxg_NotPossible,
    xk_NotPossible := pxk_NotPossible,
    xa_NotPossible := pxa_NotPossible,
    xn_NotPossible := pxn_NotPossible,
    xt_NotPossible := pxt_NotPossible,
    xm_NotPossible := pxm_NotPossible,
    xP_NotPossible := pxP_NotPossible,
    g_Shut := PySem.W.mg_of X G pg_Shut,
    ek_Shut := pek_Shut,
    eb_Shut := peb_Shut,
    et_Shut := pet_Shut,
    eh_Shut := peh_Shut,
    eic_Shut := peic_Shut,
    es_Shut := pes_Shut,
    xg_Shut := pxg_Shut,
    xk_Shut := pxk_Shut,
    xa_Shut := pxa_Shut,
    xn_Shut := pxn_Shut,
    xt_Shut := pxt_Shut,
    xm_Shut := pxm_Shut,
    n_Shut_day := pn_Shut_day,
    oi_Shut := poi_Shut,
    ot_Shut := pot_Shut,
    ox_Shut := ⟨⟨_, _, _, _, _, _, _, _, _, _, _, _, _, _, _, pol_Shut, pov_Shut⟩, posa_Shut, peb_Shut, pet_Shut, pek_Shut⟩,
    g_NotClosed := PySem.W.mg_of X G pg_NotClosed,
    ek_NotClosed := pek_NotClosed,
    eb_NotClosed := peb_NotClosed,
    et_NotClosed := pet_NotClosed,
    eh_NotClosed := peh_NotClosed,
    eic_NotClosed := peic_NotClosed,
    es_NotClosed := pes_NotClosed,
    xg_NotClosed := pxg_NotClosed,
    xk_NotClosed := pxk_NotClosed,
    xa_NotClosed := pxa_NotClosed,
    xn_NotClosed := pxn_NotClosed,
    xt_NotClosed := pxt_NotClosed,
    xm_NotClosed := pxm_NotClosed,
    n_NotClosed_day := pn_NotClosed_day,
    oi_NotClosed := poi_NotClosed,
    ot_NotClosed := pot_NotClosed,
    ox_NotClosed := ⟨⟨_, _, _, _, _, _, _, _, _, _, _, _, _, _, _, pol_NotClosed, pov_NotClosed⟩, posa_NotClosed, peb_NotClosed, pet_NotClosed, pek_NotClosed⟩,
    g_NotTold := PySem.W.mg_of X G pg_NotTold,
    ek_NotTold := pek_NotTold,
    eb_NotTold := peb_NotTold,
    et_NotTold := pet_NotTold,
    eh_NotTold := peh_NotTold,
    eic_NotTold := peic_NotTold,
    es_NotTold := pes_NotTold,
    xg_NotTold := pxg_NotTold,
    xk_NotTold := pxk_NotTold,
    xa_NotTold := pxa_NotTold,
    xn_NotTold := pxn_NotTold,
    xt_NotTold := pxt_NotTold,
    xm_NotTold := pxm_NotTold,
    xP_NotTold := pxP_NotTold,
    g_Unfit := PySem.W.mg_of X G pg_Unfit,
    ek_Unfit := pek_Unfit,
    eb_Unfit := peb_Unfit,
    et_Unfit := pet_Unfit,
    eh_Unfit := peh_Unfit,
    eic_Unfit := peic_Unfit,
    es_Unfit := pes_Unfit,
    xg_Unfit := pxg_Unfit,
    xk_Unfit := pxk_Unfit,
    xa_Unfit := pxa_Unfit,
    xn_Unfit := pxn_Unfit,
    xt_Unfit := pxt_Unfit,
    xm_Unfit := pxm_Unfit,
    kit_Unfit := pkit_Unfit,
    n_Unfit_factors := pn_Unfit_factors,
    oi_Unfit := poi_Unfit,
    ot_Unfit := pot_Unfit,
    ox_Unfit := ⟨⟨_, _, _, _, _, _, _, _, _, _, _, _, _, _, _, pol_Unfit, pov_Unfit⟩, posa_Unfit, peb_Unfit, pet_Unfit, pek_Unfit⟩,
    F_m_BadName_init := F_m_BadName_init,
    b_m_BadName_init := b_m_BadName_init,
    F_m_NoPrice_init := F_m_NoPrice_init,
    b_m_NoPrice_init := b_m_NoPrice_init,
    F_m_Negative_init := F_m_Negative_init,
    b_m_Negative_init := b_m_Negative_init,
    F_m_BadEntry_init := F_m_BadEntry_init,
    b_m_BadEntry_init := b_m_BadEntry_init,
    F_m_NoEntry_init := F_m_NoEntry_init,
    b_m_NoEntry_init := b_m_NoEntry_init,
    F_m_BadRule_init := F_m_BadRule_init,
    b_m_BadRule_init := b_m_BadRule_init,
    F_m_Short_init := F_m_Short_init,
    b_m_Short_init := b_m_Short_init,
    F_m_NameTaken_init := F_m_NameTaken_init,
    b_m_NameTaken_init := b_m_NameTaken_init,
    F_m_UnknownName_init := F_m_UnknownName_init,
    b_m_UnknownName_init := b_m_UnknownName_init,
    F_m_NotEnough_init := F_m_NotEnough_init,
    b_m_NotEnough_init := b_m_NotEnough_init,
    F_m_TooMany_init := F_m_TooMany_init,
    b_m_TooMany_init := b_m_TooMany_init,
    F_m_Contradiction_init := F_m_Contradiction_init,
    b_m_Contradiction_init := b_m_Contradiction_init,
    F_m_NotPlain_init := F_m_NotPlain_init,
    b_m_NotPlain_init := b_m_NotPlain_init,
    F_m_Shut_init := F_m_Shut_init,
    b_m_Shut_init := b_m_Shut_init,
    F_m_NotClosed_init := F_m_NotClosed_init,
    b_m_NotClosed_init := b_m_NotClosed_init,
    F_m_Unfit_init := F_m_Unfit_init,
    b_m_Unfit_init := b_m_Unfit_init,
    F_l_bag := F_l_bag,
    b_l_bag := b_l_bag,
    g__law_bag := PySem.W.mg_of X G pa_l_bag,
    F_l_draw := F_l_draw,
    b_l_draw := b_l_draw,
    g__law_draw := PySem.W.mg_of X G pa_l_draw,
    F_l_names := F_l_names,
    b_l_names := b_l_names,
    g__law_names := PySem.W.mg_of X G pa_l_names,
    F_l_named := F_l_named,
    b_l_named := b_l_named,
    g__law_named := PySem.W.mg_of X G pa_l_named,
    F_l_placed := F_l_placed,
    b_l_placed := b_l_placed,
    g__law_placed := PySem.W.mg_of X G pa_l_placed,
    F_l_others := F_l_others,
    b_l_others := b_l_others,
    g__law_others := PySem.W.mg_of X G pa_l_others,
    F_l_classes := F_l_classes,
    b_l_classes := b_l_classes,
    g__law_classes := PySem.W.mg_of X G pa_l_classes,
    F_f_law := F_f_law,
    b_f_law := b_f_law,
    g_law := PySem.W.mg_of X G pa_f_law }
  exact ⟨_, fun s v => .of_eq rfl, fun base _ _ => ok_f_law T⟩
theorem walk {l : PySem.W.OpenLaw} {q : Program} {loose : List Str} {XP : (Str → Option Value) → Heap → Prop} {YP : World → Heap → Prop} {d : DefRec} {K : Params → PySem.W.Frag} (hn : l.most = some 63) (hdf : d.params.defaults = [])
    (hY : ∀ (w : World) (h : Heap), YP w h → (K w.params).In h)
    (F : ∀ (w : World) (mg : Str → Option Value) (fa : Addr) (h : Heap), (K w.params).In h → h.Ns mainGlobals mg → mg d.name = some (.ref fa) →
      ∃ fd : FuncData, (∀ (s : Shared) (u : Value), BindsTo s fd ⟨[u], []⟩ [("_law_script", u)]) ∧ ∀ base : Heap, (K w.params).In base → base.Ns mainGlobals mg → FnOk l.prog w (K w.params) mg base CX0 6 fa fd ["_law_script"] (spLaw (K w.params))) :
    PySem.W.WalkO q loose XP YP l.row.toRowW d [] (fun f vs => PySem.call f vs) :=
  L2.walk_of (n := 63) (k := 6) (x := "_law_script") (CX := fun _ => CX0) (sp := fun w => spLaw (K w.params)) hn (by decide) hdf ⟨rfl, by decide, by decide⟩ hY F (fun _ _ a ns hl _ hS => ⟨a, ns, rfl, hS, hl, fun _ => rfl⟩) fun _ _ _ _ _ z => z
end Lot
open PySem PySem.W PyProof.Rows
set_option maxRecDepth 100000 in
set_option maxHeartbeats 0 in
theorem PySem.Challenge.cw_lotcosts_k14_classes_of_errors_holds : PySem.Challenge.rw_lotcosts_k14_classes_of_errors.Holds := by
  w_on; o_law; k_head; (case hw => w_witness2)
  k_fill
  refine Lot.walk (l := PySem.Challenge.rw_lotcosts_k14_classes_of_errors) rfl rfl (fun w h Y => PySem.W.kIn_of Y) ?F
  case F =>
    intro w mg fa h KX G hmg
    refine' Lot.all_mk KX G hmg ?pz_ValueError ?pz_abs ?pz_int ?pz_isinstance ?pz_len ?pz_list ?pz_range ?pz_sum ?pg_CostError ?pek_CostError ?peb_CostError ?pet_CostError ?peh_CostError ?peic_CostError ?pes_CostError ?pxg_CostError ?pxk_CostError ?pxa_CostError ?pxn_CostError ?pxt_CostError ?pxm_CostError ?prd_CostError ?pcg_CostError ?pvi_CostError ?pg_NoRatio ?pek_NoRatio ?peb_NoRatio ?pet_NoRatio ?peh_NoRatio ?peic_NoRatio ?pes_NoRatio ?pxg_NoRatio ?pxk_NoRatio ?pxa_NoRatio ?pxn_NoRatio ?pxt_NoRatio ?pxm_NoRatio ?pxP_NoRatio ?pg_BadName ?pek_BadName ?peb_BadName ?pet_BadName ?peh_BadName ?peic_BadName ?pes_BadName ?pxg_BadName ?pxk_BadName ?pxa_BadName ?pxn_BadName ?pxt_BadName ?pxm_BadName ?pn_BadName_name ?poi_BadName ?pot_BadName ?pol_BadName ?pov_BadName ?posa_BadName ?pg_NoPrice ?pek_NoPrice ?peb_NoPrice ?pet_NoPrice ?peh_NoPrice ?peic_NoPrice ?pes_NoPrice ?pxg_NoPrice ?pxk_NoPrice ?pxa_NoPrice ?pxn_NoPrice ?pxt_NoPrice ?pxm_NoPrice ?pn_NoPrice_name ?poi_NoPrice ?pot_NoPrice ?pol_NoPrice ?pov_NoPrice ?posa_NoPrice ?pg_Negative ?pek_Negative ?peb_Negative ?pet_Negative ?peh_Negative ?peic_Negative ?pes_Negative ?pxg_Negative ?pxk_Negative ?pxa_Negative ?pxn_Negative ?pxt_Negative ?pxm_Negative ?pn_Negative_name ?poi_Negative ?pot_Negative ?pol_Negative ?pov_Negative ?posa_Negative ?pg_BadEntry ?pek_BadEntry ?peb_BadEntry ?pet_BadEntry ?peh_BadEntry ?peic_BadEntry ?pes_BadEntry ?pxg_BadEntry ?pxk_BadEntry ?pxa_BadEntry ?pxn_BadEntry ?pxt_BadEntry ?pxm_BadEntry ?pn_BadEntry_day ?pn_BadEntry_number ?poi_BadEntry ?pot_BadEntry ?pol_BadEntry ?pov_BadEntry ?posa_BadEntry ?pg_NoEntry ?pek_NoEntry ?peb_NoEntry ?pet_NoEntry ?peh_NoEntry ?peic_NoEntry ?pes_NoEntry ?pxg_NoEntry ?pxk_NoEntry ?pxa_NoEntry ?pxn_NoEntry ?pxt_NoEntry ?pxm_NoEntry ?pn_NoEntry_day ?pn_NoEntry_number ?poi_NoEntry ?pot_NoEntry ?pol_NoEntry ?pov_NoEntry ?posa_NoEntry ?pg_BadRule ?pek_BadRule ?peb_BadRule ?pet_BadRule ?peh_BadRule ?peic_BadRule ?pes_BadRule ?pxg_BadRule ?pxk_BadRule ?pxa_BadRule ?pxn_BadRule ?pxt_BadRule ?pxm_BadRule ?pn_BadRule_word ?poi_BadRule ?pot_BadRule ?pol_BadRule ?pov_BadRule ?posa_BadRule ?pg_Short ?pek_Short ?peb_Short ?pet_Short ?peh_Short ?peic_Short ?pes_Short ?pxg_Short ?pxk_Short ?pxa_Short ?pxn_Short ?pxt_Short ?pxm_Short ?pn_Short_missing ?poi_Short ?pot_Short ?pol_Short ?pov_Short ?posa_Short ?pg_NameTaken ?pek_NameTaken ?peb_NameTaken ?pet_NameTaken ?peh_NameTaken ?peic_NameTaken ?pes_NameTaken ?pxg_NameTaken ?pxk_NameTaken ?pxa_NameTaken ?pxn_NameTaken ?pxt_NameTaken ?pxm_NameTaken ?pn_NameTaken_name ?poi_NameTaken ?pot_NameTaken ?pol_NameTaken ?pov_NameTaken ?posa_NameTaken ?pg_UnknownName ?pek_UnknownName ?peb_UnknownName ?pet_UnknownName ?peh_UnknownName ?peic_UnknownName ?pes_UnknownName ?pxg_UnknownName ?pxk_UnknownName ?pxa_UnknownName ?pxn_UnknownName ?pxt_UnknownName ?pxm_UnknownName ?pn_UnknownName_name ?poi_UnknownName ?pot_UnknownName ?pol_UnknownName ?pov_UnknownName ?posa_UnknownName ?pg_NotEnough ?pek_NotEnough ?peb_NotEnough ?pet_NotEnough ?peh_NotEnough ?peic_NotEnough ?pes_NotEnough ?pxg_NotEnough ?pxk_NotEnough ?pxa_NotEnough ?pxn_NotEnough ?pxt_NotEnough ?pxm_NotEnough ?pn_NotEnough_day ?pn_NotEnough_number ?pn_NotEnough_missing ?poi_NotEnough ?pot_NotEnough ?pol_NotEnough ?pov_NotEnough ?posa_NotEnough ?pg_TooMany ?pek_TooMany ?peb_TooMany ?pet_TooMany ?peh_TooMany ?peic_TooMany ?pes_TooMany ?pxg_TooMany ?pxk_TooMany ?pxa_TooMany ?pxn_TooMany ?pxt_TooMany ?pxm_TooMany ?pn_TooMany_day ?pn_TooMany_number ?pn_TooMany_left ?poi_TooMany ?pot_TooMany ?pol_TooMany ?pov_TooMany ?posa_TooMany ?pg_Contradiction ?pek_Contradiction ?peb_Contradiction ?pet_Contradiction ?peh_Contradiction ?peic_Contradiction ?pes_Contradiction ?pxg_Contradiction ?pxk_Contradiction ?pxa_Contradiction ?pxn_Contradiction ?pxt_Contradiction ?pxm_Contradiction ?pn_Contradiction_pair ?poi_Contradiction ?pot_Contradiction ?pol_Contradiction ?pov_Contradiction ?posa_Contradiction ?pg_NotPlain ?pek_NotPlain ?peb_NotPlain ?pet_NotPlain ?peh_NotPlain ?peic_NotPlain ?pes_NotPlain ?pxg_NotPlain ?pxk_NotPlain ?pxa_NotPlain ?pxn_NotPlain ?pxt_NotPlain ?pxm_NotPlain ?pn_NotPlain_day ?pn_NotPlain_number ?poi_NotPlain ?pot_NotPlain ?pol_NotPlain ?pov_NotPlain ?posa_NotPlain ?pg_NotPossible ?pek_NotPossible ?peb_NotPossible ?pet_NotPossible ?peh_NotPossible ?peic_NotPossible ?pes_NotPossible ?pxg_NotPossible ?pxk_NotPossible ?pxa_NotPossible ?pxn_NotPossible ?pxt_NotPossible ?pxm_NotPossible ?pxP_NotPossible ?pg_Shut ?pek_Shut ?peb_Shut ?pet_Shut ?peh_Shut ?peic_Shut ?pes_Shut ?pxg_Shut ?pxk_Shut ?pxa_Shut ?pxn_Shut ?pxt_Shut ?pxm_Shut ?pn_Shut_day ?poi_Shut ?pot_Shut ?pol_Shut ?pov_Shut ?posa_Shut ?pg_NotClosed ?pek_NotClosed ?peb_NotClosed ?pet_NotClosed ?peh_NotClosed ?peic_NotClosed ?pes_NotClosed ?pxg_NotClosed ?pxk_NotClosed ?pxa_NotClosed ?pxn_NotClosed ?pxt_NotClosed ?pxm_NotClosed ?pn_NotClosed_day ?poi_NotClosed ?pot_NotClosed ?pol_NotClosed ?pov_NotClosed ?posa_NotClosed ?pg_NotTold ?pek_NotTold ?peb_NotTold ?pet_NotTold ?peh_NotTold ?peic_NotTold ?pes_NotTold ?pxg_NotTold ?pxk_NotTold ?pxa_NotTold ?pxn_NotTold ?pxt_NotTold ?pxm_NotTold ?pxP_NotTold ?pg_Unfit ?pek_Unfit ?peb_Unfit ?pet_Unfit ?peh_Unfit ?peic_Unfit ?pes_Unfit ?pxg_Unfit ?pxk_Unfit ?pxa_Unfit ?pxn_Unfit ?pxt_Unfit ?pxm_Unfit ?pkit_Unfit ?pn_Unfit_factors ?poi_Unfit ?pot_Unfit ?pol_Unfit ?pov_Unfit ?posa_Unfit ?pe_m_BadName_init ?pl_m_BadName_init ?pc_m_BadName_init ?pq_m_BadName_init ?pe_m_NoPrice_init ?pl_m_NoPrice_init ?pc_m_NoPrice_init ?pq_m_NoPrice_init ?pe_m_Negative_init ?pl_m_Negative_init ?pc_m_Negative_init ?pq_m_Negative_init ?pe_m_BadEntry_init ?pl_m_BadEntry_init ?pc_m_BadEntry_init ?pq_m_BadEntry_init ?pe_m_NoEntry_init ?pl_m_NoEntry_init ?pc_m_NoEntry_init ?pq_m_NoEntry_init ?pe_m_BadRule_init ?pl_m_BadRule_init ?pc_m_BadRule_init ?pq_m_BadRule_init ?pe_m_Short_init ?pl_m_Short_init ?pc_m_Short_init ?pq_m_Short_init ?pe_m_NameTaken_init ?pl_m_NameTaken_init ?pc_m_NameTaken_init ?pq_m_NameTaken_init ?pe_m_UnknownName_init ?pl_m_UnknownName_init ?pc_m_UnknownName_init ?pq_m_UnknownName_init ?pe_m_NotEnough_init ?pl_m_NotEnough_init ?pc_m_NotEnough_init ?pq_m_NotEnough_init ?pe_m_TooMany_init ?pl_m_TooMany_init ?pc_m_TooMany_init ?pq_m_TooMany_init ?pe_m_Contradiction_init ?pl_m_Contradiction_init ?pc_m_Contradiction_init ?pq_m_Contradiction_init ?pe_m_NotPlain_init ?pl_m_NotPlain_init ?pc_m_NotPlain_init ?pq_m_NotPlain_init ?pe_m_Shut_init ?pl_m_Shut_init ?pc_m_Shut_init ?pq_m_Shut_init ?pe_m_NotClosed_init ?pl_m_NotClosed_init ?pc_m_NotClosed_init ?pq_m_NotClosed_init ?pe_m_Unfit_init ?pl_m_Unfit_init ?pc_m_Unfit_init ?pq_m_Unfit_init ?pa_l_bag ?pl_l_bag ?pc_l_bag ?pq_l_bag ?pa_l_draw ?pl_l_draw ?pc_l_draw ?pq_l_draw ?pa_l_names ?pl_l_names ?pc_l_names ?pq_l_names ?pa_l_named ?pl_l_named ?pc_l_named ?pq_l_named ?pa_l_placed ?pl_l_placed ?pc_l_placed ?pq_l_placed ?pa_l_others ?pl_l_others ?pc_l_others ?pq_l_others ?pa_l_classes ?pl_l_classes ?pc_l_classes ?pq_l_classes ?pa_f_law ?pl_f_law ?pc_f_law ?pq_f_law
    (case pz_ValueError => first | k_is | rfl)
    (case pz_abs => first | k_is | rfl)
    (case pz_int => first | k_is | rfl)
    (case pz_isinstance => first | k_is | rfl)
    (case pz_len => first | k_is | rfl)
    (case pz_list => first | k_is | rfl)
    (case pz_range => first | k_is | rfl)
    (case pz_sum => first | k_is | rfl)
    (case pg_CostError => first | k_is | rfl)
    (case pek_CostError => first | k_is | rfl)
    (case peb_CostError => first | k_is | rfl)
    (case pet_CostError => first | k_is | rfl)
    (case peh_CostError => first | k_is | rfl)
    (case peic_CostError => first | k_is | rfl)
    (case pes_CostError => first | k_is | rfl)
    (case pxg_CostError => first | k_is | rfl)
    (case pxk_CostError => first | k_is | rfl)
    (case pxa_CostError => first | k_is | rfl)
    (case pxn_CostError => first | k_is | rfl)
    (case pxt_CostError => first | k_is | rfl)
    (case pxm_CostError => first | k_is | rfl)
    (case prd_CostError => first | k_is | rfl)
    (case pcg_CostError => first | k_is | rfl)
    (case pvi_CostError => first | k_is | rfl)
    (case pg_NoRatio => first | k_is | rfl)
    (case pek_NoRatio => first | k_is | rfl)
    (case peb_NoRatio => first | k_is | rfl)
    (case pet_NoRatio => first | k_is | rfl)
    (case peh_NoRatio => first | k_is | rfl)
    (case peic_NoRatio => first | k_is | rfl)
    (case pes_NoRatio => first | k_is | rfl)
    (case pxg_NoRatio => first | k_is | rfl)
    (case pxk_NoRatio => first | k_is | rfl)
    (case pxa_NoRatio => first | k_is | rfl)
    (case pxn_NoRatio => first | k_is | rfl)
    (case pxt_NoRatio => first | k_is | rfl)
    (case pxm_NoRatio => first | k_is | rfl)
    (case pxP_NoRatio => k_exc)
    (case pg_BadName => first | k_is | rfl)
    (case pek_BadName => first | k_is | rfl)
    (case peb_BadName => first | k_is | rfl)
    (case pet_BadName => first | k_is | rfl)
    (case peh_BadName => first | k_is | rfl)
    (case peic_BadName => first | k_is | rfl)
    (case pes_BadName => first | k_is | rfl)
    (case pxg_BadName => first | k_is | rfl)
    (case pxk_BadName => first | k_is | rfl)
    (case pxa_BadName => first | k_is | rfl)
    (case pxn_BadName => first | k_is | rfl)
    (case pxt_BadName => first | k_is | rfl)
    (case pxm_BadName => first | k_is | rfl)
    (case pn_BadName_name => first | k_is | rfl)
    (case poi_BadName => first | k_is | rfl)
    (case pot_BadName => first | k_is | rfl)
    (case pol_BadName => first | k_is | rfl)
    (case pov_BadName => first | k_is | rfl)
    (case posa_BadName => first | k_is | rfl)
    (case pg_NoPrice => first | k_is | rfl)
    (case pek_NoPrice => first | k_is | rfl)
    (case peb_NoPrice => first | k_is | rfl)
    (case pet_NoPrice => first | k_is | rfl)
    (case peh_NoPrice => first | k_is | rfl)
    (case peic_NoPrice => first | k_is | rfl)
    (case pes_NoPrice => first | k_is | rfl)
    (case pxg_NoPrice => first | k_is | rfl)
    (case pxk_NoPrice => first | k_is | rfl)
    (case pxa_NoPrice => first | k_is | rfl)
    (case pxn_NoPrice => first | k_is | rfl)
    (case pxt_NoPrice => first | k_is | rfl)
    (case pxm_NoPrice => first | k_is | rfl)
    (case pn_NoPrice_name => first | k_is | rfl)
    (case poi_NoPrice => first | k_is | rfl)
    (case pot_NoPrice => first | k_is | rfl)
    (case pol_NoPrice => first | k_is | rfl)
    (case pov_NoPrice => first | k_is | rfl)
    (case posa_NoPrice => first | k_is | rfl)
    (case pg_Negative => first | k_is | rfl)
    (case pek_Negative => first | k_is | rfl)
    (case peb_Negative => first | k_is | rfl)
    (case pet_Negative => first | k_is | rfl)
    (case peh_Negative => first | k_is | rfl)
    (case peic_Negative => first | k_is | rfl)
    (case pes_Negative => first | k_is | rfl)
    (case pxg_Negative => first | k_is | rfl)
    (case pxk_Negative => first | k_is | rfl)
    (case pxa_Negative => first | k_is | rfl)
    (case pxn_Negative => first | k_is | rfl)
    (case pxt_Negative => first | k_is | rfl)
    (case pxm_Negative => first | k_is | rfl)
    (case pn_Negative_name => first | k_is | rfl)
    (case poi_Negative => first | k_is | rfl)
    (case pot_Negative => first | k_is | rfl)
    (case pol_Negative => first | k_is | rfl)
    (case pov_Negative => first | k_is | rfl)
    (case posa_Negative => first | k_is | rfl)
    (case pg_BadEntry => first | k_is | rfl)
    (case pek_BadEntry => first | k_is | rfl)
    (case peb_BadEntry => first | k_is | rfl)
    (case pet_BadEntry => first | k_is | rfl)
    (case peh_BadEntry => first | k_is | rfl)
    (case peic_BadEntry => first | k_is | rfl)
    (case pes_BadEntry => first | k_is | rfl)
    (case pxg_BadEntry => first | k_is | rfl)
    (case pxk_BadEntry => first | k_is | rfl)
    (case pxa_BadEntry => first | k_is | rfl)
    (case pxn_BadEntry => first | k_is | rfl)
    (case pxt_BadEntry => first | k_is | rfl)
    (case pxm_BadEntry => first | k_is | rfl)
    (case pn_BadEntry_day => first | k_is | rfl)
    (case pn_BadEntry_number => first | k_is | rfl)
    (case poi_BadEntry => first | k_is | rfl)
    (case pot_BadEntry => first | k_is | rfl)
    (case pol_BadEntry => first | k_is | rfl)
    (case pov_BadEntry => first | k_is | rfl)
    (case posa_BadEntry => first | k_is | rfl)
    (case pg_NoEntry => first | k_is | rfl)
    (case pek_NoEntry => first | k_is | rfl)
    (case peb_NoEntry => first | k_is | rfl)
    (case pet_NoEntry => first | k_is | rfl)
    (case peh_NoEntry => first | k_is | rfl)
    (case peic_NoEntry => first | k_is | rfl)
    (case pes_NoEntry => first | k_is | rfl)
    (case pxg_NoEntry => first | k_is | rfl)
    (case pxk_NoEntry => first | k_is | rfl)
    (case pxa_NoEntry => first | k_is | rfl)
    (case pxn_NoEntry => first | k_is | rfl)
    (case pxt_NoEntry => first | k_is | rfl)
    (case pxm_NoEntry => first | k_is | rfl)
    (case pn_NoEntry_day => first | k_is | rfl)
    (case pn_NoEntry_number => first | k_is | rfl)
    (case poi_NoEntry => first | k_is | rfl)
    (case pot_NoEntry => first | k_is | rfl)
    (case pol_NoEntry => first | k_is | rfl)
    (case pov_NoEntry => first | k_is | rfl)
    (case posa_NoEntry => first | k_is | rfl)
    (case pg_BadRule => first | k_is | rfl)
    (case pek_BadRule => first | k_is | rfl)
    (case peb_BadRule => first | k_is | rfl)
    (case pet_BadRule => first | k_is | rfl)
    (case peh_BadRule => first | k_is | rfl)
    (case peic_BadRule => first | k_is | rfl)
    (case pes_BadRule => first | k_is | rfl)
    (case pxg_BadRule => first | k_is | rfl)
    (case pxk_BadRule => first | k_is | rfl)
    (case pxa_BadRule => first | k_is | rfl)
    (case pxn_BadRule => first | k_is | rfl)
    (case pxt_BadRule => first | k_is | rfl)
    (case pxm_BadRule => first | k_is | rfl)
    (case pn_BadRule_word => first | k_is | rfl)
    (case poi_BadRule => first | k_is | rfl)
    (case pot_BadRule => first | k_is | rfl)
    (case pol_BadRule => first | k_is | rfl)
    (case pov_BadRule => first | k_is | rfl)
    (case posa_BadRule => first | k_is | rfl)
    (case pg_Short => first | k_is | rfl)
    (case pek_Short => first | k_is | rfl)
    (case peb_Short => first | k_is | rfl)
    (case pet_Short => first | k_is | rfl)
    (case peh_Short => first | k_is | rfl)
    (case peic_Short => first | k_is | rfl)
    (case pes_Short => first | k_is | rfl)
    (case pxg_Short => first | k_is | rfl)
    (case pxk_Short => first | k_is | rfl)
    (case pxa_Short => first | k_is | rfl)
    (case pxn_Short => first | k_is | rfl)
    (case pxt_Short => first | k_is | rfl)
    (case pxm_Short => first | k_is | rfl)
    (case pn_Short_missing => first | k_is | rfl)
    (case poi_Short => first | k_is | rfl)
    (case pot_Short => first | k_is | rfl)
    (case pol_Short => first | k_is | rfl)
    (case pov_Short => first | k_is | rfl)
    (case posa_Short => first | k_is | rfl)
    (case pg_NameTaken => first | k_is | rfl)
    (case pek_NameTaken => first | k_is | rfl)
    (case peb_NameTaken => first | k_is | rfl)
    (case pet_NameTaken => first | k_is | rfl)
    (case peh_NameTaken => first | k_is | rfl)
    (case peic_NameTaken => first | k_is | rfl)
    (case pes_NameTaken => first | k_is | rfl)
    (case pxg_NameTaken => first | k_is | rfl)
    (case pxk_NameTaken => first | k_is | rfl)
    (case pxa_NameTaken => first | k_is | rfl)
    (case pxn_NameTaken => first | k_is | rfl)
    (case pxt_NameTaken => first | k_is | rfl)
    (case pxm_NameTaken => first | k_is | rfl)
    (case pn_NameTaken_name => first | k_is | rfl)
    (case poi_NameTaken => first | k_is | rfl)
    (case pot_NameTaken => first | k_is | rfl)
    (case pol_NameTaken => first | k_is | rfl)
    (case pov_NameTaken => first | k_is | rfl)
    (case posa_NameTaken => first | k_is | rfl)
    (case pg_UnknownName => first | k_is | rfl)
    (case pek_UnknownName => first | k_is | rfl)
    (case peb_UnknownName => first | k_is | rfl)
    (case pet_UnknownName => first | k_is | rfl)
    (case peh_UnknownName => first | k_is | rfl)
    (case peic_UnknownName => first | k_is | rfl)
    (case pes_UnknownName => first | k_is | rfl)
    (case pxg_UnknownName => first | k_is | rfl)
    (case pxk_UnknownName => first | k_is | rfl)
    (case pxa_UnknownName => first | k_is | rfl)
    (case pxn_UnknownName => first | k_is | rfl)
    (case pxt_UnknownName => first | k_is | rfl)
    (case pxm_UnknownName => first | k_is | rfl)
    (case pn_UnknownName_name => first | k_is | rfl)
    (case poi_UnknownName => first | k_is | rfl)
    (case pot_UnknownName => first | k_is | rfl)
    (case pol_UnknownName => first | k_is | rfl)
    (case pov_UnknownName => first | k_is | rfl)
    (case posa_UnknownName => first | k_is | rfl)
    (case pg_NotEnough => first | k_is | rfl)
    (case pek_NotEnough => first | k_is | rfl)
    (case peb_NotEnough => first | k_is | rfl)
    (case pet_NotEnough => first | k_is | rfl)
    (case peh_NotEnough => first | k_is | rfl)
    (case peic_NotEnough => first | k_is | rfl)
    (case pes_NotEnough => first | k_is | rfl)
    (case pxg_NotEnough => first | k_is | rfl)
    (case pxk_NotEnough => first | k_is | rfl)
    (case pxa_NotEnough => first | k_is | rfl)
    (case pxn_NotEnough => first | k_is | rfl)
    (case pxt_NotEnough => first | k_is | rfl)
    (case pxm_NotEnough => first | k_is | rfl)
    (case pn_NotEnough_day => first | k_is | rfl)
    (case pn_NotEnough_number => first | k_is | rfl)
    (case pn_NotEnough_missing => first | k_is | rfl)
    (case poi_NotEnough => first | k_is | rfl)
    (case pot_NotEnough => first | k_is | rfl)
    (case pol_NotEnough => first | k_is | rfl)
    (case pov_NotEnough => first | k_is | rfl)
    (case posa_NotEnough => first | k_is | rfl)
    (case pg_TooMany => first | k_is | rfl)
    (case pek_TooMany => first | k_is | rfl)
    (case peb_TooMany => first | k_is | rfl)
    (case pet_TooMany => first | k_is | rfl)
    (case peh_TooMany => first | k_is | rfl)
    (case peic_TooMany => first | k_is | rfl)
    (case pes_TooMany => first | k_is | rfl)
    (case pxg_TooMany => first | k_is | rfl)
    (case pxk_TooMany => first | k_is | rfl)
    (case pxa_TooMany => first | k_is | rfl)
    (case pxn_TooMany => first | k_is | rfl)
    (case pxt_TooMany => first | k_is | rfl)
    (case pxm_TooMany => first | k_is | rfl)
    (case pn_TooMany_day => first | k_is | rfl)
    (case pn_TooMany_number => first | k_is | rfl)
    (case pn_TooMany_left => first | k_is | rfl)
    (case poi_TooMany => first | k_is | rfl)
    (case pot_TooMany => first | k_is | rfl)
    (case pol_TooMany => first | k_is | rfl)
    (case pov_TooMany => first | k_is | rfl)
    (case posa_TooMany => first | k_is | rfl)
    (case pg_Contradiction => first | k_is | rfl)
    (case pek_Contradiction => first | k_is | rfl)
    (case peb_Contradiction => first | k_is | rfl)
    (case pet_Contradiction => first | k_is | rfl)
    (case peh_Contradiction => first | k_is | rfl)
    (case peic_Contradiction => first | k_is | rfl)
    (case pes_Contradiction => first | k_is | rfl)
    (case pxg_Contradiction => first | k_is | rfl)
    (case pxk_Contradiction => first | k_is | rfl)
    (case pxa_Contradiction => first | k_is | rfl)
    (case pxn_Contradiction => first | k_is | rfl)
    (case pxt_Contradiction => first | k_is | rfl)
    (case pxm_Contradiction => first | k_is | rfl)
    (case pn_Contradiction_pair => first | k_is | rfl)
    (case poi_Contradiction => first | k_is | rfl)
    (case pot_Contradiction => first | k_is | rfl)
    (case pol_Contradiction => first | k_is | rfl)
    (case pov_Contradiction => first | k_is | rfl)
    (case posa_Contradiction => first | k_is | rfl)
    (case pg_NotPlain => first | k_is | rfl)
    (case pek_NotPlain => first | k_is | rfl)
    (case peb_NotPlain => first | k_is | rfl)
    (case pet_NotPlain => first | k_is | rfl)
    (case peh_NotPlain => first | k_is | rfl)
    (case peic_NotPlain => first | k_is | rfl)
    (case pes_NotPlain => first | k_is | rfl)
    (case pxg_NotPlain => first | k_is | rfl)
    (case pxk_NotPlain => first | k_is | rfl)
    (case pxa_NotPlain => first | k_is | rfl)
    (case pxn_NotPlain => first | k_is | rfl)
    (case pxt_NotPlain => first | k_is | rfl)
    (case pxm_NotPlain => first | k_is | rfl)
    (case pn_NotPlain_day => first | k_is | rfl)
    (case pn_NotPlain_number => first | k_is | rfl)
    (case poi_NotPlain => first | k_is | rfl)
    (case pot_NotPlain => first | k_is | rfl)
    (case pol_NotPlain => first | k_is | rfl)
    (case pov_NotPlain => first | k_is | rfl)
    (case posa_NotPlain => first | k_is | rfl)
    (case pg_NotPossible => first | k_is | rfl)
    (case pek_NotPossible => first | k_is | rfl)
    (case peb_NotPossible => first | k_is | rfl)
    (case pet_NotPossible => first | k_is | rfl)
    (case peh_NotPossible => first | k_is | rfl)
    (case peic_NotPossible => first | k_is | rfl)
    (case pes_NotPossible => first | k_is | rfl)
    (case pxg_NotPossible => first | k_is | rfl)
    (case pxk_NotPossible => first | k_is | rfl)
    (case pxa_NotPossible => first | k_is | rfl)
    (case pxn_NotPossible => first | k_is | rfl)
    (case pxt_NotPossible => first | k_is | rfl)
    (case pxm_NotPossible => first | k_is | rfl)
    (case pxP_NotPossible => k_exc)
    (case pg_Shut => first | k_is | rfl)
    (case pek_Shut => first | k_is | rfl)
    (case peb_Shut => first | k_is | rfl)
    (case pet_Shut => first | k_is | rfl)
    (case peh_Shut => first | k_is | rfl)
    (case peic_Shut => first | k_is | rfl)
    (case pes_Shut => first | k_is | rfl)
    (case pxg_Shut => first | k_is | rfl)
    (case pxk_Shut => first | k_is | rfl)
    (case pxa_Shut => first | k_is | rfl)
    (case pxn_Shut => first | k_is | rfl)
    (case pxt_Shut => first | k_is | rfl)
    (case pxm_Shut => first | k_is | rfl)
    (case pn_Shut_day => first | k_is | rfl)
    (case poi_Shut => first | k_is | rfl)
    (case pot_Shut => first | k_is | rfl)
    (case pol_Shut => first | k_is | rfl)
    (case pov_Shut => first | k_is | rfl)
    (case posa_Shut => first | k_is | rfl)
    (case pg_NotClosed => first | k_is | rfl)
    (case pek_NotClosed => first | k_is | rfl)
    (case peb_NotClosed => first | k_is | rfl)
    (case pet_NotClosed => first | k_is | rfl)
    (case peh_NotClosed => first | k_is | rfl)
    (case peic_NotClosed => first | k_is | rfl)
    (case pes_NotClosed => first | k_is | rfl)
    (case pxg_NotClosed => first | k_is | rfl)
    (case pxk_NotClosed => first | k_is | rfl)
    (case pxa_NotClosed => first | k_is | rfl)
    (case pxn_NotClosed => first | k_is | rfl)
    (case pxt_NotClosed => first | k_is | rfl)
    (case pxm_NotClosed => first | k_is | rfl)
    (case pn_NotClosed_day => first | k_is | rfl)
    (case poi_NotClosed => first | k_is | rfl)
    (case pot_NotClosed => first | k_is | rfl)
    (case pol_NotClosed => first | k_is | rfl)
    (case pov_NotClosed => first | k_is | rfl)
    (case posa_NotClosed => first | k_is | rfl)
    (case pg_NotTold => first | k_is | rfl)
    (case pek_NotTold => first | k_is | rfl)
    (case peb_NotTold => first | k_is | rfl)
    (case pet_NotTold => first | k_is | rfl)
    (case peh_NotTold => first | k_is | rfl)
    (case peic_NotTold => first | k_is | rfl)
    (case pes_NotTold => first | k_is | rfl)
    (case pxg_NotTold => first | k_is | rfl)
    (case pxk_NotTold => first | k_is | rfl)
    (case pxa_NotTold => first | k_is | rfl)
    (case pxn_NotTold => first | k_is | rfl)
    (case pxt_NotTold => first | k_is | rfl)
    (case pxm_NotTold => first | k_is | rfl)
    (case pxP_NotTold => k_exc)
    (case pg_Unfit => first | k_is | rfl)
    (case pek_Unfit => first | k_is | rfl)
    (case peb_Unfit => first | k_is | rfl)
    (case pet_Unfit => first | k_is | rfl)
    (case peh_Unfit => first | k_is | rfl)
    (case peic_Unfit => first | k_is | rfl)
    (case pes_Unfit => first | k_is | rfl)
    (case pxg_Unfit => first | k_is | rfl)
    (case pxk_Unfit => first | k_is | rfl)
    (case pxa_Unfit => first | k_is | rfl)
    (case pxn_Unfit => first | k_is | rfl)
    (case pxt_Unfit => first | k_is | rfl)
    (case pxm_Unfit => first | k_is | rfl)
    (case pkit_Unfit => first | k_is | rfl)
    (case pn_Unfit_factors => first | k_is | rfl)
    (case poi_Unfit => first | k_is | rfl)
    (case pot_Unfit => first | k_is | rfl)
    (case pol_Unfit => first | k_is | rfl)
    (case pov_Unfit => first | k_is | rfl)
    (case posa_Unfit => first | k_is | rfl)
    (case pe_m_BadName_init => first | k_is | rfl)
    (case pl_m_BadName_init => first | k_is | rfl)
    (case pc_m_BadName_init => first | k_is | rfl)
    (case pq_m_BadName_init => first | k_is | rfl)
    (case pe_m_NoPrice_init => first | k_is | rfl)
    (case pl_m_NoPrice_init => first | k_is | rfl)
    (case pc_m_NoPrice_init => first | k_is | rfl)
    (case pq_m_NoPrice_init => first | k_is | rfl)
    (case pe_m_Negative_init => first | k_is | rfl)
    (case pl_m_Negative_init => first | k_is | rfl)
    (case pc_m_Negative_init => first | k_is | rfl)
    (case pq_m_Negative_init => first | k_is | rfl)
    (case pe_m_BadEntry_init => first | k_is | rfl)
    (case pl_m_BadEntry_init => first | k_is | rfl)
    (case pc_m_BadEntry_init => first | k_is | rfl)
    (case pq_m_BadEntry_init => first | k_is | rfl)
    (case pe_m_NoEntry_init => first | k_is | rfl)
    (case pl_m_NoEntry_init => first | k_is | rfl)
    (case pc_m_NoEntry_init => first | k_is | rfl)
    (case pq_m_NoEntry_init => first | k_is | rfl)
    (case pe_m_BadRule_init => first | k_is | rfl)
    (case pl_m_BadRule_init => first | k_is | rfl)
    (case pc_m_BadRule_init => first | k_is | rfl)
    (case pq_m_BadRule_init => first | k_is | rfl)
    (case pe_m_Short_init => first | k_is | rfl)
    (case pl_m_Short_init => first | k_is | rfl)
    (case pc_m_Short_init => first | k_is | rfl)
    (case pq_m_Short_init => first | k_is | rfl)
    (case pe_m_NameTaken_init => first | k_is | rfl)
    (case pl_m_NameTaken_init => first | k_is | rfl)
    (case pc_m_NameTaken_init => first | k_is | rfl)
    (case pq_m_NameTaken_init => first | k_is | rfl)
    (case pe_m_UnknownName_init => first | k_is | rfl)
    (case pl_m_UnknownName_init => first | k_is | rfl)
    (case pc_m_UnknownName_init => first | k_is | rfl)
    (case pq_m_UnknownName_init => first | k_is | rfl)
    (case pe_m_NotEnough_init => first | k_is | rfl)
    (case pl_m_NotEnough_init => first | k_is | rfl)
    (case pc_m_NotEnough_init => first | k_is | rfl)
    (case pq_m_NotEnough_init => first | k_is | rfl)
    (case pe_m_TooMany_init => first | k_is | rfl)
    (case pl_m_TooMany_init => first | k_is | rfl)
    (case pc_m_TooMany_init => first | k_is | rfl)
    (case pq_m_TooMany_init => first | k_is | rfl)
    (case pe_m_Contradiction_init => first | k_is | rfl)
    (case pl_m_Contradiction_init => first | k_is | rfl)
    (case pc_m_Contradiction_init => first | k_is | rfl)
    (case pq_m_Contradiction_init => first | k_is | rfl)
    (case pe_m_NotPlain_init => first | k_is | rfl)
    (case pl_m_NotPlain_init => first | k_is | rfl)
    (case pc_m_NotPlain_init => first | k_is | rfl)
    (case pq_m_NotPlain_init => first | k_is | rfl)
    (case pe_m_Shut_init => first | k_is | rfl)
    (case pl_m_Shut_init => first | k_is | rfl)
    (case pc_m_Shut_init => first | k_is | rfl)
    (case pq_m_Shut_init => first | k_is | rfl)
    (case pe_m_NotClosed_init => first | k_is | rfl)
    (case pl_m_NotClosed_init => first | k_is | rfl)
    (case pc_m_NotClosed_init => first | k_is | rfl)
    (case pq_m_NotClosed_init => first | k_is | rfl)
    (case pe_m_Unfit_init => first | k_is | rfl)
    (case pl_m_Unfit_init => first | k_is | rfl)
    (case pc_m_Unfit_init => first | k_is | rfl)
    (case pq_m_Unfit_init => first | k_is | rfl)
    (case pa_l_bag => first | k_is | rfl)
    (case pl_l_bag => first | k_is | rfl)
    (case pc_l_bag => first | k_is | rfl)
    (case pq_l_bag => first | k_is | rfl)
    (case pa_l_draw => first | k_is | rfl)
    (case pl_l_draw => first | k_is | rfl)
    (case pc_l_draw => first | k_is | rfl)
    (case pq_l_draw => first | k_is | rfl)
    (case pa_l_names => first | k_is | rfl)
    (case pl_l_names => first | k_is | rfl)
    (case pc_l_names => first | k_is | rfl)
    (case pq_l_names => first | k_is | rfl)
    (case pa_l_named => first | k_is | rfl)
    (case pl_l_named => first | k_is | rfl)
    (case pc_l_named => first | k_is | rfl)
    (case pq_l_named => first | k_is | rfl)
    (case pa_l_placed => first | k_is | rfl)
    (case pl_l_placed => first | k_is | rfl)
    (case pc_l_placed => first | k_is | rfl)
    (case pq_l_placed => first | k_is | rfl)
    (case pa_l_others => first | k_is | rfl)
    (case pl_l_others => first | k_is | rfl)
    (case pc_l_others => first | k_is | rfl)
    (case pq_l_others => first | k_is | rfl)
    (case pa_l_classes => first | k_is | rfl)
    (case pl_l_classes => first | k_is | rfl)
    (case pc_l_classes => first | k_is | rfl)
    (case pq_l_classes => first | k_is | rfl)
    (case pa_f_law => first | k_is | rfl)
    (case pl_f_law => first | k_is | rfl)
    (case pc_f_law => first | k_is | rfl)
    (case pq_f_law => first | k_is | rfl)
#print axioms PySem.Challenge.cw_lotcosts_k14_classes_of_errors_holds

