import PyProof.Rows.All
import Wide.All
import OpenK.AllK
import Wide.FinOn
import HandS.ForMost
import HandS.ForExc
import HandS.Flow
import HandS.Evl
import HandS.Style
import KE.KOpsOwn
import HandS.ClsMeth
import HandS.OwnEq
import HandS.IsInst
import HandS.ExcIs
import HandS.Wide
import HandS.Defaults
import PySem.Challenge.RW_lotcosts_k89_cents_dealt_out
set_option Elab.async false
set_option linter.all false
set_option pp.maxSteps 400
set_option maxRecDepth 100000
set_option maxHeartbeats 4000000
namespace Lot
open PySem L2
/-! ### steps -/
local macro_rules | `(tactic| walk_at "ne") => `(tactic| first
  | with_reducible assumption
  | (apply Ne.symm; with_reducible assumption)
  | exact ne_of_none (by with_reducible assumption) (by with_reducible assumption)
  | exact (ne_of_none (by with_reducible assumption) (by with_reducible assumption)).symm)
local macro_rules | `(tactic| walk_at "at") => `(tactic| first
  | with_reducible assumption
  | exact upd_same
  | (refine Eq.trans (upd_ne (by walk_at "ne")) ?_; walk_at "at"))
local macro_rules | `(tactic| walk_at "num") => `(tactic| first
  | decide
  | omega
  | (dsimp only; first | decide | omega))
local macro_rules | `(tactic| walk_at "fact") => `(tactic| first
  | with_reducible assumption
  | exact rfl
  | walk_at "at"
  | exact SqL.of (by walk_at "at")
  | exact SqT.of (by walk_at "at")
  | exact .inl (SqL.of (by walk_at "at"))
  | exact .inr (SqT.of (by walk_at "at"))
  | exact .inl ⟨rfl, _, SqL.of (by walk_at "at")⟩
  | exact Or.inl ⟨by walk_at "num", by walk_at "num"⟩
  | exact Or.inr ⟨by walk_at "num", by walk_at "num"⟩
  | exact ⟨by walk_at "num", by walk_at "num"⟩
  | exact ⟨by walk_at "num", by walk_at "num", by walk_at "num"⟩
  | exact wide_div (b := 9000) (by omega) (by assumption) (by decide) (by decide)
  | exact Nat.le_of_ble_eq_true rfl
  | assumption
  | walk_at "num")
local macro_rules | `(tactic| walk_at "go") => `(tactic| repeat (first
  | apply Exists.intro
  | refine And.intro (by walk_at "fact") ?_
  | refine Or.inl ⟨_, rfl, ?_⟩
  | refine Or.inr ⟨_, rfl, ?_⟩
  | refine iteT ?_
  | refine iteF ?_))
def top (i : Nat) : Stmt := PySem.Challenge.pw_lotcosts_k89_cents_dealt_out.main.body.getD i (.Pass ⟨0, 0, 0, 0⟩)
abbrev s_f_common_divisor : Stmt := top 5
abbrev N_f_common_divisor : List Str := ["one", "other"]
abbrev P_f_common_divisor : List Str := ["one", "other"]
theorem sc_f_common_divisor : FnScope N_f_common_divisor P_f_common_divisor (defScope s_f_common_divisor) := ⟨rfl, rfl, rfl, by decide +kernel, rfl, by decide +kernel, by decide +kernel⟩
abbrev s_f_halves : Stmt := top 6
abbrev N_f_halves : List Str := ["value"]
abbrev P_f_halves : List Str := ["value"]
theorem sc_f_halves : FnScope N_f_halves P_f_halves (defScope s_f_halves) := ⟨rfl, rfl, rfl, by decide +kernel, rfl, by decide +kernel, by decide +kernel⟩
abbrev s_m_Ratio_init : Stmt := inClass (top 7) 0
abbrev N_m_Ratio_init : List Str := ["self", "top", "bottom", "divisor"]
abbrev P_m_Ratio_init : List Str := ["self", "top", "bottom"]
theorem sc_m_Ratio_init : FnScope N_m_Ratio_init P_m_Ratio_init (defScope s_m_Ratio_init) := ⟨rfl, rfl, rfl, by decide +kernel, rfl, by decide +kernel, by decide +kernel⟩
abbrev s_m_Ratio_add : Stmt := inClass (top 7) 1
abbrev N_m_Ratio_add : List Str := ["self", "other", "top", "bottom"]
abbrev P_m_Ratio_add : List Str := ["self", "other"]
theorem sc_m_Ratio_add : FnScope N_m_Ratio_add P_m_Ratio_add (defScope s_m_Ratio_add) := ⟨rfl, rfl, rfl, by decide +kernel, rfl, by decide +kernel, by decide +kernel⟩
abbrev s_m_Ratio_radd : Stmt := inClass (top 7) 2
abbrev N_m_Ratio_radd : List Str := ["self", "other"]
abbrev P_m_Ratio_radd : List Str := ["self", "other"]
theorem sc_m_Ratio_radd : FnScope N_m_Ratio_radd P_m_Ratio_radd (defScope s_m_Ratio_radd) := ⟨rfl, rfl, rfl, by decide +kernel, rfl, by decide +kernel, by decide +kernel⟩
abbrev s_m_Ratio_sub : Stmt := inClass (top 7) 3
abbrev N_m_Ratio_sub : List Str := ["self", "other", "top", "bottom"]
abbrev P_m_Ratio_sub : List Str := ["self", "other"]
theorem sc_m_Ratio_sub : FnScope N_m_Ratio_sub P_m_Ratio_sub (defScope s_m_Ratio_sub) := ⟨rfl, rfl, rfl, by decide +kernel, rfl, by decide +kernel, by decide +kernel⟩
abbrev s_m_Ratio_rsub : Stmt := inClass (top 7) 4
abbrev N_m_Ratio_rsub : List Str := ["self", "other"]
abbrev P_m_Ratio_rsub : List Str := ["self", "other"]
theorem sc_m_Ratio_rsub : FnScope N_m_Ratio_rsub P_m_Ratio_rsub (defScope s_m_Ratio_rsub) := ⟨rfl, rfl, rfl, by decide +kernel, rfl, by decide +kernel, by decide +kernel⟩
abbrev s_m_Ratio_mul : Stmt := inClass (top 7) 5
abbrev N_m_Ratio_mul : List Str := ["self", "other", "top", "bottom"]
abbrev P_m_Ratio_mul : List Str := ["self", "other"]
theorem sc_m_Ratio_mul : FnScope N_m_Ratio_mul P_m_Ratio_mul (defScope s_m_Ratio_mul) := ⟨rfl, rfl, rfl, by decide +kernel, rfl, by decide +kernel, by decide +kernel⟩
abbrev s_m_Ratio_rmul : Stmt := inClass (top 7) 6
abbrev N_m_Ratio_rmul : List Str := ["self", "other"]
abbrev P_m_Ratio_rmul : List Str := ["self", "other"]
theorem sc_m_Ratio_rmul : FnScope N_m_Ratio_rmul P_m_Ratio_rmul (defScope s_m_Ratio_rmul) := ⟨rfl, rfl, rfl, by decide +kernel, rfl, by decide +kernel, by decide +kernel⟩
abbrev s_m_Ratio_neg : Stmt := inClass (top 7) 7
abbrev N_m_Ratio_neg : List Str := ["self"]
abbrev P_m_Ratio_neg : List Str := ["self"]
theorem sc_m_Ratio_neg : FnScope N_m_Ratio_neg P_m_Ratio_neg (defScope s_m_Ratio_neg) := ⟨rfl, rfl, rfl, by decide +kernel, rfl, by decide +kernel, by decide +kernel⟩
abbrev s_m_Ratio_abs : Stmt := inClass (top 7) 8
abbrev N_m_Ratio_abs : List Str := ["self"]
abbrev P_m_Ratio_abs : List Str := ["self"]
theorem sc_m_Ratio_abs : FnScope N_m_Ratio_abs P_m_Ratio_abs (defScope s_m_Ratio_abs) := ⟨rfl, rfl, rfl, by decide +kernel, rfl, by decide +kernel, by decide +kernel⟩
abbrev s_m_Ratio_over : Stmt := inClass (top 7) 9
abbrev N_m_Ratio_over : List Str := ["self", "other", "top", "bottom"]
abbrev P_m_Ratio_over : List Str := ["self", "other"]
theorem sc_m_Ratio_over : FnScope N_m_Ratio_over P_m_Ratio_over (defScope s_m_Ratio_over) := ⟨rfl, rfl, rfl, by decide +kernel, rfl, by decide +kernel, by decide +kernel⟩
abbrev s_m_Ratio_nearest : Stmt := inClass (top 7) 14
abbrev N_m_Ratio_nearest : List Str := ["self"]
abbrev P_m_Ratio_nearest : List Str := ["self"]
theorem sc_m_Ratio_nearest : FnScope N_m_Ratio_nearest P_m_Ratio_nearest (defScope s_m_Ratio_nearest) := ⟨rfl, rfl, rfl, by decide +kernel, rfl, by decide +kernel, by decide +kernel⟩
abbrev s_m_Ratio_sum_of : Stmt := inClass (top 7) 15
abbrev N_m_Ratio_sum_of : List Str := ["items", "total", "item"]
abbrev P_m_Ratio_sum_of : List Str := ["items"]
theorem sc_m_Ratio_sum_of : FnScope N_m_Ratio_sum_of P_m_Ratio_sum_of (defScope s_m_Ratio_sum_of) := ⟨rfl, rfl, rfl, by decide +kernel, rfl, by decide +kernel, by decide +kernel⟩
abbrev s_f_dealt : Stmt := top 9
abbrev N_f_dealt : List Str := ["cents", "amounts", "total", "parts", "before", "running", "amount", "upto"]
abbrev P_f_dealt : List Str := ["cents", "amounts"]
theorem sc_f_dealt : FnScope N_f_dealt P_f_dealt (defScope s_f_dealt) := ⟨rfl, rfl, rfl, by decide +kernel, rfl, by decide +kernel, by decide +kernel⟩
abbrev s_l_bag : Stmt := top 11
abbrev N_l_bag : List Str := ["_law_script"]
abbrev P_l_bag : List Str := ["_law_script"]
theorem sc_l_bag : FnScope N_l_bag P_l_bag (defScope s_l_bag) := ⟨rfl, rfl, rfl, by decide +kernel, rfl, by decide +kernel, by decide +kernel⟩
abbrev s_l_draw : Stmt := top 12
abbrev N_l_draw : List Str := ["_law_bag_here", "_law_size", "_law_cell", "_law_digit", "_law_mixed"]
abbrev P_l_draw : List Str := ["_law_bag_here", "_law_size"]
theorem sc_l_draw : FnScope N_l_draw P_l_draw (defScope s_l_draw) := ⟨rfl, rfl, rfl, by decide +kernel, rfl, by decide +kernel, by decide +kernel⟩
abbrev s_l_number : Stmt := top 13
abbrev N_l_number : List Str := ["_law_value"]
abbrev P_l_number : List Str := ["_law_value"]
theorem sc_l_number : FnScope N_l_number P_l_number (defScope s_l_number) := ⟨rfl, rfl, rfl, by decide +kernel, rfl, by decide +kernel, by decide +kernel⟩
abbrev s_l_integer : Stmt := top 14
abbrev N_l_integer : List Str := ["_law_bag_here", "_law_choice", "_law_size", "_law_value"]
abbrev P_l_integer : List Str := ["_law_bag_here"]
theorem sc_l_integer : FnScope N_l_integer P_l_integer (defScope s_l_integer) := ⟨rfl, rfl, rfl, by decide +kernel, rfl, by decide +kernel, by decide +kernel⟩
abbrev s_l_divisor : Stmt := top 15
abbrev N_l_divisor : List Str := ["_law_one", "_law_other", "_law_rest"]
abbrev P_l_divisor : List Str := ["_law_one", "_law_other"]
theorem sc_l_divisor : FnScope N_l_divisor P_l_divisor (defScope s_l_divisor) := ⟨rfl, rfl, rfl, by decide +kernel, rfl, by decide +kernel, by decide +kernel⟩
abbrev s_l_lowest : Stmt := top 16
abbrev N_l_lowest : List Str := ["_law_top", "_law_bottom", "_law_divisor_here"]
abbrev P_l_lowest : List Str := ["_law_top", "_law_bottom"]
theorem sc_l_lowest : FnScope N_l_lowest P_l_lowest (defScope s_l_lowest) := ⟨rfl, rfl, rfl, by decide +kernel, rfl, by decide +kernel, by decide +kernel⟩
abbrev s_l_amounts : Stmt := top 17
abbrev N_l_amounts : List Str := ["_law_bag_here", "_law_found", "_law_k", "_law_top"]
abbrev P_l_amounts : List Str := ["_law_bag_here"]
theorem sc_l_amounts : FnScope N_l_amounts P_l_amounts (defScope s_l_amounts) := ⟨rfl, rfl, rfl, by decide +kernel, rfl, by decide +kernel, by decide +kernel⟩
abbrev s_l_handed_out : Stmt := top 18
abbrev N_l_handed_out : List Str := ["_law_bag_here", "_law_amounts_here", "_law_handed", "_law_top", "_law_bottom", "_law_amount"]
abbrev P_l_handed_out : List Str := ["_law_bag_here", "_law_amounts_here"]
theorem sc_l_handed_out : FnScope N_l_handed_out P_l_handed_out (defScope s_l_handed_out) := ⟨rfl, rfl, rfl, by decide +kernel, rfl, by decide +kernel, by decide +kernel⟩
abbrev s_l_common : Stmt := top 19
abbrev N_l_common : List Str := ["_law_amounts_here", "_law_bottom", "_law_top", "_law_part"]
abbrev P_l_common : List Str := ["_law_amounts_here"]
theorem sc_l_common : FnScope N_l_common P_l_common (defScope s_l_common) := ⟨rfl, rfl, rfl, by decide +kernel, rfl, by decide +kernel, by decide +kernel⟩
abbrev s_l_dealt_right : Stmt := top 20
abbrev N_l_dealt_right : List Str := ["_law_told", "_law_cents", "_law_weights", "_law_total", "_law_given", "_law_weight", "_law_k", "_law_part"]
abbrev P_l_dealt_right : List Str := ["_law_told", "_law_cents", "_law_weights"]
theorem sc_l_dealt_right : FnScope N_l_dealt_right P_l_dealt_right (defScope s_l_dealt_right) := ⟨rfl, rfl, rfl, by decide +kernel, rfl, by decide +kernel, by decide +kernel⟩
abbrev s_l_refused : Stmt := top 21
abbrev N_l_refused : List Str := ["_law_cents", "_law_amounts_here", "_law_told", "e"]
abbrev P_l_refused : List Str := ["_law_cents", "_law_amounts_here"]
theorem sc_l_refused : FnScope N_l_refused P_l_refused (defScope s_l_refused) := ⟨rfl, rfl, rfl, by decide +kernel, rfl, by decide +kernel, by decide +kernel⟩
abbrev s_f_law : Stmt := top 22
abbrev N_f_law : List Str := ["_law_script", "_law_bag_here", "_law_amounts_here", "_law_cents", "_law_handed", "_law_weights", "_law_spot", "_law_bad", "_law_kept", "_law_turn", "_law_told"]
abbrev P_f_law : List Str := ["_law_script"]
theorem sc_f_law : FnScope N_f_law P_f_law (defScope s_f_law) := ⟨rfl, rfl, rfl, by decide +kernel, rfl, by decide +kernel, by decide +kernel⟩
/-- no __iop__ in the class's chain -/
def noI (K : PySem.W.Frag) (C : Addr) (nm : String) : Bool := (PySem.W.clsIn K C).any fun cd => cd.mro.all fun c => PySem.W.findIn K c (dunderI nm) == some none
/-- C.m is a staticmethod: its record at p, its def at g -/
structure SMet (K : PySem.W.Frag) (C : Addr) (m : Str) (p g : Addr) : Prop where
  rd : PySem.W.readsIn K C (.type "type") = true
  ga : PySem.W.specialIn K (.ref C) "__getattribute__" = some (some (.builtin "type.__getattribute__"))
  at_ : PySem.W.findCls K (.ref C) (.type "type") m = some (.get (.builtin "staticmethod.__get__") (.ref p) .none (.ref C))
  rc : ∃ rest, PySem.W.recIn K p "staticmethod" = some (.ref g :: rest)
  kp : PySem.W.keepIn K (.ref g) = true
structure Ad where
  CostError : Addr
  NoRatio : Addr
  Ratio : Addr
  f_common_divisor : Addr
  fd_f_common_divisor : FuncData
  f_halves : Addr
  fd_f_halves : FuncData
  m_Ratio_init : Addr
  fd_m_Ratio_init : FuncData
  m_Ratio_add : Addr
  fd_m_Ratio_add : FuncData
  m_Ratio_radd : Addr
  fd_m_Ratio_radd : FuncData
  m_Ratio_sub : Addr
  fd_m_Ratio_sub : FuncData
  m_Ratio_rsub : Addr
  fd_m_Ratio_rsub : FuncData
  m_Ratio_mul : Addr
  fd_m_Ratio_mul : FuncData
  m_Ratio_rmul : Addr
  fd_m_Ratio_rmul : FuncData
  m_Ratio_neg : Addr
  fd_m_Ratio_neg : FuncData
  m_Ratio_abs : Addr
  fd_m_Ratio_abs : FuncData
  m_Ratio_over : Addr
  fd_m_Ratio_over : FuncData
  m_Ratio_nearest : Addr
  fd_m_Ratio_nearest : FuncData
  m_Ratio_sum_of : Addr
  fd_m_Ratio_sum_of : FuncData
  sp_m_Ratio_sum_of : Addr
  f_dealt : Addr
  fd_f_dealt : FuncData
  l_bag : Addr
  fd_l_bag : FuncData
  l_draw : Addr
  fd_l_draw : FuncData
  l_number : Addr
  fd_l_number : FuncData
  l_integer : Addr
  fd_l_integer : FuncData
  l_divisor : Addr
  fd_l_divisor : FuncData
  l_lowest : Addr
  fd_l_lowest : FuncData
  l_amounts : Addr
  fd_l_amounts : FuncData
  l_handed_out : Addr
  fd_l_handed_out : FuncData
  l_common : Addr
  fd_l_common : FuncData
  l_dealt_right : Addr
  fd_l_dealt_right : FuncData
  l_refused : Addr
  fd_l_refused : FuncData
  f_law : Addr
  fd_f_law : FuncData
  ds_m_Ratio_init : List Value
structure Txt (K : PySem.W.Frag) (mg : Str → Option Value) (A : Ad) : Prop where
  z_abs : mg "abs" = none
  z_all : mg "all" = none
  z_bool : mg "bool" = none
  z_int : mg "int" = none
  z_isinstance : mg "isinstance" = none
  z_len : mg "len" = none
  z_list : mg "list" = none
  z_range : mg "range" = none
  z_staticmethod : mg "staticmethod" = none
  z_sum : mg "sum" = none
  g_CostError : mg "CostError" = some (.ref A.CostError)
  ek_CostError : PySem.W.keepIn K (.ref A.CostError) = true
  eb_CostError : PySem.W.subIn K (.ref A.CostError) (.type "BaseException") = some true
  et_CostError : PySem.W.typeIn K (.ref A.CostError) = some (.type "type")
  eh_CostError : PySem.W.hasDictIn K A.CostError = true
  eic_CostError : PySem.W.isClsIn K A.CostError = true
  es_CostError : PySem.W.subIn K (.ref A.CostError) (.ref A.CostError) = some true
  g_NoRatio : mg "NoRatio" = some (.ref A.NoRatio)
  ek_NoRatio : PySem.W.keepIn K (.ref A.NoRatio) = true
  eb_NoRatio : PySem.W.subIn K (.ref A.NoRatio) (.type "BaseException") = some true
  et_NoRatio : PySem.W.typeIn K (.ref A.NoRatio) = some (.type "type")
  eh_NoRatio : PySem.W.hasDictIn K A.NoRatio = true
  eic_NoRatio : PySem.W.isClsIn K A.NoRatio = true
  es_NoRatio : PySem.W.subIn K (.ref A.NoRatio) (.ref A.NoRatio) = some true
  ex_NoRatio : PySem.W.excIn K A.NoRatio [.type "ValueError", .type "Exception", .type "BaseException", .type "object"] "ValueError.__new__" = true
  xg_NoRatio : PySem.W.findIn K (.ref A.NoRatio) "__getattribute__" = some (some (.builtin "BaseException.__getattribute__"))
  xk_NoRatio : PySem.W.findIn K (.ref A.NoRatio) "__getattr__" = some none
  xa_NoRatio : PySem.W.findIn K (.ref A.NoRatio) "__class__" = some (some (.builtin "object.__class__"))
  xn_NoRatio : PySem.W.specialIn K (.builtin "object.__class__") "__get__" = some (some (.builtin "getset_descriptor.__get__"))
  xt_NoRatio : PySem.W.takesIn K (.builtin "object.__class__") = some true
  xm_NoRatio : PySem.W.mroIn K A.NoRatio (.type "object") = some true
  xc_NoRatio : PySem.W.kitOne K (.ref A.NoRatio) (.ref A.CostError) = some true
  g_Ratio : mg "Ratio" = some (.ref A.Ratio)
  cl_Ratio : Cls K A.Ratio
  n_Ratio_top : NoAttr K A.Ratio "top"
  n_Ratio_bottom : NoAttr K A.Ratio "bottom"
  mk_Ratio : Mk K A.Ratio A.m_Ratio_init
  m_Ratio___add__ : Meth K A.Ratio "__add__" A.m_Ratio_add
  m_Ratio___radd__ : Meth K A.Ratio "__radd__" A.m_Ratio_radd
  m_Ratio___sub__ : Meth K A.Ratio "__sub__" A.m_Ratio_sub
  m_Ratio___rsub__ : Meth K A.Ratio "__rsub__" A.m_Ratio_rsub
  m_Ratio___mul__ : Meth K A.Ratio "__mul__" A.m_Ratio_mul
  m_Ratio___rmul__ : Meth K A.Ratio "__rmul__" A.m_Ratio_rmul
  m_Ratio___neg__ : Meth K A.Ratio "__neg__" A.m_Ratio_neg
  m_Ratio___abs__ : Meth K A.Ratio "__abs__" A.m_Ratio_abs
  m_Ratio_over : Meth K A.Ratio "over" A.m_Ratio_over
  m_Ratio_nearest : Meth K A.Ratio "nearest" A.m_Ratio_nearest
  sm_Ratio_sum_of : SMet K A.Ratio "sum_of" A.sp_m_Ratio_sum_of A.m_Ratio_sum_of
  tc_Ratio : PySem.W.findIn K (.ref A.Ratio) "__class__" = some (some (.builtin "object.__class__"))
  tn_Ratio : PySem.W.specialIn K (.builtin "object.__class__") "__get__" = some (some (.builtin "getset_descriptor.__get__"))
  tk_Ratio : PySem.W.takesIn K (.builtin "object.__class__") = some true
  tm_Ratio : PySem.W.mroIn K A.Ratio (.type "object") = some true
  ki_Ratio : PySem.W.kitOne K (.ref A.Ratio) (.type "int") = some false
  sf_Ratio : PySem.W.selfFirst K A.Ratio = true
  si_Ratio : PySem.W.subIn K (.type "int") (.ref A.Ratio) = some false
  sj_Ratio : PySem.W.subIn K (.ref A.Ratio) (.type "int") = some false
  o1a_Ratio : PySem.W.findIn K (.type "int") (PySem.dunder "add") = some (some (.builtin "int.__add__"))
  o2a_Ratio : PySem.W.findIn K (.type "int") (dunderR "add") = some (some (.builtin "int.__radd__"))
  o1s_Ratio : PySem.W.findIn K (.type "int") (PySem.dunder "sub") = some (some (.builtin "int.__sub__"))
  o2s_Ratio : PySem.W.findIn K (.type "int") (dunderR "sub") = some (some (.builtin "int.__rsub__"))
  o1m_Ratio : PySem.W.findIn K (.type "int") (PySem.dunder "mul") = some (some (.builtin "int.__mul__"))
  o2m_Ratio : PySem.W.findIn K (.type "int") (dunderR "mul") = some (some (.builtin "int.__rmul__"))
  nia_Ratio : noI K A.Ratio "add" = true
  nis_Ratio : noI K A.Ratio "sub" = true
  nim_Ratio : noI K A.Ratio "mul" = true
  rd_Ratio : PySem.W.readsIn K A.Ratio (.type "type") = true
  cga_Ratio : PySem.W.specialIn K (.ref A.Ratio) "__getattribute__" = some (some (.builtin "type.__getattribute__"))
  F_f_common_divisor : Fun K "common_divisor" "common_divisor" s_f_common_divisor A.f_common_divisor A.fd_f_common_divisor
  b_f_common_divisor : Binds K A.fd_f_common_divisor P_f_common_divisor []
  g_common_divisor : mg "common_divisor" = some (.ref A.f_common_divisor)
  F_f_halves : Fun K "halves" "halves" s_f_halves A.f_halves A.fd_f_halves
  b_f_halves : Binds K A.fd_f_halves P_f_halves []
  g_halves : mg "halves" = some (.ref A.f_halves)
  F_m_Ratio_init : FunD K "__init__" "Ratio.__init__" (defArgs s_m_Ratio_init) (defBody s_m_Ratio_init) (defScope s_m_Ratio_init) [.int 1] [] A.m_Ratio_init A.fd_m_Ratio_init
  b_m_Ratio_init : Binds K A.fd_m_Ratio_init P_m_Ratio_init []
  dv_m_Ratio_init : Vals [.int 1] A.ds_m_Ratio_init
  b_m_Ratio_init_d1 : Binds K A.fd_m_Ratio_init P_m_Ratio_init A.ds_m_Ratio_init
  F_m_Ratio_add : Fun K "__add__" "Ratio.__add__" s_m_Ratio_add A.m_Ratio_add A.fd_m_Ratio_add
  b_m_Ratio_add : Binds K A.fd_m_Ratio_add P_m_Ratio_add []
  F_m_Ratio_radd : Fun K "__radd__" "Ratio.__radd__" s_m_Ratio_radd A.m_Ratio_radd A.fd_m_Ratio_radd
  b_m_Ratio_radd : Binds K A.fd_m_Ratio_radd P_m_Ratio_radd []
  F_m_Ratio_sub : Fun K "__sub__" "Ratio.__sub__" s_m_Ratio_sub A.m_Ratio_sub A.fd_m_Ratio_sub
  b_m_Ratio_sub : Binds K A.fd_m_Ratio_sub P_m_Ratio_sub []
  F_m_Ratio_rsub : Fun K "__rsub__" "Ratio.__rsub__" s_m_Ratio_rsub A.m_Ratio_rsub A.fd_m_Ratio_rsub
  b_m_Ratio_rsub : Binds K A.fd_m_Ratio_rsub P_m_Ratio_rsub []
  F_m_Ratio_mul : Fun K "__mul__" "Ratio.__mul__" s_m_Ratio_mul A.m_Ratio_mul A.fd_m_Ratio_mul
  b_m_Ratio_mul : Binds K A.fd_m_Ratio_mul P_m_Ratio_mul []
  F_m_Ratio_rmul : Fun K "__rmul__" "Ratio.__rmul__" s_m_Ratio_rmul A.m_Ratio_rmul A.fd_m_Ratio_rmul
  b_m_Ratio_rmul : Binds K A.fd_m_Ratio_rmul P_m_Ratio_rmul []
  F_m_Ratio_neg : Fun K "__neg__" "Ratio.__neg__" s_m_Ratio_neg A.m_Ratio_neg A.fd_m_Ratio_neg
  b_m_Ratio_neg : Binds K A.fd_m_Ratio_neg P_m_Ratio_neg []
  F_m_Ratio_abs : Fun K "__abs__" "Ratio.__abs__" s_m_Ratio_abs A.m_Ratio_abs A.fd_m_Ratio_abs
  b_m_Ratio_abs : Binds K A.fd_m_Ratio_abs P_m_Ratio_abs []
  F_m_Ratio_over : Fun K "over" "Ratio.over" s_m_Ratio_over A.m_Ratio_over A.fd_m_Ratio_over
  b_m_Ratio_over : Binds K A.fd_m_Ratio_over P_m_Ratio_over []
  F_m_Ratio_nearest : Fun K "nearest" "Ratio.nearest" s_m_Ratio_nearest A.m_Ratio_nearest A.fd_m_Ratio_nearest
  b_m_Ratio_nearest : Binds K A.fd_m_Ratio_nearest P_m_Ratio_nearest []
  F_m_Ratio_sum_of : Fun K "sum_of" "Ratio.sum_of" s_m_Ratio_sum_of A.m_Ratio_sum_of A.fd_m_Ratio_sum_of
  b_m_Ratio_sum_of : Binds K A.fd_m_Ratio_sum_of P_m_Ratio_sum_of []
  F_f_dealt : Fun K "dealt" "dealt" s_f_dealt A.f_dealt A.fd_f_dealt
  b_f_dealt : Binds K A.fd_f_dealt P_f_dealt []
  g_dealt : mg "dealt" = some (.ref A.f_dealt)
  F_l_bag : Fun K "_law_bag" "_law_bag" s_l_bag A.l_bag A.fd_l_bag
  b_l_bag : Binds K A.fd_l_bag P_l_bag []
  g__law_bag : mg "_law_bag" = some (.ref A.l_bag)
  F_l_draw : Fun K "_law_draw" "_law_draw" s_l_draw A.l_draw A.fd_l_draw
  b_l_draw : Binds K A.fd_l_draw P_l_draw []
  g__law_draw : mg "_law_draw" = some (.ref A.l_draw)
  F_l_number : Fun K "_law_number" "_law_number" s_l_number A.l_number A.fd_l_number
  b_l_number : Binds K A.fd_l_number P_l_number []
  g__law_number : mg "_law_number" = some (.ref A.l_number)
  F_l_integer : Fun K "_law_integer" "_law_integer" s_l_integer A.l_integer A.fd_l_integer
  b_l_integer : Binds K A.fd_l_integer P_l_integer []
  g__law_integer : mg "_law_integer" = some (.ref A.l_integer)
  F_l_divisor : Fun K "_law_divisor" "_law_divisor" s_l_divisor A.l_divisor A.fd_l_divisor
  b_l_divisor : Binds K A.fd_l_divisor P_l_divisor []
  g__law_divisor : mg "_law_divisor" = some (.ref A.l_divisor)
  F_l_lowest : Fun K "_law_lowest" "_law_lowest" s_l_lowest A.l_lowest A.fd_l_lowest
  b_l_lowest : Binds K A.fd_l_lowest P_l_lowest []
  g__law_lowest : mg "_law_lowest" = some (.ref A.l_lowest)
  F_l_amounts : Fun K "_law_amounts" "_law_amounts" s_l_amounts A.l_amounts A.fd_l_amounts
  b_l_amounts : Binds K A.fd_l_amounts P_l_amounts []
  g__law_amounts : mg "_law_amounts" = some (.ref A.l_amounts)
  F_l_handed_out : Fun K "_law_handed_out" "_law_handed_out" s_l_handed_out A.l_handed_out A.fd_l_handed_out
  b_l_handed_out : Binds K A.fd_l_handed_out P_l_handed_out []
  g__law_handed_out : mg "_law_handed_out" = some (.ref A.l_handed_out)
  F_l_common : Fun K "_law_common" "_law_common" s_l_common A.l_common A.fd_l_common
  b_l_common : Binds K A.fd_l_common P_l_common []
  g__law_common : mg "_law_common" = some (.ref A.l_common)
  F_l_dealt_right : Fun K "_law_dealt_right" "_law_dealt_right" s_l_dealt_right A.l_dealt_right A.fd_l_dealt_right
  b_l_dealt_right : Binds K A.fd_l_dealt_right P_l_dealt_right []
  g__law_dealt_right : mg "_law_dealt_right" = some (.ref A.l_dealt_right)
  F_l_refused : Fun K "_law_refused" "_law_refused" s_l_refused A.l_refused A.fd_l_refused
  b_l_refused : Binds K A.fd_l_refused P_l_refused []
  g__law_refused : mg "_law_refused" = some (.ref A.l_refused)
  F_f_law : Fun K "law" "law" s_f_law A.f_law A.fd_f_law
  b_f_law : Binds K A.fd_f_law P_f_law []
  g_law : mg "law" = some (.ref A.f_law)
/-- a word that the steps don't open -/
structure Wd (p : Prop) : Prop where
  ok : p
section
variable {X : Cx}
def tG (t : TS) : TS := fun D σ H => Wd (t D σ H)
def tGE (t : TE) : TE := fun σ H Q => Wd (t σ H Q)
theorem ps_g {st : Stmt} {t : TS} (h : PS X st t) : PS X st (tG t) := ⟨fun pins s σ H D I hw => h.run pins s σ H D I hw.ok⟩
theorem pss_g {st : List Stmt} {t : TS} (h : PSs X st t) : PSs X st (tG t) := ⟨fun pins s σ H D I hw => h.run pins s σ H D I hw.ok⟩
theorem pe_g {e : Expr} {t : TE} (h : PE X e t) : PE X e (tGE t) := ⟨fun pins s σ H Q I hw => h.run pins s σ H Q I hw.ok⟩
end
theorem if_int {i j : Int} {A B : Prop} (h1 : i = j → A) (h2 : i ≠ j → B) : if decide (V.int i = V.int j) = true then A else B := by
  by_cases e : i = j
  · rw [if_pos (decide_eq_true (congrArg V.int e))]
    exact h1 e
  · rw [if_neg fun z => e (V.int.inj (of_decide_eq_true z))]
    exact h2 e
theorem if_intN {i j : Int} {A B : Prop} (h1 : i ≠ j → A) (h2 : i = j → B) : if (!decide (V.int i = V.int j)) = true then A else B := by
  by_cases e : i = j
  · rw [decide_eq_true (congrArg V.int e)]
    exact iteF (h2 e)
  · rw [decide_eq_false fun z => e (V.int.inj z)]
    exact iteT (h1 e)
theorem if_dec {p A B : Prop} [Decidable p] (h1 : p → A) (h2 : ¬ p → B) : if decide p = true then A else B := by
  by_cases e : p
  · rw [if_pos (decide_eq_true e)]
    exact h1 e
  · rw [if_neg fun z => e (of_decide_eq_true z)]
    exact h2 e
theorem ifT {p A B : Prop} [Decidable p] (hp : p) (h : A) : if decide p = true then A else B := by
  rw [if_pos (decide_eq_true hp)]
  exact h
theorem ifF {p A B : Prop} [Decidable p] (hp : ¬ p) (h : B) : if decide p = true then A else B := by
  rw [if_neg fun z => hp (of_decide_eq_true z)]
  exact h
theorem ifNT {p A B : Prop} [Decidable p] (hp : p) (h : B) : if (!decide p) = true then A else B := by
  rw [decide_eq_true hp]
  exact iteF h
theorem ifNF {p A B : Prop} [Decidable p] (hp : ¬ p) (h : A) : if (!decide p) = true then A else B := by
  rw [decide_eq_false hp]
  exact iteT h
theorem if_bl {b : Bool} {A B : Prop} (h1 : b = true → A) (h2 : b = false → B) : if b = true then A else B := by
  cases b with
  | true => exact h1 rfl
  | false => exact iteF (h2 rfl)
/-- all but what stands at g is kept -/
def Kp (g : Addr) (H H' : Hp) : Prop := ∀ b o, H b = some o → b ≠ g → H' b = some o
theorem Kp.refl (g : Addr) (H : Hp) : Kp g H H := fun _ _ h _ => h
theorem Kp.trans {g : Addr} {H H1 H2 : Hp} (a : Kp g H H1) (b : Kp g H1 H2) : Kp g H H2 := fun c o h n => b c o (a c o h n) n
theorem Kp.up {g : Addr} {H H' : Hp} {o : HO} (k : Kp g H H') : Kp g H (upd H' g o) := fun b u e n => by
  rw [upd_ne n]
  exact k b u e n

/-! ### the bag of draws -/
structure Bag (H : Hp) (g l : Addr) : Prop where
  ex : ∃ (i r s c : Int) (ns : List Int), H g = some (.lst [.ref l, .int i, .int r, .int s, .int c]) ∧ H l = some (.lst (ns.map V.int)) ∧ 0 ≤ i
def spDraw : Sp := fun vs H Q _ => ∃ (g l : Addr) (z : Int), vs = [.ref g, .int z] ∧ Bag H g l ∧ 0 < z ∧ z.natAbs < 2 ^ 9000 ∧
  ∀ (n : Int) (H' : Hp), 0 ≤ n → n < z → Bag H' g l → Kp g H H' → Q (.int n) H'
theorem at_ints {ns : List Int} {i : Int} (h0 : 0 ≤ i) (h1 : i < (ns.length : Int)) : ∃ n, atI (ns.map V.int) i = some (.int n) := by
  obtain ⟨j, rfl⟩ := Int.eq_ofNat_of_zero_le h0
  have hj : j < ns.length := by omega
  exact ⟨ns[j], atI_nat (by rw [List.getElem?_map, List.getElem?_eq_getElem hj]; rfl)⟩
theorem cmul_r {i j : Int} (h : -(2 ^ 64) < j ∧ j < 2 ^ 64) : CMul i j := .inr h
theorem cmul_l {i j : Int} (h : -(2 ^ 64) < i ∧ i < 2 ^ 64) : CMul i j := .inl h
theorem cpow_of {i j : Int} (h1 : 0 ≤ j ∧ j ≤ 1000000) (h2 : -(2 ^ 63) < i ∧ i < 2 ^ 63) : CPow i j := ⟨h1.1, h1.2, by omega⟩
section
variable {P : Program} {w : World} {K : PySem.W.Frag} {mg : Str → Option Value} {base : Heap} {A : Ad}
theorem ok_l_draw (T : Txt K mg A) : FnOk P w K mg base CX0 1 A.l_draw A.fd_l_draw P_l_draw spDraw := by
  refine T.F_l_draw.ok sc_l_draw (fun vs H Q E h => ?_) (fun cdv Ar outer s H vs Q E hr h => ?_)
  · obtain ⟨g, l, z, rfl, _⟩ := h
    rfl
  · obtain ⟨g, l, z, rfl, ⟨i, r, sd, c, ns, hg, hl, hi⟩, hz, hz2, k⟩ := h
    have nlg : l ≠ g := ne_of hl hg (by intro q; cases ns <;> cases q)
    refine ⟨_, (pss_cons (ps_asg (pe_op op_add (pe_ix ix_list (pv 0) pe_int (fun _ _ => rfl)) pe_int) (pg_sub (pv 0) pe_int set_list))
      (pss_g (Evl.pss_cut (ps_if (PW.pt (pw_and (pt_cmpR op_eq (pe_ix ix_list (pv 0) pe_int (fun _ _ => rfl)) pe_int (nomark _)) (pw_and1 (pt_cmpR op_lt (pe_ix ix_list (pv 0) pe_int (fun _ _ => rfl)) (pe_callB call_len_seq (by rfl) T.z_len (by decide +kernel) (pa_cons (pe_ix ix_list (pv 0) pe_int (fun _ _ => rfl)) pa_nil)) (nomark _))))) (pss_cons (ps_set (i := 2) sc_l_draw.nd rfl (Or.inl rfl) (pe_ix ix_list (pe_ix ix_list (pv 0) pe_int (fun _ _ => rfl)) (pe_ix ix_list (pv 0) pe_int (fun _ _ => rfl)) (fun _ _ => rfl)))
      (pss_cons (ps_asg (pe_op op_add (pe_ix ix_list (pv 0) pe_int (fun _ _ => rfl)) pe_int) (pg_sub (pv 0) pe_int set_list))
      (pss_cons (ps_asg (pe_op op_mul (pe_op op_add (pe_op op_mul pe_int (pe_callB call_abs (by rfl) T.z_abs (by decide +kernel) (pa_cons (pv 2) pa_nil))) (pe_callTy call_int1 (by rfl) T.z_int (by decide +kernel) (pa_cons (pe_cmpR op_lt (pv 2) pe_int (nomark _)) pa_nil))) (pe_callTy call_int1 (by rfl) T.z_int (by decide +kernel) (pa_cons (pe_cmpR op_ge (pe_callB call_abs (by rfl) T.z_abs (by decide +kernel) (pa_cons (pv 2) pa_nil)) (pe_op op_pow pe_int pe_int) (nomark _)) pa_nil))) (pg_sub (pv 0) pe_int set_list))
      (pss_one (ps_asg (pe_op op_mod (pe_callTy call_int1 (by rfl) T.z_int (by decide +kernel) (pa_cons (pe_op op_add (pe_op op_add (pe_op op_mul (pe_ix ix_list (pv 0) pe_int (fun _ _ => rfl)) pe_int) (pe_op op_mul (pv 2) pe_int)) pe_int) pa_nil)) pe_int) (pg_sub (pv 0) pe_int set_list)))))) pss_nil)
      (pss_cons (ps_set (i := 3) sc_l_draw.nd rfl (Or.inl rfl) (pe_op op_mod (pe_callTy call_int1 (by rfl) T.z_int (by decide +kernel) (pa_cons (pe_ix ix_list (pv 0) pe_int (fun _ _ => rfl)) pa_nil)) (pv 1)))
      (pss_cons (ps_if (pt_cmpR op_gt (pe_ix ix_list (pv 0) pe_int (fun _ _ => rfl)) pe_int (nomark _)) (pss_cons (ps_asg (pe_op op_fdivW (pe_ix ix_list (pv 0) pe_int (fun _ _ => rfl)) (pv 1)) (pg_sub (pv 0) pe_int set_list))
      (pss_one (ps_ret (pv 3)))) pss_nil)
      (pss_cons (ps_set (i := 4) sc_l_draw.nd rfl (Or.inl rfl) (pe_op op_mod (pe_callTy call_int1 (by rfl) T.z_int (by decide +kernel) (pa_cons (pe_op op_add (pe_ix ix_list (pv 0) pe_int (fun _ _ => rfl)) (pe_op op_mul (pe_ix ix_list (pv 0) pe_int (fun _ _ => rfl)) pe_int)) pa_nil)) pe_int))
      (pss_cons (ps_set (i := 4) sc_l_draw.nd rfl (Or.inl rfl) (pe_op op_mod (pe_callTy call_int1 (by rfl) T.z_int (by decide +kernel) (pa_cons (pe_op op_add (pe_op op_add (pe_op op_pow (pv 4) pe_int) (pe_op op_mul (pe_ix ix_list (pv 0) pe_int (fun _ _ => rfl)) pe_int)) pe_int) pa_nil)) pe_int))
      (pss_one (ps_ret (pe_op op_mod (pe_op op_fdiv (pe_op op_mod (pe_callTy call_int1 (by rfl) T.z_int (by decide +kernel) (pa_cons (pe_op op_pow (pv 4) pe_int) pa_nil)) pe_int) pe_int) (pv 1))))))))))), ?_⟩
    refine ⟨_, rfl, g, _, _, _, rfl, rfl, SqL.of hg, rfl, _, _, rfl, rfl, _, rfl, g, _, _, _, rfl, rfl, hg, rfl, ?_⟩
    refine ⟨⟨fun σ' H' => Wd (∃ (i r s c : Int) (v : Option V), σ' = [some (.ref g), some (.int z), v, none, none] ∧ 0 ≤ i ∧ H' g = some (.lst [.ref l, .int i, .int r, .int s, .int c]) ∧ H' l = some (.lst (ns.map V.int)) ∧ Kp g H H'), ?_, ?_⟩⟩
    · walk_at "go"
      refine if_int (fun e0 => ?_) (fun e0 => ?_)
      · walk_at "go"
        refine if_dec (fun e1 => ?_) (fun e1 => ?_)
        · obtain ⟨n, hn⟩ := at_ints (ns := ns) hi (by simpa using e1)
          walk_at "go"
          exact ⟨i + 1, _, _, c + 1, _, rfl, by omega, upd_same, by walk_at "at", (((Kp.refl g H).up.up.up.up))⟩
        · exact ⟨i, r, sd, c + 1, none, rfl, hi, upd_same, by walk_at "at", (Kp.refl g H).up⟩
      · refine iteF ?_
        exact ⟨i, r, sd, c + 1, none, rfl, hi, upd_same, by walk_at "at", (Kp.refl g H).up⟩
    · rintro σ' H' ⟨i, r, s, c, v, rfl, hi, hg, hl, kp⟩
      walk_at "go"
      refine if_dec (fun e1 => ?_) (fun e1 => ?_)
      · walk_at "go"
        exact k _ _ (Int.emod_nonneg _ (by omega)) (Int.emod_lt_of_pos _ hz) ⟨i, _, s, c, ns, upd_same, by walk_at "at", hi⟩ kp.up
      · walk_at "go"
        exact k _ _ (Int.emod_nonneg _ (by omega)) (Int.emod_lt_of_pos _ hz) ⟨i, r, s, c, ns, hg, hl, hi⟩ kp
end

/-! ### calls in the body of a try: what they raise is wished for at the slots as they stand -/
section
open PySem.Spec PyProof.Rows
variable {X : Cx} {CX : CXT} {k : Nat} {f C : Addr} {fd : FuncData} {ps : List Str} {sp : Sp} {dvs : List V} {ds : List Value} {E : L2.St → XK} {x m : Str} {p pos apos : Pos} {e o : Expr} {es : List Expr} {ta : TE} {t : TA}
theorem run_mkS {pins : List (Addr × Obj)} {σ : L2.St} {H : Hp} {s : Shared} {Q : VK} {us : List Value} {vs : List V} (M : Mk X.K C f) (F : FnOk X.prog X.w X.K X.mg X.base CX k f fd ps sp)
    (hr : Room (k + 1) X.A) (hb : Binds X.K fd ps ds) (hd : Vals dvs ds) (hx : PassesAt CX X σ (E σ)) (I : Inv X pins σ H s) (r : Vals vs us)
    (h : ∀ x dx, H x = none → H dx = none → dx ≠ x → sp (.ref x :: (vs ++ dvs)) (upd (upd H dx (.own x)) x (.ins C dx [])) (fun v H2 => v = .non ∧ Q (.ref x) H2) (E σ)) :
    wpAny (model X.prog X.w) X.A (call (.ref C) us) (EP X pins σ Q) X.xe s := by
  have a1 := h (s.heap.objs.size + 1) s.heap.objs.size (I.hok.fresh (Nat.le_succ _)) (I.hok.fresh (Nat.le_refl _)) (Nat.ne_of_lt (Nat.lt_succ_self _))
  have J := Inv.made (C := C) I
  have a2 : Vals (V.ref (s.heap.objs.size + 1) :: (vs ++ dvs)) (Value.ref (s.heap.objs.size + 1) :: (us ++ ds)) := .cons rfl (r.append hd)
  have a3 : (Value.ref (s.heap.objs.size + 1) :: us ++ ds).length = ps.length := by
    have z := a2.length
    rw [F.len _ _ _ _ a1] at z
    exact z.symm
  refine wpAny_call (make_map (f := f) I.kIn M.makes M.init (beq_iff_eq.mp M.fn) (codeAny_mono (F.run _ X.stack _ _ ⟨Value.ref (s.heap.objs.size + 1) :: us, []⟩
    (Value.ref (s.heap.objs.size + 1) :: (us ++ ds)) _ _ (E σ) (hr.make C us []) (J.env0.make C us []) (hb _ (Value.ref (s.heap.objs.size + 1) :: us) J.kIn a3) a2 a1) fun r s' z => ?_))
  cases r with
  | error u => exact hx pins _ _ u s' J z
  | ok fl =>
    cases fl with
    | ret u =>
      obtain ⟨v, H', J3, rv, ev, q3⟩ := J.after z
      subst ev
      exact ⟨rv, V.ref (s.heap.objs.size + 1), H', J3, rfl, q3⟩
    | next => exact z.elim
    | brk => exact z.elim
    | cont => exact z.elim
def tMakeS (C : Addr) (sp : Sp) (dvs : List V) (E : L2.St → XK) (t : TA) : TE := fun σ H Q => t σ H fun vs H1 => ∀ x dx, H1 x = none → H1 dx = none → dx ≠ x →
  sp (.ref x :: (vs ++ dvs)) (upd (upd H1 dx (.own x)) x (.ins C dx [])) (fun v H2 => v = .non ∧ Q (.ref x) H2) (E σ)
theorem pe_makeS (M : Mk X.K C f) (F : FnOk X.prog X.w X.K X.mg X.base CX k f fd ps sp) (hr : Room (k + 1) X.A) (hg : Gl X x) (hm : X.mg x = some (.ref C)) (hb : Binds X.K fd ps ds) (hd : Vals dvs ds) (hx : ∀ σ, PassesAt CX X σ (E σ))
    (ha : PA X (e :: es) t) (hdb : (x == ("__debug__" : Str)) = false := by decide) (he : starEach (e :: es) X.env = (false, eval e X.env) :: starEach es X.env := by rfl)
    (hpl : (backTo pos (starEach es X.env)).any (·.1) = false := by rfl) : PE X (.Call (.Name x p) (e :: es) [] pos) (tMakeS C sp dvs E t) := ⟨fun pins s σ H Q I h =>
  wpAny_Call_Name_kw (ld_glob I hg hm (PySem.W.callWith_K (h₀ := X.base) I.ok.mod.kin M.kp (thn (ha.run pos pins s σ H _ I h) fun us s1 ⟨vs, H1, I1, r, q⟩ => ⟨I1.kIn, run_mkS M F hr hb hd (hx σ) I1 r q⟩) he hpl) hdb)⟩
def tMethS (C : Addr) (m : Str) (sp : Sp) (E : L2.St → XK) (ta : TE) (t : TA) : TE := fun σ H Q => ta σ H fun x H1 => ∃ a dx fs, x = .ref a ∧ H1 a = some (.ins C dx fs) ∧ fs.lookup m = none ∧
  t σ H1 fun vs H2 => sp (.ref a :: vs) H2 Q (E σ)
theorem pe_methA {pl : Sem Bool} (he : PE X o ta) (c : Cls X.K C) (hm : Meth X.K C m f) (F : FnOk X.prog X.w X.K X.mg X.base CX k f fd ps sp) (hr : Room k X.A) (hb : Binds X.K fd ps []) (hx : ∀ σ, PassesAt CX X σ (E σ)) (ha : PA X (e :: es) t)
    (hst : starEach (e :: es) X.env = (false, eval e X.env) :: starEach es X.env := by rfl) (hpl : (backTo pos (starEach es X.env)).any (·.1) = false := by rfl)
    (ht : eval (.Call (.Attribute o m apos) (e :: es) [] pos) X.env = (eval o X.env >>= fun ov => standAt apos.atName >>= fun _ => holding [ov] (getMethod ov m pl) >>= fun (f, first) =>
      callWith pos f first (backTo pos (starEach (e :: es) X.env)) (backToKw pos (keywordEach [] X.env))) := by rfl) :
    PE X (.Call (.Attribute o m apos) (e :: es) [] pos) (tMethS C m sp E ta t) := by
  refine ⟨fun pins s σ H Q I h => ?_⟩
  refine PySem.W.methodCall_KW (pl := pl) (thn (he.run pins s σ H _ I h) fun u s1 ⟨x, H1, I1, rx, a, dx, fs, ex, ea, l, q⟩ => ?_) ht
  cases ex
  obtain rfl : u = Value.ref a := rx
  exact getmeth_ok I1 ea c hm l (PySem.W.callWith_K (first := [.ref a]) (h₀ := X.base) I.ok.mod.kin hm.kp (thn (ha.run pos pins s1 σ H1 _ I1 q) fun us s2 ⟨vs, H2, I2, r, q2⟩ =>
    ⟨I2.kIn, run_fnS (E := E) (us := .ref a :: us) (vs := .ref a :: vs) F hr hb (hx σ) I2 (.cons rfl r) q2⟩) hst hpl)

def oe0 : Obj := { cls := .none, data := .fields #[] }
variable {n : Str} {c : Value} {i : Nat} {body suite : List Stmt} {b0 : Stmt} {np pos' : Pos} {Wout : WX}
  {tb : WX → List (Addr × Obj) → (Value → Shared → Prop) → TS} {ts : Addr → Obj → Value → Option Addr → List (Addr × Obj) → TS}
/-- try: .. except x as n: .., the readings of the body and of the suite free of what they can't hang on (both shown by rfl) -/
theorem ps_tryV (hs : X.stack = X.env :: X.outer) (hf : X.env.frame = some X.env.locals) (hN : X.N.Nodup) (hi : X.N[i]? = some n) (hln : X.env.kindOf n = some .local) (hc : Names X x c) (tk : Takes X Wout)
    (hb : ∀ (W : WX) (pn : List (Addr × Obj)) (xe : Value → Shared → Prop), Takes (X.tr pn xe) W → PassesOwn (model X.prog X.w) X.A X.env xe → PSs (X.tr pn xe) body (tb W pn xe))
    (hsu : ∀ (a : Addr) (oe : Obj) (cls : Value) (d : Option Addr) (pn : List (Addr × Obj)), Zc cls d oe → (∃ vs, oe.data = .fields vs) → PSs (X.suite a ((a, oe) :: pn)) (b0 :: suite) (ts a oe cls d pn))
    (e1 : ∀ W pn xe, tb W pn xe = tb W [] (fun _ _ => False)) (e2 : ∀ a oe cls d pn, ts a oe cls d pn = ts a oe0 cls d []) :
    PS X (.Try body [.ExceptHandler (some (.Name x np)) (some n) (b0 :: suite) pos'] [] [] pos) (fun D σ H => tb (wAs X.K c i (fun a cls d => ts a oe0 cls d []) Wout D) [] (fun _ _ => False) D σ H) :=
  ps_try_as (tb := fun W => tb W [] (fun _ _ => False)) (ts := fun a cls d => ts a oe0 cls d []) hs hf hN hi hln hc tk (fun W pn xe k po => by rw [← e1 W pn xe]; exact hb W pn xe k po)
    (fun a oe cls d pn z f => by rw [← e2 a oe cls d pn]; exact hsu a oe cls d pn z f)
/-- isinstance(e, C) of the error that the suite holds, one without a dict of its own -/
def rIsEV (K : PySem.W.Frag) (cls : Value) (d : Option Addr) (a : Addr) : List V → Hp → VK → Prop := fun xs H Q => ∃ (D : Addr) (c : V) (cv : Value) (b : Bool), cls = .ref D ∧ d = none ∧ ExcC K D ∧ xs = [.ref a, c] ∧ (∀ u, RelV c u → u = cv) ∧ PySem.W.kitOne K (.ref D) cv = some b ∧ Q (.bl b) H
theorem call_isEV {a : Addr} {oe : Obj} {cls : Value} {d : Option Addr} {pn : List (Addr × Obj)} (hz : Zc cls d oe) (hf : ∃ vs, oe.data = .fields vs) : CallR (X.suite a ((a, oe) :: pn)) (.builtin "isinstance") (rIsEV X.K cls d a) := by
  intro pins s σ H xs us Q I r h
  obtain ⟨D, c, cv, b, rfl, rfl, C, h⟩ := h
  exact call_isE C hz hf pins s σ H xs us Q I r ⟨c, cv, b, h⟩
end
/-! ### list comprehensions: the readings of their parts free of what they can't hang on -/
section
open PySem.Spec PyProof.Rows
variable {X : Cx} {elt tg iter : Expr} {ifs : List Expr} {scope : Scope} {own : List (Str × Nat)} {pos spos py : Pos} {wi : TI} {i : Nat} {y : Str}
abbrev Bk (α : Type) := Shared → Hp → Addr → List (Str × Addr) → List Addr → α
abbrev Bk.at0 {α : Type} (f : Bk α) (X : Cx) : α := f X.s_0 X.H_0 0 [] []
variable {g : Bk TG} {tt : Bk TT} {te : Bk TE}
theorem pe_lcV (hc : X.calm = true) (hN : X.N.Nodup) (hi : PI X tg iter wi) (ok : BlkOk X.N X.env.scope scope own)
    (hg : ∀ s H C cl fp, PG (X.blk s H scope (compEnvC scope cl C X.env) fp) tg (g s H C cl fp)) (ht : ∀ s H C cl fp, PTs (X.blk s H scope (compEnvC scope cl C X.env) fp) ifs (tt s H C cl fp))
    (he : ∀ s H C cl fp, PE (X.blk s H scope (compEnvC scope cl C X.env) fp) elt (te s H C cl fp)) (e1 : ∀ s H C cl fp, g s H C cl fp = g.at0 X) (e2 : ∀ s H C cl fp, tt s H C cl fp = tt.at0 X)
    (e3 : ∀ s H C cl fp, te s H C cl fp = te.at0 X) (hs : ∀ x, foldedSetIterable iter X.env x = pure x := by intro _; rfl) :
    PE X (.ListComp elt [⟨tg, iter, ifs, 0⟩] scope pos) (tLc wi (g.at0 X) (tt.at0 X) (te.at0 X) (own.map (·.2))) :=
  pe_lc hc hN hi ok (fun s H C cl fp => by rw [← e1 s H C cl fp]; exact hg s H C cl fp) (fun s H C cl fp => by rw [← e2 s H C cl fp]; exact ht s H C cl fp) (fun s H C cl fp => by rw [← e3 s H C cl fp]; exact he s H C cl fp) hs
theorem ps_setLcV (hc : X.calm = true) (hN : X.N.Nodup) (hy : X.N[i]? = some y) (hyl : X.env.scope.names.lookup y = some .local)
    (hsw : swapsWith (.ListComp elt [⟨tg, iter, ifs, 0⟩] scope pos) (some (.Name y py)) spos.line X.env = pure true) (hi : PI X tg iter wi) (ok : BlkOk X.N X.env.scope scope own)
    (hg : ∀ s H C cl fp, PG (X.blk s H scope (compEnvC scope cl C X.env) fp) tg (g s H C cl fp)) (ht : ∀ s H C cl fp, PTs (X.blk s H scope (compEnvC scope cl C X.env) fp) ifs (tt s H C cl fp))
    (he : ∀ s H C cl fp, PE (X.blk s H scope (compEnvC scope cl C X.env) fp) elt (te s H C cl fp)) (e1 : ∀ s H C cl fp, g s H C cl fp = g.at0 X) (e2 : ∀ s H C cl fp, tt s H C cl fp = tt.at0 X)
    (e3 : ∀ s H C cl fp, te s H C cl fp = te.at0 X) (hs : ∀ x, foldedSetIterable iter X.env x = pure x := by intro _; rfl) :
    PS X (.Assign [.Name y py] (.ListComp elt [⟨tg, iter, ifs, 0⟩] scope pos) spos) (tAsg (tLc wi (g.at0 X) (tt.at0 X) (te.at0 X) (own.map (·.2))) (gName i)) :=
  ps_setLc hc hN hy hyl hsw hi ok (fun s H C cl fp => by rw [← e1 s H C cl fp]; exact hg s H C cl fp) (fun s H C cl fp => by rw [← e2 s H C cl fp]; exact ht s H C cl fp) (fun s H C cl fp => by rw [← e3 s H C cl fp]; exact he s H C cl fp) hs
end

/-! ### operators that an own class defines -/
section
open PySem.W PySem.Calls PyProof.Rows
variable {prog : Program} {w : World} {A : Around} {E : Value → Shared → Prop} {s : Shared} {K : PySem.W.Frag} {x y C f r : Addr} {ox oy : Obj} {od : Option Obj} {nm : String}
/-- a op b, two instances of one class -/
theorem b1_same {b : Value} {Q : Value → Shared → Prop} (X : K.In s.heap) (I : InstAt s.heap x ox C od) (hb : Looks (model prog w) s.heap (typeOf b) (.ref C)) (hc : selfFirst K C = true)
    (hs : findIn K (.ref C) (PySem.dunder nm) = some (some (.ref f))) (hf : isFn K (.ref f) = true) (h : wpAny (model prog w) A (call (.ref f) [.ref x, b]) (PySem.W.CmpBack Q) E s) :
    wpAny (model prog w) A (binaryOp1 nm (.ref x) b) (fun o s' => ∃ v, o = some v ∧ Q v s') E s := by
  obtain ⟨cd, rest, hcd, hm⟩ := ksp_first hc
  have one := ksp_try X I hs hf h
  unfold binaryOp1
  refine wpAny_bind (I.type.here (wpAny_bind (hb.here (wpAny_bind ((fills_K X hcd hm hs).here ?_)))))
  simp only [beq_self_eq_true, if_true]
  refine wpAny_bind (wpAny_pure ?_)
  simp only [Bool.and_false, Bool.false_eq_true, if_false, Bool.false_and]
  refine wpAny_bind (wpAny_pure ?_)
  simp only [Bool.false_eq_true, if_false]
  refine wpAny_bind (wpAny_mono one (fun o s' ho => ?_) fun _ _ e => e)
  obtain ⟨v, rfl, hq⟩ := ho
  exact wpAny_pure ⟨v, rfl, hq⟩
/-- a op n, n an int -/
theorem b1_int {i : Int} {t : Tok} {fo ro rc : Option Value} {Q : Value → Shared → Prop} (X : K.In s.heap) (I : InstAt s.heap x ox C od) (hc : selfFirst K C = true)
    (hs : findIn K (.ref C) (PySem.dunder nm) = some (some (.ref f))) (hf : isFn K (.ref f) = true) (hr : findIn K (.ref C) (dunderR nm) = some rc) (hp : rc = none ∨ ∃ g : Addr, rc = some (.ref g))
    (h1 : findIn K (.type "int") (PySem.dunder nm) = some fo) (h2 : findIn K (.type "int") (dunderR nm) = some ro) (hsub : subIn K (.type "int") (.ref C) = some false)
    (h : wpAny (model prog w) A (call (.ref f) [.ref x, .int i t]) (PySem.W.CmpBack Q) E s) : wpAny (model prog w) A (binaryOp1 nm (.ref x) (.int i t)) (fun o s' => ∃ v, o = some v ∧ Q v s') E s := by
  obtain ⟨cd, rest, hcd, hm⟩ := ksp_first hc
  have one := ksp_try X I hs hf h
  obtain ⟨hh, g, d, tt, os⟩ := s
  have L1 : Looks (model prog w) hh (typeOf (.ref x)) (.ref C) := I.type
  have L2 : Looks (model prog w) hh (typeOf (.int i t)) (.type "int") := Looks.of_pure rfl
  have L3 : Looks (model prog w) hh (fillsNumberSlot (.ref C) nm) true := fills_K X hcd hm hs
  have L4 : Looks (model prog w) hh (fillsNumberSlot (.type "int") nm) ((fo.isSome && !isSeqSlot fo) || (ro.isSome && !isSeqSlot ro)) := ksp_fillsT X h1 h2
  have L5 : Looks (model prog w) hh (isSubtype (.type "int") (.ref C)) false := looks_subIn X hsub
  have L6 : Looks (model prog w) hh (numberSlotInPython (.ref C) nm) true := ksp_inPy X hs hr hp
  have L7 : Looks (model prog w) hh (numberSlotInPython (.type "int") nm) false := Looks.of_pure rfl
  have L8 : Looks (model prog w) hh (typeLookup (.type "int") (dunderR nm)) ro := looks_findIn X h2
  generalize ((fo.isSome && !isSeqSlot fo) || (ro.isSome && !isSeqSlot ro)) = right at L4
  have hne : (Value.ref C == Value.type "int") = false := Bool.eq_false_iff.mpr fun q => by cases beq_iff_eq.mp q
  unfold binaryOp1
  refine wpAny_bind (L1.at (wpAny_bind (L2.at (wpAny_bind (L3.at ?_)))))
  simp only [hne, Bool.false_eq_true, if_false]
  cases right with
  | false =>
    ksp_lk
    refine wpAny_mono one (fun o s' ho => ?_) fun _ _ e => e
    obtain ⟨v, rfl, hq⟩ := ho
    ksp_lk
    exact ⟨v, rfl, hq⟩
  | true =>
    ksp_lk
    refine wpAny_mono one (fun o s' ho => ?_) fun _ _ e => e
    obtain ⟨v, rfl, hq⟩ := ho
    ksp_lk
    exact ⟨v, rfl, hq⟩
/-- n op a, n an int: int's own way declines, the reflected one serves -/
theorem b1_rint {i : Int} {t : Tok} {id : String} {bi : Builtin} {Q : Value → Shared → Prop} (X : K.In s.heap) (I : InstAt s.heap y oy C od) (hc : selfFirst K C = true)
    (hs : findIn K (.ref C) (PySem.dunder nm) = some (some (.ref f))) (hr : findIn K (.ref C) (dunderR nm) = some (some (.ref r))) (hf : isFn K (.ref r) = true)
    (hfi : fillsNumberSlot (.type "int") nm = pure true) (hsub : subIn K (.ref C) (.type "int") = some false) (slot : Slot "int" (PySem.dunder nm) id) (entry : entryFor table id = some bi)
    (args : argsOk id ⟨[.int i t, .ref y], []⟩) (dec : wpAny (model prog w) A.in1 (bi ⟨[.int i t, .ref y], []⟩) (fun fin s' => fin = .done (.ret .notImplemented) ∧ s' = s) E s)
    (h : wpAny (model prog w) A (call (.ref r) [.ref y, .int i t]) (PySem.W.CmpBack Q) E s) : wpAny (model prog w) A (binaryOp1 nm (.int i t) (.ref y)) (fun o s' => ∃ v, o = some v ∧ Q v s') E s := by
  obtain ⟨cd, rest, hcd, hm⟩ := ksp_first hc
  have one := ksp_try X I hr hf h
  have two : wpAny (model prog w) A (call (.builtin id) [.int i t, .ref y]) (fun v s' => v = .notImplemented ∧ s' = s) E s :=
    wpAny_call_entry slot rfl entry (wpAny_mono dec (fun fin s' z => ⟨_, z.1, rfl, z.2⟩) fun _ _ e => e) args
  obtain ⟨hh, g, d, tt, os⟩ := s
  have L1 : Looks (model prog w) hh (typeOf (.ref y)) (.ref C) := I.type
  have L2 : Looks (model prog w) hh (typeOf (.int i t)) (.type "int") := Looks.of_pure rfl
  have L3 : Looks (model prog w) hh (fillsNumberSlot (.ref C) nm) true := fills_K X hcd hm hs
  have L4 : Looks (model prog w) hh (fillsNumberSlot (.type "int") nm) true := Looks.of_pure hfi
  have L5 : Looks (model prog w) hh (isSubtype (.ref C) (.type "int")) false := looks_subIn X hsub
  have L7 : Looks (model prog w) hh (numberSlotInPython (.type "int") nm) false := Looks.of_pure rfl
  have hne : (Value.type "int" == Value.ref C) = false := Bool.eq_false_iff.mpr fun q => by cases beq_iff_eq.mp q
  unfold binaryOp1
  refine wpAny_bind (L2.at (wpAny_bind (L1.at (wpAny_bind (L4.at ?_)))))
  simp only [hne, Bool.false_eq_true, if_false]
  ksp_lk
  refine wpAny_tryMethod_declines (s := ⟨hh, g, d, tt, os⟩) (T := "int") rfl slot (wpAny_mono two (fun v s' z => ⟨z.1, ?_⟩) fun _ _ e => e)
  obtain ⟨_, rfl⟩ := z
  ksp_lk
  refine wpAny_mono one (fun o s' ho => ?_) fun _ _ e => e
  obtain ⟨v, rfl, hq⟩ := ho
  ksp_lk
  exact ⟨v, rfl, hq⟩
/-- int's own way with an instance declines -/
theorem int_declines {i : Int} {t : Tok} {dx : Addr} {name : String} {g : Int → Int → Sem Fin} (hy : s.heap.get? y = some (instObj C dx)) :
    wpAny (model prog w) A (Builtin.Int.intBinary name g false ⟨[.int i t, .ref y], []⟩) (fun fin s' => fin = .done (.ret .notImplemented) ∧ s' = s) E s := by
  obtain ⟨hh, gg, d, tt, os⟩ := s
  wp_walk using wpAny_load hy
  exact ⟨rfl, rfl⟩
theorem fillsI_no {M : Model} {h : Heap} {add : Bool} (X : K.In h) (hn : noI K C nm = true) : Looks M h (fillsInplaceSlot (.ref C) nm add) false := by
  obtain ⟨cd, hcd, hall⟩ := any_some hn
  intro A Q E s k q
  have Lm : Looks M h (mroOf (.ref C)) cd.mro := (looks_clsIn X hcd).andThen (f := fun cd => pure cd.mro) .now
  unfold fillsInplaceSlot
  refine wpAny_bind (Lm A _ E s k ?_)
  have X' : K.In s.heap := X.keeps k
  generalize cd.mro = l at hall
  induction l with
  | nil => exact wpAny_pure q
  | cons c l ih =>
    rw [List.all_cons, Bool.and_eq_true] at hall
    rw [List.anyM_cons]
    refine wpAny_bind (wpAny_bind ((looks_findIn X' (beq_iff_eq.mp hall.1)).here ?_))
    refine wpAny_pure ?_
    exact ih hall.2
end
section
open PySem.Spec PyProof.Rows
variable {X : Cx} {CX : CXT} {k : Nat} {f r C : Addr} {fd : FuncData} {ps : List Str} {sp : Sp} {E : XK} {nm : String} {op : Operator}
/-- what the written part says of a class with __op__ (f) and __rop__ (r) -/
structure OwnOp (K : PySem.W.Frag) (C f r : Addr) (nm : String) : Prop where
  hc : PySem.W.selfFirst K C = true
  hs : PySem.W.findIn K (.ref C) (PySem.dunder nm) = some (some (.ref f))
  hf : PySem.W.isFn K (.ref f) = true
  hr : PySem.W.findIn K (.ref C) (dunderR nm) = some (some (.ref r))
  hg : PySem.W.isFn K (.ref r) = true
  h1 : ∃ fo, PySem.W.findIn K (.type "int") (PySem.dunder nm) = some fo
  h2 : ∃ ro, PySem.W.findIn K (.type "int") (dunderR nm) = some ro
  sub : PySem.W.subIn K (.type "int") (.ref C) = some false
  sub2 : PySem.W.subIn K (.ref C) (.type "int") = some false
theorem back_of {pins : List (Addr × Obj)} {σ : L2.St} {Q : VK} {u : Value} {s : Shared} (h : EP X pins σ Q u s) : PySem.W.CmpBack (EP X pins σ Q) u s := by
  obtain ⟨v, H', I, rv, q⟩ := h
  have h : EP X pins σ Q u s := ⟨v, H', I, rv, q⟩
  cases v with
  | non => cases rv; exact h
  | bl b => cases rv; exact h
  | int i => obtain ⟨t, rfl⟩ := rv; exact h
  | str i => obtain ⟨t, rfl⟩ := rv; exact h
  | byt i => obtain ⟨t, rfl⟩ := rv; exact h
  | flt i => obtain ⟨t, rfl⟩ := rv; exact h
  | ref a => cases rv; exact h
  | ty n => cases rv; exact h
/-- a op b: the operand's own method -/
def rOwn (C : Addr) (sp : Sp) (E : XK) : R2 := fun x y H Q => Wd (∃ a dx fs, x = .ref a ∧ H a = some (.ins C dx fs) ∧ ((∃ i, y = .int i) ∨ ∃ b dy gs, y = .ref b ∧ H b = some (.ins C dy gs)) ∧ sp [x, y] H Q E)
theorem own1 (O : OwnOp X.K C f r nm) (F : FnOk X.prog X.w X.K X.mg X.base CX k f fd ps sp) (hrm : Room k X.A) (hb : Binds X.K fd ps []) (hx : Passes CX X E) {pins : List (Addr × Obj)} {s : Shared} {σ : L2.St} {H : Hp} {x y : V} {v u : Value} {Q : VK}
    (I : Inv X pins σ H s) (rx : RelV x v) (ry : RelV y u) (h : rOwn C sp E x y H Q) : wpAny (model X.prog X.w) X.A (binaryOp1 nm v u) (fun o s' => ∃ z, o = some z ∧ EP X pins σ Q z s') X.xe s := by
  obtain ⟨a, dx, fs, rfl, ha, hy, h⟩ := h.ok
  obtain rfl : v = Value.ref a := rx
  obtain ⟨mA, O1, _⟩ := ins_get I.hok ha
  obtain ⟨od, J, _⟩ := O1.look
  have fin : wpAny (model X.prog X.w) X.A (call (.ref f) [.ref a, u]) (PySem.W.CmpBack (EP X pins σ Q)) X.xe s :=
    thn (run_fn (us := [.ref a, u]) (vs := [.ref a, y]) F hrm hb .nil hx I (.cons rfl (.cons ry .nil)) h) fun _ _ z => back_of z
  rcases hy with ⟨i, rfl⟩ | ⟨b, dy, gs, rfl, hb2⟩
  · obtain ⟨t, rfl⟩ := ry
    obtain ⟨fo, h1⟩ := O.h1
    obtain ⟨ro, h2⟩ := O.h2
    exact b1_int I.kIn J O.hc O.hs O.hf O.hr (.inr ⟨r, rfl⟩) h1 h2 O.sub fin
  · obtain rfl : u = Value.ref b := ry
    obtain ⟨mB, O2, _⟩ := ins_get I.hok hb2
    obtain ⟨od2, J2, _⟩ := O2.look
    exact b1_same I.kIn J J2.type O.hc O.hs O.hf fin
theorem op_own (hop : op.info.2 = nm) (O : OwnOp X.K C f r nm) (F : FnOk X.prog X.w X.K X.mg X.base CX k f fd ps sp) (hrm : Room k X.A) (hb : Binds X.K fd ps []) (hx : Passes CX X E) : OpR X (binaryOp op) (rOwn C sp E) := by
  intro pins s σ H x y v u Q I rx ry h
  have one := own1 O F hrm hb hx I rx ry h
  rcases hi : op.info with ⟨sym, nm'⟩
  rw [hi] at hop
  cases hop
  simp only [binaryOp, hi]
  refine wpAny_holding (wpAny_bind (wpAny_mono one (fun o s' ho => ?_) fun _ _ e => e))
  obtain ⟨z, rfl, q⟩ := ho
  exact wpAny_pure q
theorem iop_own (hop : op.info.2 = nm) (O : OwnOp X.K C f r nm) (hn : noI X.K C nm = true) (F : FnOk X.prog X.w X.K X.mg X.base CX k f fd ps sp) (hrm : Room k X.A) (hb : Binds X.K fd ps []) (hx : Passes CX X E) : PIp X op (rOwn C sp E) := by
  intro pins s σ H x y v u Q I rx ry h
  have one := own1 O F hrm hb hx I rx ry h
  obtain ⟨a, dx, fs, rfl, ha, hy, h⟩ := h.ok
  obtain rfl : v = Value.ref a := rx
  obtain ⟨mA, O1, _⟩ := ins_get I.hok ha
  obtain ⟨od, J, _⟩ := O1.look
  subst hop
  unfold inplaceOp
  refine wpAny_holding (wpAny_bind (J.type.here (wpAny_bind ((fillsI_no I.kIn hn).here ?_))))
  simp only [Bool.false_eq_true, if_false]
  refine wpAny_bind (wpAny_mono one (fun o s' ho => ?_) fun _ _ e => e)
  obtain ⟨z, rfl, q⟩ := ho
  exact wpAny_pure q
/-- n op a: the reflected method -/
def rROwn (C : Addr) (sp : Sp) (E : XK) : R2 := fun x y H Q => Wd (∃ (i : Int) (b dy : Addr) (gs : List (Str × V)), x = .int i ∧ y = .ref b ∧ H b = some (.ins C dy gs) ∧ sp [y, x] H Q E)
theorem op_rown {id : String} {bi : Builtin} {nm2 : String} {g : Int → Int → Sem PySem.Fin} (hop : op.info.2 = nm) (O : OwnOp X.K C f r nm) (hfi : fillsNumberSlot (.type "int") nm = pure true) (slot : Slot "int" (PySem.dunder nm) id) (entry : entryFor table id = some bi)
    (args : ∀ p q, argsOk id ⟨[p, q], []⟩) (hbi : bi = Builtin.Int.intBinary nm2 g false) (F : FnOk X.prog X.w X.K X.mg X.base CX k r fd ps sp) (hrm : Room k X.A) (hb : Binds X.K fd ps []) (hx : Passes CX X E) : OpR X (binaryOp op) (rROwn C sp E) := by
  intro pins s σ H x y v u Q I rx ry h
  obtain ⟨i, b, dy, gs, rfl, rfl, hb2, h⟩ := h.ok
  obtain ⟨t, rfl⟩ := rx
  obtain rfl : u = Value.ref b := ry
  obtain ⟨mB, O2, _⟩ := ins_get I.hok hb2
  obtain ⟨od2, J2, _⟩ := O2.look
  have fin : wpAny (model X.prog X.w) X.A (call (.ref r) [.ref b, .int i t]) (PySem.W.CmpBack (EP X pins σ Q)) X.xe s :=
    thn (run_fn (us := [.ref b, .int i t]) (vs := [.ref b, .int i]) F hrm hb .nil hx I (.cons rfl (.cons ⟨t, rfl⟩ .nil)) h) fun _ _ z => back_of z
  rcases hi : op.info with ⟨sym, nm'⟩
  rw [hi] at hop
  cases hop
  subst hbi
  have one := b1_rint (prog := X.prog) (w := X.w) (A := X.A) (E := X.xe) (Q := EP X pins σ Q) I.kIn J2 O.hc O.hs O.hr O.hg hfi O.sub2 slot entry (args _ _) (int_declines J2.at_) fin
  simp only [binaryOp, hi]
  refine wpAny_holding (wpAny_bind (wpAny_mono one (fun o s' ho => ?_) fun _ _ e => e))
  obtain ⟨z, rfl, q⟩ := ho
  exact wpAny_pure q
/-- -a -/
theorem un_own (hs : PySem.W.findIn X.K (.ref C) "__neg__" = some (some (.ref f))) (hf : PySem.W.isFn X.K (.ref f) = true) (F : FnOk X.prog X.w X.K X.mg X.base CX k f fd ps sp) (hrm : Room k X.A) (hb : Binds X.K fd ps []) (hx : Passes CX X E) :
    UnR X (unaryOp .USub) (fun x H Q => Wd (∃ a dx fs, x = .ref a ∧ H a = some (.ins C dx fs) ∧ sp [x] H Q E)) := by
  intro pins s σ H x v Q I rx h
  obtain ⟨a, dx, fs, rfl, ha, h⟩ := h.ok
  obtain rfl : v = Value.ref a := rx
  obtain ⟨mA, O1, _⟩ := ins_get I.hok ha
  obtain ⟨od, J, _⟩ := O1.look
  obtain ⟨m, fr⟩ := I.fr
  exact PySem.W.ksp_neg fr I.mod.kin J hs hf (run_fn (us := [.ref a]) (vs := [.ref a]) F hrm hb .nil hx I (.cons rfl .nil) h)
theorem run_fn1 {pins : List (Addr × Obj)} {σ : L2.St} {H : Hp} {s : Shared} {Q : VK} {us : List Value} {vs : List V} (F : FnOk X.prog X.w X.K X.mg X.base CX k f fd ps sp) (hr : Room (k + 1) X.A) (hb : Binds X.K fd ps []) (hx : Passes CX X E)
    (I : Inv X pins σ H s) (rv : Vals vs us) (h : sp vs H Q E) : wpAny (model X.prog X.w) X.A.in1 (call (.ref f) us) (EP X pins σ Q) X.xe s := by
  have hl : us.length = ps.length := by rw [← rv.length]; exact F.len _ _ _ _ h
  have b := hb s us I.kIn (by rw [List.append_nil]; exact hl)
  rw [List.append_nil] at b
  refine wpAny_call (codeAny_mono (F.run X.A.in1 X.stack s H ⟨us, []⟩ us vs Q E hr.in1 I.env0.in1 b rv h) fun o s' z => ?_)
  cases o with
  | error e => exact hx pins σ H s e s' I z
  | ok fl =>
    cases fl with
    | ret u => exact I.after z
    | next => exact z.elim
    | brk => exact z.elim
    | cont => exact z.elim
/-- abs(a) -/
theorem call_absO (hs : PySem.W.findIn X.K (.ref C) "__abs__" = some (some (.ref f))) (hf : PySem.W.isFn X.K (.ref f) = true) (F : FnOk X.prog X.w X.K X.mg X.base CX k f fd ps sp) (hrm : Room (k + 1) X.A) (hb : Binds X.K fd ps []) (hx : Passes CX X E) :
    CallR X (.builtin "abs") (fun xs H Q => Wd (∃ a dx fs, xs = [.ref a] ∧ H a = some (.ins C dx fs) ∧ sp [.ref a] H Q E)) := by
  intro pins s σ H xs us Q I rv h
  obtain ⟨a, dx, fs, rfl, ha, h⟩ := h.ok
  obtain ⟨u, rfl, ru⟩ := vals1 rv
  obtain rfl : u = Value.ref a := ru
  obtain ⟨mA, O1, _⟩ := ins_get I.hok ha
  obtain ⟨od, J, _⟩ := O1.look
  refine PySem.Calls.call_function_entry kind_abs plain_abs entry_abs (args_abs _) ?_
  unfold Builtin.abs
  refine wpAny_bind (m := oneArg "abs" _) (wpAny_pure ?_)
  refine wpAny_bind (m := callSpecial? (.ref a) (Str.ofString "__abs__")) (PySem.W.special_fn I.kIn J hs (beq_iff_eq.mp hf) ?_)
  exact thn (run_fn1 (us := [.ref a]) (vs := [.ref a]) F hrm hb hx I (.cons rfl .nil) h) fun v s' z => wpAny_pure ⟨v, rfl, z⟩
def tSMeth (C : Addr) (sp : Sp) (E : XK) (ta : TE) (t : TA) : TE := fun σ H Q => ta σ H fun x H1 => x = .ref C ∧ t σ H1 fun vs H2 => sp vs H2 Q E
theorem pe_smeth {pl : Sem Bool} {p : Addr} {o e : Expr} {es : List Expr} {m : Str} {apos pos : Pos} {ta : TE} {t : TA} (he : PE X o ta) (S : SMet X.K C m p f) (F : FnOk X.prog X.w X.K X.mg X.base CX k f fd ps sp) (hrm : Room k X.A) (hb : Binds X.K fd ps [])
    (hx : Passes CX X E) (ha : PA X (e :: es) t) (hst : starEach (e :: es) X.env = (false, eval e X.env) :: starEach es X.env := by rfl) (hpl : (backTo pos (starEach es X.env)).any (·.1) = false := by rfl)
    (ht : eval (.Call (.Attribute o m apos) (e :: es) [] pos) X.env = (eval o X.env >>= fun ov => standAt apos.atName >>= fun _ => holding [ov] (getMethod ov m pl) >>= fun (f, first) =>
      callWith pos f first (backTo pos (starEach (e :: es) X.env)) (backToKw pos (keywordEach [] X.env))) := by rfl) :
    PE X (.Call (.Attribute o m apos) (e :: es) [] pos) (tSMeth C sp E ta t) := by
  refine ⟨fun pins s σ H Q I h => ?_⟩
  refine PySem.W.methodCall_KW (pl := pl) (thn (he.run pins s σ H _ I h) fun u s1 ⟨x, H1, I1, rx, ex, q⟩ => ?_) ht
  subst ex
  obtain rfl : u = Value.ref C := rx
  obtain ⟨rest, hp⟩ := S.rc
  refine PySem.W.method_cls I1.kIn S.ga (PySem.W.cls_bind I1.kIn S.rd S.at_ (wpAny_call (PySem.W.sm_get (s := { s1 with toks := s1.toks + 1 }) I1.kIn hp (PySem.W.handed_on rfl ?_))))
  have I2 := I1.tok (s1.toks + 1)
  refine PySem.W.callWith_K (first := []) (h₀ := X.base) I.ok.mod.kin S.kp (thn (ha.run pos pins _ σ H1 _ I2 q) fun us s2 ⟨vs, H2, I3, rv, q2⟩ => ⟨I3.kIn, ?_⟩) hst hpl
  exact run_fn (us := us) (vs := vs) F hrm hb .nil hx I3 rv (by rw [List.append_nil]; exact q2)
end

/-! ### lists side by side -/
section
variable {α β : Type} {R S : α → β → Prop} {xs us : List α} {ys vs : List β} {x : α} {y : β} {i : Nat}
def All2 (R : α → β → Prop) (xs : List α) (ys : List β) : Prop := xs.length = ys.length ∧ ∀ (i : Nat) x y, xs[i]? = some x → ys[i]? = some y → R x y
theorem All2.nil : All2 R [] [] := ⟨rfl, fun i x y h => by simp at h⟩
theorem All2.mono (h : All2 R xs ys) (k : ∀ x y, R x y → S x y) : All2 S xs ys := ⟨h.1, fun i x y a b => k _ _ (h.2 i x y a b)⟩
theorem All2.cons (h : R x y) (k : All2 R xs ys) : All2 R (x :: xs) (y :: ys) := ⟨by rw [List.length_cons, List.length_cons, k.1], fun i a b ha hb => by
  cases i with
  | zero => simp at ha hb; subst ha; subst hb; exact h
  | succ i => simp at ha hb; exact k.2 i a b ha hb⟩
theorem All2.one (h : R x y) : All2 R [x] [y] := .cons h .nil
theorem All2.app (h : All2 R xs ys) (k : All2 R us vs) : All2 R (xs ++ us) (ys ++ vs) := ⟨by rw [List.length_append, List.length_append, h.1, k.1], fun i a b ha hb => by
  by_cases hi : i < xs.length
  · rw [List.getElem?_append_left hi] at ha
    rw [List.getElem?_append_left (by rw [← h.1]; exact hi)] at hb
    exact h.2 i a b ha hb
  · rw [List.getElem?_append_right (by omega)] at ha
    rw [List.getElem?_append_right (by rw [← h.1]; omega), ← h.1] at hb
    exact k.2 _ a b ha hb⟩
theorem All2.take (h : All2 R xs ys) (n : Nat) : All2 R (xs.take n) (ys.take n) := ⟨by rw [List.length_take, List.length_take, h.1], fun i a b ha hb => by
  rw [List.getElem?_take] at ha hb
  by_cases hi : i < n
  · rw [if_pos hi] at ha hb
    exact h.2 i a b ha hb
  · rw [if_neg hi] at ha
    cases ha⟩
theorem All2.drop (h : All2 R xs ys) (n : Nat) : All2 R (xs.drop n) (ys.drop n) := ⟨by rw [List.length_drop, List.length_drop, h.1], fun i a b ha hb => by
  rw [List.getElem?_drop] at ha hb
  exact h.2 _ a b ha hb⟩
theorem All2.get (h : All2 R xs ys) (hi : xs[i]? = some x) : ∃ y, ys[i]? = some y ∧ R x y := by
  have hl : i < ys.length := by
    rw [← h.1]
    exact (List.getElem?_eq_some_iff.mp hi).1
  have e : ys[i]? = some ys[i] := List.getElem?_eq_getElem hl
  exact ⟨_, e, h.2 i _ _ hi e⟩
theorem take_more {α : Type} {ys : List α} {y : α} {i : Nat} (h : ys[i]? = some y) : ys.take (i + 1) = ys.take i ++ [y] := by
  rw [List.take_add_one, h]
  rfl
end
section
open PySem.Spec PyProof.Rows
variable {X : Cx}
/-- one operator, two ways to read it -/
theorem op_mix {f : Value → Value → Sem Value} {r1 r2 : R2} (h1 : OpR X f r1) (h2 : OpR X f r2) : OpR X f (fun x y H Q => Wd (r1 x y H Q ∨ r2 x y H Q)) := by
  intro pins s σ H x y v u Q I rx ry h
  rcases h.ok with h | h
  · exact h1 pins s σ H x y v u Q I rx ry h
  · exact h2 pins s σ H x y v u Q I rx ry h
theorem vals_same {A : Around} {s : Shared} {xs : List V} (hx : ∀ x ∈ xs, flatB x = true ∨ ∃ a, x = .ref a) : ∀ {us ws : List Value}, Vals xs us → Vals xs ws → ∀ j (h1 : j < us.length) (h2 : j < ws.length), SeqAt.EqAt A s us[j] ws[j] true := by
  induction xs with
  | nil =>
    intro us ws r1 r2 j h1 h2
    cases r1
    exact absurd h1 (Nat.not_lt_zero j)
  | cons x xs ih =>
    intro us ws r1 r2 j h1 h2
    cases r1 with
    | cons a1 b1 =>
      cases r2 with
      | cons a2 b2 =>
        cases j with
        | zero =>
          rcases hx x List.mem_cons_self with f | ⟨a, rfl⟩
          · exact eqAt_same a1 a2 f
          · cases a1
            cases a2
            exact SeqAt.EqAt.same _
        | succ j => exact ih (fun y hy => hx y (List.mem_cons_of_mem _ hy)) b1 b2 j (Nat.lt_of_succ_lt_succ h1) (Nat.lt_of_succ_lt_succ h2)
/-- a != b, two lists of the same items -/
theorem op_neL (hu : X.A.units + 64 < cLine) : OpR X (compareOp .NotEq) (fun x y H Q => Wd (∃ (a b : Addr) (xs : List V), x = .ref a ∧ y = .ref b ∧ SqL X.K H a xs ∧ SqL X.K H b xs ∧ (∀ x ∈ xs, flatB x = true ∨ ∃ a, x = .ref a) ∧ Q (.bl false) H)) := by
  intro pins s σ H x y v u Q I rx ry h
  obtain ⟨a, b, xs, rfl, rfl, ha, hb, hx, q⟩ := h.ok
  cases rx
  cases ry
  obtain ⟨us, r1, p1, _⟩ := I.list ha
  obtain ⟨ws, r2, p2, _⟩ := I.list hb
  have hsz : us.toArray.size = ws.toArray.size := by
    rw [List.size_toArray, List.size_toArray, ← r1.length, ← r2.length]
  have k := SeqAt.RcNeAt.lists (A := X.A) (e := fun _ => true) p1.isList p2.isList hsz (by omega) (fun j h1 h2 => by
    have k := vals_same (A := X.A.in1) (s := s) hx r1 r2 j (by simpa using h1) (by simpa using h2)
    simpa using k)
  refine k X.prog X.w _ _ ?_
  rw [show ((List.range us.toArray.size).all fun _ => true) = true from List.all_eq_true.mpr fun _ _ => rfl]
  exact ⟨.bl false, H, I, rfl, q⟩
end

/-! ### ratios: plain mathematics -/
def iabs (n : Int) : Int := if n < 0 then -n else n
theorem iabs_eq (n : Int) : iabs n = (n.natAbs : Int) := by
  unfold iabs
  split <;> omega
theorem gcd_turn (a b : Nat) : Nat.gcd b (a % b) = Nat.gcd a b := by
  rw [Nat.gcd_comm b (a % b), ← Nat.gcd_rec, Nat.gcd_comm]
theorem low_num {t b s : Int} (hb : b ≠ 0) (hs : s = if b < 0 then -((Int.gcd t b : Nat) : Int) else ((Int.gcd t b : Nat) : Int)) :
    s ≠ 0 ∧ s.natAbs ≤ b.natAbs ∧ t.fdiv s = (Rat.divInt t b).num ∧ b.fdiv s = ((Rat.divInt t b).den : Int) := by
  have hg : 0 < Int.gcd t b := Int.gcd_pos_of_ne_zero_right _ hb
  obtain ⟨x, hx⟩ := Int.gcd_dvd_left (a := t) (b := b)
  obtain ⟨y, hy⟩ := Int.gcd_dvd_right (a := t) (b := b)
  have e1 : (Rat.divInt t b).num = b.sign * t / ((Int.gcd t b : Nat) : Int) := by rw [Rat.num_divInt, Int.gcd_comm]
  have e2 : ((Rat.divInt t b).den : Int) = (b.natAbs : Int) / ((Int.gcd t b : Nat) : Int) := by
    rw [Rat.den_divInt, if_neg hb, Int.gcd_comm b t]
    rfl
  have hle : (Int.gcd t b) ≤ b.natAbs := Nat.le_of_dvd (by omega) (Int.gcd_dvd_natAbs_right t b)
  generalize Int.gcd t b = g at *
  have hg' : ((g : Nat) : Int) ≠ 0 := by omega
  by_cases hneg : b < 0
  · rw [if_pos hneg] at hs
    subst hs
    refine ⟨by omega, by omega, ?_, ?_⟩
    · rw [e1, Int.sign_eq_neg_one_of_neg hneg]
      have h1 : t = -(g : Int) * (-x) := by rw [Int.neg_mul_neg]; exact hx
      have h2 : -1 * t = (g : Int) * (-x) := by rw [hx, Int.mul_neg]; omega
      rw [h2, Int.mul_ediv_cancel_left _ hg']
      conv => lhs; rw [h1]
      exact Int.mul_fdiv_cancel_left _ (by omega)
    · rw [e2]
      have h0 : (b.natAbs : Int) = (g : Int) * (-y) := by rw [Int.mul_neg, ← hy]; omega
      have h1 : b = -(g : Int) * (-y) := by rw [Int.neg_mul_neg]; exact hy
      rw [h0, Int.mul_ediv_cancel_left _ hg']
      conv => lhs; rw [h1]
      exact Int.mul_fdiv_cancel_left _ (by omega)
  · rw [if_neg hneg] at hs
    subst hs
    have hpos : 0 < b := by omega
    refine ⟨by omega, by omega, ?_, ?_⟩
    · rw [e1, Int.sign_eq_one_of_pos hpos, Int.one_mul]
      conv => rhs; rw [hx]
      rw [Int.mul_ediv_cancel_left _ hg']
      conv => lhs; rw [hx]
      exact Int.mul_fdiv_cancel_left _ (by omega)
    · rw [e2]
      have h0 : (b.natAbs : Int) = (g : Int) * y := by rw [← hy]; omega
      rw [h0, Int.mul_ediv_cancel_left _ hg']
      conv => lhs; rw [hy]
      exact Int.mul_fdiv_cancel_left _ (by omega)
theorem gcd_emod {x y : Int} (hx : 0 ≤ x) (hy : 0 ≤ y) : Int.gcd y (x % y) = Int.gcd x y := by
  obtain ⟨x', rfl⟩ := Int.eq_ofNat_of_zero_le hx
  obtain ⟨y', rfl⟩ := Int.eq_ofNat_of_zero_le hy
  exact gcd_turn _ _
theorem gcd_abs (t b : Int) : Int.gcd (if t < 0 then -t else t) (if b < 0 then -b else b) = Int.gcd t b := by
  unfold Int.gcd
  rw [show (if t < 0 then -t else t).natAbs = t.natAbs by split <;> omega, show (if b < 0 then -b else b).natAbs = b.natAbs by split <;> omega]

/-! ### rules that the layer lacks -/
section
variable {X : Cx} {pos p : Pos}
def CDivZ (_ j : Int) : Prop := j ≠ 0 ∧ j.natAbs.log2 < 9000
theorem op_fdivZ : OpR X (binaryOp .FloorDiv) (rI CDivZ fun i j => .int (i.fdiv j)) := opI fun _ _ _ _ _ _ _ hc q => PyProof.Rows.floordiv_int hc.1 q (.inl (PyProof.noPylong_of_log2 hc.2))
theorem cdivz {i j : Int} {b : Int} (h : j ≠ 0) (hj : j.natAbs ≤ b.natAbs) (hb : b.natAbs < 2 ^ 9000) : CDivZ i j := ⟨h, PySem.Flt.log2_lt_of (by decide) (Nat.lt_of_le_of_lt hj hb)⟩
/-- an own exception class without own __init__, made with nothing -/
theorem pmk_own0 {C : Addr} {bmB : List Value} {B newId initId : String} {x : Str} (F : ExcBaseFacts B newId initId bmB) (q : PySem.W.excIn X.K C bmB newId = true) (gC : X.mg x = some (.ref C))
    (kC : PySem.W.keepIn X.K (.ref C) = true) (r : Raises X (.ref C)) (hg : Gl X x) (hdb : (x == ("__debug__" : Str)) = false := by decide) : PMk X (.Call (.Name x p) [] [] pos) (fun _ H Q => Q (.ref C) none H) := by
  intro pins s σ H Q I h
  refine wpAny_Call_Name_kw (ld_glob I hg gC ?_ hdb)
  refine PySem.W.callWith_K0 I.kIn kC ?_
  obtain ⟨bm, N, nm, qn, bs, hdct, sn, sub, ab, col, dd, k0, k1, k2, k3, k5, mN, hC, hN, hni, T⟩ := exc_obj I.kIn q
  exact wpAny_call_exc_subT F T hC hN hni (fun h' e hm => mk_of I hm r h (I.hok.gone hm.new)) (Nat.zero_le _)
end
/-! ### ratios in the heap -/
def rf (a b : Int) : List (Str × V) := [("top", V.int a), ("bottom", V.int b)]
theorem rf_put (a b : Int) : putF "bottom" (V.int b) (putF "top" (V.int a) []) = rf a b := by
  show (if ("top" : Str) = "bottom" then [(("top" : Str), V.int b)] else (("top" : Str), V.int a) :: putF "bottom" (V.int b) []) = rf a b
  rw [if_neg (by decide +kernel)]
  all_goals rfl
theorem rf_top (a b : Int) : (rf a b).lookup ("top" : Str) = some (.int a) := by
  rw [← rf_put, lookup_putF, if_neg (by decide +kernel), lookup_putF, if_pos rfl]
theorem rf_bottom (a b : Int) : (rf a b).lookup ("bottom" : Str) = some (.int b) := by
  rw [← rf_put, lookup_putF, if_pos rfl]
theorem rf_no (a b : Int) {m : Str} (h1 : ¬ m = "top") (h2 : ¬ m = "bottom") : (rf a b).lookup m = none := by
  rw [← rf_put, lookup_putF, if_neg h2, lookup_putF, if_neg h1]
  all_goals rfl
/-- v is the ratio q -/
def IsR (C : Addr) (H : Hp) (v : V) (q : Rat) : Prop := ∃ p dx, v = .ref p ∧ H p = some (.ins C dx (rf q.num (q.den : Int)))
theorem IsR.mono {C : Addr} {H H' : Hp} {v : V} {q : Rat} (h : IsR C H v q) (s : ∀ p dx fs, H p = some (.ins C dx fs) → H' p = some (.ins C dx fs)) : IsR C H' v q := by
  obtain ⟨p, dx, e, h⟩ := h
  exact ⟨p, dx, e, s _ _ _ h⟩
theorem IsR.same {C : Addr} {H H' : Hp} {v : V} {q : Rat} (h : IsR C H v q) (s : Same H H') : IsR C H' v q := h.mono fun _ _ _ e => s _ _ e
theorem IsR.kp {C g : Addr} {H H' : Hp} {v : V} {q : Rat} {xs : List V} (h : IsR C H v q) (hg : H g = some (.lst xs)) (s : Kp g H H') : IsR C H' v q := h.mono fun _ _ _ e => s _ _ e (ne_of e hg (by intro z; cases z))
/-- v is the number q: a ratio or an int -/
def IsN (C : Addr) (H : Hp) (v : V) (q : Rat) : Prop := IsR C H v q ∨ ∃ n : Int, v = .int n ∧ q = (n : Rat)
/-! ### promises -/
def spGcd : Sp := fun vs H Q _ => ∃ a b : Int, vs = [.int a, .int b] ∧ 0 ≤ a ∧ 0 ≤ b ∧ Q (.int ((Int.gcd a b : Nat) : Int)) H
def spRatioInit (C CE : Addr) : Sp := fun vs H Q E => ∃ (p dx : Addr) (t b : Int), vs = [.ref p, .int t, .int b] ∧ H p = some (.ins C dx []) ∧ b.natAbs < 2 ^ 9000 ∧
  (b = 0 → E (.ref CE) none H) ∧ (b ≠ 0 → Q .non (upd H p (.ins C dx (rf (Rat.divInt t b).num ((Rat.divInt t b).den : Int)))))
section
variable {P : Program} {w : World} {K : PySem.W.Frag} {mg : Str → Option Value} {base : Heap} {A : Ad}
theorem ok_f_common_divisor (T : Txt K mg A) : FnOk P w K mg base CX0 1 A.f_common_divisor A.fd_f_common_divisor P_f_common_divisor spGcd := by
  refine T.F_f_common_divisor.ok sc_f_common_divisor (fun vs H Q E h => ?_) (fun cdv Ar outer s H vs Q E hr h => ?_)
  · obtain ⟨a, b, rfl, _⟩ := h
    rfl
  · obtain ⟨a, b, rfl, ha, hb, k⟩ := h
    refine ⟨_, (pss_cons (ps_g (ps_while PassesOwn.never (pt_cmpR op_ne (pv 1) pe_int (nomark _)) (pss_one (ps_par (i := 0) (j := 1) rfl sc_f_common_divisor.nd rfl rfl (by decide) rfl rfl (pa_cons (pv 1) (pa_cons (pe_op op_mod (pv 0) (pv 1)) pa_nil)) (by rfl)))))
      (pss_one (ps_ret (pv 0)))), ?_⟩
    refine ⟨⟨fun m σ' H' => Wd (∃ x y : Int, σ' = [some (.int x), some (.int y)] ∧ 0 ≤ x ∧ 0 ≤ y ∧ y.toNat = m ∧ Int.gcd x y = Int.gcd a b ∧ H' = H), ⟨_, ⟨a, b, rfl, ha, hb, rfl, rfl, rfl⟩⟩, ?_⟩⟩
    rintro m σ' H' ⟨x, y, rfl, hx, hy, hm, hg, rfl⟩
    walk_at "go"
    refine if_intN (fun e => ?_) (fun e => ?_)
    · refine ⟨fun σ2 H2 => Wd (σ2 = [some (.int y), some (.int (x % y))] ∧ H2 = H'), ?_, ?_⟩
      · rintro σ2 H2 ⟨rfl, rfl⟩
        have h1 : 0 ≤ x % y := Int.emod_nonneg _ e
        have h2 : x % y < y := Int.emod_lt_of_pos _ (by omega)
        refine ⟨(x % y).toNat, by omega, ⟨y, x % y, rfl, hy, h1, rfl, ?_, rfl⟩⟩
        rw [← hg]
        exact gcd_emod hx hy
      · walk_at "go"
        exact ⟨rfl, rfl⟩
    · subst e
      walk_at "go"
      have e : ((Int.gcd a b : Nat) : Int) = x := by
        rw [← hg, Int.gcd_zero_right]
        omega
      rw [e] at k
      exact k
theorem ok_m_Ratio_init (T : Txt K mg A) : FnOk P w K mg base (L2.CX P w) 4 A.m_Ratio_init A.fd_m_Ratio_init P_m_Ratio_init (spRatioInit A.Ratio A.NoRatio) := by
  refine T.F_m_Ratio_init.ok sc_m_Ratio_init (fun vs H Q E h => ?_) (fun cdv Ar outer s H vs Q E hr h => ?_)
  · obtain ⟨p, dx, t, b, rfl, _⟩ := h
    rfl
  · obtain ⟨p, dx, t, b, rfl, hp, hb, kE, kQ⟩ := h
    refine ⟨_, (pss_cons (ps_if (pt_cmpR op_eq (pv 2) pe_int (nomark _)) (pss_one (ps_raise rfl (takes_of rfl rfl rfl rfl) (pmk_own0 PySem.F.excBase_ValueError T.ex_NoRatio T.g_NoRatio T.ek_NoRatio (raises_own T.eb_NoRatio T.et_NoRatio) (by rfl)))) pss_nil)
      (pss_cons (ps_set (i := 3) sc_m_Ratio_init.nd rfl (Or.inl rfl) (pe_call (ok_f_common_divisor T) (hr.mono (by decide)) (by rfl) T.g_common_divisor T.F_f_common_divisor.kp T.b_f_common_divisor .nil pass0 (pa_cons (pe_callB call_abs (by rfl) T.z_abs (by decide +kernel) (pa_cons (pv 1) pa_nil)) (pa_cons (pe_callB call_abs (by rfl) T.z_abs (by decide +kernel) (pa_cons (pv 2) pa_nil)) pa_nil))))
      (pss_g (Evl.pss_cut (ps_if (pt_cmpR op_lt (pv 2) pe_int (nomark _)) (pss_one (ps_set (i := 3) sc_m_Ratio_init.nd rfl (Or.inl rfl) (pe_un un_neg (pv 3)))) pss_nil)
      (pss_cons (ps_fld (pv 0) (pe_op op_fdivZ (pv 1) (pv 3)) rfl)
      (pss_one (ps_fld (pv 0) (pe_op op_fdivZ (pv 2) (pv 3)) rfl))))))), ?_⟩
    walk_at "go"
    refine if_int (fun e => ?_) (fun e => ?_)
    · exact kE e
    · walk_at "go"
      refine ⟨⟨fun σ' H' => Wd (σ' = [some (.ref p), some (.int t), some (.int b), some (.int (if b < 0 then -((Int.gcd t b : Nat) : Int) else ((Int.gcd t b : Nat) : Int)))] ∧ H' = H), ?_, ?_⟩⟩
      · have eg := gcd_abs t b
        walk_at "go"
        refine if_dec (fun e1 => ?_) (fun e1 => ?_)
        · walk_at "go"
          refine ⟨?_, rfl⟩
          rw [eg, if_pos e1]
          rfl
        · refine ⟨?_, rfl⟩
          rw [eg, if_neg e1]
          rfl
      · rintro σ' H' ⟨rfl, rfl⟩
        obtain ⟨h0, h1, h2, h3⟩ := low_num (t := t) e rfl
        generalize (if b < 0 then -((Int.gcd t b : Nat) : Int) else ((Int.gcd t b : Nat) : Int)) = s at *
        have hz : ∀ i, CDivZ i s := fun i => cdivz h0 h1 hb
        have n1 := T.n_Ratio_top
        have n2 := T.n_Ratio_bottom
        have n3 := T.cl_Ratio
        refine ⟨_, rfl, _, rfl, _, _, rfl, rfl, hz _, _, rfl, p, A.Ratio, dx, [], rfl, hp, n3, n1, (by show 0 < 1000; decide), ?_⟩
        refine ⟨_, rfl, _, rfl, _, _, rfl, rfl, hz _, _, rfl, p, A.Ratio, dx, _, rfl, upd_same, n3, n2, (by show 1 < 1000; decide), ?_⟩
        dsimp only
        rw [upd_upd, h2, h3, rf_put]
        exact kQ e
end

/-! ### the law's own helpers: bag, integer, divisor, lowest -/
def spBag (K : PySem.W.Frag) : Sp := fun vs H Q _ => ∃ (a : Addr) (ns : List Int), vs = [.ref a] ∧ SqL K H a (ns.map V.int) ∧ ∀ (g l : Addr) (H' : Hp), Same H H' → H g = none → H l = none → Bag H' g l → Q (.ref g) H'
def spInteger : Sp := fun vs H Q _ => ∃ g l : Addr, vs = [.ref g] ∧ Bag H g l ∧ ∀ (n : Int) (H' : Hp), n.natAbs ≤ 10 ^ 49 → Bag H' g l → Kp g H H' → Q (.int n) H'
def spLowest : Sp := fun vs H Q _ => ∃ t b : Int, vs = [.int t, .int b] ∧ b ≠ 0 ∧ b.natAbs < 2 ^ 9000 ∧ ∀ p, H p = none → Q (.ref p) (upd H p (.tup [.int (Rat.divInt t b).num, .int ((Rat.divInt t b).den : Int)]))
theorem Bag.keep {H H' : Hp} {g l : Addr} (b : Bag H g l) (s : Same H H') : Bag H' g l := by
  obtain ⟨i, r, sd, c, ns, hg, hl, hi⟩ := b
  exact ⟨i, r, sd, c, ns, s _ _ hg, s _ _ hl, hi⟩
theorem Bag.lst {H : Hp} {g l : Addr} (b : Bag H g l) : ∃ xs, H g = some (.lst xs) := by
  obtain ⟨i, r, sd, c, ns, hg, hl, hi⟩ := b
  exact ⟨_, hg⟩
theorem Bag.ne {H : Hp} {g l p : Addr} (b : Bag H g l) (hp : H p = none) : p ≠ g ∧ p ≠ l := by
  obtain ⟨i, r, sd, c, ns, hg, hl, hi⟩ := b
  exact ⟨(ne_of_none hg hp).symm, (ne_of_none hl hp).symm⟩
/-- a bag stands where nothing of it is written -/
theorem Bag.put {H : Hp} {g l p : Addr} {o : HO} (b : Bag H g l) (n : p ≠ g ∧ p ≠ l) : Bag (upd H p o) g l := by
  obtain ⟨i, r, sd, c, ns, hg, hl, hi⟩ := b
  exact ⟨i, r, sd, c, ns, by rw [upd_ne n.1.symm]; exact hg, by rw [upd_ne n.2.symm]; exact hl, hi⟩
theorem Bag.new {H : Hp} {g l p : Addr} {o : HO} (b : Bag H g l) (hp : H p = none) : Bag (upd H p o) g l := b.keep fun c u e => by
  rw [upd_ne (ne_of_none e hp)]
  exact e
theorem Kp.new {g p : Addr} {H H' : Hp} {o : HO} (k : Kp g H H') (hp : H' p = none) : Kp g H (upd H' p o) := fun b u e n => by
  have e1 := k b u e n
  rw [upd_ne (ne_of_none e1 hp)]
  exact e1
theorem Kp.put {g p : Addr} {H H' : Hp} {o : HO} (k : Kp g H H') (hp : H p = none) : Kp g H (upd H' p o) := fun b u e n => by
  rw [upd_ne (ne_of_none e hp)]
  exact k b u e n
theorem Kp.same {g : Addr} {H H' : Hp} (s : Same H H') : Kp g H H' := fun b u e _ => s b u e
theorem Same.new {H : Hp} {p : Addr} {o : HO} (hp : H p = none) : Same H (upd H p o) := fun b u e => by
  rw [upd_ne (ne_of_none e hp)]
  exact e
theorem size_at {c : Int} (h0 : 0 ≤ c) (h6 : c < 6) (hc : c ≠ 0) : ∃ z : Int, atI [V.int 1, V.int 2, V.int 3, V.int 12, V.int 1000, V.int (10 ^ (49 : Int).toNat)] c = some (.int z) ∧ 0 < z ∧ z ≤ 10 ^ 49 := by
  have : c = 1 ∨ c = 2 ∨ c = 3 ∨ c = 4 ∨ c = 5 := by omega
  rcases this with rfl | rfl | rfl | rfl | rfl
  · exact ⟨2, rfl, by decide, by decide⟩
  · exact ⟨3, rfl, by decide, by decide⟩
  · exact ⟨12, rfl, by decide, by decide⟩
  · exact ⟨1000, rfl, by decide, by decide⟩
  · exact ⟨10 ^ 49, rfl, by decide, by decide⟩
theorem big49 : (10 : Nat) ^ 49 < 2 ^ 200 := by decide
theorem pow_mono {a b : Nat} (h : a ≤ b) : (2 : Nat) ^ a ≤ 2 ^ b := Nat.pow_le_pow_right (by decide) h
theorem lt_pow {n a b : Nat} (h : n < 2 ^ a) (hab : a ≤ b) : n < 2 ^ b := Nat.lt_of_lt_of_le h (pow_mono hab)
theorem lt200 {n : Nat} (h : n ≤ 10 ^ 49) : n < 2 ^ 200 := Nat.lt_of_le_of_lt h big49
theorem lt9000 {n : Nat} (h : n ≤ 10 ^ 49) : n < 2 ^ 9000 := lt_pow (lt200 h) (by decide)
def spLaw (K : PySem.W.Frag) : Sp := fun vs H Q _ => ∃ (a : Addr) (ns : List Int), vs = [.ref a] ∧ SqL K H a (ns.map V.int) ∧ ns.length ≤ 63 ∧ ∀ H', Q (.bl true) H'
theorem neD_same {K : PySem.W.Frag} {H : Hp} {p q : Addr} {a b : Int} {Q : VK} (hp : H p = some (.tup [.int a, .int b])) (hq : H q = some (.tup [.int a, .int b])) (h : Q (.bl false) H) : rNeD K (.ref p) (.ref q) H Q := by
  refine ⟨.tuple [.int a, .int b], .tuple [.int a, .int b], .tup (SqT.of hp) (.cons (.int a) (.cons (.int b) .nil)), .tup (SqT.of hq) (.cons (.int a) (.cons (.int b) .nil)), rfl, rfl, ?_⟩
  have e : PyData.eqv (.tuple [.int a, .int b]) (.tuple [.int a, .int b]) = true := by simp [PyData.eqv, PyData.eqvAll]
  rw [e]
  exact h
theorem or_go {K : PySem.W.Frag} {H : Hp} {σ : L2.St} {Q : VK} {n d : Int} (hd : d ≠ 0) (h : ∀ m : Int, m ≠ 0 → (m = n ∨ m = d) → Q (.int m) H) : ∃ k, TruV K (.int n) H k ∧ if k = true then Q (.int n) H else tC (.int d) σ H Q := by
  by_cases e : n = 0
  · exact ⟨false, by rw [e]; rfl, iteF (h d hd (.inr rfl))⟩
  · exact ⟨true, (show true = (n != 0) by simp [e]), iteT (h n e (.inl rfl))⟩
theorem kit_self {K : PySem.W.Frag} {C : Addr} : PySem.W.kitOne K (.ref C) (.ref C) = some true := by simp [PySem.W.kitOne]
def spNumber : Sp := fun vs H Q _ => ∃ n : Int, vs = [.int n] ∧ Q (.bl true) H
section
variable {P : Program} {w : World} {K : PySem.W.Frag} {mg : Str → Option Value} {base : Heap} {A : Ad}
theorem ok_l_bag (T : Txt K mg A) : FnOk P w K mg base CX0 1 A.l_bag A.fd_l_bag P_l_bag (spBag K) := by
  refine T.F_l_bag.ok sc_l_bag (fun vs H Q E h => ?_) (fun cdv Ar outer s H vs Q E hr h => ?_)
  · obtain ⟨a, ns, rfl, _⟩ := h
    rfl
  · obtain ⟨a, ns, rfl, hS, k⟩ := h
    refine ⟨_, (pss_one (ps_ret (pe_lst (pa_cons (pe_callTy call_list_of (by rfl) T.z_list (by decide +kernel) (pa_cons (pv 0) pa_nil)) (pa_cons pe_int (pa_cons pe_int (pa_cons pe_int (pa_cons pe_int pa_nil)))))))), ?_⟩
    refine ⟨_, rfl, a, _, rfl, .inl hS, fun l hl => ⟨by walk_at "fact", fun g hg => ?_⟩⟩
    have nlg : l ≠ g := fun z => by
      rw [z, upd_same] at hg
      cases hg
    have hg0 : H g = none := by
      rw [upd_ne nlg.symm] at hg
      exact hg
    exact k g l _ ((Same.new hl).trans (Same.new hg)) hg0 hl ⟨0, 0, 17, 0, ns, upd_same, by rw [upd_ne nlg]; exact upd_same, by decide⟩
theorem ok_l_integer (T : Txt K mg A) : FnOk P w K mg base CX0 2 A.l_integer A.fd_l_integer P_l_integer spInteger := by
  refine T.F_l_integer.ok sc_l_integer (fun vs H Q E h => ?_) (fun cdv Ar outer s H vs Q E hr h => ?_)
  · obtain ⟨g, l, rfl, _⟩ := h
    rfl
  · obtain ⟨g, l, rfl, hB, k⟩ := h
    refine ⟨_, (pss_cons (ps_set (i := 1) sc_l_integer.nd rfl (Or.inl rfl) (pe_call (ok_l_draw T) (hr.mono (by decide)) (by rfl) T.g__law_draw T.F_l_draw.kp T.b_l_draw .nil pass0 (pa_cons (pv 0) (pa_cons pe_int pa_nil))))
      (pss_cons (ps_if (pt_cmpR op_eq (pv 1) pe_int (nomark _)) (pss_one (ps_ret pe_int)) pss_nil)
      (pss_cons (ps_set (i := 2) sc_l_integer.nd rfl (Or.inl rfl) (pe_ix ix_list (pe_lst (pa_cons pe_int (pa_cons pe_int (pa_cons pe_int (pa_cons pe_int (pa_cons pe_int (pa_cons (pe_op op_pow pe_int pe_int) pa_nil))))))) (pv 1) (fun _ _ => rfl)))
      (pss_cons (ps_set (i := 3) sc_l_integer.nd rfl (Or.inl rfl) (pe_op op_add pe_int (pe_call (ok_l_draw T) (hr.mono (by decide)) (by rfl) T.g__law_draw T.F_l_draw.kp T.b_l_draw .nil pass0 (pa_cons (pv 0) (pa_cons (pv 2) pa_nil)))))
      (pss_cons (ps_if (pt_cmpR op_eq (pe_call (ok_l_draw T) (hr.mono (by decide)) (by rfl) T.g__law_draw T.F_l_draw.kp T.b_l_draw .nil pass0 (pa_cons (pv 0) (pa_cons pe_int pa_nil))) pe_int (nomark _)) (pss_one (ps_ret (pe_un un_neg (pv 3)))) pss_nil)
      (pss_one (ps_ret (pv 3)))))))), ?_⟩
    walk_at "go"
    intro c H1 c0 c6 B1 K1
    walk_at "go"
    refine if_int (fun e => ?_) (fun e => ?_)
    · exact k 0 H1 (by decide) B1 K1
    · obtain ⟨z, hz, z0, z1⟩ := size_at c0 c6 e
      have hz9 : z.natAbs < 2 ^ 9000 := lt9000 (by omega)
      walk_at "go"
      intro p hp
      have B2 := B1.new (o := .lst [V.int 1, V.int 2, V.int 3, V.int 12, V.int 1000, V.int (10 ^ (49 : Int).toNat)]) hp
      walk_at "go"
      intro n H2 n0 n1 B3 K3
      walk_at "go"
      intro b H4 b0 b2 B4 K4
      have K5 : Kp g H H4 := (K1.new (o := .lst _) hp).trans (K3.trans K4)
      walk_at "go"
      refine if_int (fun e => ?_) (fun e => ?_)
      · walk_at "go"
        exact k _ _ (by omega) B4 K5
      · walk_at "go"
        exact k _ _ (by omega) B4 K5
theorem ok_l_divisor (T : Txt K mg A) : FnOk P w K mg base CX0 1 A.l_divisor A.fd_l_divisor P_l_divisor spGcd := by
  refine T.F_l_divisor.ok sc_l_divisor (fun vs H Q E h => ?_) (fun cdv Ar outer s H vs Q E hr h => ?_)
  · obtain ⟨a, b, rfl, _⟩ := h
    rfl
  · obtain ⟨a, b, rfl, ha, hb, k⟩ := h
    refine ⟨_, (pss_cons (ps_g (ps_while PassesOwn.never (pt_cmpR op_ne (pv 1) pe_int (nomark _)) (pss_cons (ps_set (i := 2) sc_l_divisor.nd rfl (Or.inl rfl) (pe_op op_mod (pe_callTy call_int1 (by rfl) T.z_int (by decide +kernel) (pa_cons (pv 0) pa_nil)) (pv 1)))
      (pss_cons (ps_set (i := 0) sc_l_divisor.nd rfl (Or.inl rfl) (pv 1))
      (pss_one (ps_set (i := 1) sc_l_divisor.nd rfl (Or.inl rfl) (pv 2)))))))
      (pss_one (ps_ret (pv 0)))), ?_⟩
    refine ⟨⟨fun m σ' H' => Wd (∃ (x y : Int) (v : Option V), σ' = [some (.int x), some (.int y), v] ∧ 0 ≤ x ∧ 0 ≤ y ∧ y.toNat = m ∧ Int.gcd x y = Int.gcd a b ∧ H' = H), ⟨_, ⟨a, b, none, rfl, ha, hb, rfl, rfl, rfl⟩⟩, ?_⟩⟩
    rintro m σ' H' ⟨x, y, v, rfl, hx, hy, hm, hg, rfl⟩
    walk_at "go"
    refine if_intN (fun e => ?_) (fun e => ?_)
    · refine ⟨fun σ2 H2 => Wd (σ2 = [some (.int y), some (.int (x % y)), some (.int (x % y))] ∧ H2 = H'), ?_, ?_⟩
      · rintro σ2 H2 ⟨rfl, rfl⟩
        have h1 : 0 ≤ x % y := Int.emod_nonneg _ e
        have h2 : x % y < y := Int.emod_lt_of_pos _ (by omega)
        refine ⟨(x % y).toNat, by omega, ⟨y, x % y, _, rfl, hy, h1, rfl, ?_, rfl⟩⟩
        rw [← hg]
        exact gcd_emod hx hy
      · walk_at "go"
        exact ⟨rfl, rfl⟩
    · subst e
      walk_at "go"
      have e : ((Int.gcd a b : Nat) : Int) = x := by
        rw [← hg, Int.gcd_zero_right]
        omega
      rw [e] at k
      exact k
theorem ok_l_lowest (T : Txt K mg A) : FnOk P w K mg base CX0 2 A.l_lowest A.fd_l_lowest P_l_lowest spLowest := by
  refine T.F_l_lowest.ok sc_l_lowest (fun vs H Q E h => ?_) (fun cdv Ar outer s H vs Q E hr h => ?_)
  · obtain ⟨t, b, rfl, _⟩ := h
    rfl
  · obtain ⟨t, b, rfl, hb0, hb, k⟩ := h
    refine ⟨_, (pss_cons (ps_set (i := 2) sc_l_lowest.nd rfl (Or.inl rfl) (pe_call (ok_l_divisor T) (hr.mono (by decide)) (by rfl) T.g__law_divisor T.F_l_divisor.kp T.b_l_divisor .nil pass0 (pa_cons (pe_callB call_abs (by rfl) T.z_abs (by decide +kernel) (pa_cons (pv 0) pa_nil)) (pa_cons (pe_callB call_abs (by rfl) T.z_abs (by decide +kernel) (pa_cons (pv 1) pa_nil)) pa_nil))))
      (pss_g (Evl.pss_cut (ps_if (pt_cmpR op_lt (pv 1) pe_int (nomark _)) (pss_one (ps_set (i := 2) sc_l_lowest.nd rfl (Or.inl rfl) (pe_un un_neg (pv 2)))) pss_nil)
      (pss_one (ps_ret (pe_tup (pa_cons (pe_op op_fdivZ (pv 0) (pv 2)) (pa_cons (pe_op op_fdivZ (pv 1) (pv 2)) pa_nil)))))))), ?_⟩
    walk_at "go"
    refine ⟨⟨fun σ' H' => Wd (σ' = [some (.int t), some (.int b), some (.int (if b < 0 then -((Int.gcd t b : Nat) : Int) else ((Int.gcd t b : Nat) : Int)))] ∧ H' = H), ?_, ?_⟩⟩
    · have eg := gcd_abs t b
      walk_at "go"
      refine if_dec (fun e1 => ?_) (fun e1 => ?_)
      · walk_at "go"
        refine ⟨?_, rfl⟩
        rw [eg, if_pos e1]
        rfl
      · refine ⟨?_, rfl⟩
        rw [eg, if_neg e1]
        rfl
    · rintro σ' H' ⟨rfl, rfl⟩
      obtain ⟨h0, h1, h2, h3⟩ := low_num (t := t) hb0 rfl
      generalize (if b < 0 then -((Int.gcd t b : Nat) : Int) else ((Int.gcd t b : Nat) : Int)) = s at *
      have hz : ∀ i, CDivZ i s := fun i => cdivz h0 h1 hb
      refine ⟨_, rfl, _, rfl, _, _, rfl, rfl, hz _, _, rfl, _, rfl, _, _, rfl, rfl, hz _, by walk_at "fact", fun p hp => ?_⟩
      dsimp only
      rw [h2, h3]
      exact k p hp
theorem ok_l_number (T : Txt K mg A) : FnOk P w K mg base CX0 1 A.l_number A.fd_l_number P_l_number spNumber := by
  refine T.F_l_number.ok sc_l_number (fun vs H Q E h => ?_) (fun cdv Ar outer s H vs Q E hr h => ?_)
  · obtain ⟨n, rfl, _⟩ := h
    rfl
  · obtain ⟨n, rfl, k⟩ := h
    refine ⟨_, (pss_one (ps_ret (pe_and (pe_callB call_isi (by rfl) T.z_isinstance (by decide +kernel) (pa_cons (pv 0) (pa_cons (pe_bltn (v := .ty "int") (by rfl) T.z_int (by decide +kernel) rfl) pa_nil))) (pe_one (pe_not (pe_callB call_isi (by rfl) T.z_isinstance (by decide +kernel) (pa_cons (pv 0) (pa_cons (pe_bltn (v := .ty "bool") (by rfl) T.z_bool (by decide +kernel) rfl) pa_nil)))))))), ?_⟩
    refine ⟨_, rfl, _, _, _, _, _, rfl, .ty "int", .base (.int n), kit_ty (by decide +kernel), true, rfl, iteT ?_⟩
    exact ⟨_, rfl, _, _, _, _, _, rfl, .ty "bool", .base (.int n), kit_ty (b := "bool") (r := false) (by decide +kernel), false, rfl, k⟩
end

theorem Same.at_new {H H' : Hp} {D : Addr} {o : HO} (hD : H D = none) (s : Same H H') : Same H (upd H' D o) := fun b u e => by
  rw [upd_ne (ne_of_none e hD)]
  exact s b u e
/-- [.. for .. in a list], its parts keep what stands -/
theorem lc_same {K : PySem.W.Frag} {a : Addr} {xs : List V} {g : TG} {tt : TT} {te : TE} {vs : List Nat} {σ : L2.St} {H1 : Hp} {D : Addr} {Qd : Hp → Prop} (f : Nat → V) (hl : H1 a = some (.lst xs)) (hz : xs.length ≤ 1000) (hD : H1 D = none)
    (hs : ∀ i x H' (N : VK) (M : Hp → Prop), xs[i]? = some x → Same H1 H' → (∀ H4, Same H' H4 → N (f i) H4) → g x (wipe σ vs) H' fun σ2 H2 => wipe σ2 vs = wipe σ vs ∧ tt σ2 H2 fun b H3 => if b = true then te σ2 H3 N else M H3)
    (hd : ∀ H', Same H1 H' → H' D = some (.lst ((List.range xs.length).map f)) → Qd H') :
    ∃ W : Nat → Nat → Hp → Prop, (∃ m, W 0 m (upd H1 D (.lst []))) ∧ ∀ i m H, W i m H →
      ((Itl K a).stop i H ∧ Qd H) ∨ ((Itl K a).go i H ∧ ∃ Nx : Hp → Prop, (∀ H', Nx H' → ∃ m', m' < m ∧ W (i + 1) m' H') ∧ ∀ x H', (Itl K a).yld i H x H' → g x (wipe σ vs) H' fun σ2 H2 => wipe σ2 vs = wipe σ vs ∧ tt σ2 H2 fun b H3 =>
        if b = true then te σ2 H3 fun y H4 => ∃ acc, H4 D = some (.lst acc) ∧ acc.length < sizeLine ∧ Nx (upd H4 D (.lst (acc ++ [y]))) else Nx H3) := by
  refine lc_list (K := K) (a := a) (xs := xs) (fun i H' => Wd (Same H1 H' ∧ H' D = some (.lst ((List.range i).map f)))) ⟨Same.new hD, upd_same⟩ (fun i H' _ h => SqL.of (h.ok.1 _ _ hl)) ?_ (fun H' h => hd H' h.ok.1 h.ok.2)
  rintro i x H' hi ⟨s, hd'⟩
  refine hs i x H' _ _ hi s fun H4 s4 => ⟨_, s4 _ _ hd', ?_, Same.at_new hD (s.trans s4), ?_⟩
  · rw [List.length_map, List.length_range]
    have := (List.getElem?_eq_some_iff.mp hi).1
    exact Nat.lt_of_lt_of_le (Nat.lt_of_lt_of_le this hz) (by decide)
  · rw [upd_same, List.range_succ, List.map_append]
    rfl
theorem Same.none {H H' : Hp} {p : Addr} (s : Same H H') (h : H' p = none) : H p = none := by
  cases e : H p with
  | none => rfl
  | some o =>
    rw [s _ _ e] at h
    cases h

/-! ### ratios: halves, over -/
def Sz (n : Nat) (q : Rat) : Prop := q.num.natAbs < 2 ^ n ∧ q.den < 2 ^ n
theorem Sz.mono {a b : Nat} {q : Rat} (h : Sz a q) (hab : a ≤ b) : Sz b q := ⟨lt_pow h.1 hab, lt_pow h.2 hab⟩
theorem Sz.int {n : Nat} {i : Int} (h : i.natAbs < 2 ^ n) (hn : 0 < n) : Sz n (i : Rat) := ⟨h, by
  show 1 < 2 ^ n
  exact Nat.lt_of_lt_of_le (by decide) (pow_mono (a := 1) hn)⟩
theorem num_le {t b : Int} : (Rat.divInt t b).num.natAbs ≤ t.natAbs := by
  rw [Rat.num_divInt]
  by_cases hb : b = 0
  · subst hb
    simp
  · have h1 : (b.sign * t / ((b.gcd t : Nat) : Int)).natAbs ≤ (b.sign * t).natAbs := Int.natAbs_ediv_le_natAbs _ _
    rw [Int.natAbs_mul, Int.natAbs_sign_of_ne_zero hb, Nat.one_mul] at h1
    exact h1
theorem den_le {t b : Int} (hb : b ≠ 0) : (Rat.divInt t b).den ≤ b.natAbs := by
  rw [Rat.den_divInt, if_neg hb]
  exact Nat.div_le_self _ _
theorem Sz.div {n : Nat} {t b : Int} (ht : t.natAbs < 2 ^ n) (hb : b.natAbs < 2 ^ n) (h0 : b ≠ 0) : Sz n (Rat.divInt t b) := ⟨Nat.lt_of_le_of_lt num_le ht, Nat.lt_of_le_of_lt (den_le h0) hb⟩
theorem mulw {i j : Int} {a b : Nat} (hi : i.natAbs < 2 ^ a) (hj : j.natAbs < 2 ^ b) (h : a + b ≤ 900000) : CMulW i j :=
  wide_mul (a := a + 1) (b := b + 1) (lt_pow hi (by omega)) (lt_pow hj (by omega)) (by omega) (by omega) (by omega)
theorem mul_lt {i j : Int} {a b : Nat} (hi : i.natAbs < 2 ^ a) (hj : j.natAbs < 2 ^ b) : (i * j).natAbs < 2 ^ (a + b) := wide_lt hi hj
theorem quot_eq {q r : Rat} : Rat.divInt (q.num * (r.den : Int)) ((q.den : Int) * r.num) = q / r := by
  rw [Rat.div_def, Rat.inv_def, ← Rat.divInt_mul_divInt, Rat.num_divInt_den]
theorem same_make {H : Hp} {x dx C : Addr} {fs fs' : List (Str × V)} (hx : H x = none) (hd : H dx = none) : Same H (upd (upd (upd H dx (.own x)) x (.ins C dx fs)) x (.ins C dx fs')) := fun b o e => by
  rw [upd_ne (ne_of_none e hx), upd_ne (ne_of_none e hx), upd_ne (ne_of_none e hd)]
  exact e
theorem same_make1 {H : Hp} {x dx C : Addr} {fs : List (Str × V)} (hx : H x = none) (hd : H dx = none) : Same H (upd (upd H dx (.own x)) x (.ins C dx fs)) := fun b o e => by
  rw [upd_ne (ne_of_none e hx), upd_ne (ne_of_none e hd)]
  exact e
theorem mk_ratio {C CE x dx : Addr} {H : Hp} {t b : Int} {R : VK} {E : XK} (hx : H x = none) (hd : H dx = none) (hb : b.natAbs < 2 ^ 9000) (h0 : b = 0 → ∀ H', Same H H' → E (.ref CE) none H')
    (h1 : b ≠ 0 → ∀ H', Same H H' → IsR C H' (.ref x) (Rat.divInt t b) → R .non H') : spRatioInit C CE [.ref x, .int t, .int b] (upd (upd H dx (.own x)) x (.ins C dx [])) R E :=
  ⟨x, dx, t, b, rfl, upd_same, hb, fun e => h0 e _ (same_make1 hx hd), fun e => h1 e _ (same_make hx hd) ⟨x, dx, rfl, upd_same⟩⟩
def spHalves (C : Addr) : Sp := fun vs H Q _ => ∃ (v : V) (q : Rat), vs = [v] ∧ IsN C H v q ∧ ∀ p, H p = none → Q (.ref p) (upd H p (.tup [.int q.num, .int (q.den : Int)]))
def spOver (C CE : Addr) : Sp := fun vs H Q E => ∃ (v u : V) (q r : Rat) (a b : Nat), vs = [v, u] ∧ IsR C H v q ∧ IsN C H u r ∧ Sz a q ∧ Sz b r ∧ a + b ≤ 9000 ∧
  (r = 0 → ∀ H', Same H H' → E (.ref CE) none H') ∧ (r ≠ 0 → ∀ v' H', Same H H' → IsR C H' v' (q / r) → Q v' H')
section
variable {P : Program} {w : World} {K : PySem.W.Frag} {mg : Str → Option Value} {base : Heap} {A : Ad}
theorem ty_ratio (T : Txt K mg A) {H : Hp} {p dx : Addr} {fs : List (Str × V)} (h : H p = some (.ins A.Ratio dx fs)) : TyX K H (.ref p) (.ref A.Ratio) := .base (.ins h T.cl_Ratio T.tc_Ratio T.tn_Ratio T.tk_Ratio T.tm_Ratio)
theorem ok_f_halves (T : Txt K mg A) : FnOk P w K mg base CX0 1 A.f_halves A.fd_f_halves P_f_halves (spHalves A.Ratio) := by
  refine T.F_f_halves.ok sc_f_halves (fun vs H Q E h => ?_) (fun cdv Ar outer s H vs Q E hr h => ?_)
  · obtain ⟨v, q, rfl, _⟩ := h
    rfl
  · obtain ⟨v, q, rfl, hN, k⟩ := h
    refine ⟨_, (pss_cons (ps_if (pt_val (pe_callB call_isi (by rfl) T.z_isinstance (by decide +kernel) (pa_cons (pv 0) (pa_cons (pe_bltn (v := .ty "int") (by rfl) T.z_int (by decide +kernel) rfl) pa_nil)))) (pss_one (ps_ret (pe_tup (pa_cons (pv 0) (pa_cons pe_int pa_nil))))) pss_nil)
      (pss_one (ps_ret (pe_tup (pa_cons (pe_fld (pv 0) rfl) (pa_cons (pe_fld (pv 0) rfl) pa_nil)))))), ?_⟩
    rcases hN with ⟨p, dx, rfl, hp⟩ | ⟨n, rfl, rfl⟩
    · have n1 := T.n_Ratio_top
      have n2 := T.n_Ratio_bottom
      have n3 := T.cl_Ratio
      refine ⟨_, rfl, _, _, _, _, _, rfl, .ty "int", ty_ratio T hp, T.ki_Ratio, _, rfl, iteF ?_⟩
      exact ⟨_, rfl, p, _, dx, _, _, rfl, hp, n3, n1, rf_top _ _, _, rfl, p, _, dx, _, _, rfl, hp, n3, n2, rf_bottom _ _, by walk_at "fact", k⟩
    · refine ⟨_, rfl, _, _, _, _, _, rfl, .ty "int", .base (.int n), kit_ty (by decide +kernel), _, rfl, iteT ?_⟩
      exact ⟨_, rfl, by walk_at "fact", k⟩
theorem ok_m_Ratio_over (T : Txt K mg A) : FnOk P w K mg base (L2.CX P w) 6 A.m_Ratio_over A.fd_m_Ratio_over P_m_Ratio_over (spOver A.Ratio A.NoRatio) := by
  refine T.F_m_Ratio_over.okX sc_m_Ratio_over (fun vs H Q E h => ?_) (fun cdv Ar outer s H vs Q E hr h => ?_)
  · obtain ⟨v, u, q, r, a, b, rfl, _⟩ := h
    rfl
  · obtain ⟨v, u, q, r, a, b, rfl, ⟨p, dx, rfl, hp⟩, hu, sq, sr, hab, kE, kQ⟩ := h
    have n1 := T.n_Ratio_top
    have n2 := T.n_Ratio_bottom
    have n3 := T.cl_Ratio
    refine ⟨_, (pss_cons (ps_asg (pe_call (ok_f_halves T) (hr.mono (by decide)) (by rfl) T.g_halves T.F_f_halves.kp T.b_f_halves .nil pass0 (pa_cons (pv 1) pa_nil)) (pg_tup (n := 2) rfl (pgs_cons (pg_name (i := 2) sc_m_Ratio_over.nd rfl (Or.inl rfl)) (pgs_cons (pg_name (i := 3) sc_m_Ratio_over.nd rfl (Or.inl rfl)) pgs_nil))))
      (pss_one (ps_ret (pe_make T.mk_Ratio (ok_m_Ratio_init T) (hr.mono (by decide)) (by rfl) T.g_Ratio T.b_m_Ratio_init .nil (E := E) (passes_call (takes_of rfl rfl rfl rfl) (fun _ _ _ _ h => h)) (pa_cons (pe_op op_mulW (pe_fld (pv 0) rfl) (pv 3)) (pa_cons (pe_op op_mulW (pe_fld (pv 0) rfl) (pv 2)) pa_nil)))))), ?_⟩
    refine ⟨_, rfl, u, r, rfl, hu, fun t ht => ?_⟩
    have npt : p ≠ t := ne_of_none hp ht
    have hp' : ∀ o, upd H t o p = some (.ins A.Ratio dx (rf q.num (q.den : Int))) := fun o => by
      rw [upd_ne npt]
      exact hp
    refine ⟨t, _, rfl, SqT.of upd_same, rfl, _, _, rfl, _, _, rfl, rfl, ?_⟩
    refine ⟨_, rfl, p, _, dx, _, _, rfl, hp' _, n3, n1, rf_top _ _, _, rfl, _, _, rfl, rfl, mulw sq.1 sr.2 (by omega), _, rfl, p, _, dx, _, _, rfl, hp' _, n3, n2, rf_bottom _ _, _, rfl, _, _, rfl, rfl, mulw sq.2 sr.1 (by omega), ?_⟩
    have hd : (q.den : Int) ≠ 0 := by
      have := q.den_nz
      omega
    intro x dx' hx hd' _
    refine mk_ratio hx hd' (lt_pow (mul_lt sq.2 sr.1) hab) (fun e H' s => ?_) (fun e H' s i => ⟨rfl, ?_⟩)
    · have e2 : r.num = 0 := (Int.mul_eq_zero.mp e).resolve_left hd
      exact kE (Rat.num_eq_zero.mp e2) H' ((Same.new ht).trans s)
    · have e2 : r ≠ 0 := fun z => by
        rw [z] at e
        exact e (Int.mul_zero _)
      rw [quot_eq] at i
      exact kQ e2 _ H' ((Same.new ht).trans s) i
end

/-! ### ratios: less, at_most, same, floor, nearest -/
def PairAt (H : Hp) (p : Addr) (q : Rat) : Prop := H p = some (.tup [.int q.num, .int (q.den : Int)])
theorem eqv_pair (q r : Rat) : PyData.eqv (.tuple [.int q.num, .int (q.den : Int)]) (.tuple [.int r.num, .int (r.den : Int)]) = decide (q = r) := by
  have e : (decide (q = r)) = ((q.num == r.num) && ((q.den : Int) == (r.den : Int))) := by
    by_cases h : q = r
    · subst h
      simp
    · rw [decide_eq_false h]
      symm
      rw [Bool.and_eq_false_iff]
      by_cases h1 : q.num = r.num
      · right
        rw [beq_eq_false_iff_ne]
        intro h2
        exact h (Rat.ext h1 (by omega))
      · left
        rw [beq_eq_false_iff_ne]
        exact h1
  simp [PyData.eqv, PyData.eqvAll, e]
theorem dp_pair {K : PySem.W.Frag} {H : Hp} {p : Addr} {q : Rat} (h : PairAt H p q) : Dp K H (.ref p) (.tuple [.int q.num, .int (q.den : Int)]) := .tup (SqT.of h) (.cons (.int _) (.cons (.int _) .nil))
theorem eqD_pair {K : PySem.W.Frag} {H : Hp} {p p' : Addr} {q r : Rat} {Q : VK} (hp : PairAt H p q) (hq : PairAt H p' r) (h : Q (.bl (decide (q = r))) H) : rEqD K (.ref p) (.ref p') H Q :=
  ⟨_, _, dp_pair hp, dp_pair hq, rfl, rfl, by rw [eqv_pair]; exact h⟩
theorem neD_pair {K : PySem.W.Frag} {H : Hp} {p p' : Addr} {q r : Rat} {Q : VK} (hp : PairAt H p q) (hq : PairAt H p' r) (h : Q (.bl (!decide (q = r))) H) : rNeD K (.ref p) (.ref p') H Q :=
  ⟨_, _, dp_pair hp, dp_pair hq, rfl, rfl, by rw [eqv_pair]; exact h⟩

def spCmp (C : Addr) (f : Rat → Rat → Bool) : Sp := fun vs H Q _ => ∃ (v u : V) (q r : Rat) (a b : Nat), vs = [v, u] ∧ IsR C H v q ∧ IsN C H u r ∧ Sz a q ∧ Sz b r ∧ a + b ≤ 9000 ∧ ∀ H', Same H H' → Q (.bl (f q r)) H'
def spFl (C : Addr) (f : Rat → Int) : Sp := fun vs H Q _ => ∃ (v : V) (q : Rat) (a : Nat), vs = [v] ∧ IsR C H v q ∧ Sz a q ∧ a ≤ 8000 ∧ Q (.int (f q)) H
def rfloor (q : Rat) : Int := q.num / (q.den : Int)
def rnear (q : Rat) : Int := (2 * q.num + (q.den : Int)) / (2 * (q.den : Int))
theorem and_to {A : Prop} {Q : VK} {H : Hp} {b b2 : Bool} (h : Q (.bl (b && b2)) H) (hA : Q (.bl b2) H → A) : ∃ c, V.bl b = .bl c ∧ if c = true then A else Q (.bl false) H := by
  cases b with
  | true => exact ⟨true, rfl, iteT (hA h)⟩
  | false => exact ⟨false, rfl, iteF h⟩
section
variable {P : Program} {w : World} {K : PySem.W.Frag} {mg : Str → Option Value} {base : Heap} {A : Ad}
theorem ok_m_Ratio_nearest (T : Txt K mg A) : FnOk P w K mg base CX0 1 A.m_Ratio_nearest A.fd_m_Ratio_nearest P_m_Ratio_nearest (spFl A.Ratio rnear) := by
  refine T.F_m_Ratio_nearest.ok sc_m_Ratio_nearest (fun vs H Q E h => ?_) (fun cdv Ar outer s H vs Q E hr h => ?_)
  · obtain ⟨v, q, a, rfl, _⟩ := h
    rfl
  · obtain ⟨v, q, a, rfl, ⟨p, dx, rfl, hp⟩, sq, ha, kQ⟩ := h
    refine ⟨_, (pss_one (ps_ret (pe_op op_fdivW (pe_op op_add (pe_op op_mul pe_int (pe_fld (pv 0) rfl)) (pe_fld (pv 0) rfl)) (pe_op op_mul pe_int (pe_fld (pv 0) rfl))))), ?_⟩
    have hd := q.den_pos
    have h2 : (2 * (q.den : Int)).natAbs < 2 ^ 9000 := by
      have h3 : q.den < 2 ^ 8999 := lt_pow sq.2 (by omega)
      have h4 : (2 : Nat) ^ 9000 = 2 * 2 ^ 8999 := by rw [Nat.pow_succ, Nat.mul_comm]
      rw [h4]
      omega
    exact ⟨_, rfl, p, _, dx, _, _, rfl, hp, T.cl_Ratio, T.n_Ratio_top, rf_top _ _, _, _, rfl, rfl, .inl ⟨by decide, by decide⟩, _, rfl, p, _, dx, _, _, rfl, hp, T.cl_Ratio, T.n_Ratio_bottom, rf_bottom _ _, _, _, rfl, rfl,
      _, rfl, p, _, dx, _, _, rfl, hp, T.cl_Ratio, T.n_Ratio_bottom, rf_bottom _ _, _, _, rfl, rfl, .inl ⟨by decide, by decide⟩, _, _, rfl, rfl, wide_div (by omega) h2 (by decide) (Nat.le_refl 9000), kQ⟩
end

/-! ### ratios: the operators -/
theorem add_eq {q r : Rat} : Rat.divInt (q.num * (r.den : Int) + r.num * (q.den : Int)) ((q.den : Int) * (r.den : Int)) = q + r := by
  have h1 : (q.den : Int) ≠ 0 := by have := q.den_nz; omega
  have h2 : (r.den : Int) ≠ 0 := by have := r.den_nz; omega
  rw [← Rat.divInt_add_divInt _ _ h1 h2, Rat.num_divInt_den, Rat.num_divInt_den]
theorem sub_eq {q r : Rat} : Rat.divInt (q.num * (r.den : Int) - r.num * (q.den : Int)) ((q.den : Int) * (r.den : Int)) = q - r := by
  have h1 : (q.den : Int) ≠ 0 := by have := q.den_nz; omega
  have h2 : (r.den : Int) ≠ 0 := by have := r.den_nz; omega
  rw [← Rat.divInt_sub_divInt _ _ h1 h2, Rat.num_divInt_den, Rat.num_divInt_den]
theorem mul_eq {q r : Rat} : Rat.divInt (q.num * r.num) ((q.den : Int) * (r.den : Int)) = q * r := by
  rw [← Rat.divInt_mul_divInt, Rat.num_divInt_den, Rat.num_divInt_den]
theorem neg_eq {q : Rat} : Rat.divInt (-q.num) (q.den : Int) = -q := by
  rw [← Rat.neg_divInt, Rat.num_divInt_den]
def rabs (q : Rat) : Rat := Rat.divInt (if q.num < 0 then -q.num else q.num) (q.den : Int)
theorem natAbs_add_lt {a b n : Nat} {i j : Int} (hi : i.natAbs < 2 ^ a) (hj : j.natAbs < 2 ^ b) (ha : a ≤ n) (hb : b ≤ n) : (i + j).natAbs < 2 ^ (n + 1) := by
  have h1 := lt_pow hi ha
  have h2 := lt_pow hj hb
  rw [Nat.pow_succ]
  omega
theorem Sz.add {a b : Nat} {q r : Rat} (hq : Sz a q) (hr : Sz b r) : Sz (a + b + 1) (q + r) := by
  rw [← add_eq]
  have h1 : (q.den : Int) ≠ 0 := by have := q.den_nz; omega
  have h2 : (r.den : Int) ≠ 0 := by have := r.den_nz; omega
  exact Sz.div (natAbs_add_lt (mul_lt hq.1 hr.2) (mul_lt hr.1 hq.2) (Nat.le_refl _) (by omega)) (lt_pow (mul_lt hq.2 hr.2) (by omega)) (Int.mul_ne_zero h1 h2)
theorem Sz.neg {a : Nat} {q : Rat} (hq : Sz a q) : Sz a (-q) := ⟨by show (-q.num).natAbs < _; rw [Int.natAbs_neg]; exact hq.1, hq.2⟩
theorem Sz.sub {a b : Nat} {q r : Rat} (hq : Sz a q) (hr : Sz b r) : Sz (a + b + 1) (q - r) := by
  rw [Rat.sub_eq_add_neg]
  exact hq.add hr.neg
theorem Sz.mul {a b : Nat} {q r : Rat} (hq : Sz a q) (hr : Sz b r) : Sz (a + b) (q * r) := by
  rw [← mul_eq]
  have h1 : (q.den : Int) ≠ 0 := by have := q.den_nz; omega
  have h2 : (r.den : Int) ≠ 0 := by have := r.den_nz; omega
  exact Sz.div (mul_lt hq.1 hr.1) (mul_lt hq.2 hr.2) (Int.mul_ne_zero h1 h2)
def spBin (C : Addr) (f : Rat → Rat → Rat) : Sp := fun vs H Q _ => ∃ (v u : V) (q r : Rat) (a b : Nat), vs = [v, u] ∧ IsR C H v q ∧ IsN C H u r ∧ Sz a q ∧ Sz b r ∧ a + b ≤ 8990 ∧ ∀ v' H', Same H H' → IsR C H' v' (f q r) → Q v' H'
def spUn (C : Addr) (f : Rat → Rat) : Sp := fun vs H Q _ => ∃ (v : V) (q : Rat) (a : Nat), vs = [v] ∧ IsR C H v q ∧ Sz a q ∧ a ≤ 8990 ∧ ∀ v' H', Same H H' → IsR C H' v' (f q) → Q v' H'
theorem IsN.same {C : Addr} {H H' : Hp} {v : V} {q : Rat} (h : IsN C H v q) (s : Same H H') : IsN C H' v q := h.elim (fun z => .inl (z.same s)) .inr
/-- the reading of an operator with a ratio on the left -/
theorem r_own {C : Addr} {f : Rat → Rat → Rat} {H : Hp} {v u : V} {q r : Rat} {a b : Nat} {Q : VK} {E : XK} (hv : IsR C H v q) (hu : IsN C H u r) (sq : Sz a q) (sr : Sz b r) (hab : a + b ≤ 8990)
    (h : ∀ v' H', Same H H' → IsR C H' v' (f q r) → Q v' H') : rOwn C (spBin C f) E v u H Q := by
  obtain ⟨p, dx, rfl, hp⟩ := id hv
  refine ⟨p, dx, _, rfl, hp, ?_, _, _, q, r, a, b, rfl, hv, hu, sq, sr, hab, h⟩
  rcases hu with ⟨p2, dx2, e, h2⟩ | ⟨n, e, _⟩
  · exact .inr ⟨p2, dx2, _, e, h2⟩
  · exact .inl ⟨n, e⟩
theorem r_rown {C : Addr} {f : Rat → Rat → Rat} {H : Hp} {u : V} {n : Int} {q : Rat} {a b : Nat} {Q : VK} {E : XK} (hu : IsR C H u q) (sq : Sz a q) (sr : Sz b (n : Rat)) (hab : a + b ≤ 8990)
    (h : ∀ v' H', Same H H' → IsR C H' v' (f q (n : Rat)) → Q v' H') : rROwn C (spBin C f) E (.int n) u H Q := by
  obtain ⟨p, dx, rfl, hp⟩ := id hu
  exact ⟨n, p, dx, _, rfl, rfl, hp, _, _, q, (n : Rat), a, b, rfl, hu, .inr ⟨n, rfl, rfl⟩, sq, sr, hab, h⟩
theorem r_un {C : Addr} {f : Rat → Rat} {H : Hp} {v : V} {q : Rat} {a : Nat} {Q : VK} {E : XK} (hv : IsR C H v q) (sq : Sz a q) (ha : a ≤ 8990) (h : ∀ v' H', Same H H' → IsR C H' v' (f q) → Q v' H') :
    Wd (∃ a dx fs, v = .ref a ∧ H a = some (.ins C dx fs) ∧ spUn C f [v] H Q E) := by
  obtain ⟨p, dx, rfl, hp⟩ := id hv
  exact ⟨p, dx, _, rfl, hp, _, q, a, rfl, hv, sq, ha, h⟩
theorem r_abs {C : Addr} {f : Rat → Rat} {H : Hp} {v : V} {q : Rat} {a : Nat} {Q : VK} {E : XK} (hv : IsR C H v q) (sq : Sz a q) (ha : a ≤ 8990) (h : ∀ v' H', Same H H' → IsR C H' v' (f q) → Q v' H') :
    Wd (∃ a dx fs, [v] = [.ref a] ∧ H a = some (.ins C dx fs) ∧ spUn C f [.ref a] H Q E) := by
  obtain ⟨p, dx, rfl, hp⟩ := id hv
  exact ⟨p, dx, _, rfl, hp, _, q, a, rfl, hv, sq, ha, h⟩
section
variable {P : Program} {w : World} {K : PySem.W.Frag} {mg : Str → Option Value} {base : Heap} {A : Ad}
theorem oo_add (T : Txt K mg A) : OwnOp K A.Ratio A.m_Ratio_add A.m_Ratio_radd "add" := ⟨T.sf_Ratio, T.m_Ratio___add__.at_, T.m_Ratio___add__.fn, T.m_Ratio___radd__.at_, T.m_Ratio___radd__.fn, ⟨_, T.o1a_Ratio⟩, ⟨_, T.o2a_Ratio⟩, T.si_Ratio, T.sj_Ratio⟩
theorem oo_sub (T : Txt K mg A) : OwnOp K A.Ratio A.m_Ratio_sub A.m_Ratio_rsub "sub" := ⟨T.sf_Ratio, T.m_Ratio___sub__.at_, T.m_Ratio___sub__.fn, T.m_Ratio___rsub__.at_, T.m_Ratio___rsub__.fn, ⟨_, T.o1s_Ratio⟩, ⟨_, T.o2s_Ratio⟩, T.si_Ratio, T.sj_Ratio⟩
theorem oo_mul (T : Txt K mg A) : OwnOp K A.Ratio A.m_Ratio_mul A.m_Ratio_rmul "mul" := ⟨T.sf_Ratio, T.m_Ratio___mul__.at_, T.m_Ratio___mul__.fn, T.m_Ratio___rmul__.at_, T.m_Ratio___rmul__.fn, ⟨_, T.o1m_Ratio⟩, ⟨_, T.o2m_Ratio⟩, T.si_Ratio, T.sj_Ratio⟩
theorem ok_m_Ratio_add (T : Txt K mg A) : FnOk P w K mg base CX0 6 A.m_Ratio_add A.fd_m_Ratio_add P_m_Ratio_add (spBin A.Ratio (· + ·)) := by
  refine T.F_m_Ratio_add.ok sc_m_Ratio_add (fun vs H Q E h => ?_) (fun cdv Ar outer s H vs Q E hr h => ?_)
  · obtain ⟨v, u, q, r, a, b, rfl, _⟩ := h
    rfl
  · obtain ⟨v, u, q, r, a, b, rfl, ⟨p, dx, rfl, hp⟩, hu, sq, sr, hab, kQ⟩ := h
    refine ⟨_, (pss_cons (ps_asg (pe_call (ok_f_halves T) (hr.mono (by decide)) (by rfl) T.g_halves T.F_f_halves.kp T.b_f_halves .nil pass0 (pa_cons (pv 1) pa_nil)) (pg_tup (n := 2) rfl (pgs_cons (pg_name (i := 2) sc_m_Ratio_add.nd rfl (Or.inl rfl)) (pgs_cons (pg_name (i := 3) sc_m_Ratio_add.nd rfl (Or.inl rfl)) pgs_nil))))
      (pss_one (ps_ret (pe_make T.mk_Ratio (ok_m_Ratio_init T) (hr.mono (by decide)) (by rfl) T.g_Ratio T.b_m_Ratio_init .nil passL (pa_cons (pe_op op_add (pe_op op_mulW (pe_fld (pv 0) rfl) (pv 3)) (pe_op op_mulW (pv 2) (pe_fld (pv 0) rfl))) (pa_cons (pe_op op_mulW (pe_fld (pv 0) rfl) (pv 3)) pa_nil)))))), ?_⟩
    refine ⟨_, rfl, u, r, rfl, hu, fun t ht => ?_⟩
    have hp' := Same.new (o := .tup [.int r.num, .int (r.den : Int)]) ht _ _ hp
    refine ⟨t, _, rfl, SqT.of upd_same, rfl, _, _, rfl, _, _, rfl, rfl, ?_⟩
    refine ⟨_, rfl, p, _, dx, _, _, rfl, hp', T.cl_Ratio, T.n_Ratio_top, rf_top _ _, _, rfl, _, _, rfl, rfl, mulw sq.1 sr.2 (by omega), _, rfl, _, rfl, p, _, dx, _, _, rfl, hp', T.cl_Ratio, T.n_Ratio_bottom, rf_bottom _ _, _, _, rfl, rfl, mulw sr.1 sq.2 (by omega), _, _, rfl, rfl, ?_⟩
    refine ⟨_, rfl, p, _, dx, _, _, rfl, hp', T.cl_Ratio, T.n_Ratio_bottom, rf_bottom _ _, _, rfl, _, _, rfl, rfl, mulw sq.2 sr.2 (by omega), fun x dx' hx hd' _ => ?_⟩
    have h1 : (q.den : Int) ≠ 0 := by have := q.den_nz; omega
    have h2 : (r.den : Int) ≠ 0 := by have := r.den_nz; omega
    refine mk_ratio hx hd' (lt_pow (mul_lt sq.2 sr.2) (by omega)) (fun e => absurd e (Int.mul_ne_zero h1 h2)) (fun _ H' s i => ⟨rfl, ?_⟩)
    rw [add_eq] at i
    exact kQ _ H' ((Same.new ht).trans s) i
theorem ok_m_Ratio_sub (T : Txt K mg A) : FnOk P w K mg base CX0 6 A.m_Ratio_sub A.fd_m_Ratio_sub P_m_Ratio_sub (spBin A.Ratio (· - ·)) := by
  refine T.F_m_Ratio_sub.ok sc_m_Ratio_sub (fun vs H Q E h => ?_) (fun cdv Ar outer s H vs Q E hr h => ?_)
  · obtain ⟨v, u, q, r, a, b, rfl, _⟩ := h
    rfl
  · obtain ⟨v, u, q, r, a, b, rfl, ⟨p, dx, rfl, hp⟩, hu, sq, sr, hab, kQ⟩ := h
    refine ⟨_, (pss_cons (ps_asg (pe_call (ok_f_halves T) (hr.mono (by decide)) (by rfl) T.g_halves T.F_f_halves.kp T.b_f_halves .nil pass0 (pa_cons (pv 1) pa_nil)) (pg_tup (n := 2) rfl (pgs_cons (pg_name (i := 2) sc_m_Ratio_sub.nd rfl (Or.inl rfl)) (pgs_cons (pg_name (i := 3) sc_m_Ratio_sub.nd rfl (Or.inl rfl)) pgs_nil))))
      (pss_one (ps_ret (pe_make T.mk_Ratio (ok_m_Ratio_init T) (hr.mono (by decide)) (by rfl) T.g_Ratio T.b_m_Ratio_init .nil passL (pa_cons (pe_op op_sub (pe_op op_mulW (pe_fld (pv 0) rfl) (pv 3)) (pe_op op_mulW (pv 2) (pe_fld (pv 0) rfl))) (pa_cons (pe_op op_mulW (pe_fld (pv 0) rfl) (pv 3)) pa_nil)))))), ?_⟩
    refine ⟨_, rfl, u, r, rfl, hu, fun t ht => ?_⟩
    have hp' := Same.new (o := .tup [.int r.num, .int (r.den : Int)]) ht _ _ hp
    refine ⟨t, _, rfl, SqT.of upd_same, rfl, _, _, rfl, _, _, rfl, rfl, ?_⟩
    refine ⟨_, rfl, p, _, dx, _, _, rfl, hp', T.cl_Ratio, T.n_Ratio_top, rf_top _ _, _, rfl, _, _, rfl, rfl, mulw sq.1 sr.2 (by omega), _, rfl, _, rfl, p, _, dx, _, _, rfl, hp', T.cl_Ratio, T.n_Ratio_bottom, rf_bottom _ _, _, _, rfl, rfl, mulw sr.1 sq.2 (by omega), _, _, rfl, rfl, ?_⟩
    refine ⟨_, rfl, p, _, dx, _, _, rfl, hp', T.cl_Ratio, T.n_Ratio_bottom, rf_bottom _ _, _, rfl, _, _, rfl, rfl, mulw sq.2 sr.2 (by omega), fun x dx' hx hd' _ => ?_⟩
    have h1 : (q.den : Int) ≠ 0 := by have := q.den_nz; omega
    have h2 : (r.den : Int) ≠ 0 := by have := r.den_nz; omega
    refine mk_ratio hx hd' (lt_pow (mul_lt sq.2 sr.2) (by omega)) (fun e => absurd e (Int.mul_ne_zero h1 h2)) (fun _ H' s i => ⟨rfl, ?_⟩)
    rw [sub_eq] at i
    exact kQ _ H' ((Same.new ht).trans s) i
theorem ok_m_Ratio_mul (T : Txt K mg A) : FnOk P w K mg base CX0 6 A.m_Ratio_mul A.fd_m_Ratio_mul P_m_Ratio_mul (spBin A.Ratio (· * ·)) := by
  refine T.F_m_Ratio_mul.ok sc_m_Ratio_mul (fun vs H Q E h => ?_) (fun cdv Ar outer s H vs Q E hr h => ?_)
  · obtain ⟨v, u, q, r, a, b, rfl, _⟩ := h
    rfl
  · obtain ⟨v, u, q, r, a, b, rfl, ⟨p, dx, rfl, hp⟩, hu, sq, sr, hab, kQ⟩ := h
    refine ⟨_, (pss_cons (ps_asg (pe_call (ok_f_halves T) (hr.mono (by decide)) (by rfl) T.g_halves T.F_f_halves.kp T.b_f_halves .nil pass0 (pa_cons (pv 1) pa_nil)) (pg_tup (n := 2) rfl (pgs_cons (pg_name (i := 2) sc_m_Ratio_mul.nd rfl (Or.inl rfl)) (pgs_cons (pg_name (i := 3) sc_m_Ratio_mul.nd rfl (Or.inl rfl)) pgs_nil))))
      (pss_one (ps_ret (pe_make T.mk_Ratio (ok_m_Ratio_init T) (hr.mono (by decide)) (by rfl) T.g_Ratio T.b_m_Ratio_init .nil passL (pa_cons (pe_op op_mulW (pe_fld (pv 0) rfl) (pv 2)) (pa_cons (pe_op op_mulW (pe_fld (pv 0) rfl) (pv 3)) pa_nil)))))), ?_⟩
    refine ⟨_, rfl, u, r, rfl, hu, fun t ht => ?_⟩
    have hp' := Same.new (o := .tup [.int r.num, .int (r.den : Int)]) ht _ _ hp
    refine ⟨t, _, rfl, SqT.of upd_same, rfl, _, _, rfl, _, _, rfl, rfl, ?_⟩
    refine ⟨_, rfl, p, _, dx, _, _, rfl, hp', T.cl_Ratio, T.n_Ratio_top, rf_top _ _, _, rfl, _, _, rfl, rfl, mulw sq.1 sr.1 (by omega), ?_⟩
    refine ⟨_, rfl, p, _, dx, _, _, rfl, hp', T.cl_Ratio, T.n_Ratio_bottom, rf_bottom _ _, _, rfl, _, _, rfl, rfl, mulw sq.2 sr.2 (by omega), fun x dx' hx hd' _ => ?_⟩
    have h1 : (q.den : Int) ≠ 0 := by have := q.den_nz; omega
    have h2 : (r.den : Int) ≠ 0 := by have := r.den_nz; omega
    refine mk_ratio hx hd' (lt_pow (mul_lt sq.2 sr.2) (by omega)) (fun e => absurd e (Int.mul_ne_zero h1 h2)) (fun _ H' s i => ⟨rfl, ?_⟩)
    rw [mul_eq] at i
    exact kQ _ H' ((Same.new ht).trans s) i
theorem ok_m_Ratio_neg (T : Txt K mg A) : FnOk P w K mg base CX0 6 A.m_Ratio_neg A.fd_m_Ratio_neg P_m_Ratio_neg (spUn A.Ratio (- ·)) := by
  refine T.F_m_Ratio_neg.ok sc_m_Ratio_neg (fun vs H Q E h => ?_) (fun cdv Ar outer s H vs Q E hr h => ?_)
  · obtain ⟨v, q, a, rfl, _⟩ := h
    rfl
  · obtain ⟨v, q, a, rfl, ⟨p, dx, rfl, hp⟩, sq, ha, kQ⟩ := h
    refine ⟨_, (pss_one (ps_ret (pe_make T.mk_Ratio (ok_m_Ratio_init T) (hr.mono (by decide)) (by rfl) T.g_Ratio T.b_m_Ratio_init .nil passL (pa_cons (pe_un un_neg (pe_fld (pv 0) rfl)) (pa_cons (pe_fld (pv 0) rfl) pa_nil))))), ?_⟩
    refine ⟨_, rfl, p, _, dx, _, _, rfl, hp, T.cl_Ratio, T.n_Ratio_top, rf_top _ _, _, rfl, _, rfl, p, _, dx, _, _, rfl, hp, T.cl_Ratio, T.n_Ratio_bottom, rf_bottom _ _, fun x dx' hx hd' _ => ?_⟩
    have h1 : (q.den : Int) ≠ 0 := by have := q.den_nz; omega
    refine mk_ratio hx hd' (lt_pow (a := a) sq.2 (by omega)) (fun e => absurd e h1) (fun _ H' s i => ⟨rfl, ?_⟩)
    rw [neg_eq] at i
    exact kQ _ H' s i
theorem ok_m_Ratio_abs (T : Txt K mg A) : FnOk P w K mg base CX0 6 A.m_Ratio_abs A.fd_m_Ratio_abs P_m_Ratio_abs (spUn A.Ratio rabs) := by
  refine T.F_m_Ratio_abs.ok sc_m_Ratio_abs (fun vs H Q E h => ?_) (fun cdv Ar outer s H vs Q E hr h => ?_)
  · obtain ⟨v, q, a, rfl, _⟩ := h
    rfl
  · obtain ⟨v, q, a, rfl, ⟨p, dx, rfl, hp⟩, sq, ha, kQ⟩ := h
    refine ⟨_, (pss_one (ps_ret (pe_make T.mk_Ratio (ok_m_Ratio_init T) (hr.mono (by decide)) (by rfl) T.g_Ratio T.b_m_Ratio_init .nil passL (pa_cons (pe_callB call_abs (by rfl) T.z_abs (by decide +kernel) (pa_cons (pe_fld (pv 0) rfl) pa_nil)) (pa_cons (pe_fld (pv 0) rfl) pa_nil))))), ?_⟩
    refine ⟨_, rfl, p, _, dx, _, _, rfl, hp, T.cl_Ratio, T.n_Ratio_top, rf_top _ _, _, rfl, _, rfl, p, _, dx, _, _, rfl, hp, T.cl_Ratio, T.n_Ratio_bottom, rf_bottom _ _, fun x dx' hx hd' _ => ?_⟩
    have h1 : (q.den : Int) ≠ 0 := by have := q.den_nz; omega
    exact mk_ratio hx hd' (lt_pow (a := a) sq.2 (by omega)) (fun e => absurd e h1) (fun _ H' s i => ⟨rfl, kQ _ H' s i⟩)
theorem ok_m_Ratio_radd (T : Txt K mg A) : FnOk P w K mg base CX0 8 A.m_Ratio_radd A.fd_m_Ratio_radd P_m_Ratio_radd (spBin A.Ratio fun q r => q + r) := by
  refine T.F_m_Ratio_radd.ok sc_m_Ratio_radd (fun vs H Q E h => ?_) (fun cdv Ar outer s H vs Q E hr h => ?_)
  · obtain ⟨v, u, q, r, a, b, rfl, _⟩ := h
    rfl
  · obtain ⟨v, u, q, r, a, b, rfl, hv, hu, sq, sr, hab, kQ⟩ := h
    refine ⟨_, (pss_one (ps_ret (pe_op (op_own (E := E0) rfl (oo_add T) (ok_m_Ratio_add T) (hr.mono (by decide)) T.b_m_Ratio_add pass0) (pv 0) (pv 1)))), ?_⟩
    exact ⟨_, rfl, _, rfl, r_own hv hu sq sr hab kQ⟩
theorem ok_m_Ratio_rmul (T : Txt K mg A) : FnOk P w K mg base CX0 8 A.m_Ratio_rmul A.fd_m_Ratio_rmul P_m_Ratio_rmul (spBin A.Ratio fun q r => q * r) := by
  refine T.F_m_Ratio_rmul.ok sc_m_Ratio_rmul (fun vs H Q E h => ?_) (fun cdv Ar outer s H vs Q E hr h => ?_)
  · obtain ⟨v, u, q, r, a, b, rfl, _⟩ := h
    rfl
  · obtain ⟨v, u, q, r, a, b, rfl, hv, hu, sq, sr, hab, kQ⟩ := h
    refine ⟨_, (pss_one (ps_ret (pe_op (op_own (E := E0) rfl (oo_mul T) (ok_m_Ratio_mul T) (hr.mono (by decide)) T.b_m_Ratio_mul pass0) (pv 0) (pv 1)))), ?_⟩
    exact ⟨_, rfl, _, rfl, r_own hv hu sq sr hab kQ⟩
theorem ok_m_Ratio_rsub (T : Txt K mg A) : FnOk P w K mg base CX0 10 A.m_Ratio_rsub A.fd_m_Ratio_rsub P_m_Ratio_rsub (spBin A.Ratio fun q r => -q + r) := by
  refine T.F_m_Ratio_rsub.ok sc_m_Ratio_rsub (fun vs H Q E h => ?_) (fun cdv Ar outer s H vs Q E hr h => ?_)
  · obtain ⟨v, u, q, r, a, b, rfl, _⟩ := h
    rfl
  · obtain ⟨v, u, q, r, a, b, rfl, hv, hu, sq, sr, hab, kQ⟩ := h
    refine ⟨_, (pss_one (ps_ret (pe_op (op_own (E := E0) rfl (oo_add T) (ok_m_Ratio_add T) (hr.mono (by decide)) T.b_m_Ratio_add pass0) (pe_un (un_own (E := E0) T.m_Ratio___neg__.at_ T.m_Ratio___neg__.fn (ok_m_Ratio_neg T) (hr.mono (by decide)) T.b_m_Ratio_neg pass0) (pv 0)) (pv 1)))), ?_⟩
    refine ⟨_, rfl, r_un hv sq (by omega) fun v1 H1 s1 i1 => ?_⟩
    exact ⟨_, rfl, r_own i1 (hu.same s1) sq.neg sr hab fun v' H' s' i' => kQ v' H' (s1.trans s') i'⟩
end

/-! ### a list added up -/
def rsum (qs : List Rat) : Rat := qs.foldl (· + ·) 0
theorem rsum_more {qs : List Rat} {i : Nat} {q : Rat} (h : qs[i]? = some q) : rsum (qs.take (i + 1)) = rsum (qs.take i) + q := by
  unfold rsum
  rw [List.take_add_one, h, List.foldl_append]
  rfl
def spSum (C : Addr) : Sp := fun vs H Q _ => ∃ (l : Addr) (xs : List V) (qs : List Rat) (b : Nat), vs = [.ref l] ∧ H l = some (.lst xs) ∧ xs.length = qs.length ∧
  (∀ (i : Nat) x q, xs[i]? = some x → qs[i]? = some q → IsN C H x q ∧ Sz b q) ∧ 1 + (xs.length + 1) * (b + 1) ≤ 8990 ∧ ∀ v' H', Same H H' → IsR C H' v' (rsum qs) → Q v' H'
section
variable {P : Program} {w : World} {K : PySem.W.Frag} {mg : Str → Option Value} {base : Heap} {A : Ad}
theorem ok_m_Ratio_sum_of (T : Txt K mg A) : FnOk P w K mg base CX0 10 A.m_Ratio_sum_of A.fd_m_Ratio_sum_of P_m_Ratio_sum_of (spSum A.Ratio) := by
  refine T.F_m_Ratio_sum_of.ok sc_m_Ratio_sum_of (fun vs H Q E h => ?_) (fun cdv Ar outer s H vs Q E hr h => ?_)
  · obtain ⟨l, xs, qs, b, rfl, _⟩ := h
    rfl
  · obtain ⟨l, xs, qs, b, rfl, hl, hlen, hq, hb, k⟩ := h
    refine ⟨_, (pss_cons (ps_set (i := 1) sc_m_Ratio_sum_of.nd rfl (Or.inl rfl) (pe_make T.mk_Ratio (ok_m_Ratio_init T) (hr.mono (by decide)) (by rfl) T.g_Ratio T.b_m_Ratio_init_d1 T.dv_m_Ratio_init passL (pa_cons pe_int pa_nil)))
      (pss_cons (ps_g (ps_for PassesOwn.never rfl (pi_list (pv 0)) (pg_name (i := 2) sc_m_Ratio_sum_of.nd rfl (Or.inl rfl)) (pss_one (ps_set (i := 1) sc_m_Ratio_sum_of.nd rfl (Or.inl rfl) (pe_op (op_own (E := E0) rfl (oo_add T) (ok_m_Ratio_add T) (hr.mono (by decide)) T.b_m_Ratio_add pass0) (pv 1) (pv 2))))))
      (pss_one (ps_ret (pv 1))))), ?_⟩
    intro x dx hx hd _
    refine mk_ratio hx hd (lt_pow (a := 1) (by decide) (by decide)) (fun e => by cases e) (fun _ H1 s1 i1 => ⟨rfl, ?_⟩)
    have e0 : Rat.divInt 0 1 = (0 : Rat) := by decide +kernel
    rw [e0] at i1
    have hl1 := s1 _ _ hl
    refine ⟨⟨_, rfl, l, rfl, ⟨_, SqL.of hl1⟩, for_list (K := K) (a := l) (xs := xs) (fun i σ' H' => Wd (∃ (v : V) (o : Option V), σ' = [some (.ref l), some v, o] ∧ Same H H' ∧ IsR A.Ratio H' v (rsum (qs.take i)) ∧ Sz (1 + i * (b + 1)) (rsum (qs.take i))))
      ⟨_, none, rfl, s1, i1, ?_⟩ (fun i σ' H' _ ⟨_, _, _, s, _⟩ => SqL.of (s _ _ hl)) ?_ ?_⟩⟩
    · show Sz _ (0 : Rat)
      rw [Nat.zero_mul]
      exact ⟨by decide, by decide⟩
    · rintro i y σ' H' hi ⟨v, o, rfl, s, iv, sz⟩
      have hi1 : i < xs.length := (List.getElem?_eq_some_iff.mp hi).1
      have hi2 : i < qs.length := by omega
      have hqi : qs[i]? = some qs[i] := List.getElem?_eq_getElem hi2
      obtain ⟨hN, hS⟩ := hq i _ _ hi hqi
      have hm : 1 + i * (b + 1) + b ≤ 8990 := by
        have : i * (b + 1) ≤ xs.length * (b + 1) := Nat.mul_le_mul_right _ (by omega)
        have h2 : (xs.length + 1) * (b + 1) = xs.length * (b + 1) + (b + 1) := by rw [Nat.add_mul, Nat.one_mul]
        omega
      refine ⟨_, rfl, _, rfl, r_own iv (hN.same s) sz hS hm fun v' H2 s2 i2 => ?_⟩
      refine ⟨v', _, rfl, s.trans s2, ?_, ?_⟩
      · rw [rsum_more hqi]
        exact i2
      · rw [rsum_more hqi]
        have e : 1 + (i + 1) * (b + 1) = 1 + i * (b + 1) + b + 1 := by rw [Nat.add_mul, Nat.one_mul]; omega
        rw [e]
        exact sz.add hS
    · rintro σ' H' ⟨v, o, rfl, s, iv, sz⟩
      rw [hlen, List.take_length] at iv
      exact ⟨_, rfl, k v H' s iv⟩
end

/-! ### dealt -/
theorem IsN.lput {C f : Addr} {H : Hp} {v : V} {q : Rat} {xs : List V} {o : HO} (h : IsN C H v q) (hf : H f = some (.lst xs)) : IsN C (upd H f o) v q := h.elim (fun z => .inl (z.mono fun p dx fs e => by
  rw [upd_ne (ne_of e hf (by intro z; cases z))]
  exact e)) .inr
theorem IsN.kp {C g : Addr} {H H' : Hp} {v : V} {q : Rat} {xs : List V} (h : IsN C H v q) (hg : H g = some (.lst xs)) (s : Kp g H H') : IsN C H' v q := h.elim (fun z => .inl (z.kp hg s)) .inr
theorem rsum_sz {b : Nat} {qs : List Rat} (h : ∀ (i : Nat) q, qs[i]? = some q → Sz b q) : ∀ i, i ≤ qs.length → Sz (1 + i * (b + 1)) (rsum (qs.take i))
  | 0, _ => by
    show Sz _ (0 : Rat)
    rw [Nat.zero_mul]
    exact ⟨by decide, by decide⟩
  | i + 1, hi => by
    have e : qs[i]? = some qs[i] := List.getElem?_eq_getElem (by omega)
    rw [rsum_more e]
    have e2 : 1 + (i + 1) * (b + 1) = 1 + i * (b + 1) + b + 1 := by rw [Nat.add_mul, Nat.one_mul]; omega
    rw [e2]
    exact (rsum_sz h i (by omega)).add (h i _ e)
theorem Sz.quot {a b : Nat} {q r : Rat} (hq : Sz a q) (hr : Sz b r) (h0 : r ≠ 0) : Sz (a + b) (q / r) := by
  rw [← quot_eq]
  have h1 : (q.den : Int) ≠ 0 := by have := q.den_nz; omega
  have h2 : r.num ≠ 0 := fun z => h0 (Rat.num_eq_zero.mp z)
  exact Sz.div (mul_lt hq.1 hr.2) (mul_lt hq.2 hr.1) (Int.mul_ne_zero h1 h2)
def near (c : Int) (qs : List Rat) (i : Nat) : Int := rnear (rsum (qs.take i) * (c : Rat) / rsum qs)
def dealtL (c : Int) (qs : List Rat) (n : Nat) : List Int := (List.range n).map fun i => near c qs (i + 1) - near c qs i
theorem dealtL_more {c : Int} {qs : List Rat} {n : Nat} : dealtL c qs (n + 1) = dealtL c qs n ++ [near c qs (n + 1) - near c qs n] := by
  unfold dealtL
  rw [List.range_succ, List.map_append]
  rfl
theorem near_0 {c : Int} {qs : List Rat} : near c qs 0 = 0 := by
  show rnear ((0 : Rat) * (c : Rat) / rsum qs) = 0
  rw [Rat.zero_mul, Rat.div_def, Rat.zero_mul]
  rfl
def spDealt (C CE : Addr) : Sp := fun vs H Q E => ∃ (l : Addr) (c : Int) (xs : List V) (qs : List Rat), vs = [.int c, .ref l] ∧ H l = some (.lst xs) ∧ All2 (fun x q => IsN C H x q ∧ Sz 80 q) xs qs ∧ xs.length ≤ 20 ∧ c.natAbs < 2 ^ 200 ∧
  (((∃ q ∈ qs, q < 0) ∨ rsum qs = 0) → ∀ H', Same H H' → E (.ref CE) none H') ∧
  ((∀ q ∈ qs, 0 ≤ q) → rsum qs ≠ 0 → ∀ p H', H p = none → Same H H' → H' p = some (.lst ((dealtL c qs qs.length).map V.int)) → Q (.ref p) H')
theorem r_mix {C : Addr} {H : Hp} {v u : V} {q r : Rat} {a b : Nat} {Q : VK} {E : XK} (hv : IsN C H v q) (hu : IsR C H u r) (sq : Sz a q) (sr : Sz b r) (hab : a + b ≤ 8990)
    (h : ∀ v' H', Same H H' → IsR C H' v' (q + r) → Q v' H') : Wd (rOwn C (spBin C (· + ·)) E v u H Q ∨ rROwn C (spBin C fun q r => q + r) E v u H Q) := by
  rcases hv with hv | ⟨n, rfl, rfl⟩
  · exact ⟨.inl (r_own hv (.inl hu) sq sr hab h)⟩
  · refine ⟨.inr (r_rown hu sr sq (by omega) fun v' H' s i => h v' H' s ?_)⟩
    rw [Rat.add_comm]
    exact i
section
variable {P : Program} {w : World} {K : PySem.W.Frag} {mg : Str → Option Value} {base : Heap} {A : Ad}
theorem ok_f_dealt (T : Txt K mg A) : FnOk P w K mg base (L2.CX P w) 12 A.f_dealt A.fd_f_dealt P_f_dealt (spDealt A.Ratio A.NoRatio) := by
  refine T.F_f_dealt.okX sc_f_dealt (fun vs H Q E h => ?_) (fun cdv Ar outer s H vs Q E hr h => ?_)
  · obtain ⟨l, c, xs, qs, rfl, _⟩ := h
    rfl
  · obtain ⟨l, c, xs, qs, rfl, hl, hA, hlen, hc, kE, kQ⟩ := h
    refine ⟨_, (pss_cons (ps_set (i := 2) sc_f_dealt.nd rfl (Or.inl rfl) (pe_smeth (pe_glob (v := .ref A.Ratio) (by rfl) T.g_Ratio rfl) T.sm_Ratio_sum_of (ok_m_Ratio_sum_of T) (hr.mono (by decide)) T.b_m_Ratio_sum_of pass0 (pa_cons (pv 1) pa_nil)))
      (pss_cons (ps_if (PW.pt (pw_or (pt_not (pt_val (pe_callB (cr_all rfl) (by rfl) T.z_all (by decide +kernel) (pa_cons (pe_g (pe_lcV (own := [("amount", 6)]) rfl sc_f_dealt.nd (pi_list (pv 1)) (blkOk_by (own := [("amount", 6)]) (N := N_f_dealt) (sc := defScope s_f_dealt) (by decide +kernel)) (fun _ _ _ _ _ => (pg_name (i := 6) sc_f_dealt.nd rfl (Or.inl rfl))) (fun _ _ _ _ _ => pts_nil) (fun _ _ _ _ _ => (pe_cmpR op_ge (pe_fld (pe_op (op_mix (op_own (E := E0) rfl (oo_add T) (ok_m_Ratio_add T) (hr.mono (by decide)) T.b_m_Ratio_add pass0) (op_rown (E := E0) rfl (oo_add T) PySem.F.fills_int_add PySem.F.slot_int_add PySem.F.entry_int_add PySem.F.args_int_add_2 rfl (ok_m_Ratio_radd T) (hr.mono (by decide)) T.b_m_Ratio_radd pass0)) (pv 6) (pe_make T.mk_Ratio (ok_m_Ratio_init T) (hr.mono (by decide)) (by rfl) T.g_Ratio T.b_m_Ratio_init_d1 T.dv_m_Ratio_init passL (pa_cons pe_int pa_nil))) rfl) pe_int (nomark _))) (fun _ _ _ _ _ => rfl) (fun _ _ _ _ _ => rfl) (fun _ _ _ _ _ => rfl))) pa_nil)))) (pw_or1 (pt_cmpR op_eq (pe_fld (pv 2) rfl) pe_int (nomark _))))) (pss_one (ps_raise rfl (takes_of rfl rfl rfl rfl) (pmk_own0 PySem.F.excBase_ValueError T.ex_NoRatio T.g_NoRatio T.ek_NoRatio (raises_own T.eb_NoRatio T.et_NoRatio) (by rfl)))) pss_nil)
      (pss_cons (ps_set (i := 3) sc_f_dealt.nd rfl (Or.inl rfl) (pe_lst pa_nil))
      (pss_cons (ps_set (i := 4) sc_f_dealt.nd rfl (Or.inl rfl) pe_int)
      (pss_cons (ps_set (i := 5) sc_f_dealt.nd rfl (Or.inl rfl) (pe_make T.mk_Ratio (ok_m_Ratio_init T) (hr.mono (by decide)) (by rfl) T.g_Ratio T.b_m_Ratio_init_d1 T.dv_m_Ratio_init (E := E) (passes_call (takes_of rfl rfl rfl rfl) (fun _ _ _ _ h => h)) (pa_cons pe_int pa_nil)))
      (pss_cons (ps_g (ps_for (passes_of rfl) rfl (pi_list (pv 1)) (pg_name (i := 6) sc_f_dealt.nd rfl (Or.inl rfl)) (pss_cons (ps_set (i := 5) sc_f_dealt.nd rfl (Or.inl rfl) (pe_op (op_own (E := E0) rfl (oo_add T) (ok_m_Ratio_add T) (hr.mono (by decide)) T.b_m_Ratio_add pass0) (pv 5) (pv 6)))
      (pss_cons (ps_set (i := 7) sc_f_dealt.nd rfl (Or.inl rfl) (pe_meth0 (pe_meth (pe_op (op_own (E := E0) rfl (oo_mul T) (ok_m_Ratio_mul T) (hr.mono (by decide)) T.b_m_Ratio_mul pass0) (pv 5) (pv 0)) T.cl_Ratio T.m_Ratio_over (ok_m_Ratio_over T) (hr.mono (by decide)) T.b_m_Ratio_over .nil (E := E) (passes_call (takes_of rfl rfl rfl rfl) (fun _ _ _ _ h => h)) (pa_cons (pv 2) pa_nil)) T.cl_Ratio T.m_Ratio_nearest (ok_m_Ratio_nearest T) (hr.mono (by decide)) T.b_m_Ratio_nearest .nil pass0))
      (pss_cons (ps_expr (pe_bm PySem.F.plainAttrs_list PySem.F.slot_list_append PySem.F.type_list_append mt_append (pv 3) (pa_cons (pe_op op_sub (pv 7) (pv 4)) pa_nil)))
      (pss_one (ps_set (i := 4) sc_f_dealt.nd rfl (Or.inl rfl) (pv 7))))))))
      (pss_one (ps_ret (pv 3))))))))), ?_⟩
    refine ⟨rfl, _, rfl, l, xs, qs, 80, rfl, hl, hA.1, hA.2, by omega, fun tv H1 s1 i1 => ?_⟩
    have hl1 := s1 _ _ hl
    have hf : (Rat.divInt 0 1) = (0 : Rat) := by decide +kernel
    refine ⟨⟨_, rfl, l, rfl, ⟨_, SqL.of hl1⟩, fun D hD => lc_same (K := K) (fun i => V.bl (decide (0 ≤ (qs.getD i 0).num))) hl1 (by omega) hD ?_ ?_⟩⟩
    · intro i x H' N M hi s hN
      obtain ⟨q, hq, hn, hz⟩ := hA.get hi
      refine ⟨rfl, ⟨_, rfl, fun y dy hy hd _ => mk_ratio hy hd (lt_pow (a := 1) (by decide) (by decide)) (fun e => by cases e) (fun _ H3 s3 i3 => ⟨rfl, ?_⟩)⟩⟩
      rw [hf] at i3
      refine r_mix (hn.same (s1.trans (s.trans s3))) i3 hz (Sz.mono (a := 1) ⟨by decide, by decide⟩ (by decide : 1 ≤ 80)) (by decide) fun v' H4 s4 i4 => ?_
      obtain ⟨p, dx, rfl, hp⟩ := i4
      refine ⟨p, _, dx, _, _, rfl, hp, T.cl_Ratio, T.n_Ratio_top, rf_top _ _, _, _, rfl, rfl, ?_⟩
      have e : (qs.getD i 0) = q + 0 := by
        rw [Rat.add_zero, List.getD_eq_getElem?_getD, hq]
        rfl
      have k := hN H4 (s3.trans s4)
      rw [e] at k
      exact k
    · intro H2 s2 hD2
      refine ⟨D, (List.range xs.length).map fun i => decide (0 ≤ (qs.getD i 0).num), rfl, by rw [List.map_map]; exact SqL.of hD2, _, rfl, ?_⟩
      have s12 := s1.trans s2
      have fin : ∀ q, q ∈ qs → ∃ i, i < xs.length ∧ qs.getD i 0 = q := fun q hm => by
        obtain ⟨i, hi, e⟩ := List.getElem_of_mem hm
        exact ⟨i, by rw [hA.1]; exact hi, by rw [List.getD_eq_getElem?_getD, List.getElem?_eq_getElem hi, e]; rfl⟩
      by_cases hall : ∀ q ∈ qs, 0 ≤ q
      · have eb : (((List.range xs.length).map fun i => decide (0 ≤ (qs.getD i 0).num)).all id) = true := by
          rw [List.all_eq_true]
          intro b hb
          obtain ⟨i, hi, rfl⟩ := List.mem_map.mp hb
          rw [List.mem_range] at hi
          have hi2 : i < qs.length := by rw [← hA.1]; exact hi
          have hm : qs.getD i 0 ∈ qs := by
            rw [List.getD_eq_getElem?_getD, List.getElem?_eq_getElem hi2]
            exact List.getElem_mem hi2
          exact decide_eq_true (Rat.num_nonneg.mpr (hall _ hm))
        rw [eb]
        refine iteF ?_
        obtain ⟨pt, dt, rfl, hpt⟩ := id i1
        have hpt2 := s2 _ _ hpt
        refine ⟨_, rfl, pt, _, dt, _, _, rfl, hpt2, T.cl_Ratio, T.n_Ratio_top, rf_top _ _, ?_⟩
        walk_at "go"
        refine if_int (fun e0 => ?_) (fun e0 => ?_)
        · exact kE (.inr (Rat.num_eq_zero.mp e0)) H2 s12
        have r0 : rsum qs ≠ 0 := fun z => e0 (by rw [z]; rfl)
        walk_at "go"
        intro pp hpp
        walk_at "go"
        intro pr dr hpr hdr _
        refine mk_ratio hpr hdr (lt_pow (a := 1) (by decide) (by decide)) (fun e => by cases e) (fun _ H3 s3 i3 => ⟨rfl, ?_⟩)
        rw [hf] at i3
        have h3p := s3 _ _ (upd_same (H := H2) (a := pp) (o := .lst []))
        have s23 : Same H2 H3 := (Same.new hpp).trans s3
        have hl3 := (s2.trans s23) _ _ hl1
        refine ⟨⟨_, rfl, l, rfl, ⟨_, SqL.of hl3⟩, for_list (K := K) (a := l) (xs := xs) (fun i σ' H' => Wd (∃ (v : V) (o6 o7 : Option V), σ' = [some (.int c), some (.ref l), some (.ref pt), some (.ref pp), some (.int (near c qs i)), some v, o6, o7] ∧ Same H2 H' ∧ IsR A.Ratio H' v (rsum (qs.take i)) ∧
          H' pp = some (.lst ((dealtL c qs i).map V.int))))
          ⟨_, none, none, by rw [near_0]; rfl, s23, i3, h3p⟩ (fun i σ' H' _ ⟨_, _, _, _, s, _⟩ => SqL.of (s _ _ (s2 _ _ hl1))) ?_ ?_⟩⟩
        · rintro i y σ' H' hi ⟨v, o6, o7, rfl, s, iv, hp'⟩
          obtain ⟨q, hq, hn, hz⟩ := hA.get hi
          have hi1 : i < xs.length := (List.getElem?_eq_some_iff.mp hi).1
          have szs : ∀ (i : Nat) q, qs[i]? = some q → Sz 80 q := fun i q h => by
            have hx : i < xs.length := by rw [hA.1]; exact (List.getElem?_eq_some_iff.mp h).1
            exact (hA.2 i _ _ (List.getElem?_eq_getElem hx) h).2
          have z1 := rsum_sz szs i (by rw [← hA.1]; omega)
          have z2 := rsum_sz szs (i + 1) (by rw [← hA.1]; omega)
          have z3 := rsum_sz szs qs.length (Nat.le_refl _)
          rw [List.take_length] at z3
          have hL : qs.length ≤ 20 := by rw [← hA.1]; exact hlen
          have zc : Sz 200 (c : Rat) := .int hc (by decide)
          have z1' := z1.mono (b := 1700) (by omega)
          have z2' := z2.mono (b := 1700) (by omega)
          have z3' := z3.mono (b := 1700) (by omega)
          refine ⟨_, rfl, _, rfl, r_own iv (hn.same (s12.trans s)) z1' hz (by decide) fun v1 H4 s4 i4 => ?_⟩
          rw [← rsum_more hq] at i4
          refine ⟨_, rfl, _, rfl, r_own i4 (.inr ⟨c, rfl, rfl⟩) z2' zc (by decide) fun v2 H5 s5 i5 => ?_⟩
          obtain ⟨p2, d2, rfl, h2⟩ := id i5
          refine ⟨p2, d2, _, rfl, h2, rf_no _ _ (by decide +kernel) (by decide +kernel), _, rfl, _, _, _, _, 1900, 1700, rfl, i5, .inl (i1.same (s2.trans (s.trans (s4.trans s5)))), z2'.mul zc, z3', by decide, fun z => absurd z r0, fun _ v3 H6 s6 i6 => ?_⟩
          obtain ⟨p3, d3, rfl, h3⟩ := id i6
          refine ⟨p3, d3, _, rfl, h3, rf_no _ _ (by decide +kernel) (by decide +kernel), _, _, 3600, rfl, i6, (z2'.mul zc).quot z3' r0, by decide, ?_⟩
          have h6 := (s4.trans (s5.trans s6)) _ _ hp'
          refine ⟨_, rfl, .inl ⟨rfl, _, SqL.of h6⟩, _, rfl, _, rfl, _, _, rfl, rfl, pp, _, _, rfl, rfl, h6, ?_, ?_⟩
          · rw [List.length_map]
            unfold dealtL
            rw [List.length_map, List.length_range]
            exact Nat.lt_of_le_of_lt (by omega : i ≤ 20) (by decide)
          · refine ⟨_, rfl, v1, _, _, rfl, Same.at_new hpp (s.trans (s4.trans (s5.trans s6))), (i4.same (s5.trans s6)).mono fun p dx fs e => ?_, ?_⟩
            · rw [upd_ne (ne_of e h6 (by intro z; cases z))]
              exact e
            · rw [upd_same, dealtL_more, List.map_append]
              rfl
        · rintro σ' H' ⟨v, o6, o7, rfl, s, iv, hp'⟩
          rw [hA.1] at hp'
          have hpp0 : H pp = none := by
            cases e : H pp with
            | none => rfl
            | some o =>
              rw [s12 _ _ e] at hpp
              cases hpp
          exact ⟨_, rfl, kQ hall r0 pp H' hpp0 (s12.trans s) hp'⟩
      · have ⟨q, hm, hq⟩ : ∃ q ∈ qs, q < 0 := by
          apply Classical.byContradiction
          intro hno
          exact hall fun q hm => Rat.not_lt.mp fun z => hno ⟨q, hm, z⟩
        obtain ⟨i, hi, e⟩ := fin q hm
        have eb : (((List.range xs.length).map fun i => decide (0 ≤ (qs.getD i 0).num)).all id) = false := by
          rw [List.all_eq_false]
          refine ⟨_, List.mem_map.mpr ⟨i, List.mem_range.mpr hi, rfl⟩, ?_⟩
          rw [e]
          intro z
          exact Rat.not_lt.mpr (Rat.num_nonneg.mp (of_decide_eq_true z)) hq
        rw [eb]
        exact iteT (iteT (kE (.inl ⟨q, hm, hq⟩) H2 s12))
end

/-! ### cents dealt out: plain -/
theorem sum_more {ws : List Int} {i : Nat} {w : Int} (h : ws[i]? = some w) : (ws.take (i + 1)).sum = (ws.take i).sum + w := by
  rw [take_more h, List.sum_append]
  simp
theorem ediv_cross {a b c d : Int} (hb : 0 < b) (hd : 0 < d) (h : a * d = c * b) : a / b = c / d := by
  rw [← Int.mul_ediv_mul_of_pos_left a b hd, h, Int.mul_comm b d, Int.mul_ediv_mul_of_pos_left c d hb]
theorem rnear_div {t b : Int} (hb : 0 < b) : rnear (Rat.divInt t b) = (2 * t + b) / (2 * b) := by
  have hd := (Rat.divInt t b).den_pos
  refine ediv_cross (by omega) (by omega) ?_
  have e : (Rat.divInt t b).num * b = t * ((Rat.divInt t b).den : Int) := by
    have h1 : Rat.divInt (Rat.divInt t b).num ((Rat.divInt t b).den : Int) = Rat.divInt t b := Rat.num_divInt_den _
    exact (Rat.divInt_eq_divInt_iff (by omega) (by omega)).mp h1
  generalize (Rat.divInt t b).num = n at *
  generalize ((Rat.divInt t b).den : Int) = d at *
  grind
/-- the weights are the amounts times one number -/
def Wt (L : Int) (ws : List Int) (qs : List Rat) : Prop := ws.length = qs.length ∧ ∀ (i : Nat) (w : Int) (q : Rat), ws[i]? = some w → qs[i]? = some q → (w : Rat) = q * (L : Rat)
theorem Wt.sum {L : Int} {ws : List Int} {qs : List Rat} (h : Wt L ws qs) : ∀ i, i ≤ ws.length → (((ws.take i).sum : Int) : Rat) = rsum (qs.take i) * (L : Rat)
  | 0, _ => by
    show ((0 : Int) : Rat) = (0 : Rat) * _
    rw [Rat.zero_mul]
    rfl
  | i + 1, hi => by
    have h1 : ws[i]? = some ws[i] := List.getElem?_eq_getElem (by omega)
    have h2 : qs[i]? = some (qs[i]'(by rw [← h.1]; omega)) := List.getElem?_eq_getElem _
    rw [sum_more h1, rsum_more h2, Rat.intCast_add, Wt.sum h i (by omega), h.2 i _ _ h1 h2, Rat.add_mul]
theorem Wt.all {L : Int} {ws : List Int} {qs : List Rat} (h : Wt L ws qs) : ((ws.sum : Int) : Rat) = rsum qs * (L : Rat) := by
  have := h.sum ws.length (Nat.le_refl _)
  rw [List.take_length, h.1, List.take_length] at this
  exact this
theorem near_w {c L : Int} {ws : List Int} {qs : List Rat} (h : Wt L ws qs) (hL : 0 < L) (hW : 0 < ws.sum) {i : Nat} (hi : i ≤ ws.length) : near c qs i = (2 * c * (ws.take i).sum + ws.sum) / (2 * ws.sum) := by
  have e : rsum (qs.take i) * (c : Rat) / rsum qs = Rat.divInt (c * (ws.take i).sum) ws.sum := by
    have hS := h.all
    have hi' := h.sum i hi
    have hL0 : (L : Rat) ≠ 0 := fun z => by
      have : L = 0 := Rat.intCast_eq_zero_iff.mp z
      omega
    have hW0 : ((ws.sum : Int) : Rat) ≠ 0 := fun z => by
      have : ws.sum = 0 := Rat.intCast_eq_zero_iff.mp z
      omega
    have hS0 : rsum qs ≠ 0 := fun z => by
      rw [z, Rat.zero_mul] at hS
      exact hW0 hS
    rw [Rat.divInt_eq_div, Rat.intCast_mul, hi', hS]
    generalize rsum (qs.take i) = s at *
    generalize rsum qs = S at *
    generalize (L : Rat) = l at *
    generalize (c : Rat) = k at *
    grind
  unfold near
  rw [e, rnear_div hW]
  congr 1
  grind
theorem dealt_sum {c : Int} {qs : List Rat} : ∀ n, (dealtL c qs n).sum = near c qs n
  | 0 => by rw [near_0]; rfl
  | n + 1 => by
    rw [dealtL_more, List.sum_append, dealt_sum n]
    simp
    omega
theorem dealt_take {c : Int} {qs : List Rat} {i n : Nat} (h : i ≤ n) : (dealtL c qs n).take i = dealtL c qs i := by
  unfold dealtL
  rw [← List.map_take, List.take_range, Nat.min_eq_left h]
theorem dealt_at {c : Int} {qs : List Rat} {i n : Nat} (h : i < n) : (dealtL c qs n)[i]? = some (near c qs (i + 1) - near c qs i) := by
  unfold dealtL
  rw [List.getElem?_map, List.getElem?_range h]
  rfl
theorem dealt_len {c : Int} {qs : List Rat} {n : Nat} : (dealtL c qs n).length = n := by
  unfold dealtL
  rw [List.length_map, List.length_range]
/-- the parts are right -/
structure Right (c : Int) (ps ws : List Int) : Prop where
  len : ps.length = ws.length
  pos : 0 < ws.sum
  upto : ∀ i, i < ws.length → (ps.take (i + 1)).sum = (2 * c * (ws.take (i + 1)).sum + ws.sum) / (2 * ws.sum)
  lies : ∀ (i : Nat) p w, ps[i]? = some p → ws[i]? = some w → (p * ws.sum - c * w).natAbs < ws.sum
  all : ps.sum = c
theorem right_of {c L : Int} {ws : List Int} {qs : List Rat} (h : Wt L ws qs) (hL : 0 < L) (hW : 0 < ws.sum) : Right c (dealtL c qs qs.length) ws where
  len := by rw [dealt_len, h.1]
  pos := hW
  upto := fun i hi => by rw [dealt_take (by rw [← h.1]; omega), dealt_sum, near_w h hL hW (by omega)]
  lies := fun i p w hp hw => by
    have hi : i < ws.length := (List.getElem?_eq_some_iff.mp hw).1
    rw [dealt_at (by rw [← h.1]; exact hi)] at hp
    cases hp
    rw [near_w h hL hW (by omega : i + 1 ≤ _), near_w h hL hW (by omega : i ≤ _), sum_more hw]
    generalize (ws.take i).sum = s
    generalize ws.sum = W at *
    have hW2 : 0 < 2 * W := by omega
    have a1 := Int.ediv_mul_le (2 * c * (s + w) + W) (by omega : 2 * W ≠ 0)
    have a2 := Int.lt_ediv_add_one_mul_self (2 * c * (s + w) + W) hW2
    have b1 := Int.ediv_mul_le (2 * c * s + W) (by omega : 2 * W ≠ 0)
    have b2 := Int.lt_ediv_add_one_mul_self (2 * c * s + W) hW2
    generalize (2 * c * (s + w) + W) / (2 * W) = a at *
    generalize (2 * c * s + W) / (2 * W) = b at *
    have e1 : a * (2 * W) = 2 * (a * W) := by grind
    have e2 : b * (2 * W) = 2 * (b * W) := by grind
    have e3 : (a + 1) * (2 * W) = 2 * (a * W) + 2 * W := by grind
    have e4 : (b + 1) * (2 * W) = 2 * (b * W) + 2 * W := by grind
    have e5 : (a - b) * W = a * W - b * W := by grind
    have e6 : 2 * c * (s + w) = 2 * (c * s) + 2 * (c * w) := by grind
    have e7 : 2 * c * s = 2 * (c * s) := by grind
    rw [e1, e6] at a1
    rw [e3, e6] at a2
    rw [e2, e7] at b1
    rw [e4, e7] at b2
    rw [e5]
    omega
  all := by
    rw [dealt_sum, near_w h hL hW (by rw [h.1]; exact Nat.le_refl _), ← h.1, List.take_length]
    generalize ws.sum = W at *
    have e : 2 * c * W + W = (2 * c + 1) * W := by grind
    rw [e, Int.mul_ediv_mul_of_pos_left _ _ hW]
    omega
theorem Right.lt {c : Int} {ps ws : List Int} {i : Nat} {p w : Int} {a b n : Nat} (h : Right c ps ws) (hp : ps[i]? = some p) (hw : ws[i]? = some w) (hc : c.natAbs < 2 ^ a) (hw2 : w.natAbs < 2 ^ b) (hW : ws.sum.natAbs < 2 ^ n) (hn : n ≤ a + b) : p.natAbs < 2 ^ (a + b + 1) := by
  have h1 := h.lies i p w hp hw
  have h2 : (c * w).natAbs < 2 ^ (a + b) := by
    rw [Int.natAbs_mul, Nat.pow_add]
    exact Nat.mul_lt_mul'' hc hw2
  have h3 : p.natAbs ≤ (p * ws.sum).natAbs := by
    rw [Int.natAbs_mul]
    exact Nat.le_mul_of_pos_right _ (by have := h.pos; omega)
  have h4 : (2 : Nat) ^ n ≤ 2 ^ (a + b) := Nat.pow_le_pow_right (by decide) hn
  rw [Nat.pow_succ]
  have := h.pos
  omega

theorem lcm_step {L d : Int} (hL : 0 < L) (hd : 0 < d) : 0 < L * d / (Int.gcd L d : Int) ∧ L * d / (Int.gcd L d : Int) ≤ L * d ∧ L ∣ L * d / (Int.gcd L d : Int) ∧ d ∣ L * d / (Int.gcd L d : Int) ∧ 0 < (Int.gcd L d : Int) ∧ (Int.gcd L d : Int) ≤ d := by
  have g0 : 0 < (Int.gcd L d : Int) := by
    have := Int.gcd_pos_of_ne_zero_left d (by omega : L ≠ 0)
    omega
  have gl : (Int.gcd L d : Int) ∣ L := Int.gcd_dvd_left ..
  have gd : (Int.gcd L d : Int) ∣ d := Int.gcd_dvd_right ..
  have gle : (Int.gcd L d : Int) ≤ d := Int.le_of_dvd hd gd
  generalize (Int.gcd L d : Int) = g at *
  obtain ⟨x, rfl⟩ := gl
  obtain ⟨y, rfl⟩ := gd
  have e : g * x * (g * y) / g = g * x * y := by
    rw [show g * x * (g * y) = (g * x * y) * g by grind, Int.mul_ediv_cancel _ (by omega)]
  have hx : 0 < x := Int.pos_of_mul_pos_right hL (by omega)
  have hy : 0 < y := Int.pos_of_mul_pos_right hd (by omega)
  rw [e]
  refine ⟨Int.mul_pos hL hy, ?_, ⟨y, rfl⟩, ⟨x, by grind⟩, g0, gle⟩
  have : y ≤ g * y := by
    have := Int.mul_le_mul_of_nonneg_right (by omega : 1 ≤ g) (by omega : 0 ≤ y)
    omega
  exact Int.mul_le_mul_of_nonneg_left this (by omega)
theorem wt_at {q : Rat} {L : Int} (h : (q.den : Int) ∣ L) : ((q.num * (L / (q.den : Int)) : Int) : Rat) = q * (L : Rat) := by
  obtain ⟨k, rfl⟩ := h
  have hd : (q.den : Int) ≠ 0 := by have := q.den_nz; omega
  rw [Int.mul_ediv_cancel_left _ hd, Rat.intCast_mul, Rat.intCast_mul]
  have e : q * ((q.den : Int) : Rat) = (q.num : Rat) := by
    have hd' : (((q.den : Nat) : Int) : Rat) ≠ 0 := fun z => hd (Rat.intCast_eq_zero_iff.mp z)
    have := Rat.div_mul_cancel (a := (q.num : Rat)) hd'
    rw [← Rat.divInt_eq_div, Rat.num_divInt_den] at this
    exact this
  rw [← Rat.mul_assoc, e]
theorem sum_lt {ws : List Int} {b : Nat} (h : ∀ (i : Nat) w, ws[i]? = some w → w.natAbs < 2 ^ b) : ∀ i, i ≤ ws.length → (ws.take i).sum.natAbs ≤ i * 2 ^ b
  | 0, _ => by simp
  | i + 1, hi => by
    have h1 : ws[i]? = some ws[i] := List.getElem?_eq_getElem (by omega)
    rw [sum_more h1, Nat.add_mul, Nat.one_mul]
    have := h i _ h1
    have := sum_lt h i (by omega)
    omega
theorem sum_nonneg {ws : List Int} (h : ∀ w ∈ ws, 0 ≤ w) : 0 ≤ ws.sum := by
  induction ws with
  | nil => exact Int.le_refl _
  | cons w ws ih =>
    rw [List.sum_cons]
    have := h w List.mem_cons_self
    have := ih fun w hw => h w (List.mem_cons_of_mem _ hw)
    omega
theorem rsum_cons (q : Rat) (qs : List Rat) : rsum (q :: qs) = q + rsum qs := by
  have key : ∀ (qs : List Rat) (a b : Rat), qs.foldl (· + ·) (a + b) = a + qs.foldl (· + ·) b := fun qs => by
    induction qs with
    | nil => intro a b; rfl
    | cons r qs ih =>
      intro a b
      rw [List.foldl_cons, List.foldl_cons, Rat.add_assoc]
      exact ih a (b + r)
  show qs.foldl (· + ·) (0 + q) = q + qs.foldl (· + ·) 0
  rw [Rat.zero_add, ← key qs q 0, Rat.add_zero]

/-! ### the law -/
/-- v is the tuple of q's parts -/
def IsT (H : Hp) (v : V) (q : Rat) : Prop := ∃ a, v = .ref a ∧ H a = some (.tup [.int q.num, .int (q.den : Int)])
theorem IsT.kp {g : Addr} {H H' : Hp} {v : V} {q : Rat} {xs : List V} (h : IsT H v q) (hg : H g = some (.lst xs)) (s : Kp g H H') : IsT H' v q := by
  obtain ⟨a, e, ha⟩ := h
  exact ⟨a, e, s _ _ ha (ne_of ha hg (by intro z; cases z))⟩
theorem IsT.lput {f : Addr} {H : Hp} {v : V} {q : Rat} {xs : List V} {o : HO} (h : IsT H v q) (hf : H f = some (.lst xs)) : IsT (upd H f o) v q := by
  obtain ⟨a, e, ha⟩ := h
  exact ⟨a, e, by rw [upd_ne (ne_of ha hf (by intro z; cases z))]; exact ha⟩
theorem IsT.same {H H' : Hp} {v : V} {q : Rat} (h : IsT H v q) (s : Same H H') : IsT H' v q := by
  obtain ⟨a, e, ha⟩ := h
  exact ⟨a, e, s _ _ ha⟩
/-- an amount that the law draws -/
def Am (q : Rat) : Prop := 0 ≤ q ∧ q.num.natAbs < 2 ^ 70 ∧ q.den ≤ 100
def spAmounts : Sp := fun vs H Q _ => ∃ g l : Addr, vs = [.ref g] ∧ Bag H g l ∧ ∀ (p : Addr) (xs : List V) (qs : List Rat) (H' : Hp), H p = none → H' p = some (.lst xs) → All2 (fun x q => IsT H' x q ∧ Am q) xs qs → xs.length ≤ 8 → Bag H' g l → Kp g H H' → Q (.ref p) H'
def spHanded (C : Addr) : Sp := fun vs H Q _ => ∃ (g l a : Addr) (xs : List V) (qs : List Rat), vs = [.ref g, .ref a] ∧ Bag H g l ∧ H a = some (.lst xs) ∧ a ≠ g ∧ All2 (fun x q => IsT H x q ∧ Am q) xs qs ∧ xs.length ≤ 8 ∧
  ∀ (p : Addr) (ys : List V) (H' : Hp), H p = none → H' p = some (.lst ys) → All2 (fun x q => IsN C H' x q ∧ Sz 80 q) ys qs → Bag H' g l → Kp g H H' → Q (.ref p) H'
def spCommon : Sp := fun vs H Q _ => ∃ (a : Addr) (xs : List V) (qs : List Rat), vs = [.ref a] ∧ H a = some (.lst xs) ∧ All2 (fun x q => IsT H x q ∧ Am q) xs qs ∧ xs.length ≤ 8 ∧
  ∀ (p : Addr) (ws : List Int) (L : Int) (H' : Hp), H p = none → H' p = some (.lst (ws.map V.int)) → 0 < L → All2 (fun (w : Int) (q : Rat) => (w : Rat) = q * (L : Rat) ∧ w.natAbs < 2 ^ 140) ws qs → Same H H' → Q (.ref p) H'
theorem top_at {c : Int} (h0 : 0 ≤ c) (h3 : c < 3) : ∃ z : Int, atI [V.int 3, V.int 12, V.int (10 ^ (20 : Int).toNat)] c = some (.int z) ∧ 0 < z ∧ z ≤ 10 ^ 20 := by
  have : c = 0 ∨ c = 1 ∨ c = 2 := by omega
  rcases this with rfl | rfl | rfl
  · exact ⟨3, rfl, by decide, by decide⟩
  · exact ⟨12, rfl, by decide, by decide⟩
  · exact ⟨10 ^ 20, rfl, by decide, by decide⟩
theorem bot_at {c : Int} (h0 : 0 ≤ c) (h3 : c < 3) : ∃ z : Int, atI [V.int 1, V.int 5, V.int 100] c = some (.int z) ∧ 0 < z ∧ z ≤ 100 := by
  have : c = 0 ∨ c = 1 ∨ c = 2 := by omega
  rcases this with rfl | rfl | rfl
  · exact ⟨1, rfl, by decide, by decide⟩
  · exact ⟨5, rfl, by decide, by decide⟩
  · exact ⟨100, rfl, by decide, by decide⟩
section
variable {P : Program} {w : World} {K : PySem.W.Frag} {mg : Str → Option Value} {base : Heap} {A : Ad}
theorem ok_l_amounts (T : Txt K mg A) : FnOk P w K mg base CX0 3 A.l_amounts A.fd_l_amounts P_l_amounts spAmounts := by
  refine T.F_l_amounts.ok sc_l_amounts (fun vs H Q E h => ?_) (fun cdv Ar outer s H vs Q E hr h => ?_)
  · obtain ⟨g, l, rfl, _⟩ := h
    rfl
  · obtain ⟨g, l, rfl, hB, k⟩ := h
    refine ⟨_, (pss_cons (ps_set (i := 1) sc_l_amounts.nd rfl (Or.inl rfl) (pe_lst pa_nil))
      (pss_cons (ps_g (ps_for PassesOwn.never rfl (pi_range1 rfl T.z_range (pa_cons (pe_op op_add pe_int (pe_call (ok_l_draw T) (hr.mono (by decide)) (by rfl) T.g__law_draw T.F_l_draw.kp T.b_l_draw .nil pass0 (pa_cons (pv 0) (pa_cons pe_int pa_nil)))) pa_nil)) (pg_name (i := 2) sc_l_amounts.nd rfl (Or.inl rfl)) (pss_cons (ps_set (i := 3) sc_l_amounts.nd rfl (Or.inl rfl) (pe_call (ok_l_draw T) (hr.mono (by decide)) (by rfl) T.g__law_draw T.F_l_draw.kp T.b_l_draw .nil pass0 (pa_cons (pv 0) (pa_cons (pe_ix ix_list (pe_lst (pa_cons pe_int (pa_cons pe_int (pa_cons (pe_op op_pow pe_int pe_int) pa_nil)))) (pe_call (ok_l_draw T) (hr.mono (by decide)) (by rfl) T.g__law_draw T.F_l_draw.kp T.b_l_draw .nil pass0 (pa_cons (pv 0) (pa_cons pe_int pa_nil))) (fun _ _ => rfl)) pa_nil))))
      (pss_one (ps_expr (pe_bm PySem.F.plainAttrs_list PySem.F.slot_list_append PySem.F.type_list_append mt_append (pv 1) (pa_cons (pe_call (ok_l_lowest T) (hr.mono (by decide)) (by rfl) T.g__law_lowest T.F_l_lowest.kp T.b_l_lowest .nil pass0 (pa_cons (pv 3) (pa_cons (pe_op op_add pe_int (pe_call (ok_l_draw T) (hr.mono (by decide)) (by rfl) T.g__law_draw T.F_l_draw.kp T.b_l_draw .nil pass0 (pa_cons (pv 0) (pa_cons (pe_ix ix_list (pe_lst (pa_cons pe_int (pa_cons pe_int (pa_cons pe_int pa_nil)))) (pe_call (ok_l_draw T) (hr.mono (by decide)) (by rfl) T.g__law_draw T.F_l_draw.kp T.b_l_draw .nil pass0 (pa_cons (pv 0) (pa_cons pe_int pa_nil))) (fun _ _ => rfl)) pa_nil)))) pa_nil))) pa_nil)))))))
      (pss_one (ps_ret (pv 1))))), ?_⟩
    walk_at "go"
    intro f hf
    have nf := hB.ne hf
    have B0 := hB.new (o := .lst []) hf
    refine ⟨?_⟩
    walk_at "go"
    intro n H1 n0 n1 B1 K1
    refine ⟨_, _, rfl, rfl, _, rfl, by omega, by omega, for_range (lo := 0) (n := (1 + n).toNat) (fun i σ' H' => Wd (∃ (xs : List V) (qs : List Rat) (o1 o2 : Option V), σ' = [some (.ref g), some (.ref f), o1, o2] ∧ H' f = some (.lst xs) ∧ xs.length = i ∧
      All2 (fun x q => IsT H' x q ∧ Am q) xs qs ∧ Bag H' g l ∧ Kp g H H'))
      ⟨[], [], none, none, rfl, K1 _ _ upd_same nf.1, rfl, .nil, B1, ((Kp.refl g H).put hf).trans K1⟩ ?_ ?_⟩
    · rintro i σ' H' hi ⟨xs, qs, o1, o2, rfl, hf', hx, hA, B2, K2⟩
      have nf2 := nf.1
      walk_at "go"
      intro p1 hp1
      have B2' := B2.new (o := .lst [V.int 3, V.int 12, V.int (10 ^ (20 : Int).toNat)]) hp1
      have np1 := (B2.ne hp1).1
      walk_at "go"
      intro m H2 m0 m1 B3 K3
      obtain ⟨z, hz, z0, z1⟩ := top_at m0 m1
      have hl2 := K3 _ _ upd_same np1
      have zb : z.natAbs < 2 ^ 9000 := lt_pow (a := 70) (by omega) (by decide)
      walk_at "go"
      intro tp H3 t0 t1 B4 K4
      have hf3 := K4 _ _ (K3 _ _ (Same.new hp1 _ _ hf') nf2) nf2
      refine ⟨_, rfl, .inl ⟨rfl, _, SqL.of hf3⟩, ?_⟩
      walk_at "go"
      intro p2 hp2
      have B4' := B4.new (o := .lst [V.int 1, V.int 5, V.int 100]) hp2
      have np2 := (B4.ne hp2).1
      walk_at "go"
      intro m2 H4 m20 m21 B5 K5
      obtain ⟨z2, hz2, z20, z21⟩ := bot_at m20 m21
      have hl4 := K5 _ _ upd_same np2
      have zb2 : z2.natAbs < 2 ^ 9000 := lt_pow (a := 70) (by omega) (by decide)
      walk_at "go"
      intro bt H5 b0 b1 B6 K6
      have hf5 := K6 _ _ (K5 _ _ (Same.new hp2 _ _ hf3) nf2) nf2
      have bn : (1 + bt) ≠ 0 := by omega
      refine ⟨_, _, rfl, rfl, _, _, rfl, bn, lt_pow (a := 70) (by omega) (by decide), fun p hp => ?_⟩
      have hf6 := Same.new (o := .tup [.int (Rat.divInt tp (1 + bt)).num, .int ((Rat.divInt tp (1 + bt)).den : Int)]) hp _ _ hf5
      refine ⟨f, xs, _, rfl, rfl, hf6, Nat.lt_of_le_of_lt (by omega : xs.length ≤ 8) (by decide), ?_⟩
      have k1 : Kp g H' (upd H5 p (.tup [.int (Rat.divInt tp (1 + bt)).num, .int ((Rat.divInt tp (1 + bt)).den : Int)])) := ((((Kp.same (Same.new hp1)).trans K3).trans K4).trans (((Kp.same (Same.new hp2)).trans K5).trans K6)).trans (Kp.same (Same.new hp))
      refine ⟨xs ++ [.ref p], qs ++ [Rat.divInt tp (1 + bt)], _, _, rfl, upd_same, by rw [List.length_append, hx]; rfl, ?_, ?_, ?_⟩
      · obtain ⟨gs, hg⟩ := B2.lst
        refine (hA.mono fun x q h => ⟨(h.1.kp hg k1).lput hf6, h.2⟩).app (.one ⟨⟨p, rfl, ?_⟩, ?_⟩)
        · rw [upd_ne (ne_of upd_same hf6 (by intro z; cases z))]
          exact upd_same
        · refine ⟨?_, ?_, ?_⟩
          · exact Rat.divInt_nonneg (by omega) (by omega)
          · exact Nat.lt_of_le_of_lt num_le (by omega)
          · exact Nat.le_trans (den_le bn) (by omega)
      · exact (B6.new hp).put ⟨nf.1, nf.2⟩
      · exact (K2.trans k1).put hf
    · rintro σ' H' ⟨xs, qs, o1, o2, rfl, hf', hx, hA, B2, K2⟩
      exact ⟨_, rfl, k f xs qs H' hf hf' hA (by omega) B2 K2⟩
theorem ok_l_handed_out (T : Txt K mg A) : FnOk P w K mg base CX0 6 A.l_handed_out A.fd_l_handed_out P_l_handed_out (spHanded A.Ratio) := by
  refine T.F_l_handed_out.ok sc_l_handed_out (fun vs H Q E h => ?_) (fun cdv Ar outer s H vs Q E hr h => ?_)
  · obtain ⟨g, l, a, xs, qs, rfl, _⟩ := h
    rfl
  · obtain ⟨g, l, a, xs, qs, rfl, hB, ha, nag, hA, hlen, k⟩ := h
    refine ⟨_, (pss_cons (ps_set (i := 2) sc_l_handed_out.nd rfl (Or.inl rfl) (pe_lst pa_nil))
      (pss_cons (ps_g (ps_for PassesOwn.never rfl (pi_list (pv 1)) (pg_tup (n := 2) rfl (pgs_cons (pg_name (i := 3) sc_l_handed_out.nd rfl (Or.inl rfl)) (pgs_cons (pg_name (i := 4) sc_l_handed_out.nd rfl (Or.inl rfl)) pgs_nil))) (pss_cons (ps_set (i := 5) sc_l_handed_out.nd rfl (Or.inl rfl) (pe_make T.mk_Ratio (ok_m_Ratio_init T) (hr.mono (by decide)) (by rfl) T.g_Ratio T.b_m_Ratio_init .nil passL (pa_cons (pv 3) (pa_cons (pv 4) pa_nil))))
      (pss_g (Evl.pss_cut (ps_if (PW.pt (pw_and (pt_cmpR op_eq (pv 4) pe_int (nomark _)) (pw_and1 (pt_cmpR op_eq (pe_call (ok_l_draw T) (hr.mono (by decide)) (by rfl) T.g__law_draw T.F_l_draw.kp T.b_l_draw .nil pass0 (pa_cons (pv 0) (pa_cons pe_int pa_nil))) pe_int (nomark _))))) (pss_one (ps_set (i := 5) sc_l_handed_out.nd rfl (Or.inl rfl) (pv 3))) pss_nil)
      (pss_one (ps_expr (pe_bm PySem.F.plainAttrs_list PySem.F.slot_list_append PySem.F.type_list_append mt_append (pv 2) (pa_cons (pv 5) pa_nil)))))))))
      (pss_one (ps_ret (pv 2))))), ?_⟩
    walk_at "go"
    intro f hf
    have nf := hB.ne hf
    have naf := ne_of_none ha hf
    obtain ⟨gs, hg⟩ := hB.lst
    have B0 := hB.new (o := .lst []) hf
    refine ⟨⟨_, rfl, a, rfl, ⟨_, SqL.of (Same.new hf _ _ ha)⟩, for_list (K := K) (a := a) (xs := xs) (fun i σ' H' => Wd (∃ (ys : List V) (o1 o2 o3 : Option V), σ' = [some (.ref g), some (.ref a), some (.ref f), o1, o2, o3] ∧ H' f = some (.lst ys) ∧
      All2 (fun x q => IsN A.Ratio H' x q ∧ Sz 80 q) ys (qs.take i) ∧ Bag H' g l ∧ Kp g H H'))
      ⟨[], none, none, none, rfl, upd_same, .nil, B0, (Kp.refl g H).put hf⟩ (fun i σ' H' _ ⟨_, _, _, _, _, _, _, _, K1⟩ => SqL.of (K1 _ _ ha nag)) ?_ ?_⟩⟩
    · rintro i y σ' H' hi ⟨ys, o1, o2, o3, rfl, hf', hA', B1, K1⟩
      obtain ⟨q, hq, ht, hm⟩ := hA.get hi
      obtain ⟨t, rfl, ht'⟩ := ht.kp hg K1
      refine ⟨t, _, rfl, SqT.of ht', rfl, _, _, rfl, _, _, rfl, rfl, ?_⟩
      have hd := q.den_nz
      have hy : ys.length ≤ 8 := by
        rw [hA'.1, List.length_take]
        have := hA.1
        omega
      obtain ⟨m0, m1, m2⟩ := hm
      refine ⟨_, rfl, _, rfl, fun x dx hx hdx _ => mk_ratio hx hdx (lt_pow (a := 70) (by omega) (by decide)) (fun e => by omega) (fun _ H2 s2 i2 => ⟨rfl, ?_⟩)⟩
      rw [Rat.num_divInt_den] at i2
      have B2 := B1.keep s2
      have hf2 := s2 _ _ hf'
      have hA2 : All2 (fun x q => IsN A.Ratio H2 x q ∧ Sz 80 q) ys (qs.take i) := hA'.mono fun x q h => ⟨h.1.same s2, h.2⟩
      have K2 := K1.trans (Kp.same s2)
      have sq : Sz 80 q := ⟨lt_pow m1 (by decide), Nat.lt_of_le_of_lt m2 (by decide)⟩
      refine ⟨⟨fun σ' H' => Wd (∃ v, σ' = [some (.ref g), some (.ref a), some (.ref f), some (.int q.num), some (.int (q.den : Int)), some v] ∧ IsN A.Ratio H' v q ∧ H' f = some (.lst ys) ∧
        All2 (fun x q => IsN A.Ratio H' x q ∧ Sz 80 q) ys (qs.take i) ∧ Bag H' g l ∧ Kp g H H'), ?_, ?_⟩⟩
      · walk_at "go"
        refine if_int (fun e1 => ?_) (fun e1 => ?_)
        · walk_at "go"
          intro n H3 n0 n1 B3 K3
          obtain ⟨gs2, hg2⟩ := B2.lst
          walk_at "go"
          have hf3 := K3 _ _ hf2 nf.1
          have hA3 : All2 (fun x q => IsN A.Ratio H3 x q ∧ Sz 80 q) ys (qs.take i) := hA2.mono fun x q h => ⟨h.1.kp hg2 K3, h.2⟩
          refine if_int (fun e2 => ?_) (fun e2 => ?_)
          · walk_at "go"
            refine ⟨_, rfl, .inr ⟨q.num, rfl, ?_⟩, hf3, hA3, B3, K2.trans K3⟩
            have hd1 : q.den = 1 := by omega
            exact Rat.ext rfl hd1
          · exact ⟨_, rfl, .inl (i2.kp hg2 K3), hf3, hA3, B3, K2.trans K3⟩
        · exact ⟨_, rfl, .inl i2, hf2, hA2, B2, K2⟩
      · rintro σ' H3 ⟨v, rfl, hv, hf3, hA3, B3, K3⟩
        refine ⟨_, rfl, .inl ⟨rfl, _, SqL.of hf3⟩, _, rfl, f, ys, _, rfl, rfl, hf3, Nat.lt_of_le_of_lt hy (by decide), ?_⟩
        refine ⟨ys ++ [v], _, _, _, rfl, upd_same, ?_, B3.put nf, K3.put hf⟩
        rw [take_more hq]
        exact (hA3.mono fun x q h => ⟨h.1.lput hf3, h.2⟩).app (.one ⟨hv.lput hf3, sq⟩)
    · rintro σ' H' ⟨ys, o1, o2, o3, rfl, hf', hA', B1, K1⟩
      rw [hA.1, List.take_length] at hA'
      exact ⟨_, rfl, k f ys H' hf hf' hA' B1 K1⟩
theorem ok_l_common (T : Txt K mg A) : FnOk P w K mg base CX0 2 A.l_common A.fd_l_common P_l_common spCommon := by
  refine T.F_l_common.ok sc_l_common (fun vs H Q E h => ?_) (fun cdv Ar outer s H vs Q E hr h => ?_)
  · obtain ⟨a, xs, qs, rfl, _⟩ := h
    rfl
  · obtain ⟨a, xs, qs, rfl, ha, hA, hlen, k⟩ := h
    refine ⟨_, (pss_cons (ps_set (i := 1) sc_l_common.nd rfl (Or.inr rfl) pe_int)
      (pss_cons (ps_g (ps_for PassesOwn.never rfl (pi_list (pv 0)) (pg_tup (n := 2) rfl (pgs_cons (pg_name (i := 2) sc_l_common.nd rfl (Or.inl rfl)) (pgs_cons (pg_name (i := 3) sc_l_common.nd rfl (Or.inl rfl)) pgs_nil))) (pss_one (ps_set (i := 1) sc_l_common.nd rfl (Or.inr rfl) (pe_op op_fdiv (pe_op op_mul (pv 1) (pv 3)) (pe_call (ok_l_divisor T) (hr.mono (by decide)) (by rfl) T.g__law_divisor T.F_l_divisor.kp T.b_l_divisor .nil pass0 (pa_cons (pv 1) (pa_cons (pv 3) pa_nil))))))))
      (pss_one (ps_ret (pe_g (pe_lcV (own := [("_law_top", 2), ("_law_part", 3)]) rfl sc_l_common.nd (pi_list (pv 0)) (blkOk_by (own := [("_law_top", 2), ("_law_part", 3)]) (N := N_l_common) (sc := defScope s_l_common) (by decide +kernel)) (fun _ _ _ _ _ => (pg_tup (n := 2) rfl (pgs_cons (pg_name (i := 2) sc_l_common.nd rfl (Or.inl rfl)) (pgs_cons (pg_name (i := 3) sc_l_common.nd rfl (Or.inl rfl)) pgs_nil)))) (fun _ _ _ _ _ => pts_nil) (fun _ _ _ _ _ => (pe_op op_mul (pv 2) (pe_op op_fdiv (pv 1) (pv 3)))) (fun _ _ _ _ _ => rfl) (fun _ _ _ _ _ => rfl) (fun _ _ _ _ _ => rfl))))))), ?_⟩
    refine ⟨⟨_, rfl, a, rfl, ⟨_, SqL.of ha⟩, for_list (K := K) (a := a) (xs := xs) (fun i σ' H' => Wd (∃ (L : Int) (o1 o2 : Option V), σ' = [some (.ref a), some (.int L), o1, o2] ∧ 0 < L ∧ L ≤ 100 ^ i ∧ (∀ (j : Nat) q, qs[j]? = some q → j < i → (q.den : Int) ∣ L) ∧ H' = H))
      ⟨1, none, none, rfl, by decide, by decide, fun j q _ h => absurd h (Nat.not_lt_zero j), rfl⟩ (fun i σ' H' _ ⟨_, _, _, _, _, _, _, e⟩ => by rw [e]; exact SqL.of ha) ?_ ?_⟩⟩
    · rintro i y σ' H' hi ⟨L, o1, o2, rfl, L0, L1, Ld, rfl⟩
      obtain ⟨q, hq, ⟨t, rfl, ht⟩, m0, m1, m2⟩ := hA.get hi
      have hd := q.den_pos
      obtain ⟨a1, a2, a3, a4, a5, a6⟩ := lcm_step L0 (by omega : 0 < (q.den : Int))
      refine ⟨t, _, rfl, SqT.of ht, rfl, _, _, rfl, _, _, rfl, rfl, ?_⟩
      refine ⟨_, rfl, _, rfl, _, _, rfl, rfl, .inr ⟨by omega, by omega⟩, _, rfl, _, rfl, _, _, rfl, by omega, by omega, _, _, rfl, rfl, ⟨a5, by omega⟩, ?_⟩
      refine ⟨_, _, _, rfl, a1, ?_, ?_, rfl⟩
      · have h1 : L * (q.den : Int) ≤ L * 100 := Int.mul_le_mul_of_nonneg_left (by omega) (by omega)
        have h2 : (100 : Int) ^ (i + 1) = 100 ^ i * 100 := Int.pow_succ ..
        rw [h2]
        have h3 : L * 100 ≤ 100 ^ i * 100 := Int.mul_le_mul_of_nonneg_right L1 (by decide)
        exact Int.le_trans a2 (Int.le_trans h1 h3)
      · intro j r hr hj
        by_cases e : j = i
        · subst e
          rw [hq] at hr
          cases hr
          exact a4
        · exact Int.dvd_trans (Ld j r hr (by omega)) a3
    · rintro σ' H' ⟨L, o1, o2, rfl, L0, L1, Ld, rfl⟩
      have hL : L ≤ 10 ^ 16 := by
        have : (100 : Int) ^ xs.length ≤ 100 ^ 8 := by
          have := Nat.pow_le_pow_right (by decide : 0 < 100) hlen
          have e : ∀ n : Nat, (100 : Int) ^ n = ((100 ^ n : Nat) : Int) := fun n => by simp
          rw [e, e]
          omega
        exact Int.le_trans L1 (Int.le_trans this (by decide))
      refine ⟨⟨_, rfl, a, rfl, ⟨_, SqL.of ha⟩, fun D hD => lc_same (K := K) (fun i => V.int ((qs.getD i 0).num * (L / ((qs.getD i 0).den : Int)))) ha (by omega) hD ?_ ?_⟩⟩
      · intro i x H2 N M hi s hN
        obtain ⟨q, hq, ht, m0, m1, m2⟩ := hA.get hi
        obtain ⟨t, rfl, ht'⟩ := ht.same s
        have hd := q.den_pos
        have h0 : 0 ≤ L / (q.den : Int) := Int.ediv_nonneg (by omega) (by omega)
        have h1 : L / (q.den : Int) ≤ L := Int.ediv_le_self _ (by omega)
        have k := hN H2 (Same.refl _)
        rw [List.getD_eq_getElem?_getD, hq] at k
        refine ⟨t, _, rfl, SqT.of ht', rfl, _, _, rfl, _, _, rfl, rfl, rfl, ?_⟩
        exact ⟨_, rfl, _, rfl, _, rfl, _, _, rfl, rfl, ⟨by omega, by omega⟩, _, _, rfl, rfl, .inr ⟨by omega, by omega⟩, k⟩
      · intro H2 s2 hD2
        refine k D ((List.range xs.length).map fun i => (qs.getD i 0).num * (L / ((qs.getD i 0).den : Int))) L H2 hD (by rw [List.map_map]; exact hD2) L0 ⟨by rw [List.length_map, List.length_range, hA.1], fun i w q hw hq => ?_⟩ s2
        rw [List.getElem?_map] at hw
        have hi : i < xs.length := by rw [hA.1]; exact (List.getElem?_eq_some_iff.mp hq).1
        rw [List.getElem?_range hi] at hw
        cases hw
        show ((((qs.getD i 0).num * (L / ((qs.getD i 0).den : Int)) : Int)) : Rat) = _ ∧ ((qs.getD i 0).num * (L / ((qs.getD i 0).den : Int))).natAbs < _
        rw [List.getD_eq_getElem?_getD, hq]
        refine ⟨wt_at (Ld i q hq hi), ?_⟩
        obtain ⟨_, m0, m1, m2⟩ := hA.2 i _ _ (List.getElem?_eq_getElem hi) hq
        have hd := q.den_pos
        have h0 : 0 ≤ L / (q.den : Int) := Int.ediv_nonneg (by omega) (by omega)
        have h1 : L / (q.den : Int) ≤ L := Int.ediv_le_self _ (by omega)
        exact mul_lt (a := 70) (b := 70) m1 (Nat.lt_of_le_of_lt (by omega : (L / (q.den : Int)).natAbs ≤ 10 ^ 16) (by decide))
end

theorem atI_nat {α : Type} {xs : List α} {i : Nat} {x : α} (h : xs[i]? = some x) : atI xs (0 + (i : Int)) = some x := by
  have hi : i < xs.length := (List.getElem?_eq_some_iff.mp h).1
  unfold atI ixN
  rw [if_pos (by omega), if_pos (by omega)]
  show xs[(0 + (i : Int)).toNat]? = _
  rw [show (0 + (i : Int)).toNat = i by omega]
  exact h
def spRight : Sp := fun vs H Q _ => ∃ (a b : Addr) (c : Int) (ps ws : List Int), vs = [.ref a, .int c, .ref b] ∧ H a = some (.lst (ps.map V.int)) ∧ H b = some (.lst (ws.map V.int)) ∧ Right c ps ws ∧ ws.length ≤ 8 ∧ c.natAbs < 2 ^ 200 ∧
  (∀ (i : Nat) w, ws[i]? = some w → w.natAbs < 2 ^ 140) ∧ ∀ H', Same H H' → Q (.bl true) H'
def spRefused (C : Addr) : Sp := fun vs H Q _ => ∃ (l : Addr) (c : Int) (xs : List V) (qs : List Rat), vs = [.int c, .ref l] ∧ H l = some (.lst xs) ∧ All2 (fun x q => IsN C H x q ∧ Sz 80 q) xs qs ∧ xs.length ≤ 20 ∧ c.natAbs < 2 ^ 200 ∧
  ((∃ q ∈ qs, q < 0) ∨ rsum qs = 0) ∧ ∀ H', Same H H' → Q (.bl true) H'
def NumL (C : Addr) (H : Hp) (xs : List V) (qs : List Rat) : Prop := All2 (fun x q => IsN C H x q ∧ Sz 80 q) xs qs
theorem NumL.same {C : Addr} {H H' : Hp} {xs : List V} {qs : List Rat} (h : NumL C H xs qs) (s : Same H H') : NumL C H' xs qs := All2.mono h fun x q z => ⟨z.1.same s, z.2⟩
theorem num_int {C : Addr} {H : Hp} {n : Int} (h : n.natAbs < 2 ^ 80) : IsN C H (.int n) (n : Rat) ∧ Sz 80 (n : Rat) := ⟨.inr ⟨n, rfl, rfl⟩, .int h (by decide)⟩
theorem NumL.int {C : Addr} {H : Hp} {n : Int} (h : n.natAbs < 2 ^ 80) : NumL C H [.int n] [(n : Rat)] := All2.one (num_int h)
theorem NumL.rat {C : Addr} {H : Hp} {v : V} {q : Rat} (h : IsR C H v q) (z : Sz 80 q) : NumL C H [v] [q] := All2.one ⟨.inl h, z⟩
theorem NumL.app {C : Addr} {H : Hp} {xs us : List V} {qs rs : List Rat} (h : NumL C H xs qs) (k : NumL C H us rs) : NumL C H (xs ++ us) (qs ++ rs) := All2.app h k
theorem NumL.kp {C g l : Addr} {H H' : Hp} {xs : List V} {qs : List Rat} (h : NumL C H xs qs) (b : Bag H g l) (k : Kp g H H') : NumL C H' xs qs := by
  obtain ⟨gs, hg⟩ := b.lst
  exact All2.mono h fun x q z => ⟨z.1.kp hg k, z.2⟩
theorem NumL.flat {C : Addr} {H : Hp} {xs : List V} {qs : List Rat} (h : NumL C H xs qs) : ∀ x ∈ xs, flatB x = true ∨ ∃ a, x = .ref a := fun x hx => by
  obtain ⟨i, hi, e⟩ := List.getElem_of_mem hx
  obtain ⟨q, hq, hn, _⟩ := All2.get h (by rw [List.getElem?_eq_getElem hi, e] : xs[i]? = some x)
  rcases hn with ⟨p, dx, rfl, _⟩ | ⟨n, rfl, _⟩
  · exact .inr ⟨p, rfl⟩
  · exact .inl rfl
theorem NumL.cut {C : Addr} {H : Hp} {xs : List V} {qs : List Rat} (h : NumL C H xs qs) (lo hi : Option Int) : ∃ rs, NumL C H (cutV xs lo hi) rs := ⟨_, (All2.drop h _).take _⟩
section
variable {P : Program} {w : World} {K : PySem.W.Frag} {mg : Str → Option Value} {base : Heap} {A : Ad}
theorem exm_NoRatio (T : Txt K mg A) : PySem.W.exmOne K (.ref A.NoRatio) (.ref A.NoRatio) = some true := PySem.W.exm_ref T.eb_NoRatio T.eh_NoRatio T.et_NoRatio T.es_NoRatio
theorem excC_NoRatio (T : Txt K mg A) : ExcC K A.NoRatio := ⟨T.xg_NoRatio, T.xk_NoRatio, T.eb_NoRatio, T.eh_NoRatio, T.xa_NoRatio, T.xn_NoRatio, T.xt_NoRatio, T.xm_NoRatio⟩
theorem ok_l_dealt_right (T : Txt K mg A) : FnOk P w K mg base CX0 2 A.l_dealt_right A.fd_l_dealt_right P_l_dealt_right spRight := by
  refine T.F_l_dealt_right.ok sc_l_dealt_right (fun vs H Q E h => ?_) (fun cdv Ar outer s H vs Q E hr h => ?_)
  · obtain ⟨a, b, c, ps, ws, rfl, _⟩ := h
    rfl
  · obtain ⟨a, b, c, ps, ws, rfl, ha, hb, R, hlen, hc, hw, k⟩ := h
    refine ⟨_, (pss_cons (ps_if (PW.pt (pw_or (pt_not (pt_val (pe_callB call_isi (by rfl) T.z_isinstance (by decide +kernel) (pa_cons (pv 0) (pa_cons (pe_bltn (v := .ty "list") (by rfl) T.z_list (by decide +kernel) rfl) pa_nil))))) (pw_or (pt_cmpR op_ne (pe_callB call_len_seq (by rfl) T.z_len (by decide +kernel) (pa_cons (pv 0) pa_nil)) (pe_callB call_len_seq (by rfl) T.z_len (by decide +kernel) (pa_cons (pv 2) pa_nil)) (nomark _)) (pw_or1 (pt_not (pt_val (pe_callB (cr_all rfl) (by rfl) T.z_all (by decide +kernel) (pa_cons (pe_g (pe_lcV (own := [("_law_part", 7)]) rfl sc_l_dealt_right.nd (pi_list (pv 0)) (blkOk_by (own := [("_law_part", 7)]) (N := N_l_dealt_right) (sc := defScope s_l_dealt_right) (by decide +kernel)) (fun _ _ _ _ _ => (pg_name (i := 7) sc_l_dealt_right.nd rfl (Or.inl rfl))) (fun _ _ _ _ _ => pts_nil) (fun _ _ _ _ _ => (pe_call (ok_l_number T) (hr.mono (by decide)) (by rfl) T.g__law_number T.F_l_number.kp T.b_l_number .nil pass0 (pa_cons (pv 7) pa_nil))) (fun _ _ _ _ _ => rfl) (fun _ _ _ _ _ => rfl) (fun _ _ _ _ _ => rfl))) pa_nil)))))))) (pss_one (ps_ret pe_bl)) pss_nil)
      (pss_cons (ps_set (i := 3) sc_l_dealt_right.nd rfl (Or.inl rfl) (pe_callB (cr_sum rfl) (by rfl) T.z_sum (by decide +kernel) (pa_cons (pv 2) pa_nil)))
      (pss_cons (ps_set (i := 4) sc_l_dealt_right.nd rfl (Or.inl rfl) pe_int)
      (pss_cons (ps_set (i := 5) sc_l_dealt_right.nd rfl (Or.inl rfl) pe_int)
      (pss_cons (ps_g (ps_for PassesOwn.never rfl (pi_range1 rfl T.z_range (pa_cons (pe_callB call_len_seq (by rfl) T.z_len (by decide +kernel) (pa_cons (pv 2) pa_nil)) pa_nil)) (pg_name (i := 6) sc_l_dealt_right.nd rfl (Or.inl rfl)) (pss_cons (ps_set (i := 4) sc_l_dealt_right.nd rfl (Or.inl rfl) (pe_op op_add (pv 4) (pe_ix ix_list (pv 0) (pv 6) (fun _ _ => rfl))))
      (pss_cons (ps_set (i := 5) sc_l_dealt_right.nd rfl (Or.inl rfl) (pe_op op_add (pv 5) (pe_ix ix_list (pv 2) (pv 6) (fun _ _ => rfl))))
      (pss_cons (ps_if (pt_cmpR op_ne (pv 4) (pe_op op_fdivW (pe_op op_add (pe_op op_mulW (pe_op op_mul pe_int (pv 1)) (pv 5)) (pv 3)) (pe_op op_mul pe_int (pv 3))) (nomark _)) (pss_one (ps_ret pe_bl)) pss_nil)
      (pss_one (ps_if (pt_cmpR op_ge (pe_callB call_abs (by rfl) T.z_abs (by decide +kernel) (pa_cons (pe_op op_sub (pe_op op_mulW (pe_ix ix_list (pv 0) (pv 6) (fun _ _ => rfl)) (pv 3)) (pe_op op_mulW (pv 1) (pe_ix ix_list (pv 2) (pv 6) (fun _ _ => rfl)))) pa_nil)) (pv 3) (nomark _)) (pss_one (ps_ret pe_bl)) pss_nil)))))))
      (pss_one (ps_ret (pe_cmpR op_eq (pv 4) (pv 1) (nomark _))))))))), ?_⟩
    have hpl : (ps.map V.int).length ≤ 1000 := by rw [List.length_map, R.len]; omega
    refine ⟨_, rfl, _, _, _, _, _, rfl, .ty "list", .base (.lst ha), kit_ty (b := "list") (r := true) (by decide +kernel), _, rfl, iteF ?_⟩
    refine ⟨_, rfl, a, _, rfl, .inl (SqL.of ha), _, rfl, b, _, rfl, .inl (SqL.of hb), ?_⟩
    walk_at "go"
    refine if_intN (fun e => absurd (by rw [List.length_map, List.length_map, R.len]) e) (fun _ => ?_)
    refine ⟨⟨_, rfl, a, rfl, ⟨_, SqL.of ha⟩, fun D hD => lc_same (K := K) (fun _ => V.bl true) ha hpl hD ?_ ?_⟩⟩
    · intro i x H' N M hi s hN
      rw [List.getElem?_map] at hi
      obtain ⟨n, _, rfl⟩ := Option.map_eq_some_iff.mp hi
      exact ⟨rfl, _, rfl, n, rfl, hN H' (Same.refl _)⟩
    · intro H2 s2 hD2
      refine ⟨D, (List.range (ps.map V.int).length).map fun _ => true, rfl, by rw [List.map_map]; exact SqL.of hD2, _, rfl, ?_⟩
      have eb : (((List.range (ps.map V.int).length).map fun _ => true).all id) = true := by
        rw [List.all_eq_true]
        intro b hb
        obtain ⟨_, _, rfl⟩ := List.mem_map.mp hb
        rfl
      rw [eb]
      have hb2 := s2 _ _ hb
      have ha2 := s2 _ _ ha
      have hW := R.pos
      have hWl : ∀ i, i ≤ ws.length → (ws.take i).sum.natAbs < 2 ^ 150 := fun i hi => Nat.lt_of_le_of_lt (Nat.le_trans (sum_lt hw i hi) (Nat.mul_le_mul_right _ (by omega : i ≤ 8))) (by decide)
      have hWa : ws.sum.natAbs < 2 ^ 150 := by
        have := hWl ws.length (Nat.le_refl _)
        rw [List.take_length] at this
        exact this
      refine ⟨_, rfl, b, ws, rfl, SqL.of hb2, ?_⟩
      refine ⟨⟨_, rfl, b, _, rfl, .inl (SqL.of hb2), _, rfl, by omega, (by rw [List.length_map]; omega), for_range (lo := 0) (n := (ws.map V.int).length) (fun i σ' H' => Wd (∃ o6 o7 : Option V, σ' = [some (.ref a), some (.int c), some (.ref b), some (.int ws.sum), some (.int (ps.take i).sum), some (.int (ws.take i).sum), o6, o7] ∧ H' = H2))
        ⟨none, none, rfl, rfl⟩ ?_ ?_⟩⟩
      · rintro i σ' H' hi ⟨o6, o7, rfl, rfl⟩
        rw [List.length_map] at hi
        have hpi : ps[i]? = some (ps[i]'(by rw [R.len]; exact hi)) := List.getElem?_eq_getElem _
        have hwi : ws[i]? = some ws[i] := List.getElem?_eq_getElem hi
        generalize (ps[i]'(by rw [R.len]; exact hi)) = p at hpi
        generalize ws[i] = w' at hwi
        have pi : atI (ps.map V.int) (0 + (i : Int)) = some (.int p) := atI_nat (by rw [List.getElem?_map, hpi]; rfl)
        have wi : atI (ws.map V.int) (0 + (i : Int)) = some (.int w') := atI_nat (by rw [List.getElem?_map, hwi]; rfl)
        have u := R.upto i hi
        have li := R.lies i p w' hpi hwi
        have pl := R.lt hpi hwi hc (hw i _ hwi) hWa (by decide)
        have wl := hWl (i + 1) (by omega)
        rw [sum_more hpi, sum_more hwi] at u
        rw [sum_more hwi] at wl
        refine ⟨_, rfl, _, rfl, _, rfl, a, _, _, _, rfl, rfl, SqL.of ha2, pi, _, _, rfl, rfl, ?_⟩
        refine ⟨_, rfl, _, rfl, _, rfl, b, _, _, _, rfl, rfl, SqL.of hb2, wi, _, _, rfl, rfl, ?_⟩
        have c2 : (2 * c).natAbs < 2 ^ 201 := by omega
        have f1 : CMulW (2 * c) ((ws.take i).sum + w') := mulw c2 wl (by decide)
        have f2 : CMulW p ws.sum := mulw pl hWa (by decide)
        have f3 : CMulW c w' := mulw hc (hw i _ hwi) (by decide)
        have f4 : CDivW (2 * c * ((ws.take i).sum + w') + ws.sum) (2 * ws.sum) := wide_div (b := 9000) (by omega) (lt_pow (a := 151) (by omega) (by decide)) (by decide) (by decide)
        walk_at "go"
        refine if_intN (fun e => absurd u e) (fun _ => ?_)
        walk_at "go"
        refine if_dec (fun e => ?_) (fun _ => ?_)
        · exfalso
          split at e <;> omega
        · refine ⟨some (.int (0 + (i : Int))), o7, ?_, rfl⟩
          rw [sum_more hpi, sum_more hwi]
          rfl
      · rintro σ' H' ⟨o6, o7, rfl, rfl⟩
        have e : (ps.take (ws.map V.int).length).sum = c := by
          rw [List.length_map, ← R.len, List.take_length]
          exact R.all
        walk_at "go"
        rw [e, decide_eq_true rfl]
        exact k _ s2
theorem ok_l_refused (T : Txt K mg A) : FnOk P w K mg base CX0 13 A.l_refused A.fd_l_refused P_l_refused (spRefused A.Ratio) := by
  refine T.F_l_refused.ok sc_l_refused (fun vs H Q E h => ?_) (fun cdv Ar outer s H vs Q E hr h => ?_)
  · obtain ⟨l, c, xs, qs, rfl, _⟩ := h
    rfl
  · obtain ⟨l, c, xs, qs, rfl, hl, hA, hlen, hc, hbad, k⟩ := h
    refine ⟨_, (pss_cons (ps_set (i := 2) sc_l_refused.nd rfl (Or.inl rfl) pe_non)
      (pss_cons (ps_tryV (i := 3) rfl rfl sc_l_refused.nd rfl rfl ⟨by rfl, by decide, .inl T.g_NoRatio⟩ takes0 (fun W pn xe tk _ => (pss_one (ps_set (i := 2) sc_l_refused.nd rfl (Or.inl rfl) (pe_callS (ok_f_dealt T) (hr.mono (by decide)) (by rfl) T.g_dealt T.F_f_dealt.kp T.b_f_dealt (fun σ => passAt tk σ) (pa_cons (pv 0) (pa_cons (pv 1) pa_nil)))))) (fun a oe cls d pn hz hf => (pss_one (ps_ret (pe_and (pe_cmpR op_isN (pv 2) pe_non (nomark _)) (pe_one (pe_callB (call_isEV hz hf) (by rfl) T.z_isinstance (by decide +kernel) (pa_cons (pv 3) (pa_cons (pe_glob (v := .ref A.CostError) (by rfl) T.g_CostError rfl) pa_nil)))))))) (fun _ _ _ => rfl) (fun _ _ _ _ _ => rfl))
      (pss_one (ps_ret pe_bl)))), ?_⟩
    refine ⟨_, rfl, _, rfl, l, c, xs, qs, rfl, hl, hA, hlen, hc, fun _ H' s => ?_, fun h1 h2 => ?_⟩
    · refine ⟨true, exm_NoRatio T, fun _ a _ => ?_, fun q => nomatch q⟩
      walk_at "go"
      exact ⟨excC_NoRatio T, rfl, fun _ r => r, T.xc_NoRatio, k _ s⟩
    · exfalso
      rcases hbad with ⟨q, hm, hq⟩ | z
      · exact Rat.not_lt.mpr (h1 q hm) hq
      · exact h2 z
theorem ok_f_law (T : Txt K mg A) : FnOk P w K mg base CX0 14 A.f_law A.fd_f_law P_f_law (spLaw K) := by
  refine T.F_f_law.ok sc_f_law (fun vs H Q E h => ?_) (fun cdv Ar outer s H vs Q E hr h => ?_)
  · obtain ⟨a, ns, rfl, _⟩ := h
    rfl
  · obtain ⟨a, ns, rfl, hS, hlen, k⟩ := h
    refine ⟨_, (pss_cons (ps_set (i := 1) sc_f_law.nd rfl (Or.inl rfl) (pe_call (ok_l_bag T) (hr.mono (by decide)) (by rfl) T.g__law_bag T.F_l_bag.kp T.b_l_bag .nil pass0 (pa_cons (pv 0) pa_nil)))
      (pss_cons (ps_set (i := 2) sc_f_law.nd rfl (Or.inl rfl) (pe_call (ok_l_amounts T) (hr.mono (by decide)) (by rfl) T.g__law_amounts T.F_l_amounts.kp T.b_l_amounts .nil pass0 (pa_cons (pv 1) pa_nil)))
      (pss_cons (ps_set (i := 3) sc_f_law.nd rfl (Or.inl rfl) (pe_call (ok_l_integer T) (hr.mono (by decide)) (by rfl) T.g__law_integer T.F_l_integer.kp T.b_l_integer .nil pass0 (pa_cons (pv 1) pa_nil)))
      (pss_cons (ps_set (i := 4) sc_f_law.nd rfl (Or.inl rfl) (pe_call (ok_l_handed_out T) (hr.mono (by decide)) (by rfl) T.g__law_handed_out T.F_l_handed_out.kp T.b_l_handed_out .nil pass0 (pa_cons (pv 1) (pa_cons (pv 2) pa_nil))))
      (pss_cons (ps_set (i := 5) sc_f_law.nd rfl (Or.inl rfl) (pe_call (ok_l_common T) (hr.mono (by decide)) (by rfl) T.g__law_common T.F_l_common.kp T.b_l_common .nil pass0 (pa_cons (pv 2) pa_nil)))
      (pss_cons (ps_if (PW.pt (pw_or (pt_not (pt_val (pe_call (ok_l_refused T) (hr.mono (by decide)) (by rfl) T.g__law_refused T.F_l_refused.kp T.b_l_refused .nil pass0 (pa_cons (pv 3) (pa_cons (pe_lst pa_nil) pa_nil))))) (pw_or1 (pt_not (pt_val (pe_call (ok_l_refused T) (hr.mono (by decide)) (by rfl) T.g__law_refused T.F_l_refused.kp T.b_l_refused .nil pass0 (pa_cons (pv 3) (pa_cons (pe_lst (pa_cons pe_int (pa_cons (pe_make T.mk_Ratio (ok_m_Ratio_init T) (hr.mono (by decide)) (by rfl) T.g_Ratio T.b_m_Ratio_init_d1 T.dv_m_Ratio_init passL (pa_cons pe_int pa_nil)) pa_nil))) pa_nil)))))))) (pss_one (ps_ret pe_bl)) pss_nil)
      (pss_cons (ps_if (PW.pt (pw_or (pt_not (pt_val (pe_call (ok_l_refused T) (hr.mono (by decide)) (by rfl) T.g__law_refused T.F_l_refused.kp T.b_l_refused .nil pass0 (pa_cons (pv 3) (pa_cons (pe_op op_cat (pv 4) (pe_lst (pa_cons (pe_make T.mk_Ratio (ok_m_Ratio_init T) (hr.mono (by decide)) (by rfl) T.g_Ratio T.b_m_Ratio_init .nil passL (pa_cons (pe_un un_neg pe_int) (pa_cons pe_int pa_nil))) pa_nil))) pa_nil))))) (pw_or1 (pt_not (pt_val (pe_call (ok_l_refused T) (hr.mono (by decide)) (by rfl) T.g__law_refused T.F_l_refused.kp T.b_l_refused .nil pass0 (pa_cons (pv 3) (pa_cons (pe_op op_cat (pe_lst (pa_cons (pe_un un_neg pe_int) pa_nil)) (pv 4)) pa_nil)))))))) (pss_one (ps_ret pe_bl)) pss_nil)
      (pss_cons (ps_set (i := 6) sc_f_law.nd rfl (Or.inl rfl) (pe_call (ok_l_draw T) (hr.mono (by decide)) (by rfl) T.g__law_draw T.F_l_draw.kp T.b_l_draw .nil pass0 (pa_cons (pv 1) (pa_cons (pe_op op_add (pe_callB call_len_seq (by rfl) T.z_len (by decide +kernel) (pa_cons (pv 4) pa_nil)) pe_int) pa_nil))))
      (pss_cons (ps_set (i := 7) sc_f_law.nd rfl (Or.inl rfl) (pe_ix ix_list (pe_lst (pa_cons (pe_un un_neg pe_int) (pa_cons (pe_make T.mk_Ratio (ok_m_Ratio_init T) (hr.mono (by decide)) (by rfl) T.g_Ratio T.b_m_Ratio_init .nil passL (pa_cons (pe_un un_neg pe_int) (pa_cons pe_int pa_nil))) pa_nil))) (pe_call (ok_l_draw T) (hr.mono (by decide)) (by rfl) T.g__law_draw T.F_l_draw.kp T.b_l_draw .nil pass0 (pa_cons (pv 1) (pa_cons pe_int pa_nil))) (fun _ _ => rfl)))
      (pss_cons (ps_if (pt_not (pt_val (pe_call (ok_l_refused T) (hr.mono (by decide)) (by rfl) T.g__law_refused T.F_l_refused.kp T.b_l_refused .nil pass0 (pa_cons (pv 3) (pa_cons (pe_op op_cat (pe_op op_cat (pe_op op_cat (pe_slice sl_list (pv 4) po_none (po_some (pv 6))) (pe_lst (pa_cons (pv 7) pa_nil))) (pe_slice sl_list (pv 4) (po_some (pv 6)) po_none)) (pe_lst (pa_cons pe_int pa_nil))) pa_nil))))) (pss_one (ps_ret pe_bl)) pss_nil)
      (pss_cons (ps_if (pt_cmpR op_eq (pe_callB (cr_sum rfl) (by rfl) T.z_sum (by decide +kernel) (pa_cons (pv 5) pa_nil)) pe_int (nomark _)) (pss_one (ps_ret (pe_call (ok_l_refused T) (hr.mono (by decide)) (by rfl) T.g__law_refused T.F_l_refused.kp T.b_l_refused .nil pass0 (pa_cons (pv 3) (pa_cons (pv 4) pa_nil))))) pss_nil)
      (pss_cons (ps_set (i := 8) sc_f_law.nd rfl (Or.inl rfl) (pe_callTy call_list_of (by rfl) T.z_list (by decide +kernel) (pa_cons (pv 4) pa_nil)))
      (pss_cons (ps_g (ps_for PassesOwn.never rfl (pi_range1 rfl T.z_range (pa_cons pe_int pa_nil)) (pg_name (i := 9) sc_f_law.nd rfl (Or.inl rfl)) (pss_cons (ps_set (i := 10) sc_f_law.nd rfl (Or.inl rfl) (pe_call (ok_f_dealt T) (hr.mono (by decide)) (by rfl) T.g_dealt T.F_f_dealt.kp T.b_f_dealt .nil passL (pa_cons (pv 3) (pa_cons (pv 4) pa_nil))))
      (pss_cons (ps_if (PW.pt (pw_or (pt_not (pt_val (pe_call (ok_l_dealt_right T) (hr.mono (by decide)) (by rfl) T.g__law_dealt_right T.F_l_dealt_right.kp T.b_l_dealt_right .nil pass0 (pa_cons (pv 10) (pa_cons (pv 3) (pa_cons (pv 5) pa_nil)))))) (pw_or1 (pt_cmpR (op_neL hr.units) (pv 4) (pv 8) (nomark _))))) (pss_one (ps_ret pe_bl)) pss_nil)
      (pss_one (ps_expr (pe_bm0 PySem.F.plainAttrs_list PySem.F.slot_list_clear PySem.F.type_list_clear mt_clear (pv 10))))))))
      (pss_one (ps_ret pe_bl))))))))))))))), ?_⟩
    walk_at "go"
    intro g l H1 s1 hg hl B1
    walk_at "go"
    intro am xs qs H2 ham hx2 hA2 xl B2 K2
    walk_at "go"
    intro c H3 hc3 B3 K3
    have nam := (B1.ne ham).1
    have hx3 := K3 _ _ hx2 nam
    obtain ⟨gs2, hg2⟩ := B2.lst
    have hA3 : All2 (fun x q => IsT H3 x q ∧ Am q) xs qs := hA2.mono fun x q h => ⟨h.1.kp hg2 K3, h.2⟩
    refine ⟨_, rfl, _, rfl, g, l, am, xs, qs, rfl, B3, hx3, nam, hA3, xl, fun hd ys H4 hhd hy4 hN4 B4 K4 => ?_⟩
    have hc : c.natAbs < 2 ^ 200 := lt200 hc3
    have hx4 := K4 _ _ hx3 nam
    obtain ⟨gs3, hg3⟩ := B3.lst
    have hA4 : All2 (fun x q => IsT H4 x q ∧ Am q) xs qs := hA3.mono fun x q h => ⟨h.1.kp hg3 K4, h.2⟩
    have yl : ys.length ≤ 8 := by
      rw [hN4.1, ← hA2.1]
      exact xl
    have e0 : Rat.divInt 0 1 = (0 : Rat) := by decide +kernel
    have sR : ∀ {n d : Int}, n.natAbs < 2 ^ 80 → d.natAbs < 2 ^ 80 → d ≠ 0 → Sz 80 (Rat.divInt n d) := fun h1 h2 h3 => Sz.div h1 h2 h3
    have hN4' : NumL A.Ratio H4 ys qs := hN4
    refine ⟨_, rfl, am, xs, qs, rfl, hx4, hA4, xl, fun wp ws L H5 hwp hw5 L0 hW s5 => ?_⟩
    -- []
    refine ⟨_, rfl, by walk_at "fact", fun q1 hq1 => ⟨q1, c, [], [], rfl, upd_same, .nil, by decide, hc, .inr rfl, fun H6 s6 => ⟨_, rfl, iteF ?_⟩⟩⟩
    have t6 : Same H5 H6 := (Same.new hq1).trans s6
    -- [0, Ratio(0)]
    refine ⟨_, rfl, fun x1 d1 hx1 hd1 _ => mk_ratio hx1 hd1 (lt_pow (a := 1) (by decide) (by decide)) (fun e => by cases e) (fun _ H7 s7 i7 => ⟨rfl, by walk_at "fact", fun q2 hq2 => ?_⟩)⟩
    rw [e0] at i7
    refine ⟨q2, c, _, [((0 : Int) : Rat), 0], rfl, upd_same, .cons (num_int (by decide)) (.one ⟨.inl (i7.same (Same.new hq2)), ⟨by decide, by decide⟩⟩), (by show 2 ≤ 20; decide), hc, .inr (by decide +kernel), fun H8 s8 => ⟨_, rfl, ?_⟩⟩
    have t8 : Same H5 H8 := t6.trans (s7.trans ((Same.new hq2).trans s8))
    -- handed + [Ratio(-1, 3)]
    have hy8 := t8 _ _ (s5 _ _ hy4)
    refine ⟨_, rfl, _, rfl, _, rfl, fun x2 d2 hx2 hd2 _ => mk_ratio hx2 hd2 (lt_pow (a := 2) (by decide) (by decide)) (fun e => by cases e) (fun _ H9 s9 i9 => ⟨rfl, by walk_at "fact", fun q3 hq3 => ?_⟩)⟩
    have hy9 := s9 _ _ hy8
    have y1000 : ∀ n, n ≤ 30 → ys.length + n ≤ sizeLine := fun n hn => Nat.le_trans (by omega : ys.length + n ≤ 1000) (by decide)
    refine ⟨hd, q3, ys, _, rfl, rfl, Same.new hq3 _ _ hy9, upd_same, y1000 1 (by decide), fun q4 hq4 => ?_⟩
    have t9 : Same H5 (upd (upd H9 q3 (.lst [.ref x2])) q4 (.lst (ys ++ [.ref x2]))) := (t8.trans s9).trans ((Same.new hq3).trans (Same.new hq4))
    have hR1 : Rat.divInt (-1) 3 < 0 := by decide +kernel
    refine ⟨q4, c, _, qs ++ [Rat.divInt (-1) 3], rfl, upd_same, (hN4'.same (s5.trans t9)).app (.one ⟨.inl (i9.same ((Same.new hq3).trans (Same.new hq4))), sR (by decide) (by decide) (by decide)⟩), ?_, hc, .inl ⟨_, List.mem_append_right _ List.mem_cons_self, hR1⟩, fun H10 s10 => ⟨_, rfl, iteF ?_⟩⟩
    · rw [List.length_append]
      show ys.length + 1 ≤ 20
      omega
    have t10 := t9.trans s10
    have hy10 := t10 _ _ (s5 _ _ hy4)
    -- [-1] + handed
    refine ⟨_, rfl, _, rfl, by walk_at "fact", fun q5 hq5 => ⟨_, rfl, q5, hd, _, ys, rfl, rfl, upd_same, Same.new hq5 _ _ hy10, (by show 1 + ys.length ≤ sizeLine; have := y1000 1 (by decide); omega), fun q6 hq6 => ?_⟩⟩
    have t11 : Same H5 (upd (upd H10 q5 (.lst [.int (-1)])) q6 (.lst ([.int (-1)] ++ ys))) := t10.trans ((Same.new hq5).trans (Same.new hq6))
    have hR2 : (((-1 : Int)) : Rat) < 0 := by decide +kernel
    refine ⟨q6, c, _, [((-1 : Int) : Rat)] ++ qs, rfl, upd_same, (NumL.int (by decide)).app (hN4'.same (s5.trans t11)), ?_, hc, .inl ⟨_, List.mem_append_left _ List.mem_cons_self, hR2⟩, fun H12 s12 => ⟨_, rfl, ?_⟩⟩
    · rw [List.length_append]
      show 1 + ys.length ≤ 20
      omega
    have t12 := t11.trans s12
    have s45 := s5.trans t12
    have hy12 := s45 _ _ hy4
    have B12 := B4.keep s45
    have hb9 : ((ys.length : Int) + 1).natAbs < 2 ^ 9000 := lt_pow (a := 10) (by omega) (by decide)
    -- where a bad one goes
    refine ⟨_, rfl, _, rfl, hd, ys, rfl, .inl (SqL.of hy12), _, _, rfl, rfl, g, l, _, rfl, B12, by omega, hb9, fun sp H13 sp0 sp1 B13 K13 => ?_⟩
    have nhd := (B3.ne hhd).1
    have nwp := (B4.ne hwp).1
    have hy13 := K13 _ _ hy12 nhd
    have hw12 := t12 _ _ hw5
    have hw13 := K13 _ _ hw12 nwp
    have hN13 := (hN4'.same s45).kp B12 K13
    refine ⟨_, rfl, _, rfl, fun x3 d3 hx3 hd3 _ => mk_ratio hx3 hd3 (lt_pow (a := 10) (by decide) (by decide)) (fun e => by cases e) (fun _ H14 s14 i14 => ⟨rfl, by walk_at "fact", fun q7 hq7 => ?_⟩)⟩
    have s14' : Same H13 (upd H14 q7 (.lst [.int (-1), .ref x3])) := s14.trans (Same.new hq7)
    have B14 := B13.keep s14'
    refine ⟨_, rfl, g, l, _, rfl, B14, by decide, by decide, fun bi H15 b0 b1 B15 K15 => ?_⟩
    have hR3 : Rat.divInt (-1) 1000 < 0 := by decide +kernel
    have nq7 := (B13.keep s14 |>.ne hq7).1
    have hl15 := K15 _ _ upd_same nq7
    obtain ⟨gs14, hg14⟩ := B14.lst
    obtain ⟨bv, bq, hbv, hbq, hbn⟩ : ∃ (bv : V) (bq : Rat), atI [V.int (-1), .ref x3] bi = some bv ∧ NumL A.Ratio H15 [bv] [bq] ∧ bq < 0 := by
      have : bi = 0 ∨ bi = 1 := by omega
      rcases this with rfl | rfl
      · exact ⟨_, _, rfl, .int (by decide), hR2⟩
      · exact ⟨_, _, rfl, .rat ((i14.same (Same.new hq7)).kp hg14 K15) (sR (by decide) (by decide) (by decide)), hR3⟩
    refine ⟨q7, _, _, bv, rfl, rfl, SqL.of hl15, hbv, ?_⟩
    have hy15 := K15 _ _ (s14' _ _ hy13) nhd
    have hw15 := K15 _ _ (s14' _ _ hw13) nwp
    have hN15 := (hN13.same s14').kp B14 K15
    obtain ⟨r1, hr1⟩ := hN15.cut none (some sp)
    obtain ⟨r2, hr2⟩ := hN15.cut (some sp) none
    have l1 := cutV_length ys none (some sp)
    have l2 := cutV_length ys (some sp) none
    have big : ∀ n, n ≤ 1000 → n ≤ sizeLine := fun n hn => Nat.le_trans hn (by decide)
    refine ⟨_, rfl, _, rfl, _, rfl, sp, rfl, hd, ys, rfl, SqL.of hy15, fun u1 hu1 => ?_⟩
    have a1 := Same.new (o := .lst (cutV ys none (some sp))) hu1
    refine ⟨_, rfl, by walk_at "fact", fun u2 hu2 => ?_⟩
    have a2 := Same.new (o := .lst [bv]) hu2
    refine ⟨u1, u2, _, _, rfl, rfl, a2 _ _ upd_same, upd_same, big _ (by rw [List.length_singleton]; omega), fun u3 hu3 => ?_⟩
    have a3 := Same.new (o := .lst (cutV ys none (some sp) ++ [bv])) hu3
    refine ⟨_, rfl, _, rfl, sp, rfl, hd, ys, rfl, SqL.of (a3 _ _ (a2 _ _ (a1 _ _ hy15))), fun u4 hu4 => ?_⟩
    have a4 := Same.new (o := .lst (cutV ys (some sp) none)) hu4
    refine ⟨u3, u4, _, _, rfl, rfl, a4 _ _ upd_same, upd_same, big _ (by rw [List.length_append, List.length_singleton]; omega), fun u5 hu5 => ?_⟩
    have a5 := Same.new (o := .lst (cutV ys none (some sp) ++ [bv] ++ cutV ys (some sp) none)) hu5
    refine ⟨by walk_at "fact", fun u6 hu6 => ?_⟩
    have a6 := Same.new (o := .lst [.int 1000]) hu6
    refine ⟨u5, u6, _, _, rfl, rfl, a6 _ _ upd_same, upd_same, big _ (by rw [List.length_append, List.length_append, List.length_singleton, List.length_singleton]; omega), fun u7 hu7 => ?_⟩
    have a7 := Same.new (o := .lst (cutV ys none (some sp) ++ [bv] ++ cutV ys (some sp) none ++ [.int 1000])) hu7
    have aa := a1.trans (a2.trans (a3.trans (a4.trans (a5.trans (a6.trans a7)))))
    refine ⟨u7, c, _, (r1 ++ [bq] ++ r2) ++ [((1000 : Int) : Rat)], rfl, upd_same, (((hr1.app hbq).app hr2).app (.int (by decide))).same aa, ?_, hc,
      .inl ⟨bq, List.mem_append_left _ (List.mem_append_left _ (List.mem_append_right _ List.mem_cons_self)), hbn⟩, fun H16 s16 => ⟨_, rfl, ?_⟩⟩
    · rw [List.length_append, List.length_append, List.length_append, List.length_singleton, List.length_singleton]
      omega
    have t16 := aa.trans s16
    have hy16 := t16 _ _ hy15
    have hw16 := t16 _ _ hw15
    have hN16 := hN15.same t16
    have hWt : Wt L ws qs := ⟨hW.1, fun i w q h1 h2 => (hW.2 i w q h1 h2).1⟩
    have L0' : (L : Rat) ≠ 0 := fun z => by
      have : L = 0 := Rat.intCast_eq_zero_iff.mp z
      omega
    have qs0 : ∀ q ∈ qs, 0 ≤ q := fun q hq => by
      obtain ⟨i, hi, e⟩ := List.getElem_of_mem hq
      have hx : i < xs.length := by rw [hA2.1]; exact hi
      exact (hA2.2 i _ q (List.getElem?_eq_getElem hx) (by rw [List.getElem?_eq_getElem hi, e])).2.1
    have ws0 : ∀ w ∈ ws, 0 ≤ w := fun w hw => by
      obtain ⟨i, hi, e⟩ := List.getElem_of_mem hw
      have hq : i < qs.length := by rw [← hW.1]; exact hi
      have h1 := (hW.2 i w _ (by rw [List.getElem?_eq_getElem hi, e]) (List.getElem?_eq_getElem hq)).1
      have h2 : 0 ≤ qs[i] * (L : Rat) := Rat.mul_nonneg (qs0 _ (List.getElem_mem hq)) (Rat.intCast_nonneg.mpr (by omega))
      rw [← h1] at h2
      exact Rat.intCast_nonneg.mp h2
    refine ⟨_, rfl, wp, ws, rfl, SqL.of hw16, ?_⟩
    walk_at "go"
    refine if_int (fun e => ?_) (fun e => ?_)
    · refine ⟨_, rfl, _, rfl, hd, c, ys, qs, rfl, hy16, hN16, by omega, hc, .inr ?_, fun _ _ => k _⟩
      have h := hWt.all
      rw [e] at h
      have h' : rsum qs * (L : Rat) = 0 := h.symm
      rcases Rat.mul_eq_zero.mp h' with z | z
      · exact z
      · exact absurd z L0'
    have hWp : 0 < ws.sum := by
      have := sum_nonneg ws0
      omega
    have rq0 : rsum qs ≠ 0 := fun z => by
      have h := hWt.all
      rw [z, Rat.zero_mul] at h
      have : ws.sum = 0 := Rat.intCast_eq_zero_iff.mp h
      omega
    refine ⟨_, rfl, hd, ys, rfl, .inl (SqL.of hy16), fun kp hkp => ?_⟩
    have b1 := Same.new (o := .lst ys) hkp
    refine ⟨⟨_, rfl, by omega, by omega, for_range (lo := 0) (n := 2) (fun i σ' H' => Wd (∃ o9 o10 : Option V, σ' = [some (.ref a), some (.ref g), some (.ref am), some (.int c), some (.ref hd), some (.ref wp), some (.int sp), some bv, some (.ref kp), o9, o10] ∧ Same (upd H16 kp (.lst ys)) H'))
      ⟨none, none, rfl, Same.refl _⟩ ?_ ?_⟩⟩
    · rintro i σ' H' hi ⟨o9, o10, rfl, s'⟩
      have hy' := s' _ _ (b1 _ _ hy16)
      have hw' := s' _ _ (b1 _ _ hw16)
      have hk' := s' _ _ upd_same
      have hN' := (hN16.same b1).same s'
      refine ⟨_, rfl, _, rfl, hd, c, ys, qs, rfl, hy', hN', by omega, hc, ?_, fun _ _ tp H17 htp s17 ht17 => ?_⟩
      · rintro (⟨q, hm, hq⟩ | z)
        · exact absurd hq (Rat.not_lt.mpr (qs0 q hm))
        · exact absurd z rq0
      have wl8 : ws.length ≤ 8 := by
        rw [hW.1, ← hA2.1]
        exact xl
      refine ⟨_, rfl, _, rfl, _, rfl, tp, wp, c, _, ws, rfl, ht17, s17 _ _ hw', right_of hWt L0 hWp, wl8, hc, fun i w h => ?_, fun H18 s18 => ⟨_, rfl, iteF ?_⟩⟩
      · have hq : i < qs.length := by
          rw [← hW.1]
          exact (List.getElem?_eq_some_iff.mp h).1
        exact (hW.2 i w _ h (List.getElem?_eq_getElem hq)).2
      have s178 := s17.trans s18
      refine ⟨_, rfl, _, rfl, ⟨hd, kp, ys, rfl, rfl, SqL.of (s178 _ _ hy'), SqL.of (s178 _ _ hk'), hN'.flat, ?_⟩⟩
      refine ⟨_, rfl, ?_⟩
      have ht18 := s18 _ _ ht17
      refine ⟨_, rfl, .inl ⟨rfl, _, SqL.of ht18⟩, tp, _, rfl, rfl, ht18, ?_⟩
      exact ⟨_, _, rfl, Same.at_new (Same.none s' htp) (s'.trans s178)⟩
    · rintro σ' H' _
      exact k _
end

theorem all_mk {l : PySem.W.OpenLaw} {w : World} {K : PySem.W.Frag} {h : Heap} {mg : Str → Option Value} {fa a_CostError a_NoRatio a_Ratio a_f_common_divisor a_f_halves a_m_Ratio_init a_m_Ratio_add a_m_Ratio_radd a_m_Ratio_sub a_m_Ratio_rsub a_m_Ratio_mul a_m_Ratio_rmul a_m_Ratio_neg a_m_Ratio_abs a_m_Ratio_over a_m_Ratio_nearest a_m_Ratio_sum_of a_sp_m_Ratio_sum_of a_f_dealt a_l_bag a_l_draw a_l_number a_l_integer a_l_divisor a_l_lowest a_l_amounts a_l_handed_out a_l_common a_l_dealt_right a_l_refused a_f_law : Addr} (X : K.In h) (G : h.Ns mainGlobals mg) (hfa : mg "law" = some (.ref fa))
    {od_f_common_divisor : Option Addr} {an_f_common_divisor : Option Addr} {sl_f_common_divisor : Array (Option Value)} {oc_f_common_divisor : Value} {kV_f_common_divisor : Value} {dc_f_common_divisor : Value} {pm_f_common_divisor : Value} {cd_f_common_divisor : Value} {ct_f_common_divisor : Value} {od_f_halves : Option Addr} {an_f_halves : Option Addr} {sl_f_halves : Array (Option Value)} {oc_f_halves : Value} {kV_f_halves : Value} {dc_f_halves : Value} {pm_f_halves : Value} {cd_f_halves : Value} {ct_f_halves : Value} {od_m_Ratio_init : Option Addr} {an_m_Ratio_init : Option Addr} {sl_m_Ratio_init : Array (Option Value)} {oc_m_Ratio_init : Value} {kV_m_Ratio_init : Value} {dc_m_Ratio_init : Value} {pm_m_Ratio_init : Value} {cd_m_Ratio_init : Value} {ct_m_Ratio_init : Value} {tp_m_Ratio_init : Addr} {tn_m_Ratio_init : Nat} {tc_m_Ratio_init : Value} {td_m_Ratio_init : Option Addr} {ts_m_Ratio_init : Array (Option Value)} {tk0_m_Ratio_init : Tok} {od_m_Ratio_add : Option Addr} {an_m_Ratio_add : Option Addr} {sl_m_Ratio_add : Array (Option Value)} {oc_m_Ratio_add : Value} {kV_m_Ratio_add : Value} {dc_m_Ratio_add : Value} {pm_m_Ratio_add : Value} {cd_m_Ratio_add : Value} {ct_m_Ratio_add : Value} {od_m_Ratio_radd : Option Addr} {an_m_Ratio_radd : Option Addr} {sl_m_Ratio_radd : Array (Option Value)} {oc_m_Ratio_radd : Value} {kV_m_Ratio_radd : Value} {dc_m_Ratio_radd : Value} {pm_m_Ratio_radd : Value} {cd_m_Ratio_radd : Value} {ct_m_Ratio_radd : Value} {od_m_Ratio_sub : Option Addr} {an_m_Ratio_sub : Option Addr} {sl_m_Ratio_sub : Array (Option Value)} {oc_m_Ratio_sub : Value} {kV_m_Ratio_sub : Value} {dc_m_Ratio_sub : Value} {pm_m_Ratio_sub : Value} {cd_m_Ratio_sub : Value} {ct_m_Ratio_sub : Value} {od_m_Ratio_rsub : Option Addr} {an_m_Ratio_rsub : Option Addr} {sl_m_Ratio_rsub : Array (Option Value)} {oc_m_Ratio_rsub : Value} {kV_m_Ratio_rsub : Value} {dc_m_Ratio_rsub : Value} {pm_m_Ratio_rsub : Value} {cd_m_Ratio_rsub : Value} {ct_m_Ratio_rsub : Value} {od_m_Ratio_mul : Option Addr} {an_m_Ratio_mul : Option Addr} {sl_m_Ratio_mul : Array (Option Value)} {oc_m_Ratio_mul : Value} {kV_m_Ratio_mul : Value} {dc_m_Ratio_mul : Value} {pm_m_Ratio_mul : Value} {cd_m_Ratio_mul : Value} {ct_m_Ratio_mul : Value} {od_m_Ratio_rmul : Option Addr} {an_m_Ratio_rmul : Option Addr} {sl_m_Ratio_rmul : Array (Option Value)} {oc_m_Ratio_rmul : Value} {kV_m_Ratio_rmul : Value} {dc_m_Ratio_rmul : Value} {pm_m_Ratio_rmul : Value} {cd_m_Ratio_rmul : Value} {ct_m_Ratio_rmul : Value} {od_m_Ratio_neg : Option Addr} {an_m_Ratio_neg : Option Addr} {sl_m_Ratio_neg : Array (Option Value)} {oc_m_Ratio_neg : Value} {kV_m_Ratio_neg : Value} {dc_m_Ratio_neg : Value} {pm_m_Ratio_neg : Value} {cd_m_Ratio_neg : Value} {ct_m_Ratio_neg : Value} {od_m_Ratio_abs : Option Addr} {an_m_Ratio_abs : Option Addr} {sl_m_Ratio_abs : Array (Option Value)} {oc_m_Ratio_abs : Value} {kV_m_Ratio_abs : Value} {dc_m_Ratio_abs : Value} {pm_m_Ratio_abs : Value} {cd_m_Ratio_abs : Value} {ct_m_Ratio_abs : Value} {od_m_Ratio_over : Option Addr} {an_m_Ratio_over : Option Addr} {sl_m_Ratio_over : Array (Option Value)} {oc_m_Ratio_over : Value} {kV_m_Ratio_over : Value} {dc_m_Ratio_over : Value} {pm_m_Ratio_over : Value} {cd_m_Ratio_over : Value} {ct_m_Ratio_over : Value} {od_m_Ratio_nearest : Option Addr} {an_m_Ratio_nearest : Option Addr} {sl_m_Ratio_nearest : Array (Option Value)} {oc_m_Ratio_nearest : Value} {kV_m_Ratio_nearest : Value} {dc_m_Ratio_nearest : Value} {pm_m_Ratio_nearest : Value} {cd_m_Ratio_nearest : Value} {ct_m_Ratio_nearest : Value} {od_m_Ratio_sum_of : Option Addr} {an_m_Ratio_sum_of : Option Addr} {sl_m_Ratio_sum_of : Array (Option Value)} {oc_m_Ratio_sum_of : Value} {kV_m_Ratio_sum_of : Value} {dc_m_Ratio_sum_of : Value} {pm_m_Ratio_sum_of : Value} {cd_m_Ratio_sum_of : Value} {ct_m_Ratio_sum_of : Value} {od_f_dealt : Option Addr} {an_f_dealt : Option Addr} {sl_f_dealt : Array (Option Value)} {oc_f_dealt : Value} {kV_f_dealt : Value} {dc_f_dealt : Value} {pm_f_dealt : Value} {cd_f_dealt : Value} {ct_f_dealt : Value} {od_l_bag : Option Addr} {an_l_bag : Option Addr} {sl_l_bag : Array (Option Value)} {oc_l_bag : Value} {kV_l_bag : Value} {dc_l_bag : Value} {pm_l_bag : Value} {cd_l_bag : Value} {ct_l_bag : Value} {od_l_draw : Option Addr} {an_l_draw : Option Addr} {sl_l_draw : Array (Option Value)} {oc_l_draw : Value} {kV_l_draw : Value} {dc_l_draw : Value} {pm_l_draw : Value} {cd_l_draw : Value} {ct_l_draw : Value} {od_l_number : Option Addr} {an_l_number : Option Addr} {sl_l_number : Array (Option Value)} {oc_l_number : Value} {kV_l_number : Value} {dc_l_number : Value} {pm_l_number : Value} {cd_l_number : Value} {ct_l_number : Value} {od_l_integer : Option Addr} {an_l_integer : Option Addr} {sl_l_integer : Array (Option Value)} {oc_l_integer : Value} {kV_l_integer : Value} {dc_l_integer : Value} {pm_l_integer : Value} {cd_l_integer : Value} {ct_l_integer : Value} {od_l_divisor : Option Addr} {an_l_divisor : Option Addr} {sl_l_divisor : Array (Option Value)} {oc_l_divisor : Value} {kV_l_divisor : Value} {dc_l_divisor : Value} {pm_l_divisor : Value} {cd_l_divisor : Value} {ct_l_divisor : Value} {od_l_lowest : Option Addr} {an_l_lowest : Option Addr} {sl_l_lowest : Array (Option Value)} {oc_l_lowest : Value} {kV_l_lowest : Value} {dc_l_lowest : Value} {pm_l_lowest : Value} {cd_l_lowest : Value} {ct_l_lowest : Value} {od_l_amounts : Option Addr} {an_l_amounts : Option Addr} {sl_l_amounts : Array (Option Value)} {oc_l_amounts : Value} {kV_l_amounts : Value} {dc_l_amounts : Value} {pm_l_amounts : Value} {cd_l_amounts : Value} {ct_l_amounts : Value} {od_l_handed_out : Option Addr} {an_l_handed_out : Option Addr} {sl_l_handed_out : Array (Option Value)} {oc_l_handed_out : Value} {kV_l_handed_out : Value} {dc_l_handed_out : Value} {pm_l_handed_out : Value} {cd_l_handed_out : Value} {ct_l_handed_out : Value} {od_l_common : Option Addr} {an_l_common : Option Addr} {sl_l_common : Array (Option Value)} {oc_l_common : Value} {kV_l_common : Value} {dc_l_common : Value} {pm_l_common : Value} {cd_l_common : Value} {ct_l_common : Value} {od_l_dealt_right : Option Addr} {an_l_dealt_right : Option Addr} {sl_l_dealt_right : Array (Option Value)} {oc_l_dealt_right : Value} {kV_l_dealt_right : Value} {dc_l_dealt_right : Value} {pm_l_dealt_right : Value} {cd_l_dealt_right : Value} {ct_l_dealt_right : Value} {od_l_refused : Option Addr} {an_l_refused : Option Addr} {sl_l_refused : Array (Option Value)} {oc_l_refused : Value} {kV_l_refused : Value} {dc_l_refused : Value} {pm_l_refused : Value} {cd_l_refused : Value} {ct_l_refused : Value} {od_f_law : Option Addr} {an_f_law : Option Addr} {sl_f_law : Array (Option Value)} {oc_f_law : Value} {kV_f_law : Value} {dc_f_law : Value} {pm_f_law : Value} {cd_f_law : Value} {ct_f_law : Value} {rest_m_Ratio_sum_of : List Value}
    (pz_abs : PySem.W.nsIn K mainGlobals "abs" = some none)
    (pz_all : PySem.W.nsIn K mainGlobals "all" = some none)
    (pz_bool : PySem.W.nsIn K mainGlobals "bool" = some none)
    (pz_int : PySem.W.nsIn K mainGlobals "int" = some none)
    (pz_isinstance : PySem.W.nsIn K mainGlobals "isinstance" = some none)
    (pz_len : PySem.W.nsIn K mainGlobals "len" = some none)
    (pz_list : PySem.W.nsIn K mainGlobals "list" = some none)
    (pz_range : PySem.W.nsIn K mainGlobals "range" = some none)
    (pz_staticmethod : PySem.W.nsIn K mainGlobals "staticmethod" = some none)
    (pz_sum : PySem.W.nsIn K mainGlobals "sum" = some none)
    (pg_CostError : PySem.W.nsIn K mainGlobals "CostError" = some (some (.ref a_CostError)))
    (pek_CostError : PySem.W.keepIn K (.ref a_CostError) = true)
    (peb_CostError : PySem.W.subIn K (.ref a_CostError) (.type "BaseException") = some true)
    (pet_CostError : PySem.W.typeIn K (.ref a_CostError) = some (.type "type"))
    (peh_CostError : PySem.W.hasDictIn K a_CostError = true)
    (peic_CostError : PySem.W.isClsIn K a_CostError = true)
    (pes_CostError : PySem.W.subIn K (.ref a_CostError) (.ref a_CostError) = some true)
    (pg_NoRatio : PySem.W.nsIn K mainGlobals "NoRatio" = some (some (.ref a_NoRatio)))
    (pek_NoRatio : PySem.W.keepIn K (.ref a_NoRatio) = true)
    (peb_NoRatio : PySem.W.subIn K (.ref a_NoRatio) (.type "BaseException") = some true)
    (pet_NoRatio : PySem.W.typeIn K (.ref a_NoRatio) = some (.type "type"))
    (peh_NoRatio : PySem.W.hasDictIn K a_NoRatio = true)
    (peic_NoRatio : PySem.W.isClsIn K a_NoRatio = true)
    (pes_NoRatio : PySem.W.subIn K (.ref a_NoRatio) (.ref a_NoRatio) = some true)
    (pex_NoRatio : PySem.W.excIn K a_NoRatio [.type "ValueError", .type "Exception", .type "BaseException", .type "object"] "ValueError.__new__" = true)
    (pxg_NoRatio : PySem.W.findIn K (.ref a_NoRatio) "__getattribute__" = some (some (.builtin "BaseException.__getattribute__")))
    (pxk_NoRatio : PySem.W.findIn K (.ref a_NoRatio) "__getattr__" = some none)
    (pxa_NoRatio : PySem.W.findIn K (.ref a_NoRatio) "__class__" = some (some (.builtin "object.__class__")))
    (pxn_NoRatio : PySem.W.specialIn K (.builtin "object.__class__") "__get__" = some (some (.builtin "getset_descriptor.__get__")))
    (pxt_NoRatio : PySem.W.takesIn K (.builtin "object.__class__") = some true)
    (pxm_NoRatio : PySem.W.mroIn K a_NoRatio (.type "object") = some true)
    (pxc_NoRatio : PySem.W.kitOne K (.ref a_NoRatio) (.ref a_CostError) = some true)
    (pg_Ratio : PySem.W.nsIn K mainGlobals "Ratio" = some (some (.ref a_Ratio)))
    (ppg_Ratio : PySem.W.plainGet K a_Ratio Str.empty = true)
    (phd_Ratio : PySem.W.hasDictIn K a_Ratio = true)
    (ppo_Ratio : PySem.W.plainOver K a_Ratio = true)
    (psa_Ratio : PySem.W.findIn K (.ref a_Ratio) "__setattr__" = some (some (.builtin "object.__setattr__")))
    (pn_Ratio_top : NoAttr K a_Ratio "top")
    (pn_Ratio_bottom : NoAttr K a_Ratio "bottom")
    (pma_Ratio : PySem.W.makesIn K a_Ratio = true)
    (pmi_Ratio : PySem.W.findIn K (.ref a_Ratio) "__init__" = some (some (.ref a_m_Ratio_init)))
    (pmf_Ratio : PySem.W.isFn K (.ref a_m_Ratio_init) = true)
    (pmc_Ratio : PySem.W.keepIn K (.ref a_Ratio) = true)
    (pmt_m_Ratio_add : PySem.W.findIn K (.ref a_Ratio) "__add__" = some (some (.ref a_m_Ratio_add)))
    (pmn_m_Ratio_add : PySem.W.isFn K (.ref a_m_Ratio_add) = true)
    (pmk_m_Ratio_add : PySem.W.keepIn K (.ref a_m_Ratio_add) = true)
    (pmt_m_Ratio_radd : PySem.W.findIn K (.ref a_Ratio) "__radd__" = some (some (.ref a_m_Ratio_radd)))
    (pmn_m_Ratio_radd : PySem.W.isFn K (.ref a_m_Ratio_radd) = true)
    (pmk_m_Ratio_radd : PySem.W.keepIn K (.ref a_m_Ratio_radd) = true)
    (pmt_m_Ratio_sub : PySem.W.findIn K (.ref a_Ratio) "__sub__" = some (some (.ref a_m_Ratio_sub)))
    (pmn_m_Ratio_sub : PySem.W.isFn K (.ref a_m_Ratio_sub) = true)
    (pmk_m_Ratio_sub : PySem.W.keepIn K (.ref a_m_Ratio_sub) = true)
    (pmt_m_Ratio_rsub : PySem.W.findIn K (.ref a_Ratio) "__rsub__" = some (some (.ref a_m_Ratio_rsub)))
    (pmn_m_Ratio_rsub : PySem.W.isFn K (.ref a_m_Ratio_rsub) = true)
    (pmk_m_Ratio_rsub : PySem.W.keepIn K (.ref a_m_Ratio_rsub) = true)
    (pmt_m_Ratio_mul : PySem.W.findIn K (.ref a_Ratio) "__mul__" = some (some (.ref a_m_Ratio_mul)))
    (pmn_m_Ratio_mul : PySem.W.isFn K (.ref a_m_Ratio_mul) = true)
    (pmk_m_Ratio_mul : PySem.W.keepIn K (.ref a_m_Ratio_mul) = true)
    (pmt_m_Ratio_rmul : PySem.W.findIn K (.ref a_Ratio) "__rmul__" = some (some (.ref a_m_Ratio_rmul)))
    (pmn_m_Ratio_rmul : PySem.W.isFn K (.ref a_m_Ratio_rmul) = true)
    (pmk_m_Ratio_rmul : PySem.W.keepIn K (.ref a_m_Ratio_rmul) = true)
    (pmt_m_Ratio_neg : PySem.W.findIn K (.ref a_Ratio) "__neg__" = some (some (.ref a_m_Ratio_neg)))
    (pmn_m_Ratio_neg : PySem.W.isFn K (.ref a_m_Ratio_neg) = true)
    (pmk_m_Ratio_neg : PySem.W.keepIn K (.ref a_m_Ratio_neg) = true)
    (pmt_m_Ratio_abs : PySem.W.findIn K (.ref a_Ratio) "__abs__" = some (some (.ref a_m_Ratio_abs)))
    (pmn_m_Ratio_abs : PySem.W.isFn K (.ref a_m_Ratio_abs) = true)
    (pmk_m_Ratio_abs : PySem.W.keepIn K (.ref a_m_Ratio_abs) = true)
    (pmt_m_Ratio_over : PySem.W.findIn K (.ref a_Ratio) "over" = some (some (.ref a_m_Ratio_over)))
    (pmn_m_Ratio_over : PySem.W.isFn K (.ref a_m_Ratio_over) = true)
    (pmk_m_Ratio_over : PySem.W.keepIn K (.ref a_m_Ratio_over) = true)
    (pmt_m_Ratio_nearest : PySem.W.findIn K (.ref a_Ratio) "nearest" = some (some (.ref a_m_Ratio_nearest)))
    (pmn_m_Ratio_nearest : PySem.W.isFn K (.ref a_m_Ratio_nearest) = true)
    (pmk_m_Ratio_nearest : PySem.W.keepIn K (.ref a_m_Ratio_nearest) = true)
    (ps1_m_Ratio_sum_of : PySem.W.readsIn K a_Ratio (.type "type") = true)
    (ps2_m_Ratio_sum_of : PySem.W.specialIn K (.ref a_Ratio) "__getattribute__" = some (some (.builtin "type.__getattribute__")))
    (ps3_m_Ratio_sum_of : PySem.W.findCls K (.ref a_Ratio) (.type "type") "sum_of" = some (.get (.builtin "staticmethod.__get__") (.ref a_sp_m_Ratio_sum_of) .none (.ref a_Ratio)))
    (ps4_m_Ratio_sum_of : PySem.W.recIn K a_sp_m_Ratio_sum_of "staticmethod" = some (.ref a_m_Ratio_sum_of :: rest_m_Ratio_sum_of))
    (ps5_m_Ratio_sum_of : PySem.W.keepIn K (.ref a_m_Ratio_sum_of) = true)
    (ptc_Ratio : PySem.W.findIn K (.ref a_Ratio) "__class__" = some (some (.builtin "object.__class__")))
    (ptn_Ratio : PySem.W.specialIn K (.builtin "object.__class__") "__get__" = some (some (.builtin "getset_descriptor.__get__")))
    (ptk_Ratio : PySem.W.takesIn K (.builtin "object.__class__") = some true)
    (ptm_Ratio : PySem.W.mroIn K a_Ratio (.type "object") = some true)
    (pki_Ratio : PySem.W.kitOne K (.ref a_Ratio) (.type "int") = some false)
    (psf_Ratio : PySem.W.selfFirst K a_Ratio = true)
    (psi_Ratio : PySem.W.subIn K (.type "int") (.ref a_Ratio) = some false)
    (psj_Ratio : PySem.W.subIn K (.ref a_Ratio) (.type "int") = some false)
    (po1a_Ratio : PySem.W.findIn K (.type "int") (PySem.dunder "add") = some (some (.builtin "int.__add__")))
    (po2a_Ratio : PySem.W.findIn K (.type "int") (dunderR "add") = some (some (.builtin "int.__radd__")))
    (po1s_Ratio : PySem.W.findIn K (.type "int") (PySem.dunder "sub") = some (some (.builtin "int.__sub__")))
    (po2s_Ratio : PySem.W.findIn K (.type "int") (dunderR "sub") = some (some (.builtin "int.__rsub__")))
    (po1m_Ratio : PySem.W.findIn K (.type "int") (PySem.dunder "mul") = some (some (.builtin "int.__mul__")))
    (po2m_Ratio : PySem.W.findIn K (.type "int") (dunderR "mul") = some (some (.builtin "int.__rmul__")))
    (pnia_Ratio : noI K a_Ratio "add" = true)
    (pnis_Ratio : noI K a_Ratio "sub" = true)
    (pnim_Ratio : noI K a_Ratio "mul" = true)
    (prd_Ratio : PySem.W.readsIn K a_Ratio (.type "type") = true)
    (pcga_Ratio : PySem.W.specialIn K (.ref a_Ratio) "__getattribute__" = some (some (.builtin "type.__getattribute__")))
    (pa_f_common_divisor : PySem.W.nsIn K mainGlobals "common_divisor" = some (some (.ref a_f_common_divisor)))
    (pl_f_common_divisor : K.lookup a_f_common_divisor = some ⟨oc_f_common_divisor, od_f_common_divisor, .func (PySem.W.fnOf "common_divisor" "common_divisor" (defArgs s_f_common_divisor) (defBody s_f_common_divisor) (defScope s_f_common_divisor) .none kV_f_common_divisor dc_f_common_divisor pm_f_common_divisor an_f_common_divisor cd_f_common_divisor ct_f_common_divisor), sl_f_common_divisor⟩)
    (pc_f_common_divisor : PySem.W.codeIn K cd_f_common_divisor "common_divisor" = true)
    (pq_f_common_divisor : PySem.W.keepIn K (.ref a_f_common_divisor) = true)
    (pa_f_halves : PySem.W.nsIn K mainGlobals "halves" = some (some (.ref a_f_halves)))
    (pl_f_halves : K.lookup a_f_halves = some ⟨oc_f_halves, od_f_halves, .func (PySem.W.fnOf "halves" "halves" (defArgs s_f_halves) (defBody s_f_halves) (defScope s_f_halves) .none kV_f_halves dc_f_halves pm_f_halves an_f_halves cd_f_halves ct_f_halves), sl_f_halves⟩)
    (pc_f_halves : PySem.W.codeIn K cd_f_halves "halves" = true)
    (pq_f_halves : PySem.W.keepIn K (.ref a_f_halves) = true)
    (pl_m_Ratio_init : K.lookup a_m_Ratio_init = some ⟨oc_m_Ratio_init, od_m_Ratio_init, .func (PySem.W.fnOf "__init__" "Ratio.__init__" (defArgs s_m_Ratio_init) (defBody s_m_Ratio_init) (defScope s_m_Ratio_init) (.ref tp_m_Ratio_init) kV_m_Ratio_init dc_m_Ratio_init pm_m_Ratio_init an_m_Ratio_init cd_m_Ratio_init ct_m_Ratio_init), sl_m_Ratio_init⟩)
    (pt_m_Ratio_init : K.lookup tp_m_Ratio_init = some ⟨tc_m_Ratio_init, td_m_Ratio_init, .seq #[.int 1 tk0_m_Ratio_init] tn_m_Ratio_init, ts_m_Ratio_init⟩)
    (pc_m_Ratio_init : PySem.W.codeIn K cd_m_Ratio_init "Ratio.__init__" = true)
    (pq_m_Ratio_init : PySem.W.keepIn K (.ref a_m_Ratio_init) = true)
    (pl_m_Ratio_add : K.lookup a_m_Ratio_add = some ⟨oc_m_Ratio_add, od_m_Ratio_add, .func (PySem.W.fnOf "__add__" "Ratio.__add__" (defArgs s_m_Ratio_add) (defBody s_m_Ratio_add) (defScope s_m_Ratio_add) .none kV_m_Ratio_add dc_m_Ratio_add pm_m_Ratio_add an_m_Ratio_add cd_m_Ratio_add ct_m_Ratio_add), sl_m_Ratio_add⟩)
    (pc_m_Ratio_add : PySem.W.codeIn K cd_m_Ratio_add "Ratio.__add__" = true)
    (pq_m_Ratio_add : PySem.W.keepIn K (.ref a_m_Ratio_add) = true)
    (pl_m_Ratio_radd : K.lookup a_m_Ratio_radd = some ⟨oc_m_Ratio_radd, od_m_Ratio_radd, .func (PySem.W.fnOf "__radd__" "Ratio.__radd__" (defArgs s_m_Ratio_radd) (defBody s_m_Ratio_radd) (defScope s_m_Ratio_radd) .none kV_m_Ratio_radd dc_m_Ratio_radd pm_m_Ratio_radd an_m_Ratio_radd cd_m_Ratio_radd ct_m_Ratio_radd), sl_m_Ratio_radd⟩)
    (pc_m_Ratio_radd : PySem.W.codeIn K cd_m_Ratio_radd "Ratio.__radd__" = true)
    (pq_m_Ratio_radd : PySem.W.keepIn K (.ref a_m_Ratio_radd) = true)
    (pl_m_Ratio_sub : K.lookup a_m_Ratio_sub = some ⟨oc_m_Ratio_sub, od_m_Ratio_sub, .func (PySem.W.fnOf "__sub__" "Ratio.__sub__" (defArgs s_m_Ratio_sub) (defBody s_m_Ratio_sub) (defScope s_m_Ratio_sub) .none kV_m_Ratio_sub dc_m_Ratio_sub pm_m_Ratio_sub an_m_Ratio_sub cd_m_Ratio_sub ct_m_Ratio_sub), sl_m_Ratio_sub⟩)
    (pc_m_Ratio_sub : PySem.W.codeIn K cd_m_Ratio_sub "Ratio.__sub__" = true)
    (pq_m_Ratio_sub : PySem.W.keepIn K (.ref a_m_Ratio_sub) = true)
    (pl_m_Ratio_rsub : K.lookup a_m_Ratio_rsub = some ⟨oc_m_Ratio_rsub, od_m_Ratio_rsub, .func (PySem.W.fnOf "__rsub__" "Ratio.__rsub__" (defArgs s_m_Ratio_rsub) (defBody s_m_Ratio_rsub) (defScope s_m_Ratio_rsub) .none kV_m_Ratio_rsub dc_m_Ratio_rsub pm_m_Ratio_rsub an_m_Ratio_rsub cd_m_Ratio_rsub ct_m_Ratio_rsub), sl_m_Ratio_rsub⟩)
    (pc_m_Ratio_rsub : PySem.W.codeIn K cd_m_Ratio_rsub "Ratio.__rsub__" = true)
    (pq_m_Ratio_rsub : PySem.W.keepIn K (.ref a_m_Ratio_rsub) = true)
    (pl_m_Ratio_mul : K.lookup a_m_Ratio_mul = some ⟨oc_m_Ratio_mul, od_m_Ratio_mul, .func (PySem.W.fnOf "__mul__" "Ratio.__mul__" (defArgs s_m_Ratio_mul) (defBody s_m_Ratio_mul) (defScope s_m_Ratio_mul) .none kV_m_Ratio_mul dc_m_Ratio_mul pm_m_Ratio_mul an_m_Ratio_mul cd_m_Ratio_mul ct_m_Ratio_mul), sl_m_Ratio_mul⟩)
    (pc_m_Ratio_mul : PySem.W.codeIn K cd_m_Ratio_mul "Ratio.__mul__" = true)
    (pq_m_Ratio_mul : PySem.W.keepIn K (.ref a_m_Ratio_mul) = true)
    (pl_m_Ratio_rmul : K.lookup a_m_Ratio_rmul = some ⟨oc_m_Ratio_rmul, od_m_Ratio_rmul, .func (PySem.W.fnOf "__rmul__" "Ratio.__rmul__" (defArgs s_m_Ratio_rmul) (defBody s_m_Ratio_rmul) (defScope s_m_Ratio_rmul) .none kV_m_Ratio_rmul dc_m_Ratio_rmul pm_m_Ratio_rmul an_m_Ratio_rmul cd_m_Ratio_rmul ct_m_Ratio_rmul), sl_m_Ratio_rmul⟩)
    (pc_m_Ratio_rmul : PySem.W.codeIn K cd_m_Ratio_rmul "Ratio.__rmul__" = true)
    (pq_m_Ratio_rmul : PySem.W.keepIn K (.ref a_m_Ratio_rmul) = true)
    (pl_m_Ratio_neg : K.lookup a_m_Ratio_neg = some ⟨oc_m_Ratio_neg, od_m_Ratio_neg, .func (PySem.W.fnOf "__neg__" "Ratio.__neg__" (defArgs s_m_Ratio_neg) (defBody s_m_Ratio_neg) (defScope s_m_Ratio_neg) .none kV_m_Ratio_neg dc_m_Ratio_neg pm_m_Ratio_neg an_m_Ratio_neg cd_m_Ratio_neg ct_m_Ratio_neg), sl_m_Ratio_neg⟩)
    (pc_m_Ratio_neg : PySem.W.codeIn K cd_m_Ratio_neg "Ratio.__neg__" = true)
    (pq_m_Ratio_neg : PySem.W.keepIn K (.ref a_m_Ratio_neg) = true)
    (pl_m_Ratio_abs : K.lookup a_m_Ratio_abs = some ⟨oc_m_Ratio_abs, od_m_Ratio_abs, .func (PySem.W.fnOf "__abs__" "Ratio.__abs__" (defArgs s_m_Ratio_abs) (defBody s_m_Ratio_abs) (defScope s_m_Ratio_abs) .none kV_m_Ratio_abs dc_m_Ratio_abs pm_m_Ratio_abs an_m_Ratio_abs cd_m_Ratio_abs ct_m_Ratio_abs), sl_m_Ratio_abs⟩)
    (pc_m_Ratio_abs : PySem.W.codeIn K cd_m_Ratio_abs "Ratio.__abs__" = true)
    (pq_m_Ratio_abs : PySem.W.keepIn K (.ref a_m_Ratio_abs) = true)
    (pl_m_Ratio_over : K.lookup a_m_Ratio_over = some ⟨oc_m_Ratio_over, od_m_Ratio_over, .func (PySem.W.fnOf "over" "Ratio.over" (defArgs s_m_Ratio_over) (defBody s_m_Ratio_over) (defScope s_m_Ratio_over) .none kV_m_Ratio_over dc_m_Ratio_over pm_m_Ratio_over an_m_Ratio_over cd_m_Ratio_over ct_m_Ratio_over), sl_m_Ratio_over⟩)
    (pc_m_Ratio_over : PySem.W.codeIn K cd_m_Ratio_over "Ratio.over" = true)
    (pq_m_Ratio_over : PySem.W.keepIn K (.ref a_m_Ratio_over) = true)
    (pl_m_Ratio_nearest : K.lookup a_m_Ratio_nearest = some ⟨oc_m_Ratio_nearest, od_m_Ratio_nearest, .func (PySem.W.fnOf "nearest" "Ratio.nearest" (defArgs s_m_Ratio_nearest) (defBody s_m_Ratio_nearest) (defScope s_m_Ratio_nearest) .none kV_m_Ratio_nearest dc_m_Ratio_nearest pm_m_Ratio_nearest an_m_Ratio_nearest cd_m_Ratio_nearest ct_m_Ratio_nearest), sl_m_Ratio_nearest⟩)
    (pc_m_Ratio_nearest : PySem.W.codeIn K cd_m_Ratio_nearest "Ratio.nearest" = true)
    (pq_m_Ratio_nearest : PySem.W.keepIn K (.ref a_m_Ratio_nearest) = true)
    (pl_m_Ratio_sum_of : K.lookup a_m_Ratio_sum_of = some ⟨oc_m_Ratio_sum_of, od_m_Ratio_sum_of, .func (PySem.W.fnOf "sum_of" "Ratio.sum_of" (defArgs s_m_Ratio_sum_of) (defBody s_m_Ratio_sum_of) (defScope s_m_Ratio_sum_of) .none kV_m_Ratio_sum_of dc_m_Ratio_sum_of pm_m_Ratio_sum_of an_m_Ratio_sum_of cd_m_Ratio_sum_of ct_m_Ratio_sum_of), sl_m_Ratio_sum_of⟩)
    (pc_m_Ratio_sum_of : PySem.W.codeIn K cd_m_Ratio_sum_of "Ratio.sum_of" = true)
    (pq_m_Ratio_sum_of : PySem.W.keepIn K (.ref a_m_Ratio_sum_of) = true)
    (pa_f_dealt : PySem.W.nsIn K mainGlobals "dealt" = some (some (.ref a_f_dealt)))
    (pl_f_dealt : K.lookup a_f_dealt = some ⟨oc_f_dealt, od_f_dealt, .func (PySem.W.fnOf "dealt" "dealt" (defArgs s_f_dealt) (defBody s_f_dealt) (defScope s_f_dealt) .none kV_f_dealt dc_f_dealt pm_f_dealt an_f_dealt cd_f_dealt ct_f_dealt), sl_f_dealt⟩)
    (pc_f_dealt : PySem.W.codeIn K cd_f_dealt "dealt" = true)
    (pq_f_dealt : PySem.W.keepIn K (.ref a_f_dealt) = true)
    (pa_l_bag : PySem.W.nsIn K mainGlobals "_law_bag" = some (some (.ref a_l_bag)))
    (pl_l_bag : K.lookup a_l_bag = some ⟨oc_l_bag, od_l_bag, .func (PySem.W.fnOf "_law_bag" "_law_bag" (defArgs s_l_bag) (defBody s_l_bag) (defScope s_l_bag) .none kV_l_bag dc_l_bag pm_l_bag an_l_bag cd_l_bag ct_l_bag), sl_l_bag⟩)
    (pc_l_bag : PySem.W.codeIn K cd_l_bag "_law_bag" = true)
    (pq_l_bag : PySem.W.keepIn K (.ref a_l_bag) = true)
    (pa_l_draw : PySem.W.nsIn K mainGlobals "_law_draw" = some (some (.ref a_l_draw)))
    (pl_l_draw : K.lookup a_l_draw = some ⟨oc_l_draw, od_l_draw, .func (PySem.W.fnOf "_law_draw" "_law_draw" (defArgs s_l_draw) (defBody s_l_draw) (defScope s_l_draw) .none kV_l_draw dc_l_draw pm_l_draw an_l_draw cd_l_draw ct_l_draw), sl_l_draw⟩)
    (pc_l_draw : PySem.W.codeIn K cd_l_draw "_law_draw" = true)
    (pq_l_draw : PySem.W.keepIn K (.ref a_l_draw) = true)
    (pa_l_number : PySem.W.nsIn K mainGlobals "_law_number" = some (some (.ref a_l_number)))
    (pl_l_number : K.lookup a_l_number = some ⟨oc_l_number, od_l_number, .func (PySem.W.fnOf "_law_number" "_law_number" (defArgs s_l_number) (defBody s_l_number) (defScope s_l_number) .none kV_l_number dc_l_number pm_l_number an_l_number cd_l_number ct_l_number), sl_l_number⟩)
    (pc_l_number : PySem.W.codeIn K cd_l_number "_law_number" = true)
    (pq_l_number : PySem.W.keepIn K (.ref a_l_number) = true)
    (pa_l_integer : PySem.W.nsIn K mainGlobals "_law_integer" = some (some (.ref a_l_integer)))
    (pl_l_integer : K.lookup a_l_integer = some ⟨oc_l_integer, od_l_integer, .func (PySem.W.fnOf "_law_integer" "_law_integer" (defArgs s_l_integer) (defBody s_l_integer) (defScope s_l_integer) .none kV_l_integer dc_l_integer pm_l_integer an_l_integer cd_l_integer ct_l_integer), sl_l_integer⟩)
    (pc_l_integer : PySem.W.codeIn K cd_l_integer "_law_integer" = true)
    (pq_l_integer : PySem.W.keepIn K (.ref a_l_integer) = true)
    (pa_l_divisor : PySem.W.nsIn K mainGlobals "_law_divisor" = some (some (.ref a_l_divisor)))
    (pl_l_divisor : K.lookup a_l_divisor = some ⟨oc_l_divisor, od_l_divisor, .func (PySem.W.fnOf "_law_divisor" "_law_divisor" (defArgs s_l_divisor) (defBody s_l_divisor) (defScope s_l_divisor) .none kV_l_divisor dc_l_divisor pm_l_divisor an_l_divisor cd_l_divisor ct_l_divisor), sl_l_divisor⟩)
    (pc_l_divisor : PySem.W.codeIn K cd_l_divisor "_law_divisor" = true)
    (pq_l_divisor : PySem.W.keepIn K (.ref a_l_divisor) = true)
    (pa_l_lowest : PySem.W.nsIn K mainGlobals "_law_lowest" = some (some (.ref a_l_lowest)))
    (pl_l_lowest : K.lookup a_l_lowest = some ⟨oc_l_lowest, od_l_lowest, .func (PySem.W.fnOf "_law_lowest" "_law_lowest" (defArgs s_l_lowest) (defBody s_l_lowest) (defScope s_l_lowest) .none kV_l_lowest dc_l_lowest pm_l_lowest an_l_lowest cd_l_lowest ct_l_lowest), sl_l_lowest⟩)
    (pc_l_lowest : PySem.W.codeIn K cd_l_lowest "_law_lowest" = true)
    (pq_l_lowest : PySem.W.keepIn K (.ref a_l_lowest) = true)
    (pa_l_amounts : PySem.W.nsIn K mainGlobals "_law_amounts" = some (some (.ref a_l_amounts)))
    (pl_l_amounts : K.lookup a_l_amounts = some ⟨oc_l_amounts, od_l_amounts, .func (PySem.W.fnOf "_law_amounts" "_law_amounts" (defArgs s_l_amounts) (defBody s_l_amounts) (defScope s_l_amounts) .none kV_l_amounts dc_l_amounts pm_l_amounts an_l_amounts cd_l_amounts ct_l_amounts), sl_l_amounts⟩)
    (pc_l_amounts : PySem.W.codeIn K cd_l_amounts "_law_amounts" = true)
    (pq_l_amounts : PySem.W.keepIn K (.ref a_l_amounts) = true)
    (pa_l_handed_out : PySem.W.nsIn K mainGlobals "_law_handed_out" = some (some (.ref a_l_handed_out)))
    (pl_l_handed_out : K.lookup a_l_handed_out = some ⟨oc_l_handed_out, od_l_handed_out, .func (PySem.W.fnOf "_law_handed_out" "_law_handed_out" (defArgs s_l_handed_out) (defBody s_l_handed_out) (defScope s_l_handed_out) .none kV_l_handed_out dc_l_handed_out pm_l_handed_out an_l_handed_out cd_l_handed_out ct_l_handed_out), sl_l_handed_out⟩)
    (pc_l_handed_out : PySem.W.codeIn K cd_l_handed_out "_law_handed_out" = true)
    (pq_l_handed_out : PySem.W.keepIn K (.ref a_l_handed_out) = true)
    (pa_l_common : PySem.W.nsIn K mainGlobals "_law_common" = some (some (.ref a_l_common)))
    (pl_l_common : K.lookup a_l_common = some ⟨oc_l_common, od_l_common, .func (PySem.W.fnOf "_law_common" "_law_common" (defArgs s_l_common) (defBody s_l_common) (defScope s_l_common) .none kV_l_common dc_l_common pm_l_common an_l_common cd_l_common ct_l_common), sl_l_common⟩)
    (pc_l_common : PySem.W.codeIn K cd_l_common "_law_common" = true)
    (pq_l_common : PySem.W.keepIn K (.ref a_l_common) = true)
    (pa_l_dealt_right : PySem.W.nsIn K mainGlobals "_law_dealt_right" = some (some (.ref a_l_dealt_right)))
    (pl_l_dealt_right : K.lookup a_l_dealt_right = some ⟨oc_l_dealt_right, od_l_dealt_right, .func (PySem.W.fnOf "_law_dealt_right" "_law_dealt_right" (defArgs s_l_dealt_right) (defBody s_l_dealt_right) (defScope s_l_dealt_right) .none kV_l_dealt_right dc_l_dealt_right pm_l_dealt_right an_l_dealt_right cd_l_dealt_right ct_l_dealt_right), sl_l_dealt_right⟩)
    (pc_l_dealt_right : PySem.W.codeIn K cd_l_dealt_right "_law_dealt_right" = true)
    (pq_l_dealt_right : PySem.W.keepIn K (.ref a_l_dealt_right) = true)
    (pa_l_refused : PySem.W.nsIn K mainGlobals "_law_refused" = some (some (.ref a_l_refused)))
    (pl_l_refused : K.lookup a_l_refused = some ⟨oc_l_refused, od_l_refused, .func (PySem.W.fnOf "_law_refused" "_law_refused" (defArgs s_l_refused) (defBody s_l_refused) (defScope s_l_refused) .none kV_l_refused dc_l_refused pm_l_refused an_l_refused cd_l_refused ct_l_refused), sl_l_refused⟩)
    (pc_l_refused : PySem.W.codeIn K cd_l_refused "_law_refused" = true)
    (pq_l_refused : PySem.W.keepIn K (.ref a_l_refused) = true)
    (pa_f_law : PySem.W.nsIn K mainGlobals "law" = some (some (.ref a_f_law)))
    (pl_f_law : K.lookup a_f_law = some ⟨oc_f_law, od_f_law, .func (PySem.W.fnOf "law" "law" (defArgs s_f_law) (defBody s_f_law) (defScope s_f_law) .none kV_f_law dc_f_law pm_f_law an_f_law cd_f_law ct_f_law), sl_f_law⟩)
    (pc_f_law : PySem.W.codeIn K cd_f_law "law" = true)
    (pq_f_law : PySem.W.keepIn K (.ref a_f_law) = true) :
    ∃ fd : FuncData, (∀ (s : Shared) (v : Value), BindsTo s fd ⟨[v], []⟩ [("_law_script", v)]) ∧ ∀ base : Heap, K.In base → base.Ns mainGlobals mg → FnOk l.prog w K mg base CX0 14 fa fd P_f_law (spLaw K) := by
  have e := hfa.symm.trans (PySem.W.mg_of X G pa_f_law)
  cases e
  have F_f_common_divisor := fun_mk (st := s_f_common_divisor) pl_f_common_divisor pc_f_common_divisor pq_f_common_divisor
  have b_f_common_divisor := F_f_common_divisor.binds (ps := P_f_common_divisor) fun _ _ _ _ _ _ us hl => match us, hl with | [_, _], _ => rfl
  have F_f_halves := fun_mk (st := s_f_halves) pl_f_halves pc_f_halves pq_f_halves
  have b_f_halves := F_f_halves.binds (ps := P_f_halves) fun _ _ _ _ _ _ us hl => match us, hl with | [_], _ => rfl
  have F_m_Ratio_init : FunD K "__init__" "Ratio.__init__" (defArgs s_m_Ratio_init) (defBody s_m_Ratio_init) (defScope s_m_Ratio_init) [.int 1] [] a_m_Ratio_init (PySem.W.fnOf "__init__" "Ratio.__init__" (defArgs s_m_Ratio_init) (defBody s_m_Ratio_init) (defScope s_m_Ratio_init) (.ref tp_m_Ratio_init) kV_m_Ratio_init dc_m_Ratio_init pm_m_Ratio_init an_m_Ratio_init cd_m_Ratio_init ct_m_Ratio_init) := ⟨⟨_, _, _, _, _, _, _, _, _, _, rfl, pl_m_Ratio_init, pc_m_Ratio_init, (.inr ⟨by simp, _, _, _, _, rfl, pt_m_Ratio_init, rfl, (.cons ⟨_, rfl⟩ .nil)⟩), (.inl rfl)⟩, pq_m_Ratio_init⟩
  obtain ⟨e_m_Ratio_init, ve_m_Ratio_init, b_m_Ratio_init⟩ := F_m_Ratio_init.binds1 (ps := P_m_Ratio_init) 3 1 (by simp) rfl fun T kV doc pm an cdv ct us its hu hi => ⟨_, rfl, by
      match us, hu, its, hi with
      | [_, _, _], _, [_], _ => rfl⟩
  cases ve_m_Ratio_init
  obtain ⟨ds_m_Ratio_init, dv_m_Ratio_init, bd_m_Ratio_init⟩ := F_m_Ratio_init.binds1 (ps := P_m_Ratio_init) 2 0 (by simp) rfl fun T kV doc pm an cdv ct us its hu hi => ⟨_, rfl, by
      match us, hu, its, hi with
      | [_, _], _, [_], _ => rfl⟩
  have F_m_Ratio_add := fun_mk (st := s_m_Ratio_add) pl_m_Ratio_add pc_m_Ratio_add pq_m_Ratio_add
  have b_m_Ratio_add := F_m_Ratio_add.binds (ps := P_m_Ratio_add) fun _ _ _ _ _ _ us hl => match us, hl with | [_, _], _ => rfl
  have F_m_Ratio_radd := fun_mk (st := s_m_Ratio_radd) pl_m_Ratio_radd pc_m_Ratio_radd pq_m_Ratio_radd
  have b_m_Ratio_radd := F_m_Ratio_radd.binds (ps := P_m_Ratio_radd) fun _ _ _ _ _ _ us hl => match us, hl with | [_, _], _ => rfl
  have F_m_Ratio_sub := fun_mk (st := s_m_Ratio_sub) pl_m_Ratio_sub pc_m_Ratio_sub pq_m_Ratio_sub
  have b_m_Ratio_sub := F_m_Ratio_sub.binds (ps := P_m_Ratio_sub) fun _ _ _ _ _ _ us hl => match us, hl with | [_, _], _ => rfl
  have F_m_Ratio_rsub := fun_mk (st := s_m_Ratio_rsub) pl_m_Ratio_rsub pc_m_Ratio_rsub pq_m_Ratio_rsub
  have b_m_Ratio_rsub := F_m_Ratio_rsub.binds (ps := P_m_Ratio_rsub) fun _ _ _ _ _ _ us hl => match us, hl with | [_, _], _ => rfl
  have F_m_Ratio_mul := fun_mk (st := s_m_Ratio_mul) pl_m_Ratio_mul pc_m_Ratio_mul pq_m_Ratio_mul
  have b_m_Ratio_mul := F_m_Ratio_mul.binds (ps := P_m_Ratio_mul) fun _ _ _ _ _ _ us hl => match us, hl with | [_, _], _ => rfl
  have F_m_Ratio_rmul := fun_mk (st := s_m_Ratio_rmul) pl_m_Ratio_rmul pc_m_Ratio_rmul pq_m_Ratio_rmul
  have b_m_Ratio_rmul := F_m_Ratio_rmul.binds (ps := P_m_Ratio_rmul) fun _ _ _ _ _ _ us hl => match us, hl with | [_, _], _ => rfl
  have F_m_Ratio_neg := fun_mk (st := s_m_Ratio_neg) pl_m_Ratio_neg pc_m_Ratio_neg pq_m_Ratio_neg
  have b_m_Ratio_neg := F_m_Ratio_neg.binds (ps := P_m_Ratio_neg) fun _ _ _ _ _ _ us hl => match us, hl with | [_], _ => rfl
  have F_m_Ratio_abs := fun_mk (st := s_m_Ratio_abs) pl_m_Ratio_abs pc_m_Ratio_abs pq_m_Ratio_abs
  have b_m_Ratio_abs := F_m_Ratio_abs.binds (ps := P_m_Ratio_abs) fun _ _ _ _ _ _ us hl => match us, hl with | [_], _ => rfl
  have F_m_Ratio_over := fun_mk (st := s_m_Ratio_over) pl_m_Ratio_over pc_m_Ratio_over pq_m_Ratio_over
  have b_m_Ratio_over := F_m_Ratio_over.binds (ps := P_m_Ratio_over) fun _ _ _ _ _ _ us hl => match us, hl with | [_, _], _ => rfl
  have F_m_Ratio_nearest := fun_mk (st := s_m_Ratio_nearest) pl_m_Ratio_nearest pc_m_Ratio_nearest pq_m_Ratio_nearest
  have b_m_Ratio_nearest := F_m_Ratio_nearest.binds (ps := P_m_Ratio_nearest) fun _ _ _ _ _ _ us hl => match us, hl with | [_], _ => rfl
  have F_m_Ratio_sum_of := fun_mk (st := s_m_Ratio_sum_of) pl_m_Ratio_sum_of pc_m_Ratio_sum_of pq_m_Ratio_sum_of
  have b_m_Ratio_sum_of := F_m_Ratio_sum_of.binds (ps := P_m_Ratio_sum_of) fun _ _ _ _ _ _ us hl => match us, hl with | [_], _ => rfl
  have F_f_dealt := fun_mk (st := s_f_dealt) pl_f_dealt pc_f_dealt pq_f_dealt
  have b_f_dealt := F_f_dealt.binds (ps := P_f_dealt) fun _ _ _ _ _ _ us hl => match us, hl with | [_, _], _ => rfl
  have F_l_bag := fun_mk (st := s_l_bag) pl_l_bag pc_l_bag pq_l_bag
  have b_l_bag := F_l_bag.binds (ps := P_l_bag) fun _ _ _ _ _ _ us hl => match us, hl with | [_], _ => rfl
  have F_l_draw := fun_mk (st := s_l_draw) pl_l_draw pc_l_draw pq_l_draw
  have b_l_draw := F_l_draw.binds (ps := P_l_draw) fun _ _ _ _ _ _ us hl => match us, hl with | [_, _], _ => rfl
  have F_l_number := fun_mk (st := s_l_number) pl_l_number pc_l_number pq_l_number
  have b_l_number := F_l_number.binds (ps := P_l_number) fun _ _ _ _ _ _ us hl => match us, hl with | [_], _ => rfl
  have F_l_integer := fun_mk (st := s_l_integer) pl_l_integer pc_l_integer pq_l_integer
  have b_l_integer := F_l_integer.binds (ps := P_l_integer) fun _ _ _ _ _ _ us hl => match us, hl with | [_], _ => rfl
  have F_l_divisor := fun_mk (st := s_l_divisor) pl_l_divisor pc_l_divisor pq_l_divisor
  have b_l_divisor := F_l_divisor.binds (ps := P_l_divisor) fun _ _ _ _ _ _ us hl => match us, hl with | [_, _], _ => rfl
  have F_l_lowest := fun_mk (st := s_l_lowest) pl_l_lowest pc_l_lowest pq_l_lowest
  have b_l_lowest := F_l_lowest.binds (ps := P_l_lowest) fun _ _ _ _ _ _ us hl => match us, hl with | [_, _], _ => rfl
  have F_l_amounts := fun_mk (st := s_l_amounts) pl_l_amounts pc_l_amounts pq_l_amounts
  have b_l_amounts := F_l_amounts.binds (ps := P_l_amounts) fun _ _ _ _ _ _ us hl => match us, hl with | [_], _ => rfl
  have F_l_handed_out := fun_mk (st := s_l_handed_out) pl_l_handed_out pc_l_handed_out pq_l_handed_out
  have b_l_handed_out := F_l_handed_out.binds (ps := P_l_handed_out) fun _ _ _ _ _ _ us hl => match us, hl with | [_, _], _ => rfl
  have F_l_common := fun_mk (st := s_l_common) pl_l_common pc_l_common pq_l_common
  have b_l_common := F_l_common.binds (ps := P_l_common) fun _ _ _ _ _ _ us hl => match us, hl with | [_], _ => rfl
  have F_l_dealt_right := fun_mk (st := s_l_dealt_right) pl_l_dealt_right pc_l_dealt_right pq_l_dealt_right
  have b_l_dealt_right := F_l_dealt_right.binds (ps := P_l_dealt_right) fun _ _ _ _ _ _ us hl => match us, hl with | [_, _, _], _ => rfl
  have F_l_refused := fun_mk (st := s_l_refused) pl_l_refused pc_l_refused pq_l_refused
  have b_l_refused := F_l_refused.binds (ps := P_l_refused) fun _ _ _ _ _ _ us hl => match us, hl with | [_, _], _ => rfl
  have F_f_law := fun_mk (st := s_f_law) pl_f_law pc_f_law pq_f_law
  have b_f_law := F_f_law.binds (ps := P_f_law) fun _ _ _ _ _ _ us hl => match us, hl with | [_], _ => rfl
  have T : Txt K mg ⟨a_CostError, a_NoRatio, a_Ratio, a_f_common_divisor, (PySem.W.fnOf "common_divisor" "common_divisor" (defArgs s_f_common_divisor) (defBody s_f_common_divisor) (defScope s_f_common_divisor) .none kV_f_common_divisor dc_f_common_divisor pm_f_common_divisor an_f_common_divisor cd_f_common_divisor ct_f_common_divisor), a_f_halves, (PySem.W.fnOf "halves" "halves" (defArgs s_f_halves) (defBody s_f_halves) (defScope s_f_halves) .none kV_f_halves dc_f_halves pm_f_halves an_f_halves cd_f_halves ct_f_halves), a_m_Ratio_init, (PySem.W.fnOf "__init__" "Ratio.__init__" (defArgs s_m_Ratio_init) (defBody s_m_Ratio_init) (defScope s_m_Ratio_init) (.ref tp_m_Ratio_init) kV_m_Ratio_init dc_m_Ratio_init pm_m_Ratio_init an_m_Ratio_init cd_m_Ratio_init ct_m_Ratio_init), a_m_Ratio_add, (PySem.W.fnOf "__add__" "Ratio.__add__" (defArgs s_m_Ratio_add) (defBody s_m_Ratio_add) (defScope s_m_Ratio_add) .none kV_m_Ratio_add dc_m_Ratio_add pm_m_Ratio_add an_m_Ratio_add cd_m_Ratio_add ct_m_Ratio_add), a_m_Ratio_radd, (PySem.W.fnOf "__radd__" "Ratio.__radd__" (defArgs s_m_Ratio_radd) (defBody s_m_Ratio_radd) (defScope s_m_Ratio_radd) .none kV_m_Ratio_radd dc_m_Ratio_radd pm_m_Ratio_radd an_m_Ratio_radd cd_m_Ratio_radd ct_m_Ratio_radd), a_m_Ratio_sub, (PySem.W.fnOf "__sub__" "Ratio.__sub__" (defArgs s_m_Ratio_sub) (defBody s_m_Ratio_sub) (defScope s_m_Ratio_sub) .none kV_m_Ratio_sub dc_m_Ratio_sub pm_m_Ratio_sub an_m_Ratio_sub cd_m_Ratio_sub ct_m_Ratio_sub), a_m_Ratio_rsub, (PySem.W.fnOf "__rsub__" "Ratio.__rsub__" (defArgs s_m_Ratio_rsub) (defBody s_m_Ratio_rsub) (defScope s_m_Ratio_rsub) .none kV_m_Ratio_rsub dc_m_Ratio_rsub pm_m_Ratio_rsub an_m_Ratio_rsub cd_m_Ratio_rsub ct_m_Ratio_rsub), a_m_Ratio_mul, (PySem.W.fnOf "__mul__" "Ratio.__mul__" (defArgs s_m_Ratio_mul) (defBody s_m_Ratio_mul) (defScope s_m_Ratio_mul) .none kV_m_Ratio_mul dc_m_Ratio_mul pm_m_Ratio_mul an_m_Ratio_mul cd_m_Ratio_mul ct_m_Ratio_mul), a_m_Ratio_rmul, (PySem.W.fnOf "__rmul__" "Ratio.__rmul__" (defArgs s_m_Ratio_rmul) (defBody s_m_Ratio_rmul) (defScope s_m_Ratio_rmul) .none kV_m_Ratio_rmul dc_m_Ratio_rmul pm_m_Ratio_rmul an_m_Ratio_rmul cd_m_Ratio_rmul ct_m_Ratio_rmul), a_m_Ratio_neg, (PySem.W.fnOf "__neg__" "Ratio.__neg__" (defArgs s_m_Ratio_neg) (defBody s_m_Ratio_neg) (defScope s_m_Ratio_neg) .none kV_m_Ratio_neg dc_m_Ratio_neg pm_m_Ratio_neg an_m_Ratio_neg cd_m_Ratio_neg ct_m_Ratio_neg), a_m_Ratio_abs, (PySem.W.fnOf "__abs__" "Ratio.__abs__" (defArgs s_m_Ratio_abs) (defBody s_m_Ratio_abs) (defScope s_m_Ratio_abs) .none kV_m_Ratio_abs dc_m_Ratio_abs pm_m_Ratio_abs an_m_Ratio_abs cd_m_Ratio_abs ct_m_Ratio_abs), a_m_Ratio_over, (PySem.W.fnOf "over" "Ratio.over" (defArgs s_m_Ratio_over) (defBody s_m_Ratio_over) (defScope s_m_Ratio_over) .none kV_m_Ratio_over dc_m_Ratio_over pm_m_Ratio_over an_m_Ratio_over cd_m_Ratio_over ct_m_Ratio_over), a_m_Ratio_nearest, (PySem.W.fnOf "nearest" "Ratio.nearest" (defArgs s_m_Ratio_nearest) (defBody s_m_Ratio_nearest) (defScope s_m_Ratio_nearest) .none kV_m_Ratio_nearest dc_m_Ratio_nearest pm_m_Ratio_nearest an_m_Ratio_nearest cd_m_Ratio_nearest ct_m_Ratio_nearest), a_m_Ratio_sum_of, (PySem.W.fnOf "sum_of" "Ratio.sum_of" (defArgs s_m_Ratio_sum_of) (defBody s_m_Ratio_sum_of) (defScope s_m_Ratio_sum_of) .none kV_m_Ratio_sum_of dc_m_Ratio_sum_of pm_m_Ratio_sum_of an_m_Ratio_sum_of cd_m_Ratio_sum_of ct_m_Ratio_sum_of), a_sp_m_Ratio_sum_of, a_f_dealt, (PySem.W.fnOf "dealt" "dealt" (defArgs s_f_dealt) (defBody s_f_dealt) (defScope s_f_dealt) .none kV_f_dealt dc_f_dealt pm_f_dealt an_f_dealt cd_f_dealt ct_f_dealt), a_l_bag, (PySem.W.fnOf "_law_bag" "_law_bag" (defArgs s_l_bag) (defBody s_l_bag) (defScope s_l_bag) .none kV_l_bag dc_l_bag pm_l_bag an_l_bag cd_l_bag ct_l_bag), a_l_draw, (PySem.W.fnOf "_law_draw" "_law_draw" (defArgs s_l_draw) (defBody s_l_draw) (defScope s_l_draw) .none kV_l_draw dc_l_draw pm_l_draw an_l_draw cd_l_draw ct_l_draw), a_l_number, (PySem.W.fnOf "_law_number" "_law_number" (defArgs s_l_number) (defBody s_l_number) (defScope s_l_number) .none kV_l_number dc_l_number pm_l_number an_l_number cd_l_number ct_l_number), a_l_integer, (PySem.W.fnOf "_law_integer" "_law_integer" (defArgs s_l_integer) (defBody s_l_integer) (defScope s_l_integer) .none kV_l_integer dc_l_integer pm_l_integer an_l_integer cd_l_integer ct_l_integer), a_l_divisor, (PySem.W.fnOf "_law_divisor" "_law_divisor" (defArgs s_l_divisor) (defBody s_l_divisor) (defScope s_l_divisor) .none kV_l_divisor dc_l_divisor pm_l_divisor an_l_divisor cd_l_divisor ct_l_divisor), a_l_lowest, (PySem.W.fnOf "_law_lowest" "_law_lowest" (defArgs s_l_lowest) (defBody s_l_lowest) (defScope s_l_lowest) .none kV_l_lowest dc_l_lowest pm_l_lowest an_l_lowest cd_l_lowest ct_l_lowest), a_l_amounts, (PySem.W.fnOf "_law_amounts" "_law_amounts" (defArgs s_l_amounts) (defBody s_l_amounts) (defScope s_l_amounts) .none kV_l_amounts dc_l_amounts pm_l_amounts an_l_amounts cd_l_amounts ct_l_amounts), a_l_handed_out, (PySem.W.fnOf "_law_handed_out" "_law_handed_out" (defArgs s_l_handed_out) (defBody s_l_handed_out) (defScope s_l_handed_out) .none kV_l_handed_out dc_l_handed_out pm_l_handed_out an_l_handed_out cd_l_handed_out ct_l_handed_out), a_l_common, (PySem.W.fnOf "_law_common" "_law_common" (defArgs s_l_common) (defBody s_l_common) (defScope s_l_common) .none kV_l_common dc_l_common pm_l_common an_l_common cd_l_common ct_l_common), a_l_dealt_right, (PySem.W.fnOf "_law_dealt_right" "_law_dealt_right" (defArgs s_l_dealt_right) (defBody s_l_dealt_right) (defScope s_l_dealt_right) .none kV_l_dealt_right dc_l_dealt_right pm_l_dealt_right an_l_dealt_right cd_l_dealt_right ct_l_dealt_right), a_l_refused, (PySem.W.fnOf "_law_refused" "_law_refused" (defArgs s_l_refused) (defBody s_l_refused) (defScope s_l_refused) .none kV_l_refused dc_l_refused pm_l_refused an_l_refused cd_l_refused ct_l_refused), fa, (PySem.W.fnOf "law" "law" (defArgs s_f_law) (defBody s_f_law) (defScope s_f_law) .none kV_f_law dc_f_law pm_f_law an_f_law cd_f_law ct_f_law), ds_m_Ratio_init⟩ := {
    z_abs := PySem.W.mg_none_of X G pz_abs,
    z_all := PySem.W.mg_none_of X G pz_all,
    z_bool := PySem.W.mg_none_of X G pz_bool,
    z_int := PySem.W.mg_none_of X G pz_int,
    z_isinstance := PySem.W.mg_none_of X G pz_isinstance,
    z_len := PySem.W.mg_none_of X G pz_len,
    z_list := PySem.W.mg_none_of X G pz_list,
    z_range := PySem.W.mg_none_of X G pz_range,
    z_staticmethod := PySem.W.mg_none_of X G pz_staticmethod,
    z_sum := PySem.W.mg_none_of X G pz_sum,
    g_CostError := PySem.W.mg_of X G pg_CostError,
    ek_CostError := pek_CostError,
    eb_CostError := peb_CostError,
    et_CostError := pet_CostError,
    eh_CostError := peh_CostError,
    eic_CostError := peic_CostError,
    es_CostError := pes_CostError,
    g_NoRatio := PySem.W.mg_of X G pg_NoRatio,
    ek_NoRatio := pek_NoRatio,
    eb_NoRatio := peb_NoRatio,
    et_NoRatio := pet_NoRatio,
    eh_NoRatio := peh_NoRatio,
    eic_NoRatio := peic_NoRatio,
    es_NoRatio := pes_NoRatio,
    ex_NoRatio := pex_NoRatio,
    xg_NoRatio := pxg_NoRatio,
    xk_NoRatio := pxk_NoRatio,
    xa_NoRatio := pxa_NoRatio,
    xn_NoRatio := pxn_NoRatio,
    xt_NoRatio := pxt_NoRatio,
    xm_NoRatio := pxm_NoRatio,
    xc_NoRatio := pxc_NoRatio,
    g_Ratio := PySem.W.mg_of X G pg_Ratio,
    cl_Ratio := ⟨ppg_Ratio, phd_Ratio, ppo_Ratio, psa_Ratio⟩,
    n_Ratio_top := pn_Ratio_top,
    n_Ratio_bottom := pn_Ratio_bottom,
    mk_Ratio := ⟨pma_Ratio, pmi_Ratio, pmf_Ratio, pmc_Ratio⟩,
    m_Ratio___add__ := ⟨pmt_m_Ratio_add, pmn_m_Ratio_add, pmk_m_Ratio_add⟩,
    m_Ratio___radd__ := ⟨pmt_m_Ratio_radd, pmn_m_Ratio_radd, pmk_m_Ratio_radd⟩,
    m_Ratio___sub__ := ⟨pmt_m_Ratio_sub, pmn_m_Ratio_sub, pmk_m_Ratio_sub⟩,
    m_Ratio___rsub__ := ⟨pmt_m_Ratio_rsub, pmn_m_Ratio_rsub, pmk_m_Ratio_rsub⟩,
    m_Ratio___mul__ := ⟨pmt_m_Ratio_mul, pmn_m_Ratio_mul, pmk_m_Ratio_mul⟩,
    m_Ratio___rmul__ := ⟨pmt_m_Ratio_rmul, pmn_m_Ratio_rmul, pmk_m_Ratio_rmul⟩,
    m_Ratio___neg__ := ⟨pmt_m_Ratio_neg, pmn_m_Ratio_neg, pmk_m_Ratio_neg⟩,
    m_Ratio___abs__ := ⟨pmt_m_Ratio_abs, pmn_m_Ratio_abs, pmk_m_Ratio_abs⟩,
    m_Ratio_over := ⟨pmt_m_Ratio_over, pmn_m_Ratio_over, pmk_m_Ratio_over⟩,
    m_Ratio_nearest := ⟨pmt_m_Ratio_nearest, pmn_m_Ratio_nearest, pmk_m_Ratio_nearest⟩,
    sm_Ratio_sum_of := ⟨ps1_m_Ratio_sum_of, ps2_m_Ratio_sum_of, ps3_m_Ratio_sum_of, ⟨_, ps4_m_Ratio_sum_of⟩, ps5_m_Ratio_sum_of⟩,
    tc_Ratio := ptc_Ratio,
    tn_Ratio := ptn_Ratio,
    tk_Ratio := ptk_Ratio,
    tm_Ratio := ptm_Ratio,
    ki_Ratio := pki_Ratio,
    sf_Ratio := psf_Ratio,
    si_Ratio := psi_Ratio,
    sj_Ratio := psj_Ratio,
    o1a_Ratio := po1a_Ratio,
    o2a_Ratio := po2a_Ratio,
    o1s_Ratio := po1s_Ratio,
    o2s_Ratio := po2s_Ratio,
    o1m_Ratio := po1m_Ratio,
    o2m_Ratio := po2m_Ratio,
    nia_Ratio := pnia_Ratio,
    nis_Ratio := pnis_Ratio,
    nim_Ratio := pnim_Ratio,
    rd_Ratio := prd_Ratio,
    cga_Ratio := pcga_Ratio,
    F_f_common_divisor := F_f_common_divisor,
    b_f_common_divisor := b_f_common_divisor,
    g_common_divisor := PySem.W.mg_of X G pa_f_common_divisor,
    F_f_halves := F_f_halves,
    b_f_halves := b_f_halves,
    g_halves := PySem.W.mg_of X G pa_f_halves,
    F_m_Ratio_init := F_m_Ratio_init,
    b_m_Ratio_init := b_m_Ratio_init,
    dv_m_Ratio_init := dv_m_Ratio_init,
    b_m_Ratio_init_d1 := bd_m_Ratio_init,
    F_m_Ratio_add := F_m_Ratio_add,
    b_m_Ratio_add := b_m_Ratio_add,
    F_m_Ratio_radd := F_m_Ratio_radd,
    b_m_Ratio_radd := b_m_Ratio_radd,
    F_m_Ratio_sub := F_m_Ratio_sub,
    b_m_Ratio_sub := b_m_Ratio_sub,
    F_m_Ratio_rsub := F_m_Ratio_rsub,
    b_m_Ratio_rsub := b_m_Ratio_rsub,
    F_m_Ratio_mul := F_m_Ratio_mul,
    b_m_Ratio_mul := b_m_Ratio_mul,
    F_m_Ratio_rmul := F_m_Ratio_rmul,
    b_m_Ratio_rmul := b_m_Ratio_rmul,
    F_m_Ratio_neg := F_m_Ratio_neg,
    b_m_Ratio_neg := b_m_Ratio_neg,
    F_m_Ratio_abs := F_m_Ratio_abs,
    b_m_Ratio_abs := b_m_Ratio_abs,
    F_m_Ratio_over := F_m_Ratio_over,
    b_m_Ratio_over := b_m_Ratio_over,
    F_m_Ratio_nearest := F_m_Ratio_nearest,
    b_m_Ratio_nearest := b_m_Ratio_nearest,
    F_m_Ratio_sum_of := F_m_Ratio_sum_of,
    b_m_Ratio_sum_of := b_m_Ratio_sum_of,
    F_f_dealt := F_f_dealt,
    b_f_dealt := b_f_dealt,
    g_dealt := PySem.W.mg_of X G pa_f_dealt,
    F_l_bag := F_l_bag,
    b_l_bag := b_l_bag,
    g__law_bag := PySem.W.mg_of X G pa_l_bag,
    F_l_draw := F_l_draw,
    b_l_draw := b_l_draw,
    g__law_draw := PySem.W.mg_of X G pa_l_draw,
    F_l_number := F_l_number,
    b_l_number := b_l_number,
    g__law_number := PySem.W.mg_of X G pa_l_number,
    F_l_integer := F_l_integer,
    b_l_integer := b_l_integer,
    g__law_integer := PySem.W.mg_of X G pa_l_integer,
    F_l_divisor := F_l_divisor,
    b_l_divisor := b_l_divisor,
    g__law_divisor := PySem.W.mg_of X G pa_l_divisor,
    F_l_lowest := F_l_lowest,
    b_l_lowest := b_l_lowest,
    g__law_lowest := PySem.W.mg_of X G pa_l_lowest,
    F_l_amounts := F_l_amounts,
    b_l_amounts := b_l_amounts,
    g__law_amounts := PySem.W.mg_of X G pa_l_amounts,
    F_l_handed_out := F_l_handed_out,
    b_l_handed_out := b_l_handed_out,
    g__law_handed_out := PySem.W.mg_of X G pa_l_handed_out,
    F_l_common := F_l_common,
    b_l_common := b_l_common,
    g__law_common := PySem.W.mg_of X G pa_l_common,
    F_l_dealt_right := F_l_dealt_right,
    b_l_dealt_right := b_l_dealt_right,
    g__law_dealt_right := PySem.W.mg_of X G pa_l_dealt_right,
    F_l_refused := F_l_refused,
    b_l_refused := b_l_refused,
    g__law_refused := PySem.W.mg_of X G pa_l_refused,
    F_f_law := F_f_law,
    b_f_law := b_f_law,
    g_law := PySem.W.mg_of X G pa_f_law }
  exact ⟨_, fun s v => .of_eq rfl, fun base _ _ => ok_f_law T⟩
theorem walk {l : PySem.W.OpenLaw} {q : Program} {loose : List Str} {XP : (Str → Option Value) → Heap → Prop} {YP : World → Heap → Prop} {d : DefRec} {K : Params → PySem.W.Frag} (hn : l.most = some 63) (hdf : d.params.defaults = [])
    (hY : ∀ (w : World) (h : Heap), YP w h → (K w.params).In h)
    (F : ∀ (w : World) (mg : Str → Option Value) (fa : Addr) (h : Heap), (K w.params).In h → h.Ns mainGlobals mg → mg d.name = some (.ref fa) →
      ∃ fd : FuncData, (∀ (s : Shared) (u : Value), BindsTo s fd ⟨[u], []⟩ [("_law_script", u)]) ∧ ∀ base : Heap, (K w.params).In base → base.Ns mainGlobals mg → FnOk l.prog w (K w.params) mg base CX0 14 fa fd ["_law_script"] (spLaw (K w.params))) :
    PySem.W.WalkO q loose XP YP l.row.toRowW d [] (fun f vs => PySem.call f vs) :=
  L2.walk_of (n := 63) (k := 14) (x := "_law_script") (CX := fun _ => CX0) (sp := fun w => spLaw (K w.params)) hn (by decide) hdf ⟨rfl, by decide, by decide⟩ hY F (fun _ _ a ns hl _ hS => ⟨a, ns, rfl, hS, hl, fun _ => rfl⟩) fun _ _ _ _ _ z => z
end Lot
open PySem PySem.W PyProof.Rows
set_option maxRecDepth 100000 in
set_option maxHeartbeats 0 in
theorem PySem.Challenge.cw_lotcosts_k89_cents_dealt_out_holds : PySem.Challenge.rw_lotcosts_k89_cents_dealt_out.Holds := by
  w_on; o_law; k_head; (case hw => w_witness2)
  k_fill
  refine Lot.walk (l := PySem.Challenge.rw_lotcosts_k89_cents_dealt_out) rfl rfl (fun w h Y => PySem.W.kIn_of Y) ?F
  case F =>
    intro w mg fa h KX G hmg
    refine' Lot.all_mk KX G hmg ?pz_abs ?pz_all ?pz_bool ?pz_int ?pz_isinstance ?pz_len ?pz_list ?pz_range ?pz_staticmethod ?pz_sum ?pg_CostError ?pek_CostError ?peb_CostError ?pet_CostError ?peh_CostError ?peic_CostError ?pes_CostError ?pg_NoRatio ?pek_NoRatio ?peb_NoRatio ?pet_NoRatio ?peh_NoRatio ?peic_NoRatio ?pes_NoRatio ?pex_NoRatio ?pxg_NoRatio ?pxk_NoRatio ?pxa_NoRatio ?pxn_NoRatio ?pxt_NoRatio ?pxm_NoRatio ?pxc_NoRatio ?pg_Ratio ?ppg_Ratio ?phd_Ratio ?ppo_Ratio ?psa_Ratio ?pn_Ratio_top ?pn_Ratio_bottom ?pma_Ratio ?pmi_Ratio ?pmf_Ratio ?pmc_Ratio ?pmt_m_Ratio_add ?pmn_m_Ratio_add ?pmk_m_Ratio_add ?pmt_m_Ratio_radd ?pmn_m_Ratio_radd ?pmk_m_Ratio_radd ?pmt_m_Ratio_sub ?pmn_m_Ratio_sub ?pmk_m_Ratio_sub ?pmt_m_Ratio_rsub ?pmn_m_Ratio_rsub ?pmk_m_Ratio_rsub ?pmt_m_Ratio_mul ?pmn_m_Ratio_mul ?pmk_m_Ratio_mul ?pmt_m_Ratio_rmul ?pmn_m_Ratio_rmul ?pmk_m_Ratio_rmul ?pmt_m_Ratio_neg ?pmn_m_Ratio_neg ?pmk_m_Ratio_neg ?pmt_m_Ratio_abs ?pmn_m_Ratio_abs ?pmk_m_Ratio_abs ?pmt_m_Ratio_over ?pmn_m_Ratio_over ?pmk_m_Ratio_over ?pmt_m_Ratio_nearest ?pmn_m_Ratio_nearest ?pmk_m_Ratio_nearest ?ps1_m_Ratio_sum_of ?ps2_m_Ratio_sum_of ?ps3_m_Ratio_sum_of ?ps4_m_Ratio_sum_of ?ps5_m_Ratio_sum_of ?ptc_Ratio ?ptn_Ratio ?ptk_Ratio ?ptm_Ratio ?pki_Ratio ?psf_Ratio ?psi_Ratio ?psj_Ratio ?po1a_Ratio ?po2a_Ratio ?po1s_Ratio ?po2s_Ratio ?po1m_Ratio ?po2m_Ratio ?pnia_Ratio ?pnis_Ratio ?pnim_Ratio ?prd_Ratio ?pcga_Ratio ?pa_f_common_divisor ?pl_f_common_divisor ?pc_f_common_divisor ?pq_f_common_divisor ?pa_f_halves ?pl_f_halves ?pc_f_halves ?pq_f_halves ?pl_m_Ratio_init ?pt_m_Ratio_init ?pc_m_Ratio_init ?pq_m_Ratio_init ?pl_m_Ratio_add ?pc_m_Ratio_add ?pq_m_Ratio_add ?pl_m_Ratio_radd ?pc_m_Ratio_radd ?pq_m_Ratio_radd ?pl_m_Ratio_sub ?pc_m_Ratio_sub ?pq_m_Ratio_sub ?pl_m_Ratio_rsub ?pc_m_Ratio_rsub ?pq_m_Ratio_rsub ?pl_m_Ratio_mul ?pc_m_Ratio_mul ?pq_m_Ratio_mul ?pl_m_Ratio_rmul ?pc_m_Ratio_rmul ?pq_m_Ratio_rmul ?pl_m_Ratio_neg ?pc_m_Ratio_neg ?pq_m_Ratio_neg ?pl_m_Ratio_abs ?pc_m_Ratio_abs ?pq_m_Ratio_abs ?pl_m_Ratio_over ?pc_m_Ratio_over ?pq_m_Ratio_over ?pl_m_Ratio_nearest ?pc_m_Ratio_nearest ?pq_m_Ratio_nearest ?pl_m_Ratio_sum_of ?pc_m_Ratio_sum_of ?pq_m_Ratio_sum_of ?pa_f_dealt ?pl_f_dealt ?pc_f_dealt ?pq_f_dealt ?pa_l_bag ?pl_l_bag ?pc_l_bag ?pq_l_bag ?pa_l_draw ?pl_l_draw ?pc_l_draw ?pq_l_draw ?pa_l_number ?pl_l_number ?pc_l_number ?pq_l_number ?pa_l_integer ?pl_l_integer ?pc_l_integer ?pq_l_integer ?pa_l_divisor ?pl_l_divisor ?pc_l_divisor ?pq_l_divisor ?pa_l_lowest ?pl_l_lowest ?pc_l_lowest ?pq_l_lowest ?pa_l_amounts ?pl_l_amounts ?pc_l_amounts ?pq_l_amounts ?pa_l_handed_out ?pl_l_handed_out ?pc_l_handed_out ?pq_l_handed_out ?pa_l_common ?pl_l_common ?pc_l_common ?pq_l_common ?pa_l_dealt_right ?pl_l_dealt_right ?pc_l_dealt_right ?pq_l_dealt_right ?pa_l_refused ?pl_l_refused ?pc_l_refused ?pq_l_refused ?pa_f_law ?pl_f_law ?pc_f_law ?pq_f_law
    (case pz_abs => first | k_is | rfl)
    (case pz_all => first | k_is | rfl)
    (case pz_bool => first | k_is | rfl)
    (case pz_int => first | k_is | rfl)
    (case pz_isinstance => first | k_is | rfl)
    (case pz_len => first | k_is | rfl)
    (case pz_list => first | k_is | rfl)
    (case pz_range => first | k_is | rfl)
    (case pz_staticmethod => first | k_is | rfl)
    (case pz_sum => first | k_is | rfl)
    (case pg_CostError => first | k_is | rfl)
    (case pek_CostError => first | k_is | rfl)
    (case peb_CostError => first | k_is | rfl)
    (case pet_CostError => first | k_is | rfl)
    (case peh_CostError => first | k_is | rfl)
    (case peic_CostError => first | k_is | rfl)
    (case pes_CostError => first | k_is | rfl)
    (case pg_NoRatio => first | k_is | rfl)
    (case pek_NoRatio => first | k_is | rfl)
    (case peb_NoRatio => first | k_is | rfl)
    (case pet_NoRatio => first | k_is | rfl)
    (case peh_NoRatio => first | k_is | rfl)
    (case peic_NoRatio => first | k_is | rfl)
    (case pes_NoRatio => first | k_is | rfl)
    (case pex_NoRatio => k_exc)
    (case pxg_NoRatio => first | k_is | rfl)
    (case pxk_NoRatio => first | k_is | rfl)
    (case pxa_NoRatio => first | k_is | rfl)
    (case pxn_NoRatio => first | k_is | rfl)
    (case pxt_NoRatio => first | k_is | rfl)
    (case pxm_NoRatio => first | k_is | rfl)
    (case pxc_NoRatio => first | k_is | rfl)
    (case pg_Ratio => first | k_is | rfl)
    (case ppg_Ratio => first | k_is | rfl)
    (case phd_Ratio => first | k_is | rfl)
    (case ppo_Ratio => first | k_is | rfl)
    (case psa_Ratio => first | k_is | rfl)
    (case pn_Ratio_top => first | k_is | rfl)
    (case pn_Ratio_bottom => first | k_is | rfl)
    (case pma_Ratio => first | k_is | rfl)
    (case pmi_Ratio => first | k_is | rfl)
    (case pmf_Ratio => first | k_is | rfl)
    (case pmc_Ratio => first | k_is | rfl)
    (case pmt_m_Ratio_add => first | k_is | rfl)
    (case pmn_m_Ratio_add => first | k_is | rfl)
    (case pmk_m_Ratio_add => first | k_is | rfl)
    (case pmt_m_Ratio_radd => first | k_is | rfl)
    (case pmn_m_Ratio_radd => first | k_is | rfl)
    (case pmk_m_Ratio_radd => first | k_is | rfl)
    (case pmt_m_Ratio_sub => first | k_is | rfl)
    (case pmn_m_Ratio_sub => first | k_is | rfl)
    (case pmk_m_Ratio_sub => first | k_is | rfl)
    (case pmt_m_Ratio_rsub => first | k_is | rfl)
    (case pmn_m_Ratio_rsub => first | k_is | rfl)
    (case pmk_m_Ratio_rsub => first | k_is | rfl)
    (case pmt_m_Ratio_mul => first | k_is | rfl)
    (case pmn_m_Ratio_mul => first | k_is | rfl)
    (case pmk_m_Ratio_mul => first | k_is | rfl)
    (case pmt_m_Ratio_rmul => first | k_is | rfl)
    (case pmn_m_Ratio_rmul => first | k_is | rfl)
    (case pmk_m_Ratio_rmul => first | k_is | rfl)
    (case pmt_m_Ratio_neg => first | k_is | rfl)
    (case pmn_m_Ratio_neg => first | k_is | rfl)
    (case pmk_m_Ratio_neg => first | k_is | rfl)
    (case pmt_m_Ratio_abs => first | k_is | rfl)
    (case pmn_m_Ratio_abs => first | k_is | rfl)
    (case pmk_m_Ratio_abs => first | k_is | rfl)
    (case pmt_m_Ratio_over => first | k_is | rfl)
    (case pmn_m_Ratio_over => first | k_is | rfl)
    (case pmk_m_Ratio_over => first | k_is | rfl)
    (case pmt_m_Ratio_nearest => first | k_is | rfl)
    (case pmn_m_Ratio_nearest => first | k_is | rfl)
    (case pmk_m_Ratio_nearest => first | k_is | rfl)
    (case ps1_m_Ratio_sum_of => first | k_is | rfl)
    (case ps2_m_Ratio_sum_of => first | k_is | rfl)
    (case ps3_m_Ratio_sum_of => first | k_is | rfl)
    (case ps4_m_Ratio_sum_of => first | k_is | rfl)
    (case ps5_m_Ratio_sum_of => first | k_is | rfl)
    (case ptc_Ratio => first | k_is | rfl)
    (case ptn_Ratio => first | k_is | rfl)
    (case ptk_Ratio => first | k_is | rfl)
    (case ptm_Ratio => first | k_is | rfl)
    (case pki_Ratio => first | k_is | rfl)
    (case psf_Ratio => first | k_is | rfl)
    (case psi_Ratio => first | k_is | rfl)
    (case psj_Ratio => first | k_is | rfl)
    (case po1a_Ratio => first | k_is | rfl)
    (case po2a_Ratio => first | k_is | rfl)
    (case po1s_Ratio => first | k_is | rfl)
    (case po2s_Ratio => first | k_is | rfl)
    (case po1m_Ratio => first | k_is | rfl)
    (case po2m_Ratio => first | k_is | rfl)
    (case pnia_Ratio => first | k_is | rfl)
    (case pnis_Ratio => first | k_is | rfl)
    (case pnim_Ratio => first | k_is | rfl)
    (case prd_Ratio => first | k_is | rfl)
    (case pcga_Ratio => first | k_is | rfl)
    (case pa_f_common_divisor => first | k_is | rfl)
    (case pl_f_common_divisor => first | k_is | rfl)
    (case pc_f_common_divisor => first | k_is | rfl)
    (case pq_f_common_divisor => first | k_is | rfl)
    (case pa_f_halves => first | k_is | rfl)
    (case pl_f_halves => first | k_is | rfl)
    (case pc_f_halves => first | k_is | rfl)
    (case pq_f_halves => first | k_is | rfl)
    (case pl_m_Ratio_init => first | k_is | rfl)
    (case pt_m_Ratio_init => first | k_is | rfl)
    (case pc_m_Ratio_init => first | k_is | rfl)
    (case pq_m_Ratio_init => first | k_is | rfl)
    (case pl_m_Ratio_add => first | k_is | rfl)
    (case pc_m_Ratio_add => first | k_is | rfl)
    (case pq_m_Ratio_add => first | k_is | rfl)
    (case pl_m_Ratio_radd => first | k_is | rfl)
    (case pc_m_Ratio_radd => first | k_is | rfl)
    (case pq_m_Ratio_radd => first | k_is | rfl)
    (case pl_m_Ratio_sub => first | k_is | rfl)
    (case pc_m_Ratio_sub => first | k_is | rfl)
    (case pq_m_Ratio_sub => first | k_is | rfl)
    (case pl_m_Ratio_rsub => first | k_is | rfl)
    (case pc_m_Ratio_rsub => first | k_is | rfl)
    (case pq_m_Ratio_rsub => first | k_is | rfl)
    (case pl_m_Ratio_mul => first | k_is | rfl)
    (case pc_m_Ratio_mul => first | k_is | rfl)
    (case pq_m_Ratio_mul => first | k_is | rfl)
    (case pl_m_Ratio_rmul => first | k_is | rfl)
    (case pc_m_Ratio_rmul => first | k_is | rfl)
    (case pq_m_Ratio_rmul => first | k_is | rfl)
    (case pl_m_Ratio_neg => first | k_is | rfl)
    (case pc_m_Ratio_neg => first | k_is | rfl)
    (case pq_m_Ratio_neg => first | k_is | rfl)
    (case pl_m_Ratio_abs => first | k_is | rfl)
    (case pc_m_Ratio_abs => first | k_is | rfl)
    (case pq_m_Ratio_abs => first | k_is | rfl)
    (case pl_m_Ratio_over => first | k_is | rfl)
    (case pc_m_Ratio_over => first | k_is | rfl)
    (case pq_m_Ratio_over => first | k_is | rfl)
    (case pl_m_Ratio_nearest => first | k_is | rfl)
    (case pc_m_Ratio_nearest => first | k_is | rfl)
    (case pq_m_Ratio_nearest => first | k_is | rfl)
    (case pl_m_Ratio_sum_of => first | k_is | rfl)
    (case pc_m_Ratio_sum_of => first | k_is | rfl)
    (case pq_m_Ratio_sum_of => first | k_is | rfl)
    (case pa_f_dealt => first | k_is | rfl)
    (case pl_f_dealt => first | k_is | rfl)
    (case pc_f_dealt => first | k_is | rfl)
    (case pq_f_dealt => first | k_is | rfl)
    (case pa_l_bag => first | k_is | rfl)
    (case pl_l_bag => first | k_is | rfl)
    (case pc_l_bag => first | k_is | rfl)
    (case pq_l_bag => first | k_is | rfl)
    (case pa_l_draw => first | k_is | rfl)
    (case pl_l_draw => first | k_is | rfl)
    (case pc_l_draw => first | k_is | rfl)
    (case pq_l_draw => first | k_is | rfl)
    (case pa_l_number => first | k_is | rfl)
    (case pl_l_number => first | k_is | rfl)
    (case pc_l_number => first | k_is | rfl)
    (case pq_l_number => first | k_is | rfl)
    (case pa_l_integer => first | k_is | rfl)
    (case pl_l_integer => first | k_is | rfl)
    (case pc_l_integer => first | k_is | rfl)
    (case pq_l_integer => first | k_is | rfl)
    (case pa_l_divisor => first | k_is | rfl)
    (case pl_l_divisor => first | k_is | rfl)
    (case pc_l_divisor => first | k_is | rfl)
    (case pq_l_divisor => first | k_is | rfl)
    (case pa_l_lowest => first | k_is | rfl)
    (case pl_l_lowest => first | k_is | rfl)
    (case pc_l_lowest => first | k_is | rfl)
    (case pq_l_lowest => first | k_is | rfl)
    (case pa_l_amounts => first | k_is | rfl)
    (case pl_l_amounts => first | k_is | rfl)
    (case pc_l_amounts => first | k_is | rfl)
    (case pq_l_amounts => first | k_is | rfl)
    (case pa_l_handed_out => first | k_is | rfl)
    (case pl_l_handed_out => first | k_is | rfl)
    (case pc_l_handed_out => first | k_is | rfl)
    (case pq_l_handed_out => first | k_is | rfl)
    (case pa_l_common => first | k_is | rfl)
    (case pl_l_common => first | k_is | rfl)
    (case pc_l_common => first | k_is | rfl)
    (case pq_l_common => first | k_is | rfl)
    (case pa_l_dealt_right => first | k_is | rfl)
    (case pl_l_dealt_right => first | k_is | rfl)
    (case pc_l_dealt_right => first | k_is | rfl)
    (case pq_l_dealt_right => first | k_is | rfl)
    (case pa_l_refused => first | k_is | rfl)
    (case pl_l_refused => first | k_is | rfl)
    (case pc_l_refused => first | k_is | rfl)
    (case pq_l_refused => first | k_is | rfl)
    (case pa_f_law => first | k_is | rfl)
    (case pl_f_law => first | k_is | rfl)
    (case pc_f_law => first | k_is | rfl)
    (case pq_f_law => first | k_is | rfl)
#print axioms PySem.Challenge.cw_lotcosts_k89_cents_dealt_out_holds

