import PyProof.Rows.All
import Wide.All
import OpenK.AllK
import Wide.FinOn
import HandS.ForMost
import HandS.ForExc
import HandS.Flow
import HandS.Evl
import HandS.Style
import KE.KOpsOwn
import HandS.ClsMeth
import HandS.OwnEq
import HandS.IsInst
import HandS.ExcIs
import HandS.Wide
import HandS.Defaults
import PySem.Challenge.RW_lotcosts_k11_ratios_exact
set_option Elab.async false
set_option linter.all false
set_option pp.maxSteps 400
set_option maxRecDepth 100000
set_option maxHeartbeats 4000000
namespace Lot
open PySem L2
/-! ### steps -/
local macro_rules | `(tactic| walk_at "ne") => `(tactic| first
  | with_reducible assumption
  | (apply Ne.symm; with_reducible assumption)
  | exact ne_of_none (by with_reducible assumption) (by with_reducible assumption)
  | exact (ne_of_none (by with_reducible assumption) (by with_reducible assumption)).symm)
local macro_rules | `(tactic| walk_at "at") => `(tactic| first
  | with_reducible assumption
  | exact upd_same
  | (refine Eq.trans (upd_ne (by walk_at "ne")) ?_; walk_at "at"))
local macro_rules | `(tactic| walk_at "num") => `(tactic| first
  | decide
  | omega
  | (dsimp only; first | decide | omega))
local macro_rules | `(tactic| walk_at "fact") => `(tactic| first
  | with_reducible assumption
  | exact rfl
  | walk_at "at"
  | exact SqL.of (by walk_at "at")
  | exact SqT.of (by walk_at "at")
  | exact .inl (SqL.of (by walk_at "at"))
  | exact .inr (SqT.of (by walk_at "at"))
  | exact .inl ⟨rfl, _, SqL.of (by walk_at "at")⟩
  | exact Or.inl ⟨by walk_at "num", by walk_at "num"⟩
  | exact Or.inr ⟨by walk_at "num", by walk_at "num"⟩
  | exact ⟨by walk_at "num", by walk_at "num"⟩
  | exact ⟨by walk_at "num", by walk_at "num", by walk_at "num"⟩
  | exact wide_div (b := 9000) (by omega) (by assumption) (by decide) (by decide)
  | exact Nat.le_of_ble_eq_true rfl
  | assumption
  | walk_at "num")
local macro_rules | `(tactic| walk_at "go") => `(tactic| repeat (first
  | apply Exists.intro
  | refine And.intro (by walk_at "fact") ?_
  | refine Or.inl ⟨_, rfl, ?_⟩
  | refine Or.inr ⟨_, rfl, ?_⟩
  | refine iteT ?_
  | refine iteF ?_))
def top (i : Nat) : Stmt := PySem.Challenge.pw_lotcosts_k11_ratios_exact.main.body.getD i (.Pass ⟨0, 0, 0, 0⟩)
abbrev s_f_common_divisor : Stmt := top 5
abbrev N_f_common_divisor : List Str := ["one", "other"]
abbrev P_f_common_divisor : List Str := ["one", "other"]
theorem sc_f_common_divisor : FnScope N_f_common_divisor P_f_common_divisor (defScope s_f_common_divisor) := ⟨rfl, rfl, rfl, by decide +kernel, rfl, by decide +kernel, by decide +kernel⟩
abbrev s_f_halves : Stmt := top 6
abbrev N_f_halves : List Str := ["value"]
abbrev P_f_halves : List Str := ["value"]
theorem sc_f_halves : FnScope N_f_halves P_f_halves (defScope s_f_halves) := ⟨rfl, rfl, rfl, by decide +kernel, rfl, by decide +kernel, by decide +kernel⟩
abbrev s_m_Ratio_init : Stmt := inClass (top 7) 0
abbrev N_m_Ratio_init : List Str := ["self", "top", "bottom", "divisor"]
abbrev P_m_Ratio_init : List Str := ["self", "top", "bottom"]
theorem sc_m_Ratio_init : FnScope N_m_Ratio_init P_m_Ratio_init (defScope s_m_Ratio_init) := ⟨rfl, rfl, rfl, by decide +kernel, rfl, by decide +kernel, by decide +kernel⟩
abbrev s_m_Ratio_add : Stmt := inClass (top 7) 1
abbrev N_m_Ratio_add : List Str := ["self", "other", "top", "bottom"]
abbrev P_m_Ratio_add : List Str := ["self", "other"]
theorem sc_m_Ratio_add : FnScope N_m_Ratio_add P_m_Ratio_add (defScope s_m_Ratio_add) := ⟨rfl, rfl, rfl, by decide +kernel, rfl, by decide +kernel, by decide +kernel⟩
abbrev s_m_Ratio_radd : Stmt := inClass (top 7) 2
abbrev N_m_Ratio_radd : List Str := ["self", "other"]
abbrev P_m_Ratio_radd : List Str := ["self", "other"]
theorem sc_m_Ratio_radd : FnScope N_m_Ratio_radd P_m_Ratio_radd (defScope s_m_Ratio_radd) := ⟨rfl, rfl, rfl, by decide +kernel, rfl, by decide +kernel, by decide +kernel⟩
abbrev s_m_Ratio_sub : Stmt := inClass (top 7) 3
abbrev N_m_Ratio_sub : List Str := ["self", "other", "top", "bottom"]
abbrev P_m_Ratio_sub : List Str := ["self", "other"]
theorem sc_m_Ratio_sub : FnScope N_m_Ratio_sub P_m_Ratio_sub (defScope s_m_Ratio_sub) := ⟨rfl, rfl, rfl, by decide +kernel, rfl, by decide +kernel, by decide +kernel⟩
abbrev s_m_Ratio_rsub : Stmt := inClass (top 7) 4
abbrev N_m_Ratio_rsub : List Str := ["self", "other"]
abbrev P_m_Ratio_rsub : List Str := ["self", "other"]
theorem sc_m_Ratio_rsub : FnScope N_m_Ratio_rsub P_m_Ratio_rsub (defScope s_m_Ratio_rsub) := ⟨rfl, rfl, rfl, by decide +kernel, rfl, by decide +kernel, by decide +kernel⟩
abbrev s_m_Ratio_mul : Stmt := inClass (top 7) 5
abbrev N_m_Ratio_mul : List Str := ["self", "other", "top", "bottom"]
abbrev P_m_Ratio_mul : List Str := ["self", "other"]
theorem sc_m_Ratio_mul : FnScope N_m_Ratio_mul P_m_Ratio_mul (defScope s_m_Ratio_mul) := ⟨rfl, rfl, rfl, by decide +kernel, rfl, by decide +kernel, by decide +kernel⟩
abbrev s_m_Ratio_rmul : Stmt := inClass (top 7) 6
abbrev N_m_Ratio_rmul : List Str := ["self", "other"]
abbrev P_m_Ratio_rmul : List Str := ["self", "other"]
theorem sc_m_Ratio_rmul : FnScope N_m_Ratio_rmul P_m_Ratio_rmul (defScope s_m_Ratio_rmul) := ⟨rfl, rfl, rfl, by decide +kernel, rfl, by decide +kernel, by decide +kernel⟩
abbrev s_m_Ratio_neg : Stmt := inClass (top 7) 7
abbrev N_m_Ratio_neg : List Str := ["self"]
abbrev P_m_Ratio_neg : List Str := ["self"]
theorem sc_m_Ratio_neg : FnScope N_m_Ratio_neg P_m_Ratio_neg (defScope s_m_Ratio_neg) := ⟨rfl, rfl, rfl, by decide +kernel, rfl, by decide +kernel, by decide +kernel⟩
abbrev s_m_Ratio_abs : Stmt := inClass (top 7) 8
abbrev N_m_Ratio_abs : List Str := ["self"]
abbrev P_m_Ratio_abs : List Str := ["self"]
theorem sc_m_Ratio_abs : FnScope N_m_Ratio_abs P_m_Ratio_abs (defScope s_m_Ratio_abs) := ⟨rfl, rfl, rfl, by decide +kernel, rfl, by decide +kernel, by decide +kernel⟩
abbrev s_m_Ratio_over : Stmt := inClass (top 7) 9
abbrev N_m_Ratio_over : List Str := ["self", "other", "top", "bottom"]
abbrev P_m_Ratio_over : List Str := ["self", "other"]
theorem sc_m_Ratio_over : FnScope N_m_Ratio_over P_m_Ratio_over (defScope s_m_Ratio_over) := ⟨rfl, rfl, rfl, by decide +kernel, rfl, by decide +kernel, by decide +kernel⟩
abbrev s_m_Ratio_sum_of : Stmt := inClass (top 7) 15
abbrev N_m_Ratio_sum_of : List Str := ["items", "total", "item"]
abbrev P_m_Ratio_sum_of : List Str := ["items"]
theorem sc_m_Ratio_sum_of : FnScope N_m_Ratio_sum_of P_m_Ratio_sum_of (defScope s_m_Ratio_sum_of) := ⟨rfl, rfl, rfl, by decide +kernel, rfl, by decide +kernel, by decide +kernel⟩
abbrev s_l_bag : Stmt := top 9
abbrev N_l_bag : List Str := ["_law_script"]
abbrev P_l_bag : List Str := ["_law_script"]
theorem sc_l_bag : FnScope N_l_bag P_l_bag (defScope s_l_bag) := ⟨rfl, rfl, rfl, by decide +kernel, rfl, by decide +kernel, by decide +kernel⟩
abbrev s_l_draw : Stmt := top 10
abbrev N_l_draw : List Str := ["_law_bag_here", "_law_size", "_law_cell", "_law_digit", "_law_mixed"]
abbrev P_l_draw : List Str := ["_law_bag_here", "_law_size"]
theorem sc_l_draw : FnScope N_l_draw P_l_draw (defScope s_l_draw) := ⟨rfl, rfl, rfl, by decide +kernel, rfl, by decide +kernel, by decide +kernel⟩
abbrev s_l_number : Stmt := top 11
abbrev N_l_number : List Str := ["_law_value"]
abbrev P_l_number : List Str := ["_law_value"]
theorem sc_l_number : FnScope N_l_number P_l_number (defScope s_l_number) := ⟨rfl, rfl, rfl, by decide +kernel, rfl, by decide +kernel, by decide +kernel⟩
abbrev s_l_pick : Stmt := top 12
abbrev N_l_pick : List Str := ["_law_bag_here", "_law_items"]
abbrev P_l_pick : List Str := ["_law_bag_here", "_law_items"]
theorem sc_l_pick : FnScope N_l_pick P_l_pick (defScope s_l_pick) := ⟨rfl, rfl, rfl, by decide +kernel, rfl, by decide +kernel, by decide +kernel⟩
abbrev s_l_integer : Stmt := top 13
abbrev N_l_integer : List Str := ["_law_bag_here", "_law_choice", "_law_size", "_law_value"]
abbrev P_l_integer : List Str := ["_law_bag_here"]
theorem sc_l_integer : FnScope N_l_integer P_l_integer (defScope s_l_integer) := ⟨rfl, rfl, rfl, by decide +kernel, rfl, by decide +kernel, by decide +kernel⟩
abbrev s_l_divisor : Stmt := top 14
abbrev N_l_divisor : List Str := ["_law_one", "_law_other", "_law_rest"]
abbrev P_l_divisor : List Str := ["_law_one", "_law_other"]
theorem sc_l_divisor : FnScope N_l_divisor P_l_divisor (defScope s_l_divisor) := ⟨rfl, rfl, rfl, by decide +kernel, rfl, by decide +kernel, by decide +kernel⟩
abbrev s_l_lowest : Stmt := top 15
abbrev N_l_lowest : List Str := ["_law_top", "_law_bottom", "_law_divisor_here"]
abbrev P_l_lowest : List Str := ["_law_top", "_law_bottom"]
theorem sc_l_lowest : FnScope N_l_lowest P_l_lowest (defScope s_l_lowest) := ⟨rfl, rfl, rfl, by decide +kernel, rfl, by decide +kernel, by decide +kernel⟩
abbrev s_l_is : Stmt := top 16
abbrev N_l_is : List Str := ["_law_told", "_law_top", "_law_bottom"]
abbrev P_l_is : List Str := ["_law_told", "_law_top", "_law_bottom"]
theorem sc_l_is : FnScope N_l_is P_l_is (defScope s_l_is) := ⟨rfl, rfl, rfl, by decide +kernel, rfl, by decide +kernel, by decide +kernel⟩
abbrev s_l_sums_right : Stmt := top 17
abbrev N_l_sums_right : List Str := ["_law_a", "_law_b", "_law_one", "_law_other", "_law_top", "_law_bottom", "_law_second", "_law_under"]
abbrev P_l_sums_right : List Str := ["_law_a", "_law_b", "_law_one", "_law_other"]
theorem sc_l_sums_right : FnScope N_l_sums_right P_l_sums_right (defScope s_l_sums_right) := ⟨rfl, rfl, rfl, by decide +kernel, rfl, by decide +kernel, by decide +kernel⟩
abbrev s_l_whole_right : Stmt := top 18
abbrev N_l_whole_right : List Str := ["_law_a", "_law_one", "_law_whole", "_law_top", "_law_bottom"]
abbrev P_l_whole_right : List Str := ["_law_a", "_law_one", "_law_whole"]
theorem sc_l_whole_right : FnScope N_l_whole_right P_l_whole_right (defScope s_l_whole_right) := ⟨rfl, rfl, rfl, by decide +kernel, rfl, by decide +kernel, by decide +kernel⟩
abbrev s_l_list_right : Stmt := top 19
abbrev N_l_list_right : List Str := ["_law_bag_here", "_law_pairs", "_law_items", "_law_top", "_law_bottom", "_law_k", "_law_item", "_law_value", "_law_kept", "_law_turn"]
abbrev P_l_list_right : List Str := ["_law_bag_here", "_law_pairs"]
theorem sc_l_list_right : FnScope N_l_list_right P_l_list_right (defScope s_l_list_right) := ⟨rfl, rfl, rfl, by decide +kernel, rfl, by decide +kernel, by decide +kernel⟩
abbrev s_f_law : Stmt := top 20
abbrev N_f_law : List Str := ["_law_script", "_law_bag_here", "_law_a", "_law_b", "_law_choice", "_law_times", "_law_whole", "_law_one", "_law_other", "_law_turn", "_law_total"]
abbrev P_f_law : List Str := ["_law_script"]
theorem sc_f_law : FnScope N_f_law P_f_law (defScope s_f_law) := ⟨rfl, rfl, rfl, by decide +kernel, rfl, by decide +kernel, by decide +kernel⟩
/-- no __iop__ in the class's chain -/
def noI (K : PySem.W.Frag) (C : Addr) (nm : String) : Bool := (PySem.W.clsIn K C).any fun cd => cd.mro.all fun c => PySem.W.findIn K c (dunderI nm) == some none
/-- C.m is a staticmethod: its record at p, its def at g -/
structure SMet (K : PySem.W.Frag) (C : Addr) (m : Str) (p g : Addr) : Prop where
  rd : PySem.W.readsIn K C (.type "type") = true
  ga : PySem.W.specialIn K (.ref C) "__getattribute__" = some (some (.builtin "type.__getattribute__"))
  at_ : PySem.W.findCls K (.ref C) (.type "type") m = some (.get (.builtin "staticmethod.__get__") (.ref p) .none (.ref C))
  rc : ∃ rest, PySem.W.recIn K p "staticmethod" = some (.ref g :: rest)
  kp : PySem.W.keepIn K (.ref g) = true
structure Ad where
  CostError : Addr
  NoRatio : Addr
  Ratio : Addr
  f_common_divisor : Addr
  fd_f_common_divisor : FuncData
  f_halves : Addr
  fd_f_halves : FuncData
  m_Ratio_init : Addr
  fd_m_Ratio_init : FuncData
  m_Ratio_add : Addr
  fd_m_Ratio_add : FuncData
  m_Ratio_radd : Addr
  fd_m_Ratio_radd : FuncData
  m_Ratio_sub : Addr
  fd_m_Ratio_sub : FuncData
  m_Ratio_rsub : Addr
  fd_m_Ratio_rsub : FuncData
  m_Ratio_mul : Addr
  fd_m_Ratio_mul : FuncData
  m_Ratio_rmul : Addr
  fd_m_Ratio_rmul : FuncData
  m_Ratio_neg : Addr
  fd_m_Ratio_neg : FuncData
  m_Ratio_abs : Addr
  fd_m_Ratio_abs : FuncData
  m_Ratio_over : Addr
  fd_m_Ratio_over : FuncData
  m_Ratio_sum_of : Addr
  fd_m_Ratio_sum_of : FuncData
  sp_m_Ratio_sum_of : Addr
  l_bag : Addr
  fd_l_bag : FuncData
  l_draw : Addr
  fd_l_draw : FuncData
  l_number : Addr
  fd_l_number : FuncData
  l_pick : Addr
  fd_l_pick : FuncData
  l_integer : Addr
  fd_l_integer : FuncData
  l_divisor : Addr
  fd_l_divisor : FuncData
  l_lowest : Addr
  fd_l_lowest : FuncData
  l_is : Addr
  fd_l_is : FuncData
  l_sums_right : Addr
  fd_l_sums_right : FuncData
  l_whole_right : Addr
  fd_l_whole_right : FuncData
  l_list_right : Addr
  fd_l_list_right : FuncData
  f_law : Addr
  fd_f_law : FuncData
  ds_m_Ratio_init : List Value
structure Txt (K : PySem.W.Frag) (mg : Str → Option Value) (A : Ad) : Prop where
  z_abs : mg "abs" = none
  z_bool : mg "bool" = none
  z_int : mg "int" = none
  z_isinstance : mg "isinstance" = none
  z_len : mg "len" = none
  z_list : mg "list" = none
  z_range : mg "range" = none
  z_staticmethod : mg "staticmethod" = none
  g_CostError : mg "CostError" = some (.ref A.CostError)
  ek_CostError : PySem.W.keepIn K (.ref A.CostError) = true
  eb_CostError : PySem.W.subIn K (.ref A.CostError) (.type "BaseException") = some true
  et_CostError : PySem.W.typeIn K (.ref A.CostError) = some (.type "type")
  eh_CostError : PySem.W.hasDictIn K A.CostError = true
  eic_CostError : PySem.W.isClsIn K A.CostError = true
  es_CostError : PySem.W.subIn K (.ref A.CostError) (.ref A.CostError) = some true
  g_NoRatio : mg "NoRatio" = some (.ref A.NoRatio)
  ek_NoRatio : PySem.W.keepIn K (.ref A.NoRatio) = true
  eb_NoRatio : PySem.W.subIn K (.ref A.NoRatio) (.type "BaseException") = some true
  et_NoRatio : PySem.W.typeIn K (.ref A.NoRatio) = some (.type "type")
  eh_NoRatio : PySem.W.hasDictIn K A.NoRatio = true
  eic_NoRatio : PySem.W.isClsIn K A.NoRatio = true
  es_NoRatio : PySem.W.subIn K (.ref A.NoRatio) (.ref A.NoRatio) = some true
  ex_NoRatio : PySem.W.excIn K A.NoRatio [.type "ValueError", .type "Exception", .type "BaseException", .type "object"] "ValueError.__new__" = true
  xg_NoRatio : PySem.W.findIn K (.ref A.NoRatio) "__getattribute__" = some (some (.builtin "BaseException.__getattribute__"))
  xk_NoRatio : PySem.W.findIn K (.ref A.NoRatio) "__getattr__" = some none
  xa_NoRatio : PySem.W.findIn K (.ref A.NoRatio) "__class__" = some (some (.builtin "object.__class__"))
  xn_NoRatio : PySem.W.specialIn K (.builtin "object.__class__") "__get__" = some (some (.builtin "getset_descriptor.__get__"))
  xt_NoRatio : PySem.W.takesIn K (.builtin "object.__class__") = some true
  xm_NoRatio : PySem.W.mroIn K A.NoRatio (.type "object") = some true
  g_Ratio : mg "Ratio" = some (.ref A.Ratio)
  cl_Ratio : Cls K A.Ratio
  n_Ratio_top : NoAttr K A.Ratio "top"
  n_Ratio_bottom : NoAttr K A.Ratio "bottom"
  mk_Ratio : Mk K A.Ratio A.m_Ratio_init
  m_Ratio___add__ : Meth K A.Ratio "__add__" A.m_Ratio_add
  m_Ratio___radd__ : Meth K A.Ratio "__radd__" A.m_Ratio_radd
  m_Ratio___sub__ : Meth K A.Ratio "__sub__" A.m_Ratio_sub
  m_Ratio___rsub__ : Meth K A.Ratio "__rsub__" A.m_Ratio_rsub
  m_Ratio___mul__ : Meth K A.Ratio "__mul__" A.m_Ratio_mul
  m_Ratio___rmul__ : Meth K A.Ratio "__rmul__" A.m_Ratio_rmul
  m_Ratio___neg__ : Meth K A.Ratio "__neg__" A.m_Ratio_neg
  m_Ratio___abs__ : Meth K A.Ratio "__abs__" A.m_Ratio_abs
  m_Ratio_over : Meth K A.Ratio "over" A.m_Ratio_over
  sm_Ratio_sum_of : SMet K A.Ratio "sum_of" A.sp_m_Ratio_sum_of A.m_Ratio_sum_of
  tc_Ratio : PySem.W.findIn K (.ref A.Ratio) "__class__" = some (some (.builtin "object.__class__"))
  tn_Ratio : PySem.W.specialIn K (.builtin "object.__class__") "__get__" = some (some (.builtin "getset_descriptor.__get__"))
  tk_Ratio : PySem.W.takesIn K (.builtin "object.__class__") = some true
  tm_Ratio : PySem.W.mroIn K A.Ratio (.type "object") = some true
  ki_Ratio : PySem.W.kitOne K (.ref A.Ratio) (.type "int") = some false
  sf_Ratio : PySem.W.selfFirst K A.Ratio = true
  si_Ratio : PySem.W.subIn K (.type "int") (.ref A.Ratio) = some false
  sj_Ratio : PySem.W.subIn K (.ref A.Ratio) (.type "int") = some false
  o1a_Ratio : PySem.W.findIn K (.type "int") (PySem.dunder "add") = some (some (.builtin "int.__add__"))
  o2a_Ratio : PySem.W.findIn K (.type "int") (dunderR "add") = some (some (.builtin "int.__radd__"))
  o1s_Ratio : PySem.W.findIn K (.type "int") (PySem.dunder "sub") = some (some (.builtin "int.__sub__"))
  o2s_Ratio : PySem.W.findIn K (.type "int") (dunderR "sub") = some (some (.builtin "int.__rsub__"))
  o1m_Ratio : PySem.W.findIn K (.type "int") (PySem.dunder "mul") = some (some (.builtin "int.__mul__"))
  o2m_Ratio : PySem.W.findIn K (.type "int") (dunderR "mul") = some (some (.builtin "int.__rmul__"))
  nia_Ratio : noI K A.Ratio "add" = true
  nis_Ratio : noI K A.Ratio "sub" = true
  nim_Ratio : noI K A.Ratio "mul" = true
  rd_Ratio : PySem.W.readsIn K A.Ratio (.type "type") = true
  cga_Ratio : PySem.W.specialIn K (.ref A.Ratio) "__getattribute__" = some (some (.builtin "type.__getattribute__"))
  F_f_common_divisor : Fun K "common_divisor" "common_divisor" s_f_common_divisor A.f_common_divisor A.fd_f_common_divisor
  b_f_common_divisor : Binds K A.fd_f_common_divisor P_f_common_divisor []
  g_common_divisor : mg "common_divisor" = some (.ref A.f_common_divisor)
  F_f_halves : Fun K "halves" "halves" s_f_halves A.f_halves A.fd_f_halves
  b_f_halves : Binds K A.fd_f_halves P_f_halves []
  g_halves : mg "halves" = some (.ref A.f_halves)
  F_m_Ratio_init : FunD K "__init__" "Ratio.__init__" (defArgs s_m_Ratio_init) (defBody s_m_Ratio_init) (defScope s_m_Ratio_init) [.int 1] [] A.m_Ratio_init A.fd_m_Ratio_init
  b_m_Ratio_init : Binds K A.fd_m_Ratio_init P_m_Ratio_init []
  dv_m_Ratio_init : Vals [.int 1] A.ds_m_Ratio_init
  b_m_Ratio_init_d1 : Binds K A.fd_m_Ratio_init P_m_Ratio_init A.ds_m_Ratio_init
  F_m_Ratio_add : Fun K "__add__" "Ratio.__add__" s_m_Ratio_add A.m_Ratio_add A.fd_m_Ratio_add
  b_m_Ratio_add : Binds K A.fd_m_Ratio_add P_m_Ratio_add []
  F_m_Ratio_radd : Fun K "__radd__" "Ratio.__radd__" s_m_Ratio_radd A.m_Ratio_radd A.fd_m_Ratio_radd
  b_m_Ratio_radd : Binds K A.fd_m_Ratio_radd P_m_Ratio_radd []
  F_m_Ratio_sub : Fun K "__sub__" "Ratio.__sub__" s_m_Ratio_sub A.m_Ratio_sub A.fd_m_Ratio_sub
  b_m_Ratio_sub : Binds K A.fd_m_Ratio_sub P_m_Ratio_sub []
  F_m_Ratio_rsub : Fun K "__rsub__" "Ratio.__rsub__" s_m_Ratio_rsub A.m_Ratio_rsub A.fd_m_Ratio_rsub
  b_m_Ratio_rsub : Binds K A.fd_m_Ratio_rsub P_m_Ratio_rsub []
  F_m_Ratio_mul : Fun K "__mul__" "Ratio.__mul__" s_m_Ratio_mul A.m_Ratio_mul A.fd_m_Ratio_mul
  b_m_Ratio_mul : Binds K A.fd_m_Ratio_mul P_m_Ratio_mul []
  F_m_Ratio_rmul : Fun K "__rmul__" "Ratio.__rmul__" s_m_Ratio_rmul A.m_Ratio_rmul A.fd_m_Ratio_rmul
  b_m_Ratio_rmul : Binds K A.fd_m_Ratio_rmul P_m_Ratio_rmul []
  F_m_Ratio_neg : Fun K "__neg__" "Ratio.__neg__" s_m_Ratio_neg A.m_Ratio_neg A.fd_m_Ratio_neg
  b_m_Ratio_neg : Binds K A.fd_m_Ratio_neg P_m_Ratio_neg []
  F_m_Ratio_abs : Fun K "__abs__" "Ratio.__abs__" s_m_Ratio_abs A.m_Ratio_abs A.fd_m_Ratio_abs
  b_m_Ratio_abs : Binds K A.fd_m_Ratio_abs P_m_Ratio_abs []
  F_m_Ratio_over : Fun K "over" "Ratio.over" s_m_Ratio_over A.m_Ratio_over A.fd_m_Ratio_over
  b_m_Ratio_over : Binds K A.fd_m_Ratio_over P_m_Ratio_over []
  F_m_Ratio_sum_of : Fun K "sum_of" "Ratio.sum_of" s_m_Ratio_sum_of A.m_Ratio_sum_of A.fd_m_Ratio_sum_of
  b_m_Ratio_sum_of : Binds K A.fd_m_Ratio_sum_of P_m_Ratio_sum_of []
  F_l_bag : Fun K "_law_bag" "_law_bag" s_l_bag A.l_bag A.fd_l_bag
  b_l_bag : Binds K A.fd_l_bag P_l_bag []
  g__law_bag : mg "_law_bag" = some (.ref A.l_bag)
  F_l_draw : Fun K "_law_draw" "_law_draw" s_l_draw A.l_draw A.fd_l_draw
  b_l_draw : Binds K A.fd_l_draw P_l_draw []
  g__law_draw : mg "_law_draw" = some (.ref A.l_draw)
  F_l_number : Fun K "_law_number" "_law_number" s_l_number A.l_number A.fd_l_number
  b_l_number : Binds K A.fd_l_number P_l_number []
  g__law_number : mg "_law_number" = some (.ref A.l_number)
  F_l_pick : Fun K "_law_pick" "_law_pick" s_l_pick A.l_pick A.fd_l_pick
  b_l_pick : Binds K A.fd_l_pick P_l_pick []
  g__law_pick : mg "_law_pick" = some (.ref A.l_pick)
  F_l_integer : Fun K "_law_integer" "_law_integer" s_l_integer A.l_integer A.fd_l_integer
  b_l_integer : Binds K A.fd_l_integer P_l_integer []
  g__law_integer : mg "_law_integer" = some (.ref A.l_integer)
  F_l_divisor : Fun K "_law_divisor" "_law_divisor" s_l_divisor A.l_divisor A.fd_l_divisor
  b_l_divisor : Binds K A.fd_l_divisor P_l_divisor []
  g__law_divisor : mg "_law_divisor" = some (.ref A.l_divisor)
  F_l_lowest : Fun K "_law_lowest" "_law_lowest" s_l_lowest A.l_lowest A.fd_l_lowest
  b_l_lowest : Binds K A.fd_l_lowest P_l_lowest []
  g__law_lowest : mg "_law_lowest" = some (.ref A.l_lowest)
  F_l_is : Fun K "_law_is" "_law_is" s_l_is A.l_is A.fd_l_is
  b_l_is : Binds K A.fd_l_is P_l_is []
  g__law_is : mg "_law_is" = some (.ref A.l_is)
  F_l_sums_right : Fun K "_law_sums_right" "_law_sums_right" s_l_sums_right A.l_sums_right A.fd_l_sums_right
  b_l_sums_right : Binds K A.fd_l_sums_right P_l_sums_right []
  g__law_sums_right : mg "_law_sums_right" = some (.ref A.l_sums_right)
  F_l_whole_right : Fun K "_law_whole_right" "_law_whole_right" s_l_whole_right A.l_whole_right A.fd_l_whole_right
  b_l_whole_right : Binds K A.fd_l_whole_right P_l_whole_right []
  g__law_whole_right : mg "_law_whole_right" = some (.ref A.l_whole_right)
  F_l_list_right : Fun K "_law_list_right" "_law_list_right" s_l_list_right A.l_list_right A.fd_l_list_right
  b_l_list_right : Binds K A.fd_l_list_right P_l_list_right []
  g__law_list_right : mg "_law_list_right" = some (.ref A.l_list_right)
  F_f_law : Fun K "law" "law" s_f_law A.f_law A.fd_f_law
  b_f_law : Binds K A.fd_f_law P_f_law []
  g_law : mg "law" = some (.ref A.f_law)
/-- a word that the steps don't open -/
structure Wd (p : Prop) : Prop where
  ok : p
section
variable {X : Cx}
def tG (t : TS) : TS := fun D σ H => Wd (t D σ H)
def tGE (t : TE) : TE := fun σ H Q => Wd (t σ H Q)
theorem ps_g {st : Stmt} {t : TS} (h : PS X st t) : PS X st (tG t) := ⟨fun pins s σ H D I hw => h.run pins s σ H D I hw.ok⟩
theorem pss_g {st : List Stmt} {t : TS} (h : PSs X st t) : PSs X st (tG t) := ⟨fun pins s σ H D I hw => h.run pins s σ H D I hw.ok⟩
theorem pe_g {e : Expr} {t : TE} (h : PE X e t) : PE X e (tGE t) := ⟨fun pins s σ H Q I hw => h.run pins s σ H Q I hw.ok⟩
end
theorem if_int {i j : Int} {A B : Prop} (h1 : i = j → A) (h2 : i ≠ j → B) : if decide (V.int i = V.int j) = true then A else B := by
  by_cases e : i = j
  · rw [if_pos (decide_eq_true (congrArg V.int e))]
    exact h1 e
  · rw [if_neg fun z => e (V.int.inj (of_decide_eq_true z))]
    exact h2 e
theorem if_intN {i j : Int} {A B : Prop} (h1 : i ≠ j → A) (h2 : i = j → B) : if (!decide (V.int i = V.int j)) = true then A else B := by
  by_cases e : i = j
  · rw [decide_eq_true (congrArg V.int e)]
    exact iteF (h2 e)
  · rw [decide_eq_false fun z => e (V.int.inj z)]
    exact iteT (h1 e)
theorem if_dec {p A B : Prop} [Decidable p] (h1 : p → A) (h2 : ¬ p → B) : if decide p = true then A else B := by
  by_cases e : p
  · rw [if_pos (decide_eq_true e)]
    exact h1 e
  · rw [if_neg fun z => e (of_decide_eq_true z)]
    exact h2 e
theorem ifT {p A B : Prop} [Decidable p] (hp : p) (h : A) : if decide p = true then A else B := by
  rw [if_pos (decide_eq_true hp)]
  exact h
theorem ifF {p A B : Prop} [Decidable p] (hp : ¬ p) (h : B) : if decide p = true then A else B := by
  rw [if_neg fun z => hp (of_decide_eq_true z)]
  exact h
theorem ifNT {p A B : Prop} [Decidable p] (hp : p) (h : B) : if (!decide p) = true then A else B := by
  rw [decide_eq_true hp]
  exact iteF h
theorem ifNF {p A B : Prop} [Decidable p] (hp : ¬ p) (h : A) : if (!decide p) = true then A else B := by
  rw [decide_eq_false hp]
  exact iteT h
theorem if_bl {b : Bool} {A B : Prop} (h1 : b = true → A) (h2 : b = false → B) : if b = true then A else B := by
  cases b with
  | true => exact h1 rfl
  | false => exact iteF (h2 rfl)
/-- all but what stands at g is kept -/
def Kp (g : Addr) (H H' : Hp) : Prop := ∀ b o, H b = some o → b ≠ g → H' b = some o
theorem Kp.refl (g : Addr) (H : Hp) : Kp g H H := fun _ _ h _ => h
theorem Kp.trans {g : Addr} {H H1 H2 : Hp} (a : Kp g H H1) (b : Kp g H1 H2) : Kp g H H2 := fun c o h n => b c o (a c o h n) n
theorem Kp.up {g : Addr} {H H' : Hp} {o : HO} (k : Kp g H H') : Kp g H (upd H' g o) := fun b u e n => by
  rw [upd_ne n]
  exact k b u e n

/-! ### the bag of draws -/
structure Bag (H : Hp) (g l : Addr) : Prop where
  ex : ∃ (i r s c : Int) (ns : List Int), H g = some (.lst [.ref l, .int i, .int r, .int s, .int c]) ∧ H l = some (.lst (ns.map V.int)) ∧ 0 ≤ i
def spDraw : Sp := fun vs H Q _ => ∃ (g l : Addr) (z : Int), vs = [.ref g, .int z] ∧ Bag H g l ∧ 0 < z ∧ z.natAbs < 2 ^ 9000 ∧
  ∀ (n : Int) (H' : Hp), 0 ≤ n → n < z → Bag H' g l → Kp g H H' → Q (.int n) H'
theorem at_ints {ns : List Int} {i : Int} (h0 : 0 ≤ i) (h1 : i < (ns.length : Int)) : ∃ n, atI (ns.map V.int) i = some (.int n) := by
  obtain ⟨j, rfl⟩ := Int.eq_ofNat_of_zero_le h0
  have hj : j < ns.length := by omega
  exact ⟨ns[j], atI_nat (by rw [List.getElem?_map, List.getElem?_eq_getElem hj]; rfl)⟩
theorem cmul_r {i j : Int} (h : -(2 ^ 64) < j ∧ j < 2 ^ 64) : CMul i j := .inr h
theorem cmul_l {i j : Int} (h : -(2 ^ 64) < i ∧ i < 2 ^ 64) : CMul i j := .inl h
theorem cpow_of {i j : Int} (h1 : 0 ≤ j ∧ j ≤ 1000000) (h2 : -(2 ^ 63) < i ∧ i < 2 ^ 63) : CPow i j := ⟨h1.1, h1.2, by omega⟩
section
variable {P : Program} {w : World} {K : PySem.W.Frag} {mg : Str → Option Value} {base : Heap} {A : Ad}
theorem ok_l_draw (T : Txt K mg A) : FnOk P w K mg base CX0 1 A.l_draw A.fd_l_draw P_l_draw spDraw := by
  refine T.F_l_draw.ok sc_l_draw (fun vs H Q E h => ?_) (fun cdv Ar outer s H vs Q E hr h => ?_)
  · obtain ⟨g, l, z, rfl, _⟩ := h
    rfl
  · obtain ⟨g, l, z, rfl, ⟨i, r, sd, c, ns, hg, hl, hi⟩, hz, hz2, k⟩ := h
    have nlg : l ≠ g := ne_of hl hg (by intro q; cases ns <;> cases q)
    refine ⟨_, (pss_cons (ps_asg (pe_op op_add (pe_ix ix_list (pv 0) pe_int (fun _ _ => rfl)) pe_int) (pg_sub (pv 0) pe_int set_list))
      (pss_g (Evl.pss_cut (ps_if (PW.pt (pw_and (pt_cmpR op_eq (pe_ix ix_list (pv 0) pe_int (fun _ _ => rfl)) pe_int (nomark _)) (pw_and1 (pt_cmpR op_lt (pe_ix ix_list (pv 0) pe_int (fun _ _ => rfl)) (pe_callB call_len_seq (by rfl) T.z_len (by decide +kernel) (pa_cons (pe_ix ix_list (pv 0) pe_int (fun _ _ => rfl)) pa_nil)) (nomark _))))) (pss_cons (ps_set (i := 2) sc_l_draw.nd rfl (Or.inl rfl) (pe_ix ix_list (pe_ix ix_list (pv 0) pe_int (fun _ _ => rfl)) (pe_ix ix_list (pv 0) pe_int (fun _ _ => rfl)) (fun _ _ => rfl)))
      (pss_cons (ps_asg (pe_op op_add (pe_ix ix_list (pv 0) pe_int (fun _ _ => rfl)) pe_int) (pg_sub (pv 0) pe_int set_list))
      (pss_cons (ps_asg (pe_op op_mul (pe_op op_add (pe_op op_mul pe_int (pe_callB call_abs (by rfl) T.z_abs (by decide +kernel) (pa_cons (pv 2) pa_nil))) (pe_callTy call_int1 (by rfl) T.z_int (by decide +kernel) (pa_cons (pe_cmpR op_lt (pv 2) pe_int (nomark _)) pa_nil))) (pe_callTy call_int1 (by rfl) T.z_int (by decide +kernel) (pa_cons (pe_cmpR op_ge (pe_callB call_abs (by rfl) T.z_abs (by decide +kernel) (pa_cons (pv 2) pa_nil)) (pe_op op_pow pe_int pe_int) (nomark _)) pa_nil))) (pg_sub (pv 0) pe_int set_list))
      (pss_one (ps_asg (pe_op op_mod (pe_callTy call_int1 (by rfl) T.z_int (by decide +kernel) (pa_cons (pe_op op_add (pe_op op_add (pe_op op_mul (pe_ix ix_list (pv 0) pe_int (fun _ _ => rfl)) pe_int) (pe_op op_mul (pv 2) pe_int)) pe_int) pa_nil)) pe_int) (pg_sub (pv 0) pe_int set_list)))))) pss_nil)
      (pss_cons (ps_set (i := 3) sc_l_draw.nd rfl (Or.inl rfl) (pe_op op_mod (pe_callTy call_int1 (by rfl) T.z_int (by decide +kernel) (pa_cons (pe_ix ix_list (pv 0) pe_int (fun _ _ => rfl)) pa_nil)) (pv 1)))
      (pss_cons (ps_if (pt_cmpR op_gt (pe_ix ix_list (pv 0) pe_int (fun _ _ => rfl)) pe_int (nomark _)) (pss_cons (ps_asg (pe_op op_fdivW (pe_ix ix_list (pv 0) pe_int (fun _ _ => rfl)) (pv 1)) (pg_sub (pv 0) pe_int set_list))
      (pss_one (ps_ret (pv 3)))) pss_nil)
      (pss_cons (ps_set (i := 4) sc_l_draw.nd rfl (Or.inl rfl) (pe_op op_mod (pe_callTy call_int1 (by rfl) T.z_int (by decide +kernel) (pa_cons (pe_op op_add (pe_ix ix_list (pv 0) pe_int (fun _ _ => rfl)) (pe_op op_mul (pe_ix ix_list (pv 0) pe_int (fun _ _ => rfl)) pe_int)) pa_nil)) pe_int))
      (pss_cons (ps_set (i := 4) sc_l_draw.nd rfl (Or.inl rfl) (pe_op op_mod (pe_callTy call_int1 (by rfl) T.z_int (by decide +kernel) (pa_cons (pe_op op_add (pe_op op_add (pe_op op_pow (pv 4) pe_int) (pe_op op_mul (pe_ix ix_list (pv 0) pe_int (fun _ _ => rfl)) pe_int)) pe_int) pa_nil)) pe_int))
      (pss_one (ps_ret (pe_op op_mod (pe_op op_fdiv (pe_op op_mod (pe_callTy call_int1 (by rfl) T.z_int (by decide +kernel) (pa_cons (pe_op op_pow (pv 4) pe_int) pa_nil)) pe_int) pe_int) (pv 1))))))))))), ?_⟩
    refine ⟨_, rfl, g, _, _, _, rfl, rfl, SqL.of hg, rfl, _, _, rfl, rfl, _, rfl, g, _, _, _, rfl, rfl, hg, rfl, ?_⟩
    refine ⟨⟨fun σ' H' => Wd (∃ (i r s c : Int) (v : Option V), σ' = [some (.ref g), some (.int z), v, none, none] ∧ 0 ≤ i ∧ H' g = some (.lst [.ref l, .int i, .int r, .int s, .int c]) ∧ H' l = some (.lst (ns.map V.int)) ∧ Kp g H H'), ?_, ?_⟩⟩
    · walk_at "go"
      refine if_int (fun e0 => ?_) (fun e0 => ?_)
      · walk_at "go"
        refine if_dec (fun e1 => ?_) (fun e1 => ?_)
        · obtain ⟨n, hn⟩ := at_ints (ns := ns) hi (by simpa using e1)
          walk_at "go"
          exact ⟨i + 1, _, _, c + 1, _, rfl, by omega, upd_same, by walk_at "at", (((Kp.refl g H).up.up.up.up))⟩
        · exact ⟨i, r, sd, c + 1, none, rfl, hi, upd_same, by walk_at "at", (Kp.refl g H).up⟩
      · refine iteF ?_
        exact ⟨i, r, sd, c + 1, none, rfl, hi, upd_same, by walk_at "at", (Kp.refl g H).up⟩
    · rintro σ' H' ⟨i, r, s, c, v, rfl, hi, hg, hl, kp⟩
      walk_at "go"
      refine if_dec (fun e1 => ?_) (fun e1 => ?_)
      · walk_at "go"
        exact k _ _ (Int.emod_nonneg _ (by omega)) (Int.emod_lt_of_pos _ hz) ⟨i, _, s, c, ns, upd_same, by walk_at "at", hi⟩ kp.up
      · walk_at "go"
        exact k _ _ (Int.emod_nonneg _ (by omega)) (Int.emod_lt_of_pos _ hz) ⟨i, r, s, c, ns, hg, hl, hi⟩ kp
end

/-! ### calls in the body of a try: what they raise is wished for at the slots as they stand -/
section
open PySem.Spec PyProof.Rows
variable {X : Cx} {CX : CXT} {k : Nat} {f C : Addr} {fd : FuncData} {ps : List Str} {sp : Sp} {dvs : List V} {ds : List Value} {E : L2.St → XK} {x m : Str} {p pos apos : Pos} {e o : Expr} {es : List Expr} {ta : TE} {t : TA}
theorem run_mkS {pins : List (Addr × Obj)} {σ : L2.St} {H : Hp} {s : Shared} {Q : VK} {us : List Value} {vs : List V} (M : Mk X.K C f) (F : FnOk X.prog X.w X.K X.mg X.base CX k f fd ps sp)
    (hr : Room (k + 1) X.A) (hb : Binds X.K fd ps ds) (hd : Vals dvs ds) (hx : PassesAt CX X σ (E σ)) (I : Inv X pins σ H s) (r : Vals vs us)
    (h : ∀ x dx, H x = none → H dx = none → dx ≠ x → sp (.ref x :: (vs ++ dvs)) (upd (upd H dx (.own x)) x (.ins C dx [])) (fun v H2 => v = .non ∧ Q (.ref x) H2) (E σ)) :
    wpAny (model X.prog X.w) X.A (call (.ref C) us) (EP X pins σ Q) X.xe s := by
  have a1 := h (s.heap.objs.size + 1) s.heap.objs.size (I.hok.fresh (Nat.le_succ _)) (I.hok.fresh (Nat.le_refl _)) (Nat.ne_of_lt (Nat.lt_succ_self _))
  have J := Inv.made (C := C) I
  have a2 : Vals (V.ref (s.heap.objs.size + 1) :: (vs ++ dvs)) (Value.ref (s.heap.objs.size + 1) :: (us ++ ds)) := .cons rfl (r.append hd)
  have a3 : (Value.ref (s.heap.objs.size + 1) :: us ++ ds).length = ps.length := by
    have z := a2.length
    rw [F.len _ _ _ _ a1] at z
    exact z.symm
  refine wpAny_call (make_map (f := f) I.kIn M.makes M.init (beq_iff_eq.mp M.fn) (codeAny_mono (F.run _ X.stack _ _ ⟨Value.ref (s.heap.objs.size + 1) :: us, []⟩
    (Value.ref (s.heap.objs.size + 1) :: (us ++ ds)) _ _ (E σ) (hr.make C us []) (J.env0.make C us []) (hb _ (Value.ref (s.heap.objs.size + 1) :: us) J.kIn a3) a2 a1) fun r s' z => ?_))
  cases r with
  | error u => exact hx pins _ _ u s' J z
  | ok fl =>
    cases fl with
    | ret u =>
      obtain ⟨v, H', J3, rv, ev, q3⟩ := J.after z
      subst ev
      exact ⟨rv, V.ref (s.heap.objs.size + 1), H', J3, rfl, q3⟩
    | next => exact z.elim
    | brk => exact z.elim
    | cont => exact z.elim
def tMakeS (C : Addr) (sp : Sp) (dvs : List V) (E : L2.St → XK) (t : TA) : TE := fun σ H Q => t σ H fun vs H1 => ∀ x dx, H1 x = none → H1 dx = none → dx ≠ x →
  sp (.ref x :: (vs ++ dvs)) (upd (upd H1 dx (.own x)) x (.ins C dx [])) (fun v H2 => v = .non ∧ Q (.ref x) H2) (E σ)
theorem pe_makeS (M : Mk X.K C f) (F : FnOk X.prog X.w X.K X.mg X.base CX k f fd ps sp) (hr : Room (k + 1) X.A) (hg : Gl X x) (hm : X.mg x = some (.ref C)) (hb : Binds X.K fd ps ds) (hd : Vals dvs ds) (hx : ∀ σ, PassesAt CX X σ (E σ))
    (ha : PA X (e :: es) t) (hdb : (x == ("__debug__" : Str)) = false := by decide) (he : starEach (e :: es) X.env = (false, eval e X.env) :: starEach es X.env := by rfl)
    (hpl : (backTo pos (starEach es X.env)).any (·.1) = false := by rfl) : PE X (.Call (.Name x p) (e :: es) [] pos) (tMakeS C sp dvs E t) := ⟨fun pins s σ H Q I h =>
  wpAny_Call_Name_kw (ld_glob I hg hm (PySem.W.callWith_K (h₀ := X.base) I.ok.mod.kin M.kp (thn (ha.run pos pins s σ H _ I h) fun us s1 ⟨vs, H1, I1, r, q⟩ => ⟨I1.kIn, run_mkS M F hr hb hd (hx σ) I1 r q⟩) he hpl) hdb)⟩
def tMethS (C : Addr) (m : Str) (sp : Sp) (E : L2.St → XK) (ta : TE) (t : TA) : TE := fun σ H Q => ta σ H fun x H1 => ∃ a dx fs, x = .ref a ∧ H1 a = some (.ins C dx fs) ∧ fs.lookup m = none ∧
  t σ H1 fun vs H2 => sp (.ref a :: vs) H2 Q (E σ)
theorem pe_methA {pl : Sem Bool} (he : PE X o ta) (c : Cls X.K C) (hm : Meth X.K C m f) (F : FnOk X.prog X.w X.K X.mg X.base CX k f fd ps sp) (hr : Room k X.A) (hb : Binds X.K fd ps []) (hx : ∀ σ, PassesAt CX X σ (E σ)) (ha : PA X (e :: es) t)
    (hst : starEach (e :: es) X.env = (false, eval e X.env) :: starEach es X.env := by rfl) (hpl : (backTo pos (starEach es X.env)).any (·.1) = false := by rfl)
    (ht : eval (.Call (.Attribute o m apos) (e :: es) [] pos) X.env = (eval o X.env >>= fun ov => standAt apos.atName >>= fun _ => holding [ov] (getMethod ov m pl) >>= fun (f, first) =>
      callWith pos f first (backTo pos (starEach (e :: es) X.env)) (backToKw pos (keywordEach [] X.env))) := by rfl) :
    PE X (.Call (.Attribute o m apos) (e :: es) [] pos) (tMethS C m sp E ta t) := by
  refine ⟨fun pins s σ H Q I h => ?_⟩
  refine PySem.W.methodCall_KW (pl := pl) (thn (he.run pins s σ H _ I h) fun u s1 ⟨x, H1, I1, rx, a, dx, fs, ex, ea, l, q⟩ => ?_) ht
  cases ex
  obtain rfl : u = Value.ref a := rx
  exact getmeth_ok I1 ea c hm l (PySem.W.callWith_K (first := [.ref a]) (h₀ := X.base) I.ok.mod.kin hm.kp (thn (ha.run pos pins s1 σ H1 _ I1 q) fun us s2 ⟨vs, H2, I2, r, q2⟩ =>
    ⟨I2.kIn, run_fnS (E := E) (us := .ref a :: us) (vs := .ref a :: vs) F hr hb (hx σ) I2 (.cons rfl r) q2⟩) hst hpl)

def oe0 : Obj := { cls := .none, data := .fields #[] }
variable {n : Str} {c : Value} {i : Nat} {body suite : List Stmt} {b0 : Stmt} {np pos' : Pos} {Wout : WX}
  {tb : WX → List (Addr × Obj) → (Value → Shared → Prop) → TS} {ts : Addr → Obj → Value → Option Addr → List (Addr × Obj) → TS}
/-- try: .. except x as n: .., the readings of the body and of the suite free of what they can't hang on (both shown by rfl) -/
theorem ps_tryV (hs : X.stack = X.env :: X.outer) (hf : X.env.frame = some X.env.locals) (hN : X.N.Nodup) (hi : X.N[i]? = some n) (hln : X.env.kindOf n = some .local) (hc : Names X x c) (tk : Takes X Wout)
    (hb : ∀ (W : WX) (pn : List (Addr × Obj)) (xe : Value → Shared → Prop), Takes (X.tr pn xe) W → PassesOwn (model X.prog X.w) X.A X.env xe → PSs (X.tr pn xe) body (tb W pn xe))
    (hsu : ∀ (a : Addr) (oe : Obj) (cls : Value) (d : Option Addr) (pn : List (Addr × Obj)), Zc cls d oe → (∃ vs, oe.data = .fields vs) → PSs (X.suite a ((a, oe) :: pn)) (b0 :: suite) (ts a oe cls d pn))
    (e1 : ∀ W pn xe, tb W pn xe = tb W [] (fun _ _ => False)) (e2 : ∀ a oe cls d pn, ts a oe cls d pn = ts a oe0 cls d []) :
    PS X (.Try body [.ExceptHandler (some (.Name x np)) (some n) (b0 :: suite) pos'] [] [] pos) (fun D σ H => tb (wAs X.K c i (fun a cls d => ts a oe0 cls d []) Wout D) [] (fun _ _ => False) D σ H) :=
  ps_try_as (tb := fun W => tb W [] (fun _ _ => False)) (ts := fun a cls d => ts a oe0 cls d []) hs hf hN hi hln hc tk (fun W pn xe k po => by rw [← e1 W pn xe]; exact hb W pn xe k po)
    (fun a oe cls d pn z f => by rw [← e2 a oe cls d pn]; exact hsu a oe cls d pn z f)
/-- isinstance(e, C) of the error that the suite holds, one without a dict of its own -/
def rIsEV (K : PySem.W.Frag) (cls : Value) (d : Option Addr) (a : Addr) : List V → Hp → VK → Prop := fun xs H Q => ∃ (D : Addr) (c : V) (cv : Value) (b : Bool), cls = .ref D ∧ d = none ∧ ExcC K D ∧ xs = [.ref a, c] ∧ (∀ u, RelV c u → u = cv) ∧ PySem.W.kitOne K (.ref D) cv = some b ∧ Q (.bl b) H
theorem call_isEV {a : Addr} {oe : Obj} {cls : Value} {d : Option Addr} {pn : List (Addr × Obj)} (hz : Zc cls d oe) (hf : ∃ vs, oe.data = .fields vs) : CallR (X.suite a ((a, oe) :: pn)) (.builtin "isinstance") (rIsEV X.K cls d a) := by
  intro pins s σ H xs us Q I r h
  obtain ⟨D, c, cv, b, rfl, rfl, C, h⟩ := h
  exact call_isE C hz hf pins s σ H xs us Q I r ⟨c, cv, b, h⟩
end
/-! ### list comprehensions: the readings of their parts free of what they can't hang on -/
section
open PySem.Spec PyProof.Rows
variable {X : Cx} {elt tg iter : Expr} {ifs : List Expr} {scope : Scope} {own : List (Str × Nat)} {pos spos py : Pos} {wi : TI} {i : Nat} {y : Str}
abbrev Bk (α : Type) := Shared → Hp → Addr → List (Str × Addr) → List Addr → α
abbrev Bk.at0 {α : Type} (f : Bk α) (X : Cx) : α := f X.s_0 X.H_0 0 [] []
variable {g : Bk TG} {tt : Bk TT} {te : Bk TE}
theorem pe_lcV (hc : X.calm = true) (hN : X.N.Nodup) (hi : PI X tg iter wi) (ok : BlkOk X.N X.env.scope scope own)
    (hg : ∀ s H C cl fp, PG (X.blk s H scope (compEnvC scope cl C X.env) fp) tg (g s H C cl fp)) (ht : ∀ s H C cl fp, PTs (X.blk s H scope (compEnvC scope cl C X.env) fp) ifs (tt s H C cl fp))
    (he : ∀ s H C cl fp, PE (X.blk s H scope (compEnvC scope cl C X.env) fp) elt (te s H C cl fp)) (e1 : ∀ s H C cl fp, g s H C cl fp = g.at0 X) (e2 : ∀ s H C cl fp, tt s H C cl fp = tt.at0 X)
    (e3 : ∀ s H C cl fp, te s H C cl fp = te.at0 X) (hs : ∀ x, foldedSetIterable iter X.env x = pure x := by intro _; rfl) :
    PE X (.ListComp elt [⟨tg, iter, ifs, 0⟩] scope pos) (tLc wi (g.at0 X) (tt.at0 X) (te.at0 X) (own.map (·.2))) :=
  pe_lc hc hN hi ok (fun s H C cl fp => by rw [← e1 s H C cl fp]; exact hg s H C cl fp) (fun s H C cl fp => by rw [← e2 s H C cl fp]; exact ht s H C cl fp) (fun s H C cl fp => by rw [← e3 s H C cl fp]; exact he s H C cl fp) hs
theorem ps_setLcV (hc : X.calm = true) (hN : X.N.Nodup) (hy : X.N[i]? = some y) (hyl : X.env.scope.names.lookup y = some .local)
    (hsw : swapsWith (.ListComp elt [⟨tg, iter, ifs, 0⟩] scope pos) (some (.Name y py)) spos.line X.env = pure true) (hi : PI X tg iter wi) (ok : BlkOk X.N X.env.scope scope own)
    (hg : ∀ s H C cl fp, PG (X.blk s H scope (compEnvC scope cl C X.env) fp) tg (g s H C cl fp)) (ht : ∀ s H C cl fp, PTs (X.blk s H scope (compEnvC scope cl C X.env) fp) ifs (tt s H C cl fp))
    (he : ∀ s H C cl fp, PE (X.blk s H scope (compEnvC scope cl C X.env) fp) elt (te s H C cl fp)) (e1 : ∀ s H C cl fp, g s H C cl fp = g.at0 X) (e2 : ∀ s H C cl fp, tt s H C cl fp = tt.at0 X)
    (e3 : ∀ s H C cl fp, te s H C cl fp = te.at0 X) (hs : ∀ x, foldedSetIterable iter X.env x = pure x := by intro _; rfl) :
    PS X (.Assign [.Name y py] (.ListComp elt [⟨tg, iter, ifs, 0⟩] scope pos) spos) (tAsg (tLc wi (g.at0 X) (tt.at0 X) (te.at0 X) (own.map (·.2))) (gName i)) :=
  ps_setLc hc hN hy hyl hsw hi ok (fun s H C cl fp => by rw [← e1 s H C cl fp]; exact hg s H C cl fp) (fun s H C cl fp => by rw [← e2 s H C cl fp]; exact ht s H C cl fp) (fun s H C cl fp => by rw [← e3 s H C cl fp]; exact he s H C cl fp) hs
end

/-! ### operators that an own class defines -/
section
open PySem.W PySem.Calls PyProof.Rows
variable {prog : Program} {w : World} {A : Around} {E : Value → Shared → Prop} {s : Shared} {K : PySem.W.Frag} {x y C f r : Addr} {ox oy : Obj} {od : Option Obj} {nm : String}
/-- a op b, two instances of one class -/
theorem b1_same {b : Value} {Q : Value → Shared → Prop} (X : K.In s.heap) (I : InstAt s.heap x ox C od) (hb : Looks (model prog w) s.heap (typeOf b) (.ref C)) (hc : selfFirst K C = true)
    (hs : findIn K (.ref C) (PySem.dunder nm) = some (some (.ref f))) (hf : isFn K (.ref f) = true) (h : wpAny (model prog w) A (call (.ref f) [.ref x, b]) (PySem.W.CmpBack Q) E s) :
    wpAny (model prog w) A (binaryOp1 nm (.ref x) b) (fun o s' => ∃ v, o = some v ∧ Q v s') E s := by
  obtain ⟨cd, rest, hcd, hm⟩ := ksp_first hc
  have one := ksp_try X I hs hf h
  unfold binaryOp1
  refine wpAny_bind (I.type.here (wpAny_bind (hb.here (wpAny_bind ((fills_K X hcd hm hs).here ?_)))))
  simp only [beq_self_eq_true, if_true]
  refine wpAny_bind (wpAny_pure ?_)
  simp only [Bool.and_false, Bool.false_eq_true, if_false, Bool.false_and]
  refine wpAny_bind (wpAny_pure ?_)
  simp only [Bool.false_eq_true, if_false]
  refine wpAny_bind (wpAny_mono one (fun o s' ho => ?_) fun _ _ e => e)
  obtain ⟨v, rfl, hq⟩ := ho
  exact wpAny_pure ⟨v, rfl, hq⟩
/-- a op n, n an int -/
theorem b1_int {i : Int} {t : Tok} {fo ro rc : Option Value} {Q : Value → Shared → Prop} (X : K.In s.heap) (I : InstAt s.heap x ox C od) (hc : selfFirst K C = true)
    (hs : findIn K (.ref C) (PySem.dunder nm) = some (some (.ref f))) (hf : isFn K (.ref f) = true) (hr : findIn K (.ref C) (dunderR nm) = some rc) (hp : rc = none ∨ ∃ g : Addr, rc = some (.ref g))
    (h1 : findIn K (.type "int") (PySem.dunder nm) = some fo) (h2 : findIn K (.type "int") (dunderR nm) = some ro) (hsub : subIn K (.type "int") (.ref C) = some false)
    (h : wpAny (model prog w) A (call (.ref f) [.ref x, .int i t]) (PySem.W.CmpBack Q) E s) : wpAny (model prog w) A (binaryOp1 nm (.ref x) (.int i t)) (fun o s' => ∃ v, o = some v ∧ Q v s') E s := by
  obtain ⟨cd, rest, hcd, hm⟩ := ksp_first hc
  have one := ksp_try X I hs hf h
  obtain ⟨hh, g, d, tt, os⟩ := s
  have L1 : Looks (model prog w) hh (typeOf (.ref x)) (.ref C) := I.type
  have L2 : Looks (model prog w) hh (typeOf (.int i t)) (.type "int") := Looks.of_pure rfl
  have L3 : Looks (model prog w) hh (fillsNumberSlot (.ref C) nm) true := fills_K X hcd hm hs
  have L4 : Looks (model prog w) hh (fillsNumberSlot (.type "int") nm) ((fo.isSome && !isSeqSlot fo) || (ro.isSome && !isSeqSlot ro)) := ksp_fillsT X h1 h2
  have L5 : Looks (model prog w) hh (isSubtype (.type "int") (.ref C)) false := looks_subIn X hsub
  have L6 : Looks (model prog w) hh (numberSlotInPython (.ref C) nm) true := ksp_inPy X hs hr hp
  have L7 : Looks (model prog w) hh (numberSlotInPython (.type "int") nm) false := Looks.of_pure rfl
  have L8 : Looks (model prog w) hh (typeLookup (.type "int") (dunderR nm)) ro := looks_findIn X h2
  generalize ((fo.isSome && !isSeqSlot fo) || (ro.isSome && !isSeqSlot ro)) = right at L4
  have hne : (Value.ref C == Value.type "int") = false := Bool.eq_false_iff.mpr fun q => by cases beq_iff_eq.mp q
  unfold binaryOp1
  refine wpAny_bind (L1.at (wpAny_bind (L2.at (wpAny_bind (L3.at ?_)))))
  simp only [hne, Bool.false_eq_true, if_false]
  cases right with
  | false =>
    ksp_lk
    refine wpAny_mono one (fun o s' ho => ?_) fun _ _ e => e
    obtain ⟨v, rfl, hq⟩ := ho
    ksp_lk
    exact ⟨v, rfl, hq⟩
  | true =>
    ksp_lk
    refine wpAny_mono one (fun o s' ho => ?_) fun _ _ e => e
    obtain ⟨v, rfl, hq⟩ := ho
    ksp_lk
    exact ⟨v, rfl, hq⟩
/-- n op a, n an int: int's own way declines, the reflected one serves -/
theorem b1_rint {i : Int} {t : Tok} {id : String} {bi : Builtin} {Q : Value → Shared → Prop} (X : K.In s.heap) (I : InstAt s.heap y oy C od) (hc : selfFirst K C = true)
    (hs : findIn K (.ref C) (PySem.dunder nm) = some (some (.ref f))) (hr : findIn K (.ref C) (dunderR nm) = some (some (.ref r))) (hf : isFn K (.ref r) = true)
    (hfi : fillsNumberSlot (.type "int") nm = pure true) (hsub : subIn K (.ref C) (.type "int") = some false) (slot : Slot "int" (PySem.dunder nm) id) (entry : entryFor table id = some bi)
    (args : argsOk id ⟨[.int i t, .ref y], []⟩) (dec : wpAny (model prog w) A.in1 (bi ⟨[.int i t, .ref y], []⟩) (fun fin s' => fin = .done (.ret .notImplemented) ∧ s' = s) E s)
    (h : wpAny (model prog w) A (call (.ref r) [.ref y, .int i t]) (PySem.W.CmpBack Q) E s) : wpAny (model prog w) A (binaryOp1 nm (.int i t) (.ref y)) (fun o s' => ∃ v, o = some v ∧ Q v s') E s := by
  obtain ⟨cd, rest, hcd, hm⟩ := ksp_first hc
  have one := ksp_try X I hr hf h
  have two : wpAny (model prog w) A (call (.builtin id) [.int i t, .ref y]) (fun v s' => v = .notImplemented ∧ s' = s) E s :=
    wpAny_call_entry slot rfl entry (wpAny_mono dec (fun fin s' z => ⟨_, z.1, rfl, z.2⟩) fun _ _ e => e) args
  obtain ⟨hh, g, d, tt, os⟩ := s
  have L1 : Looks (model prog w) hh (typeOf (.ref y)) (.ref C) := I.type
  have L2 : Looks (model prog w) hh (typeOf (.int i t)) (.type "int") := Looks.of_pure rfl
  have L3 : Looks (model prog w) hh (fillsNumberSlot (.ref C) nm) true := fills_K X hcd hm hs
  have L4 : Looks (model prog w) hh (fillsNumberSlot (.type "int") nm) true := Looks.of_pure hfi
  have L5 : Looks (model prog w) hh (isSubtype (.ref C) (.type "int")) false := looks_subIn X hsub
  have L7 : Looks (model prog w) hh (numberSlotInPython (.type "int") nm) false := Looks.of_pure rfl
  have hne : (Value.type "int" == Value.ref C) = false := Bool.eq_false_iff.mpr fun q => by cases beq_iff_eq.mp q
  unfold binaryOp1
  refine wpAny_bind (L2.at (wpAny_bind (L1.at (wpAny_bind (L4.at ?_)))))
  simp only [hne, Bool.false_eq_true, if_false]
  ksp_lk
  refine wpAny_tryMethod_declines (s := ⟨hh, g, d, tt, os⟩) (T := "int") rfl slot (wpAny_mono two (fun v s' z => ⟨z.1, ?_⟩) fun _ _ e => e)
  obtain ⟨_, rfl⟩ := z
  ksp_lk
  refine wpAny_mono one (fun o s' ho => ?_) fun _ _ e => e
  obtain ⟨v, rfl, hq⟩ := ho
  ksp_lk
  exact ⟨v, rfl, hq⟩
/-- int's own way with an instance declines -/
theorem int_declines {i : Int} {t : Tok} {dx : Addr} {name : String} {g : Int → Int → Sem Fin} (hy : s.heap.get? y = some (instObj C dx)) :
    wpAny (model prog w) A (Builtin.Int.intBinary name g false ⟨[.int i t, .ref y], []⟩) (fun fin s' => fin = .done (.ret .notImplemented) ∧ s' = s) E s := by
  obtain ⟨hh, gg, d, tt, os⟩ := s
  wp_walk using wpAny_load hy
  exact ⟨rfl, rfl⟩
theorem fillsI_no {M : Model} {h : Heap} {add : Bool} (X : K.In h) (hn : noI K C nm = true) : Looks M h (fillsInplaceSlot (.ref C) nm add) false := by
  obtain ⟨cd, hcd, hall⟩ := any_some hn
  intro A Q E s k q
  have Lm : Looks M h (mroOf (.ref C)) cd.mro := (looks_clsIn X hcd).andThen (f := fun cd => pure cd.mro) .now
  unfold fillsInplaceSlot
  refine wpAny_bind (Lm A _ E s k ?_)
  have X' : K.In s.heap := X.keeps k
  generalize cd.mro = l at hall
  induction l with
  | nil => exact wpAny_pure q
  | cons c l ih =>
    rw [List.all_cons, Bool.and_eq_true] at hall
    rw [List.anyM_cons]
    refine wpAny_bind (wpAny_bind ((looks_findIn X' (beq_iff_eq.mp hall.1)).here ?_))
    refine wpAny_pure ?_
    exact ih hall.2
end
section
open PySem.Spec PyProof.Rows
variable {X : Cx} {CX : CXT} {k : Nat} {f r C : Addr} {fd : FuncData} {ps : List Str} {sp : Sp} {E : XK} {nm : String} {op : Operator}
/-- what the written part says of a class with __op__ (f) and __rop__ (r) -/
structure OwnOp (K : PySem.W.Frag) (C f r : Addr) (nm : String) : Prop where
  hc : PySem.W.selfFirst K C = true
  hs : PySem.W.findIn K (.ref C) (PySem.dunder nm) = some (some (.ref f))
  hf : PySem.W.isFn K (.ref f) = true
  hr : PySem.W.findIn K (.ref C) (dunderR nm) = some (some (.ref r))
  hg : PySem.W.isFn K (.ref r) = true
  h1 : ∃ fo, PySem.W.findIn K (.type "int") (PySem.dunder nm) = some fo
  h2 : ∃ ro, PySem.W.findIn K (.type "int") (dunderR nm) = some ro
  sub : PySem.W.subIn K (.type "int") (.ref C) = some false
  sub2 : PySem.W.subIn K (.ref C) (.type "int") = some false
theorem back_of {pins : List (Addr × Obj)} {σ : L2.St} {Q : VK} {u : Value} {s : Shared} (h : EP X pins σ Q u s) : PySem.W.CmpBack (EP X pins σ Q) u s := by
  obtain ⟨v, H', I, rv, q⟩ := h
  have h : EP X pins σ Q u s := ⟨v, H', I, rv, q⟩
  cases v with
  | non => cases rv; exact h
  | bl b => cases rv; exact h
  | int i => obtain ⟨t, rfl⟩ := rv; exact h
  | str i => obtain ⟨t, rfl⟩ := rv; exact h
  | byt i => obtain ⟨t, rfl⟩ := rv; exact h
  | flt i => obtain ⟨t, rfl⟩ := rv; exact h
  | ref a => cases rv; exact h
  | ty n => cases rv; exact h
/-- a op b: the operand's own method -/
def rOwn (C : Addr) (sp : Sp) (E : XK) : R2 := fun x y H Q => Wd (∃ a dx fs, x = .ref a ∧ H a = some (.ins C dx fs) ∧ ((∃ i, y = .int i) ∨ ∃ b dy gs, y = .ref b ∧ H b = some (.ins C dy gs)) ∧ sp [x, y] H Q E)
theorem own1 (O : OwnOp X.K C f r nm) (F : FnOk X.prog X.w X.K X.mg X.base CX k f fd ps sp) (hrm : Room k X.A) (hb : Binds X.K fd ps []) (hx : Passes CX X E) {pins : List (Addr × Obj)} {s : Shared} {σ : L2.St} {H : Hp} {x y : V} {v u : Value} {Q : VK}
    (I : Inv X pins σ H s) (rx : RelV x v) (ry : RelV y u) (h : rOwn C sp E x y H Q) : wpAny (model X.prog X.w) X.A (binaryOp1 nm v u) (fun o s' => ∃ z, o = some z ∧ EP X pins σ Q z s') X.xe s := by
  obtain ⟨a, dx, fs, rfl, ha, hy, h⟩ := h.ok
  obtain rfl : v = Value.ref a := rx
  obtain ⟨mA, O1, _⟩ := ins_get I.hok ha
  obtain ⟨od, J, _⟩ := O1.look
  have fin : wpAny (model X.prog X.w) X.A (call (.ref f) [.ref a, u]) (PySem.W.CmpBack (EP X pins σ Q)) X.xe s :=
    thn (run_fn (us := [.ref a, u]) (vs := [.ref a, y]) F hrm hb .nil hx I (.cons rfl (.cons ry .nil)) h) fun _ _ z => back_of z
  rcases hy with ⟨i, rfl⟩ | ⟨b, dy, gs, rfl, hb2⟩
  · obtain ⟨t, rfl⟩ := ry
    obtain ⟨fo, h1⟩ := O.h1
    obtain ⟨ro, h2⟩ := O.h2
    exact b1_int I.kIn J O.hc O.hs O.hf O.hr (.inr ⟨r, rfl⟩) h1 h2 O.sub fin
  · obtain rfl : u = Value.ref b := ry
    obtain ⟨mB, O2, _⟩ := ins_get I.hok hb2
    obtain ⟨od2, J2, _⟩ := O2.look
    exact b1_same I.kIn J J2.type O.hc O.hs O.hf fin
theorem op_own (hop : op.info.2 = nm) (O : OwnOp X.K C f r nm) (F : FnOk X.prog X.w X.K X.mg X.base CX k f fd ps sp) (hrm : Room k X.A) (hb : Binds X.K fd ps []) (hx : Passes CX X E) : OpR X (binaryOp op) (rOwn C sp E) := by
  intro pins s σ H x y v u Q I rx ry h
  have one := own1 O F hrm hb hx I rx ry h
  rcases hi : op.info with ⟨sym, nm'⟩
  rw [hi] at hop
  cases hop
  simp only [binaryOp, hi]
  refine wpAny_holding (wpAny_bind (wpAny_mono one (fun o s' ho => ?_) fun _ _ e => e))
  obtain ⟨z, rfl, q⟩ := ho
  exact wpAny_pure q
theorem iop_own (hop : op.info.2 = nm) (O : OwnOp X.K C f r nm) (hn : noI X.K C nm = true) (F : FnOk X.prog X.w X.K X.mg X.base CX k f fd ps sp) (hrm : Room k X.A) (hb : Binds X.K fd ps []) (hx : Passes CX X E) : PIp X op (rOwn C sp E) := by
  intro pins s σ H x y v u Q I rx ry h
  have one := own1 O F hrm hb hx I rx ry h
  obtain ⟨a, dx, fs, rfl, ha, hy, h⟩ := h.ok
  obtain rfl : v = Value.ref a := rx
  obtain ⟨mA, O1, _⟩ := ins_get I.hok ha
  obtain ⟨od, J, _⟩ := O1.look
  subst hop
  unfold inplaceOp
  refine wpAny_holding (wpAny_bind (J.type.here (wpAny_bind ((fillsI_no I.kIn hn).here ?_))))
  simp only [Bool.false_eq_true, if_false]
  refine wpAny_bind (wpAny_mono one (fun o s' ho => ?_) fun _ _ e => e)
  obtain ⟨z, rfl, q⟩ := ho
  exact wpAny_pure q
/-- n op a: the reflected method -/
def rROwn (C : Addr) (sp : Sp) (E : XK) : R2 := fun x y H Q => Wd (∃ (i : Int) (b dy : Addr) (gs : List (Str × V)), x = .int i ∧ y = .ref b ∧ H b = some (.ins C dy gs) ∧ sp [y, x] H Q E)
theorem op_rown {id : String} {bi : Builtin} {nm2 : String} {g : Int → Int → Sem PySem.Fin} (hop : op.info.2 = nm) (O : OwnOp X.K C f r nm) (hfi : fillsNumberSlot (.type "int") nm = pure true) (slot : Slot "int" (PySem.dunder nm) id) (entry : entryFor table id = some bi)
    (args : ∀ p q, argsOk id ⟨[p, q], []⟩) (hbi : bi = Builtin.Int.intBinary nm2 g false) (F : FnOk X.prog X.w X.K X.mg X.base CX k r fd ps sp) (hrm : Room k X.A) (hb : Binds X.K fd ps []) (hx : Passes CX X E) : OpR X (binaryOp op) (rROwn C sp E) := by
  intro pins s σ H x y v u Q I rx ry h
  obtain ⟨i, b, dy, gs, rfl, rfl, hb2, h⟩ := h.ok
  obtain ⟨t, rfl⟩ := rx
  obtain rfl : u = Value.ref b := ry
  obtain ⟨mB, O2, _⟩ := ins_get I.hok hb2
  obtain ⟨od2, J2, _⟩ := O2.look
  have fin : wpAny (model X.prog X.w) X.A (call (.ref r) [.ref b, .int i t]) (PySem.W.CmpBack (EP X pins σ Q)) X.xe s :=
    thn (run_fn (us := [.ref b, .int i t]) (vs := [.ref b, .int i]) F hrm hb .nil hx I (.cons rfl (.cons ⟨t, rfl⟩ .nil)) h) fun _ _ z => back_of z
  rcases hi : op.info with ⟨sym, nm'⟩
  rw [hi] at hop
  cases hop
  subst hbi
  have one := b1_rint (prog := X.prog) (w := X.w) (A := X.A) (E := X.xe) (Q := EP X pins σ Q) I.kIn J2 O.hc O.hs O.hr O.hg hfi O.sub2 slot entry (args _ _) (int_declines J2.at_) fin
  simp only [binaryOp, hi]
  refine wpAny_holding (wpAny_bind (wpAny_mono one (fun o s' ho => ?_) fun _ _ e => e))
  obtain ⟨z, rfl, q⟩ := ho
  exact wpAny_pure q
/-- -a -/
theorem un_own (hs : PySem.W.findIn X.K (.ref C) "__neg__" = some (some (.ref f))) (hf : PySem.W.isFn X.K (.ref f) = true) (F : FnOk X.prog X.w X.K X.mg X.base CX k f fd ps sp) (hrm : Room k X.A) (hb : Binds X.K fd ps []) (hx : Passes CX X E) :
    UnR X (unaryOp .USub) (fun x H Q => Wd (∃ a dx fs, x = .ref a ∧ H a = some (.ins C dx fs) ∧ sp [x] H Q E)) := by
  intro pins s σ H x v Q I rx h
  obtain ⟨a, dx, fs, rfl, ha, h⟩ := h.ok
  obtain rfl : v = Value.ref a := rx
  obtain ⟨mA, O1, _⟩ := ins_get I.hok ha
  obtain ⟨od, J, _⟩ := O1.look
  obtain ⟨m, fr⟩ := I.fr
  exact PySem.W.ksp_neg fr I.mod.kin J hs hf (run_fn (us := [.ref a]) (vs := [.ref a]) F hrm hb .nil hx I (.cons rfl .nil) h)
theorem run_fn1 {pins : List (Addr × Obj)} {σ : L2.St} {H : Hp} {s : Shared} {Q : VK} {us : List Value} {vs : List V} (F : FnOk X.prog X.w X.K X.mg X.base CX k f fd ps sp) (hr : Room (k + 1) X.A) (hb : Binds X.K fd ps []) (hx : Passes CX X E)
    (I : Inv X pins σ H s) (rv : Vals vs us) (h : sp vs H Q E) : wpAny (model X.prog X.w) X.A.in1 (call (.ref f) us) (EP X pins σ Q) X.xe s := by
  have hl : us.length = ps.length := by rw [← rv.length]; exact F.len _ _ _ _ h
  have b := hb s us I.kIn (by rw [List.append_nil]; exact hl)
  rw [List.append_nil] at b
  refine wpAny_call (codeAny_mono (F.run X.A.in1 X.stack s H ⟨us, []⟩ us vs Q E hr.in1 I.env0.in1 b rv h) fun o s' z => ?_)
  cases o with
  | error e => exact hx pins σ H s e s' I z
  | ok fl =>
    cases fl with
    | ret u => exact I.after z
    | next => exact z.elim
    | brk => exact z.elim
    | cont => exact z.elim
/-- abs(a) -/
theorem call_absO (hs : PySem.W.findIn X.K (.ref C) "__abs__" = some (some (.ref f))) (hf : PySem.W.isFn X.K (.ref f) = true) (F : FnOk X.prog X.w X.K X.mg X.base CX k f fd ps sp) (hrm : Room (k + 1) X.A) (hb : Binds X.K fd ps []) (hx : Passes CX X E) :
    CallR X (.builtin "abs") (fun xs H Q => Wd (∃ a dx fs, xs = [.ref a] ∧ H a = some (.ins C dx fs) ∧ sp [.ref a] H Q E)) := by
  intro pins s σ H xs us Q I rv h
  obtain ⟨a, dx, fs, rfl, ha, h⟩ := h.ok
  obtain ⟨u, rfl, ru⟩ := vals1 rv
  obtain rfl : u = Value.ref a := ru
  obtain ⟨mA, O1, _⟩ := ins_get I.hok ha
  obtain ⟨od, J, _⟩ := O1.look
  refine PySem.Calls.call_function_entry kind_abs plain_abs entry_abs (args_abs _) ?_
  unfold Builtin.abs
  refine wpAny_bind (m := oneArg "abs" _) (wpAny_pure ?_)
  refine wpAny_bind (m := callSpecial? (.ref a) (Str.ofString "__abs__")) (PySem.W.special_fn I.kIn J hs (beq_iff_eq.mp hf) ?_)
  exact thn (run_fn1 (us := [.ref a]) (vs := [.ref a]) F hrm hb hx I (.cons rfl .nil) h) fun v s' z => wpAny_pure ⟨v, rfl, z⟩
def tSMeth (C : Addr) (sp : Sp) (E : XK) (ta : TE) (t : TA) : TE := fun σ H Q => ta σ H fun x H1 => x = .ref C ∧ t σ H1 fun vs H2 => sp vs H2 Q E
theorem pe_smeth {pl : Sem Bool} {p : Addr} {o e : Expr} {es : List Expr} {m : Str} {apos pos : Pos} {ta : TE} {t : TA} (he : PE X o ta) (S : SMet X.K C m p f) (F : FnOk X.prog X.w X.K X.mg X.base CX k f fd ps sp) (hrm : Room k X.A) (hb : Binds X.K fd ps [])
    (hx : Passes CX X E) (ha : PA X (e :: es) t) (hst : starEach (e :: es) X.env = (false, eval e X.env) :: starEach es X.env := by rfl) (hpl : (backTo pos (starEach es X.env)).any (·.1) = false := by rfl)
    (ht : eval (.Call (.Attribute o m apos) (e :: es) [] pos) X.env = (eval o X.env >>= fun ov => standAt apos.atName >>= fun _ => holding [ov] (getMethod ov m pl) >>= fun (f, first) =>
      callWith pos f first (backTo pos (starEach (e :: es) X.env)) (backToKw pos (keywordEach [] X.env))) := by rfl) :
    PE X (.Call (.Attribute o m apos) (e :: es) [] pos) (tSMeth C sp E ta t) := by
  refine ⟨fun pins s σ H Q I h => ?_⟩
  refine PySem.W.methodCall_KW (pl := pl) (thn (he.run pins s σ H _ I h) fun u s1 ⟨x, H1, I1, rx, ex, q⟩ => ?_) ht
  subst ex
  obtain rfl : u = Value.ref C := rx
  obtain ⟨rest, hp⟩ := S.rc
  refine PySem.W.method_cls I1.kIn S.ga (PySem.W.cls_bind I1.kIn S.rd S.at_ (wpAny_call (PySem.W.sm_get (s := { s1 with toks := s1.toks + 1 }) I1.kIn hp (PySem.W.handed_on rfl ?_))))
  have I2 := I1.tok (s1.toks + 1)
  refine PySem.W.callWith_K (first := []) (h₀ := X.base) I.ok.mod.kin S.kp (thn (ha.run pos pins _ σ H1 _ I2 q) fun us s2 ⟨vs, H2, I3, rv, q2⟩ => ⟨I3.kIn, ?_⟩) hst hpl
  exact run_fn (us := us) (vs := vs) F hrm hb .nil hx I3 rv (by rw [List.append_nil]; exact q2)
end

/-! ### ratios: plain mathematics -/
def iabs (n : Int) : Int := if n < 0 then -n else n
theorem iabs_eq (n : Int) : iabs n = (n.natAbs : Int) := by
  unfold iabs
  split <;> omega
theorem gcd_turn (a b : Nat) : Nat.gcd b (a % b) = Nat.gcd a b := by
  rw [Nat.gcd_comm b (a % b), ← Nat.gcd_rec, Nat.gcd_comm]
theorem low_num {t b s : Int} (hb : b ≠ 0) (hs : s = if b < 0 then -((Int.gcd t b : Nat) : Int) else ((Int.gcd t b : Nat) : Int)) :
    s ≠ 0 ∧ s.natAbs ≤ b.natAbs ∧ t.fdiv s = (Rat.divInt t b).num ∧ b.fdiv s = ((Rat.divInt t b).den : Int) := by
  have hg : 0 < Int.gcd t b := Int.gcd_pos_of_ne_zero_right _ hb
  obtain ⟨x, hx⟩ := Int.gcd_dvd_left (a := t) (b := b)
  obtain ⟨y, hy⟩ := Int.gcd_dvd_right (a := t) (b := b)
  have e1 : (Rat.divInt t b).num = b.sign * t / ((Int.gcd t b : Nat) : Int) := by rw [Rat.num_divInt, Int.gcd_comm]
  have e2 : ((Rat.divInt t b).den : Int) = (b.natAbs : Int) / ((Int.gcd t b : Nat) : Int) := by
    rw [Rat.den_divInt, if_neg hb, Int.gcd_comm b t]
    rfl
  have hle : (Int.gcd t b) ≤ b.natAbs := Nat.le_of_dvd (by omega) (Int.gcd_dvd_natAbs_right t b)
  generalize Int.gcd t b = g at *
  have hg' : ((g : Nat) : Int) ≠ 0 := by omega
  by_cases hneg : b < 0
  · rw [if_pos hneg] at hs
    subst hs
    refine ⟨by omega, by omega, ?_, ?_⟩
    · rw [e1, Int.sign_eq_neg_one_of_neg hneg]
      have h1 : t = -(g : Int) * (-x) := by rw [Int.neg_mul_neg]; exact hx
      have h2 : -1 * t = (g : Int) * (-x) := by rw [hx, Int.mul_neg]; omega
      rw [h2, Int.mul_ediv_cancel_left _ hg']
      conv => lhs; rw [h1]
      exact Int.mul_fdiv_cancel_left _ (by omega)
    · rw [e2]
      have h0 : (b.natAbs : Int) = (g : Int) * (-y) := by rw [Int.mul_neg, ← hy]; omega
      have h1 : b = -(g : Int) * (-y) := by rw [Int.neg_mul_neg]; exact hy
      rw [h0, Int.mul_ediv_cancel_left _ hg']
      conv => lhs; rw [h1]
      exact Int.mul_fdiv_cancel_left _ (by omega)
  · rw [if_neg hneg] at hs
    subst hs
    have hpos : 0 < b := by omega
    refine ⟨by omega, by omega, ?_, ?_⟩
    · rw [e1, Int.sign_eq_one_of_pos hpos, Int.one_mul]
      conv => rhs; rw [hx]
      rw [Int.mul_ediv_cancel_left _ hg']
      conv => lhs; rw [hx]
      exact Int.mul_fdiv_cancel_left _ (by omega)
    · rw [e2]
      have h0 : (b.natAbs : Int) = (g : Int) * y := by rw [← hy]; omega
      rw [h0, Int.mul_ediv_cancel_left _ hg']
      conv => lhs; rw [hy]
      exact Int.mul_fdiv_cancel_left _ (by omega)
theorem gcd_emod {x y : Int} (hx : 0 ≤ x) (hy : 0 ≤ y) : Int.gcd y (x % y) = Int.gcd x y := by
  obtain ⟨x', rfl⟩ := Int.eq_ofNat_of_zero_le hx
  obtain ⟨y', rfl⟩ := Int.eq_ofNat_of_zero_le hy
  exact gcd_turn _ _
theorem gcd_abs (t b : Int) : Int.gcd (if t < 0 then -t else t) (if b < 0 then -b else b) = Int.gcd t b := by
  unfold Int.gcd
  rw [show (if t < 0 then -t else t).natAbs = t.natAbs by split <;> omega, show (if b < 0 then -b else b).natAbs = b.natAbs by split <;> omega]

/-! ### rules that the layer lacks -/
section
variable {X : Cx} {pos p : Pos}
def CDivZ (_ j : Int) : Prop := j ≠ 0 ∧ j.natAbs.log2 < 9000
theorem op_fdivZ : OpR X (binaryOp .FloorDiv) (rI CDivZ fun i j => .int (i.fdiv j)) := opI fun _ _ _ _ _ _ _ hc q => PyProof.Rows.floordiv_int hc.1 q (.inl (PyProof.noPylong_of_log2 hc.2))
theorem cdivz {i j : Int} {b : Int} (h : j ≠ 0) (hj : j.natAbs ≤ b.natAbs) (hb : b.natAbs < 2 ^ 9000) : CDivZ i j := ⟨h, PySem.Flt.log2_lt_of (by decide) (Nat.lt_of_le_of_lt hj hb)⟩
/-- an own exception class without own __init__, made with nothing -/
theorem pmk_own0 {C : Addr} {bmB : List Value} {B newId initId : String} {x : Str} (F : ExcBaseFacts B newId initId bmB) (q : PySem.W.excIn X.K C bmB newId = true) (gC : X.mg x = some (.ref C))
    (kC : PySem.W.keepIn X.K (.ref C) = true) (r : Raises X (.ref C)) (hg : Gl X x) (hdb : (x == ("__debug__" : Str)) = false := by decide) : PMk X (.Call (.Name x p) [] [] pos) (fun _ H Q => Q (.ref C) none H) := by
  intro pins s σ H Q I h
  refine wpAny_Call_Name_kw (ld_glob I hg gC ?_ hdb)
  refine PySem.W.callWith_K0 I.kIn kC ?_
  obtain ⟨bm, N, nm, qn, bs, hdct, sn, sub, ab, col, dd, k0, k1, k2, k3, k5, mN, hC, hN, hni, T⟩ := exc_obj I.kIn q
  exact wpAny_call_exc_subT F T hC hN hni (fun h' e hm => mk_of I hm r h (I.hok.gone hm.new)) (Nat.zero_le _)
end
/-! ### ratios in the heap -/
def rf (a b : Int) : List (Str × V) := [("top", V.int a), ("bottom", V.int b)]
theorem rf_put (a b : Int) : putF "bottom" (V.int b) (putF "top" (V.int a) []) = rf a b := by
  show (if ("top" : Str) = "bottom" then [(("top" : Str), V.int b)] else (("top" : Str), V.int a) :: putF "bottom" (V.int b) []) = rf a b
  rw [if_neg (by decide +kernel)]
  all_goals rfl
theorem rf_top (a b : Int) : (rf a b).lookup ("top" : Str) = some (.int a) := by
  rw [← rf_put, lookup_putF, if_neg (by decide +kernel), lookup_putF, if_pos rfl]
theorem rf_bottom (a b : Int) : (rf a b).lookup ("bottom" : Str) = some (.int b) := by
  rw [← rf_put, lookup_putF, if_pos rfl]
theorem rf_no (a b : Int) {m : Str} (h1 : ¬ m = "top") (h2 : ¬ m = "bottom") : (rf a b).lookup m = none := by
  rw [← rf_put, lookup_putF, if_neg h2, lookup_putF, if_neg h1]
  all_goals rfl
/-- v is the ratio q -/
def IsR (C : Addr) (H : Hp) (v : V) (q : Rat) : Prop := ∃ p dx, v = .ref p ∧ H p = some (.ins C dx (rf q.num (q.den : Int)))
theorem IsR.mono {C : Addr} {H H' : Hp} {v : V} {q : Rat} (h : IsR C H v q) (s : ∀ p dx fs, H p = some (.ins C dx fs) → H' p = some (.ins C dx fs)) : IsR C H' v q := by
  obtain ⟨p, dx, e, h⟩ := h
  exact ⟨p, dx, e, s _ _ _ h⟩
theorem IsR.same {C : Addr} {H H' : Hp} {v : V} {q : Rat} (h : IsR C H v q) (s : Same H H') : IsR C H' v q := h.mono fun _ _ _ e => s _ _ e
theorem IsR.kp {C g : Addr} {H H' : Hp} {v : V} {q : Rat} {xs : List V} (h : IsR C H v q) (hg : H g = some (.lst xs)) (s : Kp g H H') : IsR C H' v q := h.mono fun _ _ _ e => s _ _ e (ne_of e hg (by intro z; cases z))
/-- v is the number q: a ratio or an int -/
def IsN (C : Addr) (H : Hp) (v : V) (q : Rat) : Prop := IsR C H v q ∨ ∃ n : Int, v = .int n ∧ q = (n : Rat)
/-! ### promises -/
def spGcd : Sp := fun vs H Q _ => ∃ a b : Int, vs = [.int a, .int b] ∧ 0 ≤ a ∧ 0 ≤ b ∧ Q (.int ((Int.gcd a b : Nat) : Int)) H
def spRatioInit (C CE : Addr) : Sp := fun vs H Q E => ∃ (p dx : Addr) (t b : Int), vs = [.ref p, .int t, .int b] ∧ H p = some (.ins C dx []) ∧ b.natAbs < 2 ^ 9000 ∧
  (b = 0 → E (.ref CE) none H) ∧ (b ≠ 0 → Q .non (upd H p (.ins C dx (rf (Rat.divInt t b).num ((Rat.divInt t b).den : Int)))))
section
variable {P : Program} {w : World} {K : PySem.W.Frag} {mg : Str → Option Value} {base : Heap} {A : Ad}
theorem ok_f_common_divisor (T : Txt K mg A) : FnOk P w K mg base CX0 1 A.f_common_divisor A.fd_f_common_divisor P_f_common_divisor spGcd := by
  refine T.F_f_common_divisor.ok sc_f_common_divisor (fun vs H Q E h => ?_) (fun cdv Ar outer s H vs Q E hr h => ?_)
  · obtain ⟨a, b, rfl, _⟩ := h
    rfl
  · obtain ⟨a, b, rfl, ha, hb, k⟩ := h
    refine ⟨_, (pss_cons (ps_g (ps_while PassesOwn.never (pt_cmpR op_ne (pv 1) pe_int (nomark _)) (pss_one (ps_par (i := 0) (j := 1) rfl sc_f_common_divisor.nd rfl rfl (by decide) rfl rfl (pa_cons (pv 1) (pa_cons (pe_op op_mod (pv 0) (pv 1)) pa_nil)) (by rfl)))))
      (pss_one (ps_ret (pv 0)))), ?_⟩
    refine ⟨⟨fun m σ' H' => Wd (∃ x y : Int, σ' = [some (.int x), some (.int y)] ∧ 0 ≤ x ∧ 0 ≤ y ∧ y.toNat = m ∧ Int.gcd x y = Int.gcd a b ∧ H' = H), ⟨_, ⟨a, b, rfl, ha, hb, rfl, rfl, rfl⟩⟩, ?_⟩⟩
    rintro m σ' H' ⟨x, y, rfl, hx, hy, hm, hg, rfl⟩
    walk_at "go"
    refine if_intN (fun e => ?_) (fun e => ?_)
    · refine ⟨fun σ2 H2 => Wd (σ2 = [some (.int y), some (.int (x % y))] ∧ H2 = H'), ?_, ?_⟩
      · rintro σ2 H2 ⟨rfl, rfl⟩
        have h1 : 0 ≤ x % y := Int.emod_nonneg _ e
        have h2 : x % y < y := Int.emod_lt_of_pos _ (by omega)
        refine ⟨(x % y).toNat, by omega, ⟨y, x % y, rfl, hy, h1, rfl, ?_, rfl⟩⟩
        rw [← hg]
        exact gcd_emod hx hy
      · walk_at "go"
        exact ⟨rfl, rfl⟩
    · subst e
      walk_at "go"
      have e : ((Int.gcd a b : Nat) : Int) = x := by
        rw [← hg, Int.gcd_zero_right]
        omega
      rw [e] at k
      exact k
theorem ok_m_Ratio_init (T : Txt K mg A) : FnOk P w K mg base (L2.CX P w) 4 A.m_Ratio_init A.fd_m_Ratio_init P_m_Ratio_init (spRatioInit A.Ratio A.NoRatio) := by
  refine T.F_m_Ratio_init.ok sc_m_Ratio_init (fun vs H Q E h => ?_) (fun cdv Ar outer s H vs Q E hr h => ?_)
  · obtain ⟨p, dx, t, b, rfl, _⟩ := h
    rfl
  · obtain ⟨p, dx, t, b, rfl, hp, hb, kE, kQ⟩ := h
    refine ⟨_, (pss_cons (ps_if (pt_cmpR op_eq (pv 2) pe_int (nomark _)) (pss_one (ps_raise rfl (takes_of rfl rfl rfl rfl) (pmk_own0 PySem.F.excBase_ValueError T.ex_NoRatio T.g_NoRatio T.ek_NoRatio (raises_own T.eb_NoRatio T.et_NoRatio) (by rfl)))) pss_nil)
      (pss_cons (ps_set (i := 3) sc_m_Ratio_init.nd rfl (Or.inl rfl) (pe_call (ok_f_common_divisor T) (hr.mono (by decide)) (by rfl) T.g_common_divisor T.F_f_common_divisor.kp T.b_f_common_divisor .nil pass0 (pa_cons (pe_callB call_abs (by rfl) T.z_abs (by decide +kernel) (pa_cons (pv 1) pa_nil)) (pa_cons (pe_callB call_abs (by rfl) T.z_abs (by decide +kernel) (pa_cons (pv 2) pa_nil)) pa_nil))))
      (pss_g (Evl.pss_cut (ps_if (pt_cmpR op_lt (pv 2) pe_int (nomark _)) (pss_one (ps_set (i := 3) sc_m_Ratio_init.nd rfl (Or.inl rfl) (pe_un un_neg (pv 3)))) pss_nil)
      (pss_cons (ps_fld (pv 0) (pe_op op_fdivZ (pv 1) (pv 3)) rfl)
      (pss_one (ps_fld (pv 0) (pe_op op_fdivZ (pv 2) (pv 3)) rfl))))))), ?_⟩
    walk_at "go"
    refine if_int (fun e => ?_) (fun e => ?_)
    · exact kE e
    · walk_at "go"
      refine ⟨⟨fun σ' H' => Wd (σ' = [some (.ref p), some (.int t), some (.int b), some (.int (if b < 0 then -((Int.gcd t b : Nat) : Int) else ((Int.gcd t b : Nat) : Int)))] ∧ H' = H), ?_, ?_⟩⟩
      · have eg := gcd_abs t b
        walk_at "go"
        refine if_dec (fun e1 => ?_) (fun e1 => ?_)
        · walk_at "go"
          refine ⟨?_, rfl⟩
          rw [eg, if_pos e1]
          rfl
        · refine ⟨?_, rfl⟩
          rw [eg, if_neg e1]
          rfl
      · rintro σ' H' ⟨rfl, rfl⟩
        obtain ⟨h0, h1, h2, h3⟩ := low_num (t := t) e rfl
        generalize (if b < 0 then -((Int.gcd t b : Nat) : Int) else ((Int.gcd t b : Nat) : Int)) = s at *
        have hz : ∀ i, CDivZ i s := fun i => cdivz h0 h1 hb
        have n1 := T.n_Ratio_top
        have n2 := T.n_Ratio_bottom
        have n3 := T.cl_Ratio
        refine ⟨_, rfl, _, rfl, _, _, rfl, rfl, hz _, _, rfl, p, A.Ratio, dx, [], rfl, hp, n3, n1, (by show 0 < 1000; decide), ?_⟩
        refine ⟨_, rfl, _, rfl, _, _, rfl, rfl, hz _, _, rfl, p, A.Ratio, dx, _, rfl, upd_same, n3, n2, (by show 1 < 1000; decide), ?_⟩
        dsimp only
        rw [upd_upd, h2, h3, rf_put]
        exact kQ e
end

/-! ### the law's own helpers: bag, integer, divisor, lowest -/
def spBag (K : PySem.W.Frag) : Sp := fun vs H Q _ => ∃ (a : Addr) (ns : List Int), vs = [.ref a] ∧ SqL K H a (ns.map V.int) ∧ ∀ (g l : Addr) (H' : Hp), Same H H' → H g = none → H l = none → Bag H' g l → Q (.ref g) H'
def spInteger : Sp := fun vs H Q _ => ∃ g l : Addr, vs = [.ref g] ∧ Bag H g l ∧ ∀ (n : Int) (H' : Hp), n.natAbs ≤ 10 ^ 49 → Bag H' g l → Kp g H H' → Q (.int n) H'
def spLowest : Sp := fun vs H Q _ => ∃ t b : Int, vs = [.int t, .int b] ∧ b ≠ 0 ∧ b.natAbs < 2 ^ 9000 ∧ ∀ p, H p = none → Q (.ref p) (upd H p (.tup [.int (Rat.divInt t b).num, .int ((Rat.divInt t b).den : Int)]))
theorem Bag.keep {H H' : Hp} {g l : Addr} (b : Bag H g l) (s : Same H H') : Bag H' g l := by
  obtain ⟨i, r, sd, c, ns, hg, hl, hi⟩ := b
  exact ⟨i, r, sd, c, ns, s _ _ hg, s _ _ hl, hi⟩
theorem Bag.lst {H : Hp} {g l : Addr} (b : Bag H g l) : ∃ xs, H g = some (.lst xs) := by
  obtain ⟨i, r, sd, c, ns, hg, hl, hi⟩ := b
  exact ⟨_, hg⟩
theorem Bag.ne {H : Hp} {g l p : Addr} (b : Bag H g l) (hp : H p = none) : p ≠ g ∧ p ≠ l := by
  obtain ⟨i, r, sd, c, ns, hg, hl, hi⟩ := b
  exact ⟨(ne_of_none hg hp).symm, (ne_of_none hl hp).symm⟩
/-- a bag stands where nothing of it is written -/
theorem Bag.put {H : Hp} {g l p : Addr} {o : HO} (b : Bag H g l) (n : p ≠ g ∧ p ≠ l) : Bag (upd H p o) g l := by
  obtain ⟨i, r, sd, c, ns, hg, hl, hi⟩ := b
  exact ⟨i, r, sd, c, ns, by rw [upd_ne n.1.symm]; exact hg, by rw [upd_ne n.2.symm]; exact hl, hi⟩
theorem Bag.new {H : Hp} {g l p : Addr} {o : HO} (b : Bag H g l) (hp : H p = none) : Bag (upd H p o) g l := b.keep fun c u e => by
  rw [upd_ne (ne_of_none e hp)]
  exact e
theorem Kp.new {g p : Addr} {H H' : Hp} {o : HO} (k : Kp g H H') (hp : H' p = none) : Kp g H (upd H' p o) := fun b u e n => by
  have e1 := k b u e n
  rw [upd_ne (ne_of_none e1 hp)]
  exact e1
theorem Kp.put {g p : Addr} {H H' : Hp} {o : HO} (k : Kp g H H') (hp : H p = none) : Kp g H (upd H' p o) := fun b u e n => by
  rw [upd_ne (ne_of_none e hp)]
  exact k b u e n
theorem Kp.same {g : Addr} {H H' : Hp} (s : Same H H') : Kp g H H' := fun b u e _ => s b u e
theorem Same.new {H : Hp} {p : Addr} {o : HO} (hp : H p = none) : Same H (upd H p o) := fun b u e => by
  rw [upd_ne (ne_of_none e hp)]
  exact e
theorem size_at {c : Int} (h0 : 0 ≤ c) (h6 : c < 6) (hc : c ≠ 0) : ∃ z : Int, atI [V.int 1, V.int 2, V.int 3, V.int 12, V.int 1000, V.int (10 ^ (49 : Int).toNat)] c = some (.int z) ∧ 0 < z ∧ z ≤ 10 ^ 49 := by
  have : c = 1 ∨ c = 2 ∨ c = 3 ∨ c = 4 ∨ c = 5 := by omega
  rcases this with rfl | rfl | rfl | rfl | rfl
  · exact ⟨2, rfl, by decide, by decide⟩
  · exact ⟨3, rfl, by decide, by decide⟩
  · exact ⟨12, rfl, by decide, by decide⟩
  · exact ⟨1000, rfl, by decide, by decide⟩
  · exact ⟨10 ^ 49, rfl, by decide, by decide⟩
theorem big49 : (10 : Nat) ^ 49 < 2 ^ 200 := by decide
theorem pow_mono {a b : Nat} (h : a ≤ b) : (2 : Nat) ^ a ≤ 2 ^ b := Nat.pow_le_pow_right (by decide) h
theorem lt_pow {n a b : Nat} (h : n < 2 ^ a) (hab : a ≤ b) : n < 2 ^ b := Nat.lt_of_lt_of_le h (pow_mono hab)
theorem lt200 {n : Nat} (h : n ≤ 10 ^ 49) : n < 2 ^ 200 := Nat.lt_of_le_of_lt h big49
theorem lt9000 {n : Nat} (h : n ≤ 10 ^ 49) : n < 2 ^ 9000 := lt_pow (lt200 h) (by decide)
def spLaw (K : PySem.W.Frag) : Sp := fun vs H Q _ => ∃ (a : Addr) (ns : List Int), vs = [.ref a] ∧ SqL K H a (ns.map V.int) ∧ ns.length ≤ 63 ∧ ∀ H', Q (.bl true) H'
theorem neD_same {K : PySem.W.Frag} {H : Hp} {p q : Addr} {a b : Int} {Q : VK} (hp : H p = some (.tup [.int a, .int b])) (hq : H q = some (.tup [.int a, .int b])) (h : Q (.bl false) H) : rNeD K (.ref p) (.ref q) H Q := by
  refine ⟨.tuple [.int a, .int b], .tuple [.int a, .int b], .tup (SqT.of hp) (.cons (.int a) (.cons (.int b) .nil)), .tup (SqT.of hq) (.cons (.int a) (.cons (.int b) .nil)), rfl, rfl, ?_⟩
  have e : PyData.eqv (.tuple [.int a, .int b]) (.tuple [.int a, .int b]) = true := by simp [PyData.eqv, PyData.eqvAll]
  rw [e]
  exact h
theorem or_go {K : PySem.W.Frag} {H : Hp} {σ : L2.St} {Q : VK} {n d : Int} (hd : d ≠ 0) (h : ∀ m : Int, m ≠ 0 → (m = n ∨ m = d) → Q (.int m) H) : ∃ k, TruV K (.int n) H k ∧ if k = true then Q (.int n) H else tC (.int d) σ H Q := by
  by_cases e : n = 0
  · exact ⟨false, by rw [e]; rfl, iteF (h d hd (.inr rfl))⟩
  · exact ⟨true, (show true = (n != 0) by simp [e]), iteT (h n e (.inl rfl))⟩
theorem kit_self {K : PySem.W.Frag} {C : Addr} : PySem.W.kitOne K (.ref C) (.ref C) = some true := by simp [PySem.W.kitOne]
def spNumber : Sp := fun vs H Q _ => ∃ n : Int, vs = [.int n] ∧ Q (.bl true) H
section
variable {P : Program} {w : World} {K : PySem.W.Frag} {mg : Str → Option Value} {base : Heap} {A : Ad}
theorem ok_l_bag (T : Txt K mg A) : FnOk P w K mg base CX0 1 A.l_bag A.fd_l_bag P_l_bag (spBag K) := by
  refine T.F_l_bag.ok sc_l_bag (fun vs H Q E h => ?_) (fun cdv Ar outer s H vs Q E hr h => ?_)
  · obtain ⟨a, ns, rfl, _⟩ := h
    rfl
  · obtain ⟨a, ns, rfl, hS, k⟩ := h
    refine ⟨_, (pss_one (ps_ret (pe_lst (pa_cons (pe_callTy call_list_of (by rfl) T.z_list (by decide +kernel) (pa_cons (pv 0) pa_nil)) (pa_cons pe_int (pa_cons pe_int (pa_cons pe_int (pa_cons pe_int pa_nil)))))))), ?_⟩
    refine ⟨_, rfl, a, _, rfl, .inl hS, fun l hl => ⟨by walk_at "fact", fun g hg => ?_⟩⟩
    have nlg : l ≠ g := fun z => by
      rw [z, upd_same] at hg
      cases hg
    have hg0 : H g = none := by
      rw [upd_ne nlg.symm] at hg
      exact hg
    exact k g l _ ((Same.new hl).trans (Same.new hg)) hg0 hl ⟨0, 0, 17, 0, ns, upd_same, by rw [upd_ne nlg]; exact upd_same, by decide⟩
theorem ok_l_integer (T : Txt K mg A) : FnOk P w K mg base CX0 2 A.l_integer A.fd_l_integer P_l_integer spInteger := by
  refine T.F_l_integer.ok sc_l_integer (fun vs H Q E h => ?_) (fun cdv Ar outer s H vs Q E hr h => ?_)
  · obtain ⟨g, l, rfl, _⟩ := h
    rfl
  · obtain ⟨g, l, rfl, hB, k⟩ := h
    refine ⟨_, (pss_cons (ps_set (i := 1) sc_l_integer.nd rfl (Or.inl rfl) (pe_call (ok_l_draw T) (hr.mono (by decide)) (by rfl) T.g__law_draw T.F_l_draw.kp T.b_l_draw .nil pass0 (pa_cons (pv 0) (pa_cons pe_int pa_nil))))
      (pss_cons (ps_if (pt_cmpR op_eq (pv 1) pe_int (nomark _)) (pss_one (ps_ret pe_int)) pss_nil)
      (pss_cons (ps_set (i := 2) sc_l_integer.nd rfl (Or.inl rfl) (pe_ix ix_list (pe_lst (pa_cons pe_int (pa_cons pe_int (pa_cons pe_int (pa_cons pe_int (pa_cons pe_int (pa_cons (pe_op op_pow pe_int pe_int) pa_nil))))))) (pv 1) (fun _ _ => rfl)))
      (pss_cons (ps_set (i := 3) sc_l_integer.nd rfl (Or.inl rfl) (pe_op op_add pe_int (pe_call (ok_l_draw T) (hr.mono (by decide)) (by rfl) T.g__law_draw T.F_l_draw.kp T.b_l_draw .nil pass0 (pa_cons (pv 0) (pa_cons (pv 2) pa_nil)))))
      (pss_cons (ps_if (pt_cmpR op_eq (pe_call (ok_l_draw T) (hr.mono (by decide)) (by rfl) T.g__law_draw T.F_l_draw.kp T.b_l_draw .nil pass0 (pa_cons (pv 0) (pa_cons pe_int pa_nil))) pe_int (nomark _)) (pss_one (ps_ret (pe_un un_neg (pv 3)))) pss_nil)
      (pss_one (ps_ret (pv 3)))))))), ?_⟩
    walk_at "go"
    intro c H1 c0 c6 B1 K1
    walk_at "go"
    refine if_int (fun e => ?_) (fun e => ?_)
    · exact k 0 H1 (by decide) B1 K1
    · obtain ⟨z, hz, z0, z1⟩ := size_at c0 c6 e
      have hz9 : z.natAbs < 2 ^ 9000 := lt9000 (by omega)
      walk_at "go"
      intro p hp
      have B2 := B1.new (o := .lst [V.int 1, V.int 2, V.int 3, V.int 12, V.int 1000, V.int (10 ^ (49 : Int).toNat)]) hp
      walk_at "go"
      intro n H2 n0 n1 B3 K3
      walk_at "go"
      intro b H4 b0 b2 B4 K4
      have K5 : Kp g H H4 := (K1.new (o := .lst _) hp).trans (K3.trans K4)
      walk_at "go"
      refine if_int (fun e => ?_) (fun e => ?_)
      · walk_at "go"
        exact k _ _ (by omega) B4 K5
      · walk_at "go"
        exact k _ _ (by omega) B4 K5
theorem ok_l_divisor (T : Txt K mg A) : FnOk P w K mg base CX0 1 A.l_divisor A.fd_l_divisor P_l_divisor spGcd := by
  refine T.F_l_divisor.ok sc_l_divisor (fun vs H Q E h => ?_) (fun cdv Ar outer s H vs Q E hr h => ?_)
  · obtain ⟨a, b, rfl, _⟩ := h
    rfl
  · obtain ⟨a, b, rfl, ha, hb, k⟩ := h
    refine ⟨_, (pss_cons (ps_g (ps_while PassesOwn.never (pt_cmpR op_ne (pv 1) pe_int (nomark _)) (pss_cons (ps_set (i := 2) sc_l_divisor.nd rfl (Or.inl rfl) (pe_op op_mod (pe_callTy call_int1 (by rfl) T.z_int (by decide +kernel) (pa_cons (pv 0) pa_nil)) (pv 1)))
      (pss_cons (ps_set (i := 0) sc_l_divisor.nd rfl (Or.inl rfl) (pv 1))
      (pss_one (ps_set (i := 1) sc_l_divisor.nd rfl (Or.inl rfl) (pv 2)))))))
      (pss_one (ps_ret (pv 0)))), ?_⟩
    refine ⟨⟨fun m σ' H' => Wd (∃ (x y : Int) (v : Option V), σ' = [some (.int x), some (.int y), v] ∧ 0 ≤ x ∧ 0 ≤ y ∧ y.toNat = m ∧ Int.gcd x y = Int.gcd a b ∧ H' = H), ⟨_, ⟨a, b, none, rfl, ha, hb, rfl, rfl, rfl⟩⟩, ?_⟩⟩
    rintro m σ' H' ⟨x, y, v, rfl, hx, hy, hm, hg, rfl⟩
    walk_at "go"
    refine if_intN (fun e => ?_) (fun e => ?_)
    · refine ⟨fun σ2 H2 => Wd (σ2 = [some (.int y), some (.int (x % y)), some (.int (x % y))] ∧ H2 = H'), ?_, ?_⟩
      · rintro σ2 H2 ⟨rfl, rfl⟩
        have h1 : 0 ≤ x % y := Int.emod_nonneg _ e
        have h2 : x % y < y := Int.emod_lt_of_pos _ (by omega)
        refine ⟨(x % y).toNat, by omega, ⟨y, x % y, _, rfl, hy, h1, rfl, ?_, rfl⟩⟩
        rw [← hg]
        exact gcd_emod hx hy
      · walk_at "go"
        exact ⟨rfl, rfl⟩
    · subst e
      walk_at "go"
      have e : ((Int.gcd a b : Nat) : Int) = x := by
        rw [← hg, Int.gcd_zero_right]
        omega
      rw [e] at k
      exact k
theorem ok_l_lowest (T : Txt K mg A) : FnOk P w K mg base CX0 2 A.l_lowest A.fd_l_lowest P_l_lowest spLowest := by
  refine T.F_l_lowest.ok sc_l_lowest (fun vs H Q E h => ?_) (fun cdv Ar outer s H vs Q E hr h => ?_)
  · obtain ⟨t, b, rfl, _⟩ := h
    rfl
  · obtain ⟨t, b, rfl, hb0, hb, k⟩ := h
    refine ⟨_, (pss_cons (ps_set (i := 2) sc_l_lowest.nd rfl (Or.inl rfl) (pe_call (ok_l_divisor T) (hr.mono (by decide)) (by rfl) T.g__law_divisor T.F_l_divisor.kp T.b_l_divisor .nil pass0 (pa_cons (pe_callB call_abs (by rfl) T.z_abs (by decide +kernel) (pa_cons (pv 0) pa_nil)) (pa_cons (pe_callB call_abs (by rfl) T.z_abs (by decide +kernel) (pa_cons (pv 1) pa_nil)) pa_nil))))
      (pss_g (Evl.pss_cut (ps_if (pt_cmpR op_lt (pv 1) pe_int (nomark _)) (pss_one (ps_set (i := 2) sc_l_lowest.nd rfl (Or.inl rfl) (pe_un un_neg (pv 2)))) pss_nil)
      (pss_one (ps_ret (pe_tup (pa_cons (pe_op op_fdivZ (pv 0) (pv 2)) (pa_cons (pe_op op_fdivZ (pv 1) (pv 2)) pa_nil)))))))), ?_⟩
    walk_at "go"
    refine ⟨⟨fun σ' H' => Wd (σ' = [some (.int t), some (.int b), some (.int (if b < 0 then -((Int.gcd t b : Nat) : Int) else ((Int.gcd t b : Nat) : Int)))] ∧ H' = H), ?_, ?_⟩⟩
    · have eg := gcd_abs t b
      walk_at "go"
      refine if_dec (fun e1 => ?_) (fun e1 => ?_)
      · walk_at "go"
        refine ⟨?_, rfl⟩
        rw [eg, if_pos e1]
        rfl
      · refine ⟨?_, rfl⟩
        rw [eg, if_neg e1]
        rfl
    · rintro σ' H' ⟨rfl, rfl⟩
      obtain ⟨h0, h1, h2, h3⟩ := low_num (t := t) hb0 rfl
      generalize (if b < 0 then -((Int.gcd t b : Nat) : Int) else ((Int.gcd t b : Nat) : Int)) = s at *
      have hz : ∀ i, CDivZ i s := fun i => cdivz h0 h1 hb
      refine ⟨_, rfl, _, rfl, _, _, rfl, rfl, hz _, _, rfl, _, rfl, _, _, rfl, rfl, hz _, by walk_at "fact", fun p hp => ?_⟩
      dsimp only
      rw [h2, h3]
      exact k p hp
theorem ok_l_number (T : Txt K mg A) : FnOk P w K mg base CX0 1 A.l_number A.fd_l_number P_l_number spNumber := by
  refine T.F_l_number.ok sc_l_number (fun vs H Q E h => ?_) (fun cdv Ar outer s H vs Q E hr h => ?_)
  · obtain ⟨n, rfl, _⟩ := h
    rfl
  · obtain ⟨n, rfl, k⟩ := h
    refine ⟨_, (pss_one (ps_ret (pe_and (pe_callB call_isi (by rfl) T.z_isinstance (by decide +kernel) (pa_cons (pv 0) (pa_cons (pe_bltn (v := .ty "int") (by rfl) T.z_int (by decide +kernel) rfl) pa_nil))) (pe_one (pe_not (pe_callB call_isi (by rfl) T.z_isinstance (by decide +kernel) (pa_cons (pv 0) (pa_cons (pe_bltn (v := .ty "bool") (by rfl) T.z_bool (by decide +kernel) rfl) pa_nil)))))))), ?_⟩
    refine ⟨_, rfl, _, _, _, _, _, rfl, .ty "int", .base (.int n), kit_ty (by decide +kernel), true, rfl, iteT ?_⟩
    exact ⟨_, rfl, _, _, _, _, _, rfl, .ty "bool", .base (.int n), kit_ty (b := "bool") (r := false) (by decide +kernel), false, rfl, k⟩
end

/-! ### ratios: halves, over -/
def Sz (n : Nat) (q : Rat) : Prop := q.num.natAbs < 2 ^ n ∧ q.den < 2 ^ n
theorem Sz.mono {a b : Nat} {q : Rat} (h : Sz a q) (hab : a ≤ b) : Sz b q := ⟨lt_pow h.1 hab, lt_pow h.2 hab⟩
theorem Sz.int {n : Nat} {i : Int} (h : i.natAbs < 2 ^ n) (hn : 0 < n) : Sz n (i : Rat) := ⟨h, by
  show 1 < 2 ^ n
  exact Nat.lt_of_lt_of_le (by decide) (pow_mono (a := 1) hn)⟩
theorem num_le {t b : Int} : (Rat.divInt t b).num.natAbs ≤ t.natAbs := by
  rw [Rat.num_divInt]
  by_cases hb : b = 0
  · subst hb
    simp
  · have h1 : (b.sign * t / ((b.gcd t : Nat) : Int)).natAbs ≤ (b.sign * t).natAbs := Int.natAbs_ediv_le_natAbs _ _
    rw [Int.natAbs_mul, Int.natAbs_sign_of_ne_zero hb, Nat.one_mul] at h1
    exact h1
theorem den_le {t b : Int} (hb : b ≠ 0) : (Rat.divInt t b).den ≤ b.natAbs := by
  rw [Rat.den_divInt, if_neg hb]
  exact Nat.div_le_self _ _
theorem Sz.div {n : Nat} {t b : Int} (ht : t.natAbs < 2 ^ n) (hb : b.natAbs < 2 ^ n) (h0 : b ≠ 0) : Sz n (Rat.divInt t b) := ⟨Nat.lt_of_le_of_lt num_le ht, Nat.lt_of_le_of_lt (den_le h0) hb⟩
theorem mulw {i j : Int} {a b : Nat} (hi : i.natAbs < 2 ^ a) (hj : j.natAbs < 2 ^ b) (h : a + b ≤ 900000) : CMulW i j :=
  wide_mul (a := a + 1) (b := b + 1) (lt_pow hi (by omega)) (lt_pow hj (by omega)) (by omega) (by omega) (by omega)
theorem mul_lt {i j : Int} {a b : Nat} (hi : i.natAbs < 2 ^ a) (hj : j.natAbs < 2 ^ b) : (i * j).natAbs < 2 ^ (a + b) := wide_lt hi hj
theorem quot_eq {q r : Rat} : Rat.divInt (q.num * (r.den : Int)) ((q.den : Int) * r.num) = q / r := by
  rw [Rat.div_def, Rat.inv_def, ← Rat.divInt_mul_divInt, Rat.num_divInt_den]
theorem same_make {H : Hp} {x dx C : Addr} {fs fs' : List (Str × V)} (hx : H x = none) (hd : H dx = none) : Same H (upd (upd (upd H dx (.own x)) x (.ins C dx fs)) x (.ins C dx fs')) := fun b o e => by
  rw [upd_ne (ne_of_none e hx), upd_ne (ne_of_none e hx), upd_ne (ne_of_none e hd)]
  exact e
theorem same_make1 {H : Hp} {x dx C : Addr} {fs : List (Str × V)} (hx : H x = none) (hd : H dx = none) : Same H (upd (upd H dx (.own x)) x (.ins C dx fs)) := fun b o e => by
  rw [upd_ne (ne_of_none e hx), upd_ne (ne_of_none e hd)]
  exact e
theorem mk_ratio {C CE x dx : Addr} {H : Hp} {t b : Int} {R : VK} {E : XK} (hx : H x = none) (hd : H dx = none) (hb : b.natAbs < 2 ^ 9000) (h0 : b = 0 → ∀ H', Same H H' → E (.ref CE) none H')
    (h1 : b ≠ 0 → ∀ H', Same H H' → IsR C H' (.ref x) (Rat.divInt t b) → R .non H') : spRatioInit C CE [.ref x, .int t, .int b] (upd (upd H dx (.own x)) x (.ins C dx [])) R E :=
  ⟨x, dx, t, b, rfl, upd_same, hb, fun e => h0 e _ (same_make1 hx hd), fun e => h1 e _ (same_make hx hd) ⟨x, dx, rfl, upd_same⟩⟩
def spHalves (C : Addr) : Sp := fun vs H Q _ => ∃ (v : V) (q : Rat), vs = [v] ∧ IsN C H v q ∧ ∀ p, H p = none → Q (.ref p) (upd H p (.tup [.int q.num, .int (q.den : Int)]))
def spOver (C CE : Addr) : Sp := fun vs H Q E => ∃ (v u : V) (q r : Rat) (a b : Nat), vs = [v, u] ∧ IsR C H v q ∧ IsN C H u r ∧ Sz a q ∧ Sz b r ∧ a + b ≤ 9000 ∧
  (r = 0 → ∀ H', Same H H' → E (.ref CE) none H') ∧ (r ≠ 0 → ∀ v' H', Same H H' → IsR C H' v' (q / r) → Q v' H')
section
variable {P : Program} {w : World} {K : PySem.W.Frag} {mg : Str → Option Value} {base : Heap} {A : Ad}
theorem ty_ratio (T : Txt K mg A) {H : Hp} {p dx : Addr} {fs : List (Str × V)} (h : H p = some (.ins A.Ratio dx fs)) : TyX K H (.ref p) (.ref A.Ratio) := .base (.ins h T.cl_Ratio T.tc_Ratio T.tn_Ratio T.tk_Ratio T.tm_Ratio)
theorem ok_f_halves (T : Txt K mg A) : FnOk P w K mg base CX0 1 A.f_halves A.fd_f_halves P_f_halves (spHalves A.Ratio) := by
  refine T.F_f_halves.ok sc_f_halves (fun vs H Q E h => ?_) (fun cdv Ar outer s H vs Q E hr h => ?_)
  · obtain ⟨v, q, rfl, _⟩ := h
    rfl
  · obtain ⟨v, q, rfl, hN, k⟩ := h
    refine ⟨_, (pss_cons (ps_if (pt_val (pe_callB call_isi (by rfl) T.z_isinstance (by decide +kernel) (pa_cons (pv 0) (pa_cons (pe_bltn (v := .ty "int") (by rfl) T.z_int (by decide +kernel) rfl) pa_nil)))) (pss_one (ps_ret (pe_tup (pa_cons (pv 0) (pa_cons pe_int pa_nil))))) pss_nil)
      (pss_one (ps_ret (pe_tup (pa_cons (pe_fld (pv 0) rfl) (pa_cons (pe_fld (pv 0) rfl) pa_nil)))))), ?_⟩
    rcases hN with ⟨p, dx, rfl, hp⟩ | ⟨n, rfl, rfl⟩
    · have n1 := T.n_Ratio_top
      have n2 := T.n_Ratio_bottom
      have n3 := T.cl_Ratio
      refine ⟨_, rfl, _, _, _, _, _, rfl, .ty "int", ty_ratio T hp, T.ki_Ratio, _, rfl, iteF ?_⟩
      exact ⟨_, rfl, p, _, dx, _, _, rfl, hp, n3, n1, rf_top _ _, _, rfl, p, _, dx, _, _, rfl, hp, n3, n2, rf_bottom _ _, by walk_at "fact", k⟩
    · refine ⟨_, rfl, _, _, _, _, _, rfl, .ty "int", .base (.int n), kit_ty (by decide +kernel), _, rfl, iteT ?_⟩
      exact ⟨_, rfl, by walk_at "fact", k⟩
theorem ok_m_Ratio_over (T : Txt K mg A) : FnOk P w K mg base (L2.CX P w) 6 A.m_Ratio_over A.fd_m_Ratio_over P_m_Ratio_over (spOver A.Ratio A.NoRatio) := by
  refine T.F_m_Ratio_over.okX sc_m_Ratio_over (fun vs H Q E h => ?_) (fun cdv Ar outer s H vs Q E hr h => ?_)
  · obtain ⟨v, u, q, r, a, b, rfl, _⟩ := h
    rfl
  · obtain ⟨v, u, q, r, a, b, rfl, ⟨p, dx, rfl, hp⟩, hu, sq, sr, hab, kE, kQ⟩ := h
    have n1 := T.n_Ratio_top
    have n2 := T.n_Ratio_bottom
    have n3 := T.cl_Ratio
    refine ⟨_, (pss_cons (ps_asg (pe_call (ok_f_halves T) (hr.mono (by decide)) (by rfl) T.g_halves T.F_f_halves.kp T.b_f_halves .nil pass0 (pa_cons (pv 1) pa_nil)) (pg_tup rfl (pgs_cons (pg_name (i := 2) sc_m_Ratio_over.nd rfl (Or.inl rfl)) (pgs_cons (pg_name (i := 3) sc_m_Ratio_over.nd rfl (Or.inl rfl)) pgs_nil))))
      (pss_one (ps_ret (pe_make T.mk_Ratio (ok_m_Ratio_init T) (hr.mono (by decide)) (by rfl) T.g_Ratio T.b_m_Ratio_init .nil (E := E) (passes_call (takes_of rfl rfl rfl rfl) (fun _ _ _ _ h => h)) (pa_cons (pe_op op_mulW (pe_fld (pv 0) rfl) (pv 3)) (pa_cons (pe_op op_mulW (pe_fld (pv 0) rfl) (pv 2)) pa_nil)))))), ?_⟩
    refine ⟨_, rfl, u, r, rfl, hu, fun t ht => ?_⟩
    have npt : p ≠ t := ne_of_none hp ht
    have hp' : ∀ o, upd H t o p = some (.ins A.Ratio dx (rf q.num (q.den : Int))) := fun o => by
      rw [upd_ne npt]
      exact hp
    refine ⟨t, _, rfl, SqT.of upd_same, rfl, _, _, rfl, _, _, rfl, rfl, ?_⟩
    refine ⟨_, rfl, p, _, dx, _, _, rfl, hp' _, n3, n1, rf_top _ _, _, rfl, _, _, rfl, rfl, mulw sq.1 sr.2 (by omega), _, rfl, p, _, dx, _, _, rfl, hp' _, n3, n2, rf_bottom _ _, _, rfl, _, _, rfl, rfl, mulw sq.2 sr.1 (by omega), ?_⟩
    have hd : (q.den : Int) ≠ 0 := by
      have := q.den_nz
      omega
    intro x dx' hx hd' _
    refine mk_ratio hx hd' (lt_pow (mul_lt sq.2 sr.1) hab) (fun e H' s => ?_) (fun e H' s i => ⟨rfl, ?_⟩)
    · have e2 : r.num = 0 := (Int.mul_eq_zero.mp e).resolve_left hd
      exact kE (Rat.num_eq_zero.mp e2) H' ((Same.new ht).trans s)
    · have e2 : r ≠ 0 := fun z => by
        rw [z] at e
        exact e (Int.mul_zero _)
      rw [quot_eq] at i
      exact kQ e2 _ H' ((Same.new ht).trans s) i
end

/-! ### ratios: less, at_most, same, floor, nearest -/
def PairAt (H : Hp) (p : Addr) (q : Rat) : Prop := H p = some (.tup [.int q.num, .int (q.den : Int)])
theorem eqv_pair (q r : Rat) : PyData.eqv (.tuple [.int q.num, .int (q.den : Int)]) (.tuple [.int r.num, .int (r.den : Int)]) = decide (q = r) := by
  have e : (decide (q = r)) = ((q.num == r.num) && ((q.den : Int) == (r.den : Int))) := by
    by_cases h : q = r
    · subst h
      simp
    · rw [decide_eq_false h]
      symm
      rw [Bool.and_eq_false_iff]
      by_cases h1 : q.num = r.num
      · right
        rw [beq_eq_false_iff_ne]
        intro h2
        exact h (Rat.ext h1 (by omega))
      · left
        rw [beq_eq_false_iff_ne]
        exact h1
  simp [PyData.eqv, PyData.eqvAll, e]
theorem dp_pair {K : PySem.W.Frag} {H : Hp} {p : Addr} {q : Rat} (h : PairAt H p q) : Dp K H (.ref p) (.tuple [.int q.num, .int (q.den : Int)]) := .tup (SqT.of h) (.cons (.int _) (.cons (.int _) .nil))
theorem eqD_pair {K : PySem.W.Frag} {H : Hp} {p p' : Addr} {q r : Rat} {Q : VK} (hp : PairAt H p q) (hq : PairAt H p' r) (h : Q (.bl (decide (q = r))) H) : rEqD K (.ref p) (.ref p') H Q :=
  ⟨_, _, dp_pair hp, dp_pair hq, rfl, rfl, by rw [eqv_pair]; exact h⟩
theorem neD_pair {K : PySem.W.Frag} {H : Hp} {p p' : Addr} {q r : Rat} {Q : VK} (hp : PairAt H p q) (hq : PairAt H p' r) (h : Q (.bl (!decide (q = r))) H) : rNeD K (.ref p) (.ref p') H Q :=
  ⟨_, _, dp_pair hp, dp_pair hq, rfl, rfl, by rw [eqv_pair]; exact h⟩

/-! ### ratios: the operators -/
theorem add_eq {q r : Rat} : Rat.divInt (q.num * (r.den : Int) + r.num * (q.den : Int)) ((q.den : Int) * (r.den : Int)) = q + r := by
  have h1 : (q.den : Int) ≠ 0 := by have := q.den_nz; omega
  have h2 : (r.den : Int) ≠ 0 := by have := r.den_nz; omega
  rw [← Rat.divInt_add_divInt _ _ h1 h2, Rat.num_divInt_den, Rat.num_divInt_den]
theorem sub_eq {q r : Rat} : Rat.divInt (q.num * (r.den : Int) - r.num * (q.den : Int)) ((q.den : Int) * (r.den : Int)) = q - r := by
  have h1 : (q.den : Int) ≠ 0 := by have := q.den_nz; omega
  have h2 : (r.den : Int) ≠ 0 := by have := r.den_nz; omega
  rw [← Rat.divInt_sub_divInt _ _ h1 h2, Rat.num_divInt_den, Rat.num_divInt_den]
theorem mul_eq {q r : Rat} : Rat.divInt (q.num * r.num) ((q.den : Int) * (r.den : Int)) = q * r := by
  rw [← Rat.divInt_mul_divInt, Rat.num_divInt_den, Rat.num_divInt_den]
theorem neg_eq {q : Rat} : Rat.divInt (-q.num) (q.den : Int) = -q := by
  rw [← Rat.neg_divInt, Rat.num_divInt_den]
def rabs (q : Rat) : Rat := Rat.divInt (if q.num < 0 then -q.num else q.num) (q.den : Int)
theorem natAbs_add_lt {a b n : Nat} {i j : Int} (hi : i.natAbs < 2 ^ a) (hj : j.natAbs < 2 ^ b) (ha : a ≤ n) (hb : b ≤ n) : (i + j).natAbs < 2 ^ (n + 1) := by
  have h1 := lt_pow hi ha
  have h2 := lt_pow hj hb
  rw [Nat.pow_succ]
  omega
theorem Sz.add {a b : Nat} {q r : Rat} (hq : Sz a q) (hr : Sz b r) : Sz (a + b + 1) (q + r) := by
  rw [← add_eq]
  have h1 : (q.den : Int) ≠ 0 := by have := q.den_nz; omega
  have h2 : (r.den : Int) ≠ 0 := by have := r.den_nz; omega
  exact Sz.div (natAbs_add_lt (mul_lt hq.1 hr.2) (mul_lt hr.1 hq.2) (Nat.le_refl _) (by omega)) (lt_pow (mul_lt hq.2 hr.2) (by omega)) (Int.mul_ne_zero h1 h2)
theorem Sz.neg {a : Nat} {q : Rat} (hq : Sz a q) : Sz a (-q) := ⟨by show (-q.num).natAbs < _; rw [Int.natAbs_neg]; exact hq.1, hq.2⟩
theorem Sz.sub {a b : Nat} {q r : Rat} (hq : Sz a q) (hr : Sz b r) : Sz (a + b + 1) (q - r) := by
  rw [Rat.sub_eq_add_neg]
  exact hq.add hr.neg
theorem Sz.mul {a b : Nat} {q r : Rat} (hq : Sz a q) (hr : Sz b r) : Sz (a + b) (q * r) := by
  rw [← mul_eq]
  have h1 : (q.den : Int) ≠ 0 := by have := q.den_nz; omega
  have h2 : (r.den : Int) ≠ 0 := by have := r.den_nz; omega
  exact Sz.div (mul_lt hq.1 hr.1) (mul_lt hq.2 hr.2) (Int.mul_ne_zero h1 h2)
def spBin (C : Addr) (f : Rat → Rat → Rat) : Sp := fun vs H Q _ => ∃ (v u : V) (q r : Rat) (a b : Nat), vs = [v, u] ∧ IsR C H v q ∧ IsN C H u r ∧ Sz a q ∧ Sz b r ∧ a + b ≤ 8990 ∧ ∀ v' H', Same H H' → IsR C H' v' (f q r) → Q v' H'
def spUn (C : Addr) (f : Rat → Rat) : Sp := fun vs H Q _ => ∃ (v : V) (q : Rat) (a : Nat), vs = [v] ∧ IsR C H v q ∧ Sz a q ∧ a ≤ 8990 ∧ ∀ v' H', Same H H' → IsR C H' v' (f q) → Q v' H'
theorem IsN.same {C : Addr} {H H' : Hp} {v : V} {q : Rat} (h : IsN C H v q) (s : Same H H') : IsN C H' v q := h.elim (fun z => .inl (z.same s)) .inr
/-- the reading of an operator with a ratio on the left -/
theorem r_own {C : Addr} {f : Rat → Rat → Rat} {H : Hp} {v u : V} {q r : Rat} {a b : Nat} {Q : VK} {E : XK} (hv : IsR C H v q) (hu : IsN C H u r) (sq : Sz a q) (sr : Sz b r) (hab : a + b ≤ 8990)
    (h : ∀ v' H', Same H H' → IsR C H' v' (f q r) → Q v' H') : rOwn C (spBin C f) E v u H Q := by
  obtain ⟨p, dx, rfl, hp⟩ := id hv
  refine ⟨p, dx, _, rfl, hp, ?_, _, _, q, r, a, b, rfl, hv, hu, sq, sr, hab, h⟩
  rcases hu with ⟨p2, dx2, e, h2⟩ | ⟨n, e, _⟩
  · exact .inr ⟨p2, dx2, _, e, h2⟩
  · exact .inl ⟨n, e⟩
theorem r_rown {C : Addr} {f : Rat → Rat → Rat} {H : Hp} {u : V} {n : Int} {q : Rat} {a b : Nat} {Q : VK} {E : XK} (hu : IsR C H u q) (sq : Sz a q) (sr : Sz b (n : Rat)) (hab : a + b ≤ 8990)
    (h : ∀ v' H', Same H H' → IsR C H' v' (f q (n : Rat)) → Q v' H') : rROwn C (spBin C f) E (.int n) u H Q := by
  obtain ⟨p, dx, rfl, hp⟩ := id hu
  exact ⟨n, p, dx, _, rfl, rfl, hp, _, _, q, (n : Rat), a, b, rfl, hu, .inr ⟨n, rfl, rfl⟩, sq, sr, hab, h⟩
theorem r_un {C : Addr} {f : Rat → Rat} {H : Hp} {v : V} {q : Rat} {a : Nat} {Q : VK} {E : XK} (hv : IsR C H v q) (sq : Sz a q) (ha : a ≤ 8990) (h : ∀ v' H', Same H H' → IsR C H' v' (f q) → Q v' H') :
    Wd (∃ a dx fs, v = .ref a ∧ H a = some (.ins C dx fs) ∧ spUn C f [v] H Q E) := by
  obtain ⟨p, dx, rfl, hp⟩ := id hv
  exact ⟨p, dx, _, rfl, hp, _, q, a, rfl, hv, sq, ha, h⟩
theorem r_abs {C : Addr} {f : Rat → Rat} {H : Hp} {v : V} {q : Rat} {a : Nat} {Q : VK} {E : XK} (hv : IsR C H v q) (sq : Sz a q) (ha : a ≤ 8990) (h : ∀ v' H', Same H H' → IsR C H' v' (f q) → Q v' H') :
    Wd (∃ a dx fs, [v] = [.ref a] ∧ H a = some (.ins C dx fs) ∧ spUn C f [.ref a] H Q E) := by
  obtain ⟨p, dx, rfl, hp⟩ := id hv
  exact ⟨p, dx, _, rfl, hp, _, q, a, rfl, hv, sq, ha, h⟩
section
variable {P : Program} {w : World} {K : PySem.W.Frag} {mg : Str → Option Value} {base : Heap} {A : Ad}
theorem oo_add (T : Txt K mg A) : OwnOp K A.Ratio A.m_Ratio_add A.m_Ratio_radd "add" := ⟨T.sf_Ratio, T.m_Ratio___add__.at_, T.m_Ratio___add__.fn, T.m_Ratio___radd__.at_, T.m_Ratio___radd__.fn, ⟨_, T.o1a_Ratio⟩, ⟨_, T.o2a_Ratio⟩, T.si_Ratio, T.sj_Ratio⟩
theorem oo_sub (T : Txt K mg A) : OwnOp K A.Ratio A.m_Ratio_sub A.m_Ratio_rsub "sub" := ⟨T.sf_Ratio, T.m_Ratio___sub__.at_, T.m_Ratio___sub__.fn, T.m_Ratio___rsub__.at_, T.m_Ratio___rsub__.fn, ⟨_, T.o1s_Ratio⟩, ⟨_, T.o2s_Ratio⟩, T.si_Ratio, T.sj_Ratio⟩
theorem oo_mul (T : Txt K mg A) : OwnOp K A.Ratio A.m_Ratio_mul A.m_Ratio_rmul "mul" := ⟨T.sf_Ratio, T.m_Ratio___mul__.at_, T.m_Ratio___mul__.fn, T.m_Ratio___rmul__.at_, T.m_Ratio___rmul__.fn, ⟨_, T.o1m_Ratio⟩, ⟨_, T.o2m_Ratio⟩, T.si_Ratio, T.sj_Ratio⟩
theorem ok_m_Ratio_add (T : Txt K mg A) : FnOk P w K mg base CX0 6 A.m_Ratio_add A.fd_m_Ratio_add P_m_Ratio_add (spBin A.Ratio (· + ·)) := by
  refine T.F_m_Ratio_add.ok sc_m_Ratio_add (fun vs H Q E h => ?_) (fun cdv Ar outer s H vs Q E hr h => ?_)
  · obtain ⟨v, u, q, r, a, b, rfl, _⟩ := h
    rfl
  · obtain ⟨v, u, q, r, a, b, rfl, ⟨p, dx, rfl, hp⟩, hu, sq, sr, hab, kQ⟩ := h
    refine ⟨_, (pss_cons (ps_asg (pe_call (ok_f_halves T) (hr.mono (by decide)) (by rfl) T.g_halves T.F_f_halves.kp T.b_f_halves .nil pass0 (pa_cons (pv 1) pa_nil)) (pg_tup rfl (pgs_cons (pg_name (i := 2) sc_m_Ratio_add.nd rfl (Or.inl rfl)) (pgs_cons (pg_name (i := 3) sc_m_Ratio_add.nd rfl (Or.inl rfl)) pgs_nil))))
      (pss_one (ps_ret (pe_make T.mk_Ratio (ok_m_Ratio_init T) (hr.mono (by decide)) (by rfl) T.g_Ratio T.b_m_Ratio_init .nil passL (pa_cons (pe_op op_add (pe_op op_mulW (pe_fld (pv 0) rfl) (pv 3)) (pe_op op_mulW (pv 2) (pe_fld (pv 0) rfl))) (pa_cons (pe_op op_mulW (pe_fld (pv 0) rfl) (pv 3)) pa_nil)))))), ?_⟩
    refine ⟨_, rfl, u, r, rfl, hu, fun t ht => ?_⟩
    have hp' := Same.new (o := .tup [.int r.num, .int (r.den : Int)]) ht _ _ hp
    refine ⟨t, _, rfl, SqT.of upd_same, rfl, _, _, rfl, _, _, rfl, rfl, ?_⟩
    refine ⟨_, rfl, p, _, dx, _, _, rfl, hp', T.cl_Ratio, T.n_Ratio_top, rf_top _ _, _, rfl, _, _, rfl, rfl, mulw sq.1 sr.2 (by omega), _, rfl, _, rfl, p, _, dx, _, _, rfl, hp', T.cl_Ratio, T.n_Ratio_bottom, rf_bottom _ _, _, _, rfl, rfl, mulw sr.1 sq.2 (by omega), _, _, rfl, rfl, ?_⟩
    refine ⟨_, rfl, p, _, dx, _, _, rfl, hp', T.cl_Ratio, T.n_Ratio_bottom, rf_bottom _ _, _, rfl, _, _, rfl, rfl, mulw sq.2 sr.2 (by omega), fun x dx' hx hd' _ => ?_⟩
    have h1 : (q.den : Int) ≠ 0 := by have := q.den_nz; omega
    have h2 : (r.den : Int) ≠ 0 := by have := r.den_nz; omega
    refine mk_ratio hx hd' (lt_pow (mul_lt sq.2 sr.2) (by omega)) (fun e => absurd e (Int.mul_ne_zero h1 h2)) (fun _ H' s i => ⟨rfl, ?_⟩)
    rw [add_eq] at i
    exact kQ _ H' ((Same.new ht).trans s) i
theorem ok_m_Ratio_sub (T : Txt K mg A) : FnOk P w K mg base CX0 6 A.m_Ratio_sub A.fd_m_Ratio_sub P_m_Ratio_sub (spBin A.Ratio (· - ·)) := by
  refine T.F_m_Ratio_sub.ok sc_m_Ratio_sub (fun vs H Q E h => ?_) (fun cdv Ar outer s H vs Q E hr h => ?_)
  · obtain ⟨v, u, q, r, a, b, rfl, _⟩ := h
    rfl
  · obtain ⟨v, u, q, r, a, b, rfl, ⟨p, dx, rfl, hp⟩, hu, sq, sr, hab, kQ⟩ := h
    refine ⟨_, (pss_cons (ps_asg (pe_call (ok_f_halves T) (hr.mono (by decide)) (by rfl) T.g_halves T.F_f_halves.kp T.b_f_halves .nil pass0 (pa_cons (pv 1) pa_nil)) (pg_tup rfl (pgs_cons (pg_name (i := 2) sc_m_Ratio_sub.nd rfl (Or.inl rfl)) (pgs_cons (pg_name (i := 3) sc_m_Ratio_sub.nd rfl (Or.inl rfl)) pgs_nil))))
      (pss_one (ps_ret (pe_make T.mk_Ratio (ok_m_Ratio_init T) (hr.mono (by decide)) (by rfl) T.g_Ratio T.b_m_Ratio_init .nil passL (pa_cons (pe_op op_sub (pe_op op_mulW (pe_fld (pv 0) rfl) (pv 3)) (pe_op op_mulW (pv 2) (pe_fld (pv 0) rfl))) (pa_cons (pe_op op_mulW (pe_fld (pv 0) rfl) (pv 3)) pa_nil)))))), ?_⟩
    refine ⟨_, rfl, u, r, rfl, hu, fun t ht => ?_⟩
    have hp' := Same.new (o := .tup [.int r.num, .int (r.den : Int)]) ht _ _ hp
    refine ⟨t, _, rfl, SqT.of upd_same, rfl, _, _, rfl, _, _, rfl, rfl, ?_⟩
    refine ⟨_, rfl, p, _, dx, _, _, rfl, hp', T.cl_Ratio, T.n_Ratio_top, rf_top _ _, _, rfl, _, _, rfl, rfl, mulw sq.1 sr.2 (by omega), _, rfl, _, rfl, p, _, dx, _, _, rfl, hp', T.cl_Ratio, T.n_Ratio_bottom, rf_bottom _ _, _, _, rfl, rfl, mulw sr.1 sq.2 (by omega), _, _, rfl, rfl, ?_⟩
    refine ⟨_, rfl, p, _, dx, _, _, rfl, hp', T.cl_Ratio, T.n_Ratio_bottom, rf_bottom _ _, _, rfl, _, _, rfl, rfl, mulw sq.2 sr.2 (by omega), fun x dx' hx hd' _ => ?_⟩
    have h1 : (q.den : Int) ≠ 0 := by have := q.den_nz; omega
    have h2 : (r.den : Int) ≠ 0 := by have := r.den_nz; omega
    refine mk_ratio hx hd' (lt_pow (mul_lt sq.2 sr.2) (by omega)) (fun e => absurd e (Int.mul_ne_zero h1 h2)) (fun _ H' s i => ⟨rfl, ?_⟩)
    rw [sub_eq] at i
    exact kQ _ H' ((Same.new ht).trans s) i
theorem ok_m_Ratio_mul (T : Txt K mg A) : FnOk P w K mg base CX0 6 A.m_Ratio_mul A.fd_m_Ratio_mul P_m_Ratio_mul (spBin A.Ratio (· * ·)) := by
  refine T.F_m_Ratio_mul.ok sc_m_Ratio_mul (fun vs H Q E h => ?_) (fun cdv Ar outer s H vs Q E hr h => ?_)
  · obtain ⟨v, u, q, r, a, b, rfl, _⟩ := h
    rfl
  · obtain ⟨v, u, q, r, a, b, rfl, ⟨p, dx, rfl, hp⟩, hu, sq, sr, hab, kQ⟩ := h
    refine ⟨_, (pss_cons (ps_asg (pe_call (ok_f_halves T) (hr.mono (by decide)) (by rfl) T.g_halves T.F_f_halves.kp T.b_f_halves .nil pass0 (pa_cons (pv 1) pa_nil)) (pg_tup rfl (pgs_cons (pg_name (i := 2) sc_m_Ratio_mul.nd rfl (Or.inl rfl)) (pgs_cons (pg_name (i := 3) sc_m_Ratio_mul.nd rfl (Or.inl rfl)) pgs_nil))))
      (pss_one (ps_ret (pe_make T.mk_Ratio (ok_m_Ratio_init T) (hr.mono (by decide)) (by rfl) T.g_Ratio T.b_m_Ratio_init .nil passL (pa_cons (pe_op op_mulW (pe_fld (pv 0) rfl) (pv 2)) (pa_cons (pe_op op_mulW (pe_fld (pv 0) rfl) (pv 3)) pa_nil)))))), ?_⟩
    refine ⟨_, rfl, u, r, rfl, hu, fun t ht => ?_⟩
    have hp' := Same.new (o := .tup [.int r.num, .int (r.den : Int)]) ht _ _ hp
    refine ⟨t, _, rfl, SqT.of upd_same, rfl, _, _, rfl, _, _, rfl, rfl, ?_⟩
    refine ⟨_, rfl, p, _, dx, _, _, rfl, hp', T.cl_Ratio, T.n_Ratio_top, rf_top _ _, _, rfl, _, _, rfl, rfl, mulw sq.1 sr.1 (by omega), ?_⟩
    refine ⟨_, rfl, p, _, dx, _, _, rfl, hp', T.cl_Ratio, T.n_Ratio_bottom, rf_bottom _ _, _, rfl, _, _, rfl, rfl, mulw sq.2 sr.2 (by omega), fun x dx' hx hd' _ => ?_⟩
    have h1 : (q.den : Int) ≠ 0 := by have := q.den_nz; omega
    have h2 : (r.den : Int) ≠ 0 := by have := r.den_nz; omega
    refine mk_ratio hx hd' (lt_pow (mul_lt sq.2 sr.2) (by omega)) (fun e => absurd e (Int.mul_ne_zero h1 h2)) (fun _ H' s i => ⟨rfl, ?_⟩)
    rw [mul_eq] at i
    exact kQ _ H' ((Same.new ht).trans s) i
theorem ok_m_Ratio_neg (T : Txt K mg A) : FnOk P w K mg base CX0 6 A.m_Ratio_neg A.fd_m_Ratio_neg P_m_Ratio_neg (spUn A.Ratio (- ·)) := by
  refine T.F_m_Ratio_neg.ok sc_m_Ratio_neg (fun vs H Q E h => ?_) (fun cdv Ar outer s H vs Q E hr h => ?_)
  · obtain ⟨v, q, a, rfl, _⟩ := h
    rfl
  · obtain ⟨v, q, a, rfl, ⟨p, dx, rfl, hp⟩, sq, ha, kQ⟩ := h
    refine ⟨_, (pss_one (ps_ret (pe_make T.mk_Ratio (ok_m_Ratio_init T) (hr.mono (by decide)) (by rfl) T.g_Ratio T.b_m_Ratio_init .nil passL (pa_cons (pe_un un_neg (pe_fld (pv 0) rfl)) (pa_cons (pe_fld (pv 0) rfl) pa_nil))))), ?_⟩
    refine ⟨_, rfl, p, _, dx, _, _, rfl, hp, T.cl_Ratio, T.n_Ratio_top, rf_top _ _, _, rfl, _, rfl, p, _, dx, _, _, rfl, hp, T.cl_Ratio, T.n_Ratio_bottom, rf_bottom _ _, fun x dx' hx hd' _ => ?_⟩
    have h1 : (q.den : Int) ≠ 0 := by have := q.den_nz; omega
    refine mk_ratio hx hd' (lt_pow (a := a) sq.2 (by omega)) (fun e => absurd e h1) (fun _ H' s i => ⟨rfl, ?_⟩)
    rw [neg_eq] at i
    exact kQ _ H' s i
theorem ok_m_Ratio_abs (T : Txt K mg A) : FnOk P w K mg base CX0 6 A.m_Ratio_abs A.fd_m_Ratio_abs P_m_Ratio_abs (spUn A.Ratio rabs) := by
  refine T.F_m_Ratio_abs.ok sc_m_Ratio_abs (fun vs H Q E h => ?_) (fun cdv Ar outer s H vs Q E hr h => ?_)
  · obtain ⟨v, q, a, rfl, _⟩ := h
    rfl
  · obtain ⟨v, q, a, rfl, ⟨p, dx, rfl, hp⟩, sq, ha, kQ⟩ := h
    refine ⟨_, (pss_one (ps_ret (pe_make T.mk_Ratio (ok_m_Ratio_init T) (hr.mono (by decide)) (by rfl) T.g_Ratio T.b_m_Ratio_init .nil passL (pa_cons (pe_callB call_abs (by rfl) T.z_abs (by decide +kernel) (pa_cons (pe_fld (pv 0) rfl) pa_nil)) (pa_cons (pe_fld (pv 0) rfl) pa_nil))))), ?_⟩
    refine ⟨_, rfl, p, _, dx, _, _, rfl, hp, T.cl_Ratio, T.n_Ratio_top, rf_top _ _, _, rfl, _, rfl, p, _, dx, _, _, rfl, hp, T.cl_Ratio, T.n_Ratio_bottom, rf_bottom _ _, fun x dx' hx hd' _ => ?_⟩
    have h1 : (q.den : Int) ≠ 0 := by have := q.den_nz; omega
    exact mk_ratio hx hd' (lt_pow (a := a) sq.2 (by omega)) (fun e => absurd e h1) (fun _ H' s i => ⟨rfl, kQ _ H' s i⟩)
theorem ok_m_Ratio_radd (T : Txt K mg A) : FnOk P w K mg base CX0 8 A.m_Ratio_radd A.fd_m_Ratio_radd P_m_Ratio_radd (spBin A.Ratio fun q r => q + r) := by
  refine T.F_m_Ratio_radd.ok sc_m_Ratio_radd (fun vs H Q E h => ?_) (fun cdv Ar outer s H vs Q E hr h => ?_)
  · obtain ⟨v, u, q, r, a, b, rfl, _⟩ := h
    rfl
  · obtain ⟨v, u, q, r, a, b, rfl, hv, hu, sq, sr, hab, kQ⟩ := h
    refine ⟨_, (pss_one (ps_ret (pe_op (op_own (E := E0) rfl (oo_add T) (ok_m_Ratio_add T) (hr.mono (by decide)) T.b_m_Ratio_add pass0) (pv 0) (pv 1)))), ?_⟩
    exact ⟨_, rfl, _, rfl, r_own hv hu sq sr hab kQ⟩
theorem ok_m_Ratio_rmul (T : Txt K mg A) : FnOk P w K mg base CX0 8 A.m_Ratio_rmul A.fd_m_Ratio_rmul P_m_Ratio_rmul (spBin A.Ratio fun q r => q * r) := by
  refine T.F_m_Ratio_rmul.ok sc_m_Ratio_rmul (fun vs H Q E h => ?_) (fun cdv Ar outer s H vs Q E hr h => ?_)
  · obtain ⟨v, u, q, r, a, b, rfl, _⟩ := h
    rfl
  · obtain ⟨v, u, q, r, a, b, rfl, hv, hu, sq, sr, hab, kQ⟩ := h
    refine ⟨_, (pss_one (ps_ret (pe_op (op_own (E := E0) rfl (oo_mul T) (ok_m_Ratio_mul T) (hr.mono (by decide)) T.b_m_Ratio_mul pass0) (pv 0) (pv 1)))), ?_⟩
    exact ⟨_, rfl, _, rfl, r_own hv hu sq sr hab kQ⟩
theorem ok_m_Ratio_rsub (T : Txt K mg A) : FnOk P w K mg base CX0 10 A.m_Ratio_rsub A.fd_m_Ratio_rsub P_m_Ratio_rsub (spBin A.Ratio fun q r => -q + r) := by
  refine T.F_m_Ratio_rsub.ok sc_m_Ratio_rsub (fun vs H Q E h => ?_) (fun cdv Ar outer s H vs Q E hr h => ?_)
  · obtain ⟨v, u, q, r, a, b, rfl, _⟩ := h
    rfl
  · obtain ⟨v, u, q, r, a, b, rfl, hv, hu, sq, sr, hab, kQ⟩ := h
    refine ⟨_, (pss_one (ps_ret (pe_op (op_own (E := E0) rfl (oo_add T) (ok_m_Ratio_add T) (hr.mono (by decide)) T.b_m_Ratio_add pass0) (pe_un (un_own (E := E0) T.m_Ratio___neg__.at_ T.m_Ratio___neg__.fn (ok_m_Ratio_neg T) (hr.mono (by decide)) T.b_m_Ratio_neg pass0) (pv 0)) (pv 1)))), ?_⟩
    refine ⟨_, rfl, r_un hv sq (by omega) fun v1 H1 s1 i1 => ?_⟩
    exact ⟨_, rfl, r_own i1 (hu.same s1) sq.neg sr hab fun v' H' s' i' => kQ v' H' (s1.trans s') i'⟩
end

/-! ### a list added up -/
def rsum (qs : List Rat) : Rat := qs.foldl (· + ·) 0
theorem rsum_more {qs : List Rat} {i : Nat} {q : Rat} (h : qs[i]? = some q) : rsum (qs.take (i + 1)) = rsum (qs.take i) + q := by
  unfold rsum
  rw [List.take_add_one, h, List.foldl_append]
  rfl
def spSum (C : Addr) : Sp := fun vs H Q _ => ∃ (l : Addr) (xs : List V) (qs : List Rat) (b : Nat), vs = [.ref l] ∧ H l = some (.lst xs) ∧ xs.length = qs.length ∧
  (∀ (i : Nat) x q, xs[i]? = some x → qs[i]? = some q → IsN C H x q ∧ Sz b q) ∧ 1 + (xs.length + 1) * (b + 1) ≤ 8990 ∧ ∀ v' H', Same H H' → IsR C H' v' (rsum qs) → Q v' H'
section
variable {P : Program} {w : World} {K : PySem.W.Frag} {mg : Str → Option Value} {base : Heap} {A : Ad}
theorem ok_m_Ratio_sum_of (T : Txt K mg A) : FnOk P w K mg base CX0 10 A.m_Ratio_sum_of A.fd_m_Ratio_sum_of P_m_Ratio_sum_of (spSum A.Ratio) := by
  refine T.F_m_Ratio_sum_of.ok sc_m_Ratio_sum_of (fun vs H Q E h => ?_) (fun cdv Ar outer s H vs Q E hr h => ?_)
  · obtain ⟨l, xs, qs, b, rfl, _⟩ := h
    rfl
  · obtain ⟨l, xs, qs, b, rfl, hl, hlen, hq, hb, k⟩ := h
    refine ⟨_, (pss_cons (ps_set (i := 1) sc_m_Ratio_sum_of.nd rfl (Or.inl rfl) (pe_make T.mk_Ratio (ok_m_Ratio_init T) (hr.mono (by decide)) (by rfl) T.g_Ratio T.b_m_Ratio_init_d1 T.dv_m_Ratio_init passL (pa_cons pe_int pa_nil)))
      (pss_cons (ps_g (ps_for PassesOwn.never rfl (pi_list (pv 0)) (pg_name (i := 2) sc_m_Ratio_sum_of.nd rfl (Or.inl rfl)) (pss_one (ps_set (i := 1) sc_m_Ratio_sum_of.nd rfl (Or.inl rfl) (pe_op (op_own (E := E0) rfl (oo_add T) (ok_m_Ratio_add T) (hr.mono (by decide)) T.b_m_Ratio_add pass0) (pv 1) (pv 2))))))
      (pss_one (ps_ret (pv 1))))), ?_⟩
    intro x dx hx hd _
    refine mk_ratio hx hd (lt_pow (a := 1) (by decide) (by decide)) (fun e => by cases e) (fun _ H1 s1 i1 => ⟨rfl, ?_⟩)
    have e0 : Rat.divInt 0 1 = (0 : Rat) := by decide +kernel
    rw [e0] at i1
    have hl1 := s1 _ _ hl
    refine ⟨⟨_, rfl, l, rfl, ⟨_, SqL.of hl1⟩, for_list (K := K) (a := l) (xs := xs) (fun i σ' H' => Wd (∃ (v : V) (o : Option V), σ' = [some (.ref l), some v, o] ∧ Same H H' ∧ IsR A.Ratio H' v (rsum (qs.take i)) ∧ Sz (1 + i * (b + 1)) (rsum (qs.take i))))
      ⟨_, none, rfl, s1, i1, ?_⟩ (fun i σ' H' _ ⟨_, _, _, s, _⟩ => SqL.of (s _ _ hl)) ?_ ?_⟩⟩
    · show Sz _ (0 : Rat)
      rw [Nat.zero_mul]
      exact ⟨by decide, by decide⟩
    · rintro i y σ' H' hi ⟨v, o, rfl, s, iv, sz⟩
      have hi1 : i < xs.length := (List.getElem?_eq_some_iff.mp hi).1
      have hi2 : i < qs.length := by omega
      have hqi : qs[i]? = some qs[i] := List.getElem?_eq_getElem hi2
      obtain ⟨hN, hS⟩ := hq i _ _ hi hqi
      have hm : 1 + i * (b + 1) + b ≤ 8990 := by
        have : i * (b + 1) ≤ xs.length * (b + 1) := Nat.mul_le_mul_right _ (by omega)
        have h2 : (xs.length + 1) * (b + 1) = xs.length * (b + 1) + (b + 1) := by rw [Nat.add_mul, Nat.one_mul]
        omega
      refine ⟨_, rfl, _, rfl, r_own iv (hN.same s) sz hS hm fun v' H2 s2 i2 => ?_⟩
      refine ⟨v', _, rfl, s.trans s2, ?_, ?_⟩
      · rw [rsum_more hqi]
        exact i2
      · rw [rsum_more hqi]
        have e : 1 + (i + 1) * (b + 1) = 1 + i * (b + 1) + b + 1 := by rw [Nat.add_mul, Nat.one_mul]; omega
        rw [e]
        exact sz.add hS
    · rintro σ' H' ⟨v, o, rfl, s, iv, sz⟩
      rw [hlen, List.take_length] at iv
      exact ⟨_, rfl, k v H' s iv⟩
end

/-! ### the law -/
def spPick : Sp := fun vs H Q _ => ∃ (g l q : Addr) (xs : List V), vs = [.ref g, .ref q] ∧ Bag H g l ∧ H q = some (.lst xs) ∧ q ≠ g ∧ 0 < xs.length ∧ xs.length ≤ 1000 ∧ ∀ (x : V) (H' : Hp), x ∈ xs → Bag H' g l → Kp g H H' → Q x H'
def spIs (C : Addr) : Sp := fun vs H Q _ => ∃ (v : V) (t b : Int) (q : Rat), vs = [v, .int t, .int b] ∧ IsR C H v q ∧ b ≠ 0 ∧ b.natAbs < 2 ^ 9000 ∧ Rat.divInt t b = q ∧ ∀ H', Same H H' → Q (.bl true) H'
def spSums (C : Addr) : Sp := fun vs H Q _ => ∃ (pa pb : Addr) (v u : V) (a0 a1 b0 b1 : Int), vs = [.ref pa, .ref pb, v, u] ∧ H pa = some (.tup [.int a0, .int a1]) ∧ H pb = some (.tup [.int b0, .int b1]) ∧ a1 ≠ 0 ∧ b1 ≠ 0 ∧
  (a0.natAbs < 2 ^ 210 ∧ a1.natAbs < 2 ^ 210 ∧ b0.natAbs < 2 ^ 210 ∧ b1.natAbs < 2 ^ 210) ∧ IsR C H v (Rat.divInt a0 a1) ∧ IsR C H u (Rat.divInt b0 b1) ∧ ∀ H', Same H H' → Q (.bl true) H'
def spWhole (C : Addr) : Sp := fun vs H Q _ => ∃ (pa : Addr) (v : V) (a0 a1 n : Int), vs = [.ref pa, v, .int n] ∧ H pa = some (.tup [.int a0, .int a1]) ∧ a1 ≠ 0 ∧
  (a0.natAbs < 2 ^ 210 ∧ a1.natAbs < 2 ^ 210 ∧ n.natAbs < 2 ^ 210) ∧ IsR C H v (Rat.divInt a0 a1) ∧ ∀ H', Same H H' → Q (.bl true) H'
theorem abs_eq {a b : Int} (hb : b ≠ 0) : Rat.divInt (if a < 0 then -a else a) (if b < 0 then -b else b) = rabs (Rat.divInt a b) := by
  unfold rabs
  have h0 : ((Rat.divInt a b).den : Int) ≠ 0 := by have := (Rat.divInt a b).den_nz; omega
  have h1 : (if b < 0 then -b else b) ≠ 0 := by split <;> omega
  rw [Rat.divInt_eq_divInt_iff h1 h0]
  have e : a * ((Rat.divInt a b).den : Int) = (Rat.divInt a b).num * b := by
    rw [← Rat.divInt_eq_divInt_iff hb h0, Rat.num_divInt_den]
  have hd : (0 : Int) < ((Rat.divInt a b).den : Int) := by have := (Rat.divInt a b).den_pos; omega
  generalize ((Rat.divInt a b).den : Int) = d at *
  generalize (Rat.divInt a b).num = n at *
  have e' : a.natAbs * d.natAbs = n.natAbs * b.natAbs := by rw [← Int.natAbs_mul, ← Int.natAbs_mul, e]
  have ea : (if a < 0 then -a else a) = (a.natAbs : Int) := iabs_eq a
  have eb : (if b < 0 then -b else b) = (b.natAbs : Int) := iabs_eq b
  have en : (if n < 0 then -n else n) = (n.natAbs : Int) := iabs_eq n
  rw [ea, eb, en, show d = (d.natAbs : Int) by omega]
  exact_mod_cast e'
structure PairOk (C : Addr) (H : Hp) (x : V) : Prop where
  ex : ∃ (t : Addr) (item : V) (pv : Addr) (n d : Int), x = .ref t ∧ H t = some (.tup [item, .ref pv]) ∧ H pv = some (.tup [.int n, .int d]) ∧ d ≠ 0 ∧ (n.natAbs < 2 ^ 210 ∧ d.natAbs < 2 ^ 210) ∧ IsN C H item (Rat.divInt n d)
theorem IsN.kp {C g l : Addr} {H H' : Hp} {v : V} {q : Rat} (h : IsN C H v q) (b : Bag H g l) (k : Kp g H H') : IsN C H' v q := by
  obtain ⟨xs, hg⟩ := b.lst
  exact h.elim (fun z => .inl (z.kp hg k)) .inr
theorem PairOk.kp {C g l : Addr} {H H' : Hp} {x : V} (h : PairOk C H x) (b : Bag H g l) (k : Kp g H H') : PairOk C H' x := by
  obtain ⟨xs, hg⟩ := b.lst
  obtain ⟨t, item, pv, n, d, e, ht, hp, dn, z, hI⟩ := h
  exact ⟨t, item, pv, n, d, e, k _ _ ht (ne_of ht hg (by intro z; cases z)), k _ _ hp (ne_of hp hg (by intro z; cases z)), dn, z, hI.kp b k⟩
def spList (C : Addr) : Sp := fun vs H Q _ => ∃ (g l q : Addr) (xs : List V), vs = [.ref g, .ref q] ∧ Bag H g l ∧ H q = some (.lst xs) ∧ q ≠ g ∧ 0 < xs.length ∧ xs.length ≤ 1000 ∧ (∀ x ∈ xs, PairOk C H x) ∧ ∀ H', Q (.bl true) H'
/-- == of things that are the same object, or flat and equal -/
def DId : Eqv := fun x y H => (∃ a, x = .ref a ∧ y = .ref a) ∨ DFlat x y H
theorem mon_id : Mon DId := Mon.or (fun _ _ _ _ _ d => d) mon_flat
theorem eqG_id {X : Cx} : EqG X 0 DId := EqG.or (D := fun x y _ => ∃ a, x = .ref a ∧ y = .ref a) (fun A pins s σ H x y u v sb I rx ry d => by
  obtain ⟨a, rfl, rfl⟩ := d
  obtain rfl : u = Value.ref a := rx
  obtain rfl : v = Value.ref a := ry
  unfold eqBool
  refine wpAny_holding ?_
  rw [if_pos (by simp)]
  refine wpAny_bind (wpAny_rule (wpAny_pure ?_))
  exact ⟨rfl, H, I, Ext.rfl'⟩) eqG_flat
section
variable {P : Program} {w : World} {K : PySem.W.Frag} {mg : Str → Option Value} {base : Heap} {A : Ad}
theorem ok_l_pick (T : Txt K mg A) : FnOk P w K mg base CX0 2 A.l_pick A.fd_l_pick P_l_pick spPick := by
  refine T.F_l_pick.ok sc_l_pick (fun vs H Q E h => ?_) (fun cdv Ar outer s H vs Q E hr h => ?_)
  · obtain ⟨g, l, q, xs, rfl, _⟩ := h
    rfl
  · obtain ⟨g, l, q, xs, rfl, hB, hq, nqg, h0, h1, k⟩ := h
    refine ⟨_, (pss_one (ps_ret (pe_ix ix_list (pv 1) (pe_call (ok_l_draw T) (hr.mono (by decide)) (by rfl) T.g__law_draw T.F_l_draw.kp T.b_l_draw .nil pass0 (pa_cons (pv 0) (pa_cons (pe_callB call_len_seq (by rfl) T.z_len (by decide +kernel) (pa_cons (pv 1) pa_nil)) pa_nil))) (fun _ _ => rfl)))), ?_⟩
    have z9 : ((xs.length : Nat) : Int).natAbs < 2 ^ 9000 := lt_pow (a := 10) (by omega) (by decide)
    refine ⟨_, rfl, _, rfl, _, rfl, q, xs, rfl, .inl (SqL.of hq), g, l, _, rfl, hB, by omega, z9, fun n H2 n0 n1 B2 K2 => ?_⟩
    obtain ⟨j, rfl⟩ := Int.eq_ofNat_of_zero_le n0
    have hj : j < xs.length := by omega
    have hx : xs[j]? = some xs[j] := List.getElem?_eq_getElem hj
    exact ⟨q, xs, _, _, rfl, rfl, SqL.of (K2 _ _ hq nqg), atI_nat hx, k _ _ (List.mem_of_getElem? hx) B2 K2⟩
theorem ok_l_is (T : Txt K mg A) : FnOk P w K mg base CX0 3 A.l_is A.fd_l_is P_l_is (spIs A.Ratio) := by
  refine T.F_l_is.ok sc_l_is (fun vs H Q E h => ?_) (fun cdv Ar outer s H vs Q E hr h => ?_)
  · obtain ⟨v, t, b, q, rfl, _⟩ := h
    rfl
  · obtain ⟨v, t, b, q, rfl, ⟨p, dx, rfl, hp⟩, b0, b9, rfl, k⟩ := h
    refine ⟨_, (pss_cons (ps_if (PW.pt (pw_or (pt_not (pt_val (pe_callB call_isi (by rfl) T.z_isinstance (by decide +kernel) (pa_cons (pv 0) (pa_cons (pe_glob (v := .ref A.Ratio) (by rfl) T.g_Ratio rfl) pa_nil))))) (pw_or (pt_not (pt_val (pe_call (ok_l_number T) (hr.mono (by decide)) (by rfl) T.g__law_number T.F_l_number.kp T.b_l_number .nil pass0 (pa_cons (pe_fld (pv 0) rfl) pa_nil)))) (pw_or1 (pt_not (pt_val (pe_call (ok_l_number T) (hr.mono (by decide)) (by rfl) T.g__law_number T.F_l_number.kp T.b_l_number .nil pass0 (pa_cons (pe_fld (pv 0) rfl) pa_nil)))))))) (pss_one (ps_ret pe_bl)) pss_nil)
      (pss_one (ps_ret (pe_cmpR (op_eqD hr.units) (pe_tup (pa_cons (pe_fld (pv 0) rfl) (pa_cons (pe_fld (pv 0) rfl) pa_nil))) (pe_call (ok_l_lowest T) (hr.mono (by decide)) (by rfl) T.g__law_lowest T.F_l_lowest.kp T.b_l_lowest .nil pass0 (pa_cons (pv 1) (pa_cons (pv 2) pa_nil))) (nomark _))))), ?_⟩
    refine ⟨_, rfl, _, _, _, _, _, rfl, .own _, ty_ratio T hp, kit_self, _, rfl, iteF ?_⟩
    refine ⟨_, rfl, p, _, dx, _, _, rfl, hp, T.cl_Ratio, T.n_Ratio_top, rf_top _ _, _, rfl, _, rfl, iteF ?_⟩
    refine ⟨_, rfl, p, _, dx, _, _, rfl, hp, T.cl_Ratio, T.n_Ratio_bottom, rf_bottom _ _, _, rfl, _, rfl, iteF ?_⟩
    refine ⟨_, rfl, p, _, dx, _, _, rfl, hp, T.cl_Ratio, T.n_Ratio_top, rf_top _ _, _, rfl, p, _, dx, _, _, rfl, hp, T.cl_Ratio, T.n_Ratio_bottom, rf_bottom _ _, by walk_at "fact", fun p3 hp3 => ?_⟩
    refine ⟨_, rfl, _, rfl, t, b, rfl, b0, b9, fun p4 hp4 => ?_⟩
    refine eqD_pair (q := Rat.divInt t b) (r := Rat.divInt t b) (Same.new hp4 _ _ upd_same) upd_same ?_
    rw [decide_eq_true rfl]
    exact k _ ((Same.new hp3).trans (Same.new hp4))
theorem ok_l_sums_right (T : Txt K mg A) : FnOk P w K mg base CX0 12 A.l_sums_right A.fd_l_sums_right P_l_sums_right (spSums A.Ratio) := by
  refine T.F_l_sums_right.ok sc_l_sums_right (fun vs H Q E h => ?_) (fun cdv Ar outer s H vs Q E hr h => ?_)
  · obtain ⟨pa, pb, v, u, a0, a1, b0, b1, rfl, _⟩ := h
    rfl
  · obtain ⟨pa, pb, v, u, a0, a1, b0, b1, rfl, ha, hb, n1, n2, ⟨z1, z2, z3, z4⟩, iv, iu, k⟩ := h
    refine ⟨_, (pss_cons (ps_asg (pv 0) (pg_tup rfl (pgs_cons (pg_name (i := 4) sc_l_sums_right.nd rfl (Or.inl rfl)) (pgs_cons (pg_name (i := 5) sc_l_sums_right.nd rfl (Or.inl rfl)) pgs_nil))))
      (pss_cons (ps_asg (pv 1) (pg_tup rfl (pgs_cons (pg_name (i := 6) sc_l_sums_right.nd rfl (Or.inl rfl)) (pgs_cons (pg_name (i := 7) sc_l_sums_right.nd rfl (Or.inl rfl)) pgs_nil))))
      (pss_cons (ps_if (pt_not (pt_val (pe_call (ok_l_is T) (hr.mono (by decide)) (by rfl) T.g__law_is T.F_l_is.kp T.b_l_is .nil pass0 (pa_cons (pe_op (op_own (E := E0) rfl (oo_add T) (ok_m_Ratio_add T) (hr.mono (by decide)) T.b_m_Ratio_add pass0) (pv 2) (pv 3)) (pa_cons (pe_op op_add (pe_op op_mulW (pv 4) (pv 7)) (pe_op op_mulW (pv 6) (pv 5))) (pa_cons (pe_op op_mulW (pv 5) (pv 7)) pa_nil)))))) (pss_one (ps_ret pe_bl)) pss_nil)
      (pss_cons (ps_if (pt_not (pt_val (pe_call (ok_l_is T) (hr.mono (by decide)) (by rfl) T.g__law_is T.F_l_is.kp T.b_l_is .nil pass0 (pa_cons (pe_op (op_own (E := E0) rfl (oo_sub T) (ok_m_Ratio_sub T) (hr.mono (by decide)) T.b_m_Ratio_sub pass0) (pv 2) (pv 3)) (pa_cons (pe_op op_sub (pe_op op_mulW (pv 4) (pv 7)) (pe_op op_mulW (pv 6) (pv 5))) (pa_cons (pe_op op_mulW (pv 5) (pv 7)) pa_nil)))))) (pss_one (ps_ret pe_bl)) pss_nil)
      (pss_cons (ps_if (pt_not (pt_val (pe_call (ok_l_is T) (hr.mono (by decide)) (by rfl) T.g__law_is T.F_l_is.kp T.b_l_is .nil pass0 (pa_cons (pe_op (op_own (E := E0) rfl (oo_mul T) (ok_m_Ratio_mul T) (hr.mono (by decide)) T.b_m_Ratio_mul pass0) (pv 2) (pv 3)) (pa_cons (pe_op op_mulW (pv 4) (pv 6)) (pa_cons (pe_op op_mulW (pv 5) (pv 7)) pa_nil)))))) (pss_one (ps_ret pe_bl)) pss_nil)
      (pss_g (Evl.pss_cut (ps_if (PW.pt (pw_and (pt_cmpR op_ne (pv 6) pe_int (nomark _)) (pw_and1 (pt_not (pt_val (pe_call (ok_l_is T) (hr.mono (by decide)) (by rfl) T.g__law_is T.F_l_is.kp T.b_l_is .nil pass0 (pa_cons (pe_meth (pv 2) T.cl_Ratio T.m_Ratio_over (ok_m_Ratio_over T) (hr.mono (by decide)) T.b_m_Ratio_over .nil passL (pa_cons (pv 3) pa_nil)) (pa_cons (pe_op op_mulW (pv 4) (pv 7)) (pa_cons (pe_op op_mulW (pv 5) (pv 6)) pa_nil))))))))) (pss_one (ps_ret pe_bl)) pss_nil)
      (pss_one (ps_ret (pe_and (pe_call (ok_l_is T) (hr.mono (by decide)) (by rfl) T.g__law_is T.F_l_is.kp T.b_l_is .nil pass0 (pa_cons (pe_un (un_own (E := E0) T.m_Ratio___neg__.at_ T.m_Ratio___neg__.fn (ok_m_Ratio_neg T) (hr.mono (by decide)) T.b_m_Ratio_neg pass0) (pv 2)) (pa_cons (pe_un un_neg (pv 4)) (pa_cons (pv 5) pa_nil)))) (pe_one (pe_call (ok_l_is T) (hr.mono (by decide)) (by rfl) T.g__law_is T.F_l_is.kp T.b_l_is .nil pass0 (pa_cons (pe_callB (call_absO (E := E0) T.m_Ratio___abs__.at_ T.m_Ratio___abs__.fn (ok_m_Ratio_abs T) (hr.mono (by decide)) T.b_m_Ratio_abs pass0) (by rfl) T.z_abs (by decide +kernel) (pa_cons (pv 2) pa_nil)) (pa_cons (pe_callB call_abs (by rfl) T.z_abs (by decide +kernel) (pa_cons (pv 4) pa_nil)) (pa_cons (pe_callB call_abs (by rfl) T.z_abs (by decide +kernel) (pa_cons (pv 5) pa_nil)) pa_nil))))))))))))))), ?_⟩
    have sA : Sz 210 (Rat.divInt a0 a1) := Sz.div z1 z2 n1
    have sB : Sz 210 (Rat.divInt b0 b1) := Sz.div z3 z4 n2
    have m1 := mulw z1 z4 (by decide)
    have m2 := mulw z3 z2 (by decide)
    have m3 := mulw z2 z4 (by decide)
    have m4 := mulw z1 z3 (by decide)
    have m5 := mulw z2 z3 (by decide)
    have p3 : (a1 * b1).natAbs < 2 ^ 9000 := lt_pow (mul_lt z2 z4) (by decide)
    have p5 : (a1 * b0).natAbs < 2 ^ 9000 := lt_pow (mul_lt z2 z3) (by decide)
    have pa9 : a1.natAbs < 2 ^ 9000 := lt_pow z2 (by decide)
    have pab9 : (if a1 < 0 then -a1 else a1).natAbs < 2 ^ 9000 := by
      rw [show (if a1 < 0 then -a1 else a1).natAbs = a1.natAbs by split <;> omega]
      exact pa9
    have q3 : a1 * b1 ≠ 0 := Int.mul_ne_zero n1 n2
    have e1 : Rat.divInt (a0 * b1 + b0 * a1) (a1 * b1) = Rat.divInt a0 a1 + Rat.divInt b0 b1 := (Rat.divInt_add_divInt _ _ n1 n2).symm
    have e2 : Rat.divInt (a0 * b1 - b0 * a1) (a1 * b1) = Rat.divInt a0 a1 - Rat.divInt b0 b1 := (Rat.divInt_sub_divInt _ _ n1 n2).symm
    have e3 : Rat.divInt (a0 * b0) (a1 * b1) = Rat.divInt a0 a1 * Rat.divInt b0 b1 := Rat.divInt_mul_divInt .. |>.symm
    have e4 : Rat.divInt (-a0) a1 = -Rat.divInt a0 a1 := (Rat.neg_divInt ..).symm
    have e5 := abs_eq (a := a0) n1
    have q6 : (if a1 < 0 then -a1 else a1) ≠ 0 := by split <;> omega
    walk_at "go"
    refine r_own iv (.inl iu) sA sB (by decide) fun v1 H1 s1 i1 => ?_
    walk_at "go"
    intro H2 t2
    have u2 := s1.trans t2
    walk_at "go"
    refine r_own (iv.same u2) (.inl (iu.same u2)) sA sB (by decide) fun v1 H3 s3 i3 => ?_
    walk_at "go"
    intro H4 t4
    have u4 := u2.trans (s3.trans t4)
    walk_at "go"
    refine r_own (iv.same u4) (.inl (iu.same u4)) sA sB (by decide) fun v1 H5 s5 i5 => ?_
    walk_at "go"
    intro H6 t6
    have u6 := u4.trans (s5.trans t6)
    walk_at "go"
    refine ⟨⟨fun σ' H' => Wd (σ' = [some (.ref pa), some (.ref pb), some v, some u, some (.int a0), some (.int a1), some (.int b0), some (.int b1)] ∧ Same H H'), ?_, ?_⟩⟩
    · walk_at "go"
      refine if_intN (fun e => ?_) (fun e => ?_)
      · have q5 : a1 * b0 ≠ 0 := Int.mul_ne_zero n1 e
        have e6 : Rat.divInt (a0 * b1) (a1 * b0) = Rat.divInt a0 a1 / Rat.divInt b0 b1 := by
          rw [Rat.div_def, Rat.inv_divInt, Rat.divInt_mul_divInt]
        have nz : Rat.divInt b0 b1 ≠ 0 := fun z => e (by
          have z2 := (Rat.divInt_eq_divInt_iff n2 n2).mp (z.trans (Rat.zero_divInt b1).symm)
          rw [Int.zero_mul] at z2
          exact (Int.mul_eq_zero.mp z2).resolve_right n2)
        obtain ⟨p, dx, rfl, hp⟩ := id (iv.same u6)
        refine ⟨_, rfl, p, dx, _, rfl, hp, rf_no _ _ (by decide +kernel) (by decide +kernel), _, rfl, _, _, _, _, 210, 210, rfl, iv.same u6, .inl (iu.same u6), sA, sB, by decide, fun z => absurd z nz, fun _ v7 H7 s7 i7 => ?_⟩
        walk_at "go"
        intro H8 t8
        walk_at "go"
        exact ⟨rfl, u6.trans (s7.trans t8)⟩
      · walk_at "go"
        exact ⟨rfl, u6⟩
    rintro σ' H' ⟨rfl, u7⟩
    walk_at "go"
    refine r_un (iv.same u7) sA (by decide) fun v8 H8 s8 i8 => ?_
    walk_at "go"
    intro H9 t9
    have u9 := u7.trans (s8.trans t9)
    walk_at "go"
    refine r_abs (iv.same u9) sA (by decide) fun v10 H10 s10 i10 => ?_
    walk_at "go"
    intro H11 t11
    exact k _ (u9.trans (s10.trans t11))
theorem ok_l_whole_right (T : Txt K mg A) : FnOk P w K mg base CX0 12 A.l_whole_right A.fd_l_whole_right P_l_whole_right (spWhole A.Ratio) := by
  refine T.F_l_whole_right.ok sc_l_whole_right (fun vs H Q E h => ?_) (fun cdv Ar outer s H vs Q E hr h => ?_)
  · obtain ⟨pa, v, a0, a1, n, rfl, _⟩ := h
    rfl
  · obtain ⟨pa, v, a0, a1, n, rfl, ha, n1, ⟨z1, z2, z3⟩, iv, k⟩ := h
    refine ⟨_, (pss_cons (ps_asg (pv 0) (pg_tup rfl (pgs_cons (pg_name (i := 3) sc_l_whole_right.nd rfl (Or.inl rfl)) (pgs_cons (pg_name (i := 4) sc_l_whole_right.nd rfl (Or.inl rfl)) pgs_nil))))
      (pss_cons (ps_if (PW.pt (pw_or (pt_not (pt_val (pe_call (ok_l_is T) (hr.mono (by decide)) (by rfl) T.g__law_is T.F_l_is.kp T.b_l_is .nil pass0 (pa_cons (pe_op (op_own (E := E0) rfl (oo_add T) (ok_m_Ratio_add T) (hr.mono (by decide)) T.b_m_Ratio_add pass0) (pv 1) (pv 2)) (pa_cons (pe_op op_add (pv 3) (pe_op op_mulW (pv 2) (pv 4))) (pa_cons (pv 4) pa_nil)))))) (pw_or1 (pt_not (pt_val (pe_call (ok_l_is T) (hr.mono (by decide)) (by rfl) T.g__law_is T.F_l_is.kp T.b_l_is .nil pass0 (pa_cons (pe_op (op_rown (E := E0) rfl (oo_add T) PySem.F.fills_int_add PySem.F.slot_int_add PySem.F.entry_int_add PySem.F.args_int_add_2 rfl (ok_m_Ratio_radd T) (hr.mono (by decide)) T.b_m_Ratio_radd pass0) (pv 2) (pv 1)) (pa_cons (pe_op op_add (pv 3) (pe_op op_mulW (pv 2) (pv 4))) (pa_cons (pv 4) pa_nil))))))))) (pss_one (ps_ret pe_bl)) pss_nil)
      (pss_cons (ps_if (PW.pt (pw_or (pt_not (pt_val (pe_call (ok_l_is T) (hr.mono (by decide)) (by rfl) T.g__law_is T.F_l_is.kp T.b_l_is .nil pass0 (pa_cons (pe_op (op_own (E := E0) rfl (oo_sub T) (ok_m_Ratio_sub T) (hr.mono (by decide)) T.b_m_Ratio_sub pass0) (pv 1) (pv 2)) (pa_cons (pe_op op_sub (pv 3) (pe_op op_mulW (pv 2) (pv 4))) (pa_cons (pv 4) pa_nil)))))) (pw_or1 (pt_not (pt_val (pe_call (ok_l_is T) (hr.mono (by decide)) (by rfl) T.g__law_is T.F_l_is.kp T.b_l_is .nil pass0 (pa_cons (pe_op (op_rown (E := E0) rfl (oo_sub T) PySem.F.fills_int_sub PySem.F.slot_int_sub PySem.F.entry_int_sub PySem.F.args_int_sub_2 rfl (ok_m_Ratio_rsub T) (hr.mono (by decide)) T.b_m_Ratio_rsub pass0) (pv 2) (pv 1)) (pa_cons (pe_op op_sub (pe_op op_mulW (pv 2) (pv 4)) (pv 3)) (pa_cons (pv 4) pa_nil))))))))) (pss_one (ps_ret pe_bl)) pss_nil)
      (pss_cons (ps_if (PW.pt (pw_or (pt_not (pt_val (pe_call (ok_l_is T) (hr.mono (by decide)) (by rfl) T.g__law_is T.F_l_is.kp T.b_l_is .nil pass0 (pa_cons (pe_op (op_own (E := E0) rfl (oo_mul T) (ok_m_Ratio_mul T) (hr.mono (by decide)) T.b_m_Ratio_mul pass0) (pv 1) (pv 2)) (pa_cons (pe_op op_mulW (pv 3) (pv 2)) (pa_cons (pv 4) pa_nil)))))) (pw_or1 (pt_not (pt_val (pe_call (ok_l_is T) (hr.mono (by decide)) (by rfl) T.g__law_is T.F_l_is.kp T.b_l_is .nil pass0 (pa_cons (pe_op (op_rown (E := E0) rfl (oo_mul T) PySem.F.fills_int_mul PySem.F.slot_int_mul PySem.F.entry_int_mul PySem.F.args_int_mul_2 rfl (ok_m_Ratio_rmul T) (hr.mono (by decide)) T.b_m_Ratio_rmul pass0) (pv 2) (pv 1)) (pa_cons (pe_op op_mulW (pv 3) (pv 2)) (pa_cons (pv 4) pa_nil))))))))) (pss_one (ps_ret pe_bl)) pss_nil)
      (pss_g (Evl.pss_cut (ps_if (PW.pt (pw_and (pt_cmpR op_ne (pv 2) pe_int (nomark _)) (pw_and1 (pt_not (pt_val (pe_call (ok_l_is T) (hr.mono (by decide)) (by rfl) T.g__law_is T.F_l_is.kp T.b_l_is .nil pass0 (pa_cons (pe_meth (pv 1) T.cl_Ratio T.m_Ratio_over (ok_m_Ratio_over T) (hr.mono (by decide)) T.b_m_Ratio_over .nil passL (pa_cons (pv 2) pa_nil)) (pa_cons (pv 3) (pa_cons (pe_op op_mulW (pv 4) (pv 2)) pa_nil))))))))) (pss_one (ps_ret pe_bl)) pss_nil)
      (pss_one (ps_ret (pe_or (pe_cmpR op_eq (pv 3) pe_int (nomark _)) (pe_one (pe_call (ok_l_is T) (hr.mono (by decide)) (by rfl) T.g__law_is T.F_l_is.kp T.b_l_is .nil pass0 (pa_cons (pe_meth (pe_make T.mk_Ratio (ok_m_Ratio_init T) (hr.mono (by decide)) (by rfl) T.g_Ratio T.b_m_Ratio_init_d1 T.dv_m_Ratio_init passL (pa_cons (pv 2) pa_nil)) T.cl_Ratio T.m_Ratio_over (ok_m_Ratio_over T) (hr.mono (by decide)) T.b_m_Ratio_over .nil passL (pa_cons (pv 1) pa_nil)) (pa_cons (pe_op op_mulW (pv 2) (pv 4)) (pa_cons (pv 3) pa_nil)))))))))))))), ?_⟩
    have sA : Sz 210 (Rat.divInt a0 a1) := Sz.div z1 z2 n1
    have sN : Sz 210 (n : Rat) := .int z3 (by decide)
    have en : Rat.divInt n 1 = (n : Rat) := Rat.num_divInt_den (n : Rat)
    have m1 := mulw z3 z2 (by decide)
    have m2 := mulw z1 z3 (by decide)
    have m3 := mulw z2 z3 (by decide)
    have p1 : a1.natAbs < 2 ^ 9000 := lt_pow z2 (by decide)
    have p2 : (a1 * n).natAbs < 2 ^ 9000 := lt_pow (mul_lt z2 z3) (by decide)
    have p3 : a0.natAbs < 2 ^ 9000 := lt_pow z1 (by decide)
    have e1 : Rat.divInt (a0 + n * a1) a1 = Rat.divInt a0 a1 + (n : Rat) := by
      rw [← en, Rat.divInt_add_divInt _ _ n1 (by decide), Int.mul_one, Int.mul_one]
    have e2 : Rat.divInt (a0 - n * a1) a1 = Rat.divInt a0 a1 - (n : Rat) := by
      rw [← en, Rat.divInt_sub_divInt _ _ n1 (by decide), Int.mul_one, Int.mul_one]
    have e3 : Rat.divInt (n * a1 - a0) a1 = -Rat.divInt a0 a1 + (n : Rat) := by
      rw [Rat.neg_divInt, ← en, Rat.divInt_add_divInt _ _ n1 (by decide), Int.mul_one, Int.mul_one]
      congr 1
      omega
    have e4 : Rat.divInt (a0 * n) a1 = Rat.divInt a0 a1 * (n : Rat) := by
      rw [← en, Rat.divInt_mul_divInt, Int.mul_one]
    walk_at "go"
    refine r_own iv (.inr ⟨n, rfl, rfl⟩) sA sN (by decide) fun v1 H1 s1 i1 => ?_
    walk_at "go"
    intro H2 t2
    have u2 := s1.trans t2
    walk_at "go"
    refine r_rown (iv.same u2) sA sN (by decide) fun v3 H3 s3 i3 => ?_
    walk_at "go"
    intro H4 t4
    have u4 := u2.trans (s3.trans t4)
    walk_at "go"
    refine r_own (iv.same u4) (.inr ⟨n, rfl, rfl⟩) sA sN (by decide) fun v5 H5 s5 i5 => ?_
    walk_at "go"
    intro H6 t6
    have u6 := u4.trans (s5.trans t6)
    walk_at "go"
    refine r_rown (iv.same u6) sA sN (by decide) fun v7 H7 s7 i7 => ?_
    walk_at "go"
    intro H8 t8
    have u8 := u6.trans (s7.trans t8)
    walk_at "go"
    refine r_own (iv.same u8) (.inr ⟨n, rfl, rfl⟩) sA sN (by decide) fun v9 H9 s9 i9 => ?_
    walk_at "go"
    intro H10 t10
    have u10 := u8.trans (s9.trans t10)
    walk_at "go"
    refine r_rown (iv.same u10) sA sN (by decide) fun v11 H11 s11 i11 => ?_
    walk_at "go"
    intro H12 t12
    have u12 := u10.trans (s11.trans t12)
    walk_at "go"
    refine ⟨⟨fun σ' H' => Wd (σ' = [some (.ref pa), some v, some (.int n), some (.int a0), some (.int a1)] ∧ Same H H'), ?_, ?_⟩⟩
    · walk_at "go"
      refine if_intN (fun e => ?_) (fun e => ?_)
      · have q5 : a1 * n ≠ 0 := Int.mul_ne_zero n1 e
        have e6 : Rat.divInt a0 (a1 * n) = Rat.divInt a0 a1 / (n : Rat) := by
          rw [← en, Rat.div_def, Rat.inv_divInt, Rat.divInt_mul_divInt, Int.mul_one]
        obtain ⟨p, dx, rfl, hp⟩ := id (iv.same u12)
        refine ⟨_, rfl, p, dx, _, rfl, hp, rf_no _ _ (by decide +kernel) (by decide +kernel), _, rfl, _, _, _, (n : Rat), 210, 210, rfl, iv.same u12, .inr ⟨n, rfl, rfl⟩, sA, sN, by decide, fun z => absurd (Rat.intCast_eq_zero_iff.mp z) e, fun _ v7 H7 s7 i7 => ?_⟩
        walk_at "go"
        intro H8 t8
        walk_at "go"
        exact ⟨rfl, u12.trans (s7.trans t8)⟩
      · walk_at "go"
        exact ⟨rfl, u12⟩
    rintro σ' H' ⟨rfl, u13⟩
    walk_at "go"
    refine if_int (fun e => ?_) (fun e => ?_)
    · exact k _ u13
    · have e7 : Rat.divInt (n * a1) a0 = (n : Rat) / Rat.divInt a0 a1 := by
        rw [← en, Rat.div_def, Rat.inv_divInt, Rat.divInt_mul_divInt, Int.one_mul]
      have nz : Rat.divInt a0 a1 ≠ 0 := fun z => e (by
          have z2 := (Rat.divInt_eq_divInt_iff n1 n1).mp (z.trans (Rat.zero_divInt a1).symm)
          rw [Int.zero_mul] at z2
          exact (Int.mul_eq_zero.mp z2).resolve_right n1)
      walk_at "go"
      intro x dx hx hd _
      refine mk_ratio hx hd (lt_pow (a := 1) (by decide) (by decide)) (fun e => by cases e) (fun _ H14 s14 i14 => ⟨rfl, ?_⟩)
      rw [en] at i14
      obtain ⟨p, dx2, ex, hp⟩ := id i14
      cases ex
      refine ⟨x, dx2, _, rfl, hp, rf_no _ _ (by decide +kernel) (by decide +kernel), _, rfl, _, _, (n : Rat), _, 210, 210, rfl, i14, .inl ((iv.same u13).same s14), sN, sA, by decide, fun z => absurd z nz, fun _ v7 H7 s7 i7 => ?_⟩
      walk_at "go"
      intro H15 t15
      exact k _ (u13.trans (s14.trans (s7.trans t15)))
theorem ok_l_list_right (T : Txt K mg A) : FnOk P w K mg base CX0 11 A.l_list_right A.fd_l_list_right P_l_list_right (spList A.Ratio) := by
  refine T.F_l_list_right.ok sc_l_list_right (fun vs H Q E h => ?_) (fun cdv Ar outer s H vs Q E hr h => ?_)
  · obtain ⟨g, l, q, xs, rfl, _⟩ := h
    rfl
  · obtain ⟨g, l, q, xs, rfl, hB, hq, nqg, h0, h1, hall, k⟩ := h
    refine ⟨_, (pss_cons (ps_set (i := 2) sc_l_list_right.nd rfl (Or.inl rfl) (pe_lst pa_nil))
      (pss_cons (ps_set (i := 3) sc_l_list_right.nd rfl (Or.inl rfl) pe_int)
      (pss_cons (ps_set (i := 4) sc_l_list_right.nd rfl (Or.inl rfl) pe_int)
      (pss_cons (ps_g (ps_for PassesOwn.never rfl (pi_range1 rfl T.z_range (pa_cons (pe_call (ok_l_draw T) (hr.mono (by decide)) (by rfl) T.g__law_draw T.F_l_draw.kp T.b_l_draw .nil pass0 (pa_cons (pv 0) (pa_cons pe_int pa_nil))) pa_nil)) (pg_name (i := 5) sc_l_list_right.nd rfl (Or.inl rfl)) (pss_cons (ps_asg (pe_call (ok_l_pick T) (hr.mono (by decide)) (by rfl) T.g__law_pick T.F_l_pick.kp T.b_l_pick .nil pass0 (pa_cons (pv 0) (pa_cons (pv 1) pa_nil))) (pg_tup rfl (pgs_cons (pg_name (i := 6) sc_l_list_right.nd rfl (Or.inl rfl)) (pgs_cons (pg_name (i := 7) sc_l_list_right.nd rfl (Or.inl rfl)) pgs_nil))))
      (pss_cons (ps_expr (pe_bm PySem.F.plainAttrs_list PySem.F.slot_list_append PySem.F.type_list_append mt_append (pv 2) (pa_cons (pv 6) pa_nil)))
      (pss_one (ps_asg (pe_call (ok_l_lowest T) (hr.mono (by decide)) (by rfl) T.g__law_lowest T.F_l_lowest.kp T.b_l_lowest .nil pass0 (pa_cons (pe_op op_add (pe_op op_mulW (pv 3) (pe_ix ix_tup (pv 7) pe_int (fun _ _ => rfl))) (pe_op op_mulW (pe_ix ix_tup (pv 7) pe_int (fun _ _ => rfl)) (pv 4))) (pa_cons (pe_op op_mulW (pv 4) (pe_ix ix_tup (pv 7) pe_int (fun _ _ => rfl))) pa_nil))) (pg_tup rfl (pgs_cons (pg_name (i := 3) sc_l_list_right.nd rfl (Or.inl rfl)) (pgs_cons (pg_name (i := 4) sc_l_list_right.nd rfl (Or.inl rfl)) pgs_nil)))))))))
      (pss_cons (ps_set (i := 8) sc_l_list_right.nd rfl (Or.inl rfl) (pe_callTy call_list_of (by rfl) T.z_list (by decide +kernel) (pa_cons (pv 2) pa_nil)))
      (pss_cons (ps_g (ps_for PassesOwn.never rfl (pi_range1 rfl T.z_range (pa_cons pe_int pa_nil)) (pg_name (i := 9) sc_l_list_right.nd rfl (Or.inl rfl)) (pss_one (ps_if (pt_not (pt_val (pe_call (ok_l_is T) (hr.mono (by decide)) (by rfl) T.g__law_is T.F_l_is.kp T.b_l_is .nil pass0 (pa_cons (pe_smeth (pe_glob (v := .ref A.Ratio) (by rfl) T.g_Ratio rfl) T.sm_Ratio_sum_of (ok_m_Ratio_sum_of T) (hr.mono (by decide)) T.b_m_Ratio_sum_of pass0 (pa_cons (pv 2) pa_nil)) (pa_cons (pv 3) (pa_cons (pv 4) pa_nil)))))) (pss_one (ps_ret pe_bl)) pss_nil))))
      (pss_one (ps_ret (pe_cmpR (op_eqG (rcG_list mon_id eqG_id) (hr.mono (by decide))) (pv 2) (pv 8) (nomark _)))))))))), ?_⟩
    refine ⟨Nat.zero_le _, fun li hli => ?_⟩
    have nli := hB.ne hli
    have nql := ne_of_none hq hli
    have B1 := hB.put (o := .lst []) nli
    walk_at "go"
    refine ⟨⟨_, rfl, g, l, _, rfl, B1, by decide, lt_pow (a := 4) (by decide) (by decide), fun m H2 m0 m9 B2 K2 => ⟨m, rfl, by omega, by omega, ?_⟩⟩⟩
    have K2' : Kp g H H2 := ((Kp.refl g H).put hli).trans K2
    refine for_range (lo := 0) (n := m.toNat) (fun i σ' H' => Wd (∃ (ys : List V) (qs : List Rat) (v5 v6 v7 : Option V), σ' = [some (.ref g), some (.ref q), some (.ref li), some (.int (rsum qs).num), some (.int ((rsum qs).den : Int)), v5, v6, v7, none, none] ∧
      H' li = some (.lst ys) ∧ ys.length = i ∧ qs.length = i ∧ (∀ (j : Nat) x r, ys[j]? = some x → qs[j]? = some r → IsN A.Ratio H' x r ∧ Sz 210 r) ∧ Sz (1 + i * 211) (rsum qs) ∧ Bag H' g l ∧ Kp g H H'))
      ⟨[], [], none, none, none, rfl, K2 _ _ upd_same nli.1, rfl, rfl, fun j x r e => by simp at e, ⟨by decide, by decide⟩, B2, K2'⟩ ?_ ?_
    · rintro i σ' H' hi ⟨ys, qs, v5, v6, v7, rfl, hys, yl, ql, hN, sz, B3, K3⟩
      have hq3 := K3 _ _ hq nqg
      refine ⟨_, rfl, _, rfl, g, l, q, xs, rfl, B3, hq3, nqg, h0, h1, fun x H4 hx B4 K4 => ?_⟩
      obtain ⟨t, item, pv, n, d, rfl, ht, hpv, dn, ⟨zn, zd⟩, hI⟩ := (hall x hx).kp hB (K3.trans K4)
      have hys4 := K4 _ _ hys nli.1
      have hN4 : ∀ (j : Nat) x r, ys[j]? = some x → qs[j]? = some r → IsN A.Ratio H4 x r ∧ Sz 210 r := fun j x r e1 e2 => ⟨(hN j x r e1 e2).1.kp B3 K4, (hN j x r e1 e2).2⟩
      refine ⟨t, _, rfl, SqT.of ht, rfl, _, _, rfl, _, _, rfl, rfl, ?_⟩
      refine ⟨_, rfl, .inl ⟨rfl, _, SqL.of hys4⟩, _, rfl, li, ys, _, rfl, rfl, hys4, ?_, ?_⟩
      · rw [yl]
        exact Nat.lt_of_lt_of_le (show i < 10 by omega) (by decide)
      have hpl : pv ≠ li := ne_of hpv hys4 (by intro z; cases z)
      have hpv5 : (upd H4 li (.lst (ys ++ [item]))) pv = some (.tup [.int n, .int d]) := by rw [upd_ne hpl]; exact hpv
      have dz : ((rsum qs).den : Int) ≠ 0 := by have := (rsum qs).den_nz; omega
      have m1 := mulw sz.1 zd (by omega)
      have m2 := mulw (j := ((rsum qs).den : Int)) zn sz.2 (by omega)
      have m3 := mulw (i := ((rsum qs).den : Int)) sz.2 zd (by omega)
      refine ⟨_, rfl, _, rfl, pv, _, _, _, rfl, rfl, SqT.of hpv5, rfl, _, _, rfl, rfl, m1, _, rfl, pv, _, _, _, rfl, rfl, SqT.of hpv5, rfl, _, rfl, _, _, rfl, rfl, m2, _, _, rfl, rfl, _, rfl, _, rfl, pv, _, _, _, rfl, rfl, SqT.of hpv5, rfl, _, _, rfl, rfl, m3, ?_⟩
      refine ⟨_, _, rfl, Int.mul_ne_zero dz dn, lt_pow (mul_lt (i := ((rsum qs).den : Int)) sz.2 zd) (by omega), fun p6 hp6 => ?_⟩
      have esum : Rat.divInt ((rsum qs).num * d + n * ((rsum qs).den : Int)) (((rsum qs).den : Int) * d) = rsum (qs ++ [Rat.divInt n d]) := by
        rw [← Rat.divInt_add_divInt _ _ dz dn, Rat.num_divInt_den]
        unfold rsum
        rw [List.foldl_append]
        rfl
      rw [esum]
      refine ⟨p6, _, rfl, SqT.of upd_same, rfl, _, _, rfl, _, _, rfl, rfl, ?_⟩
      have hli6 : (upd (upd H4 li (.lst (ys ++ [item]))) p6 (.tup [.int (rsum (qs ++ [Rat.divInt n d])).num, .int ((rsum (qs ++ [Rat.divInt n d])).den : Int)])) li = some (.lst (ys ++ [item])) := Same.new hp6 _ _ upd_same
      have mono : ∀ {x r}, IsN A.Ratio H4 x r → IsN A.Ratio (upd (upd H4 li (.lst (ys ++ [item]))) p6 (.tup [.int (rsum (qs ++ [Rat.divInt n d])).num, .int ((rsum (qs ++ [Rat.divInt n d])).den : Int)])) x r := fun h =>
        h.elim (fun z => .inl (z.mono fun c dx fs e => Same.new hp6 _ _ (by rw [upd_ne (ne_of e hys4 (by intro z; cases z))]; exact e))) .inr
      refine ⟨ys ++ [item], qs ++ [Rat.divInt n d], _, _, _, rfl, hli6, by simp [yl], by simp [ql], fun j x r e1 e2 => ?_, ?_, (B4.put nli).new hp6, ((K3.trans K4).put hli).new hp6⟩
      · by_cases hj : j < i
        · rw [List.getElem?_append_left (by omega)] at e1
          rw [List.getElem?_append_left (by omega)] at e2
          exact ⟨mono (hN4 j x r e1 e2).1, (hN4 j x r e1 e2).2⟩
        · have hj2 : j = i := by
            have := (List.getElem?_eq_some_iff.mp e1).1
            rw [List.length_append, List.length_singleton] at this
            omega
          subst hj2
          rw [← yl, List.getElem?_concat_length] at e1
          rw [← ql, List.getElem?_concat_length] at e2
          cases e1
          cases e2
          exact ⟨mono hI, Sz.div zn zd dn⟩
      · have e : rsum (qs ++ [Rat.divInt n d]) = rsum qs + Rat.divInt n d := by
          unfold rsum
          rw [List.foldl_append]
          rfl
        rw [e]
        have := sz.add (Sz.div zn zd dn)
        exact this.mono (by omega)
    · rintro σ' H' ⟨ys, qs, v5, v6, v7, rfl, hys, yl, ql, hN, sz, B3, K3⟩
      refine ⟨_, rfl, li, ys, rfl, .inl (SqL.of hys), fun ke hke => ?_⟩
      have hys1 := Same.new (o := .lst ys) hke _ _ hys
      refine ⟨⟨2, rfl, by decide, by decide, for_range (lo := 0) (n := 2) (fun i σ' H2 => Wd (∃ v : Option V, σ' = [some (.ref g), some (.ref q), some (.ref li), some (.int (rsum qs).num), some (.int ((rsum qs).den : Int)), v5, v6, v7, some (.ref ke), v] ∧ Same (upd H' ke (.lst ys)) H2))
        ⟨none, rfl, Same.refl _⟩ ?_ ?_⟩⟩
      · rintro i σ2 H2 _ ⟨v, rfl, s2⟩
        have dz : ((rsum qs).den : Int) ≠ 0 := by have := (rsum qs).den_nz; omega
        refine ⟨rfl, _, rfl, li, ys, qs, 210, rfl, s2 _ _ hys1, by omega, fun j x r e1 e2 => ?_, by omega, fun v3 H3 s3 i3 => ?_⟩
        · have z := hN j x r e1 e2
          exact ⟨(z.1.same (Same.new hke)).same s2, z.2⟩
        · refine ⟨_, rfl, _, rfl, _, _, _, _, rfl, i3, dz, lt_pow (a := 1 + m.toNat * 211) sz.2 (by omega), Rat.num_divInt_den _, fun H4 t4 => ⟨_, rfl, iteF ?_⟩⟩
          exact ⟨_, rfl, s2.trans (s3.trans t4)⟩
      · rintro σ2 H2 ⟨v, rfl, s2⟩
        refine ⟨_, rfl, _, rfl, ⟨li, ke, ys, ys, rfl, rfl, s2 _ _ hys1, s2 _ _ upd_same, rfl, fun j x y e1 e2 => ?_⟩, fun H3 _ => k _⟩
        rw [e1] at e2
        cases e2
        have hj : j < qs.length := by
          have := (List.getElem?_eq_some_iff.mp e1).1
          omega
        rcases (hN j x _ e1 (List.getElem?_eq_getElem hj)).1 with ⟨p, dx, e, _⟩ | ⟨n, e, _⟩
        · exact .inl ⟨p, e, e⟩
        · exact .inr (by rw [e]; exact ⟨rfl, rfl, by simp [eqV]⟩)
end

section
variable {P : Program} {w : World} {K : PySem.W.Frag} {mg : Str → Option Value} {base : Heap} {A : Ad}
theorem ok_f_law (T : Txt K mg A) : FnOk P w K mg base CX0 13 A.f_law A.fd_f_law P_f_law (spLaw K) := by
  refine T.F_f_law.ok sc_f_law (fun vs H Q E h => ?_) (fun cdv Ar outer s H vs Q E hr h => ?_)
  · obtain ⟨a, ns, rfl, _⟩ := h
    rfl
  · obtain ⟨a, ns, rfl, hS, hlen, k⟩ := h
    refine ⟨_, (pss_cons (ps_set (i := 1) sc_f_law.nd rfl (Or.inl rfl) (pe_call (ok_l_bag T) (hr.mono (by decide)) (by rfl) T.g__law_bag T.F_l_bag.kp T.b_l_bag .nil pass0 (pa_cons (pv 0) pa_nil)))
      (pss_cons (ps_set (i := 2) sc_f_law.nd rfl (Or.inl rfl) (pe_tup (pa_cons (pe_call (ok_l_integer T) (hr.mono (by decide)) (by rfl) T.g__law_integer T.F_l_integer.kp T.b_l_integer .nil pass0 (pa_cons (pv 1) pa_nil)) (pa_cons (pe_orT (pe_ix ix_list (pe_lst (pa_cons pe_int (pa_cons (pe_call (ok_l_integer T) (hr.mono (by decide)) (by rfl) T.g__law_integer T.F_l_integer.kp T.b_l_integer .nil pass0 (pa_cons (pv 1) pa_nil)) pa_nil))) (pe_op op_fdiv (pe_call (ok_l_draw T) (hr.mono (by decide)) (by rfl) T.g__law_draw T.F_l_draw.kp T.b_l_draw .nil pass0 (pa_cons (pv 1) (pa_cons pe_int pa_nil))) pe_int) (fun _ _ => rfl)) (pe_one pe_int)) pa_nil))))
      (pss_cons (ps_set (i := 3) sc_f_law.nd rfl (Or.inl rfl) (pe_tup (pa_cons (pe_call (ok_l_integer T) (hr.mono (by decide)) (by rfl) T.g__law_integer T.F_l_integer.kp T.b_l_integer .nil pass0 (pa_cons (pv 1) pa_nil)) (pa_cons (pe_orT (pe_call (ok_l_integer T) (hr.mono (by decide)) (by rfl) T.g__law_integer T.F_l_integer.kp T.b_l_integer .nil pass0 (pa_cons (pv 1) pa_nil)) (pe_one pe_int)) pa_nil))))
      (pss_cons (ps_set (i := 4) sc_f_law.nd rfl (Or.inl rfl) (pe_call (ok_l_draw T) (hr.mono (by decide)) (by rfl) T.g__law_draw T.F_l_draw.kp T.b_l_draw .nil pass0 (pa_cons (pv 1) (pa_cons pe_int pa_nil))))
      (pss_g (Evl.pss_cut (ps_if (pt_cmpR op_lt (pv 4) pe_int (nomark _)) (pss_cons (ps_set (i := 5) sc_f_law.nd rfl (Or.inl rfl) (pe_op op_add pe_int (pe_call (ok_l_draw T) (hr.mono (by decide)) (by rfl) T.g__law_draw T.F_l_draw.kp T.b_l_draw .nil pass0 (pa_cons (pv 1) (pa_cons pe_int pa_nil)))))
      (pss_one (ps_set (i := 3) sc_f_law.nd rfl (Or.inl rfl) (pe_tup (pa_cons (pe_op op_mulW (pe_op op_mulW (pe_ix ix_tup (pv 2) pe_int (fun _ _ => rfl)) (pv 5)) (pe_op op_sub pe_int (pe_op op_mul pe_int (pv 4)))) (pa_cons (pe_op op_mulW (pe_ix ix_tup (pv 2) pe_int (fun _ _ => rfl)) (pv 5)) pa_nil)))))) pss_nil)
      (pss_cons (ps_set (i := 6) sc_f_law.nd rfl (Or.inl rfl) (pe_call (ok_l_integer T) (hr.mono (by decide)) (by rfl) T.g__law_integer T.F_l_integer.kp T.b_l_integer .nil pass0 (pa_cons (pv 1) pa_nil)))
      (pss_cons (ps_set (i := 7) sc_f_law.nd rfl (Or.inl rfl) (pe_make T.mk_Ratio (ok_m_Ratio_init T) (hr.mono (by decide)) (by rfl) T.g_Ratio T.b_m_Ratio_init .nil passL (pa_cons (pe_ix ix_tup (pv 2) pe_int (fun _ _ => rfl)) (pa_cons (pe_ix ix_tup (pv 2) pe_int (fun _ _ => rfl)) pa_nil))))
      (pss_g (Evl.pss_cut (ps_if (pt_cmpR op_eq (pe_ix ix_tup (pv 2) pe_int (fun _ _ => rfl)) pe_int (nomark _)) (pss_one (ps_set (i := 7) sc_f_law.nd rfl (Or.inl rfl) (pe_make T.mk_Ratio (ok_m_Ratio_init T) (hr.mono (by decide)) (by rfl) T.g_Ratio T.b_m_Ratio_init_d1 T.dv_m_Ratio_init passL (pa_cons (pe_ix ix_tup (pv 2) pe_int (fun _ _ => rfl)) pa_nil)))) pss_nil)
      (pss_cons (ps_set (i := 8) sc_f_law.nd rfl (Or.inl rfl) (pe_make T.mk_Ratio (ok_m_Ratio_init T) (hr.mono (by decide)) (by rfl) T.g_Ratio T.b_m_Ratio_init .nil passL (pa_cons (pe_ix ix_tup (pv 3) pe_int (fun _ _ => rfl)) (pa_cons (pe_ix ix_tup (pv 3) pe_int (fun _ _ => rfl)) pa_nil))))
      (pss_cons (ps_g (ps_for PassesOwn.never rfl (pi_range1 rfl T.z_range (pa_cons pe_int pa_nil)) (pg_name (i := 9) sc_f_law.nd rfl (Or.inl rfl)) (pss_cons (ps_if (PW.pt (pw_or (pt_not (pt_val (pe_call (ok_l_is T) (hr.mono (by decide)) (by rfl) T.g__law_is T.F_l_is.kp T.b_l_is .nil pass0 (pa_cons (pv 7) (pa_cons (pe_ix ix_tup (pv 2) pe_int (fun _ _ => rfl)) (pa_cons (pe_ix ix_tup (pv 2) pe_int (fun _ _ => rfl)) pa_nil)))))) (pw_or1 (pt_not (pt_val (pe_call (ok_l_is T) (hr.mono (by decide)) (by rfl) T.g__law_is T.F_l_is.kp T.b_l_is .nil pass0 (pa_cons (pv 8) (pa_cons (pe_ix ix_tup (pv 3) pe_int (fun _ _ => rfl)) (pa_cons (pe_ix ix_tup (pv 3) pe_int (fun _ _ => rfl)) pa_nil))))))))) (pss_one (ps_ret pe_bl)) pss_nil)
      (pss_cons (ps_if (PW.pt (pw_or (pt_not (pt_val (pe_call (ok_l_sums_right T) (hr.mono (by decide)) (by rfl) T.g__law_sums_right T.F_l_sums_right.kp T.b_l_sums_right .nil pass0 (pa_cons (pv 2) (pa_cons (pv 3) (pa_cons (pv 7) (pa_cons (pv 8) pa_nil))))))) (pw_or1 (pt_not (pt_val (pe_call (ok_l_whole_right T) (hr.mono (by decide)) (by rfl) T.g__law_whole_right T.F_l_whole_right.kp T.b_l_whole_right .nil pass0 (pa_cons (pv 2) (pa_cons (pv 7) (pa_cons (pv 6) pa_nil))))))))) (pss_one (ps_ret pe_bl)) pss_nil)
      (pss_cons (ps_set (i := 10) sc_f_law.nd rfl (Or.inl rfl) (pv 7))
      (pss_cons (ps_aug (i := 10) sc_f_law.nd rfl (Or.inl rfl) (pv 8) (iop_own (E := E0) rfl (oo_add T) T.nia_Ratio (ok_m_Ratio_add T) (hr.mono (by decide)) T.b_m_Ratio_add pass0))
      (pss_cons (ps_aug (i := 10) sc_f_law.nd rfl (Or.inl rfl) (pv 6) (iop_own (E := E0) rfl (oo_sub T) T.nis_Ratio (ok_m_Ratio_sub T) (hr.mono (by decide)) T.b_m_Ratio_sub pass0))
      (pss_cons (ps_aug (i := 10) sc_f_law.nd rfl (Or.inl rfl) (pv 8) (iop_own (E := E0) rfl (oo_mul T) T.nim_Ratio (ok_m_Ratio_mul T) (hr.mono (by decide)) T.b_m_Ratio_mul pass0))
      (pss_cons (ps_if (pt_not (pt_val (pe_call (ok_l_is T) (hr.mono (by decide)) (by rfl) T.g__law_is T.F_l_is.kp T.b_l_is .nil pass0 (pa_cons (pv 10) (pa_cons (pe_op op_mulW (pe_op op_add (pe_op op_mulW (pe_ix ix_tup (pv 2) pe_int (fun _ _ => rfl)) (pe_ix ix_tup (pv 3) pe_int (fun _ _ => rfl))) (pe_op op_mulW (pe_op op_sub (pe_ix ix_tup (pv 3) pe_int (fun _ _ => rfl)) (pe_op op_mulW (pv 6) (pe_ix ix_tup (pv 3) pe_int (fun _ _ => rfl)))) (pe_ix ix_tup (pv 2) pe_int (fun _ _ => rfl)))) (pe_ix ix_tup (pv 3) pe_int (fun _ _ => rfl))) (pa_cons (pe_op op_mulW (pe_op op_mulW (pe_ix ix_tup (pv 2) pe_int (fun _ _ => rfl)) (pe_ix ix_tup (pv 3) pe_int (fun _ _ => rfl))) (pe_ix ix_tup (pv 3) pe_int (fun _ _ => rfl))) pa_nil)))))) (pss_one (ps_ret pe_bl)) pss_nil)
      (pss_cons (ps_if (PW.pt (pw_or (pt_not (pt_val (pe_call (ok_l_is T) (hr.mono (by decide)) (by rfl) T.g__law_is T.F_l_is.kp T.b_l_is .nil pass0 (pa_cons (pe_op (op_own (E := E0) rfl (oo_add T) (ok_m_Ratio_add T) (hr.mono (by decide)) T.b_m_Ratio_add pass0) (pv 7) (pv 7)) (pa_cons (pe_op op_mul pe_int (pe_ix ix_tup (pv 2) pe_int (fun _ _ => rfl))) (pa_cons (pe_ix ix_tup (pv 2) pe_int (fun _ _ => rfl)) pa_nil)))))) (pw_or1 (pt_not (pt_val (pe_call (ok_l_is T) (hr.mono (by decide)) (by rfl) T.g__law_is T.F_l_is.kp T.b_l_is .nil pass0 (pa_cons (pe_op (op_own (E := E0) rfl (oo_sub T) (ok_m_Ratio_sub T) (hr.mono (by decide)) T.b_m_Ratio_sub pass0) (pv 7) (pv 7)) (pa_cons pe_int (pa_cons pe_int pa_nil))))))))) (pss_one (ps_ret pe_bl)) pss_nil)
      (pss_one (ps_if (PW.pt (pw_or (pt_not (pt_val (pe_call (ok_l_is T) (hr.mono (by decide)) (by rfl) T.g__law_is T.F_l_is.kp T.b_l_is .nil pass0 (pa_cons (pe_op (op_own (E := E0) rfl (oo_mul T) (ok_m_Ratio_mul T) (hr.mono (by decide)) T.b_m_Ratio_mul pass0) (pv 7) (pv 7)) (pa_cons (pe_op op_mulW (pe_ix ix_tup (pv 2) pe_int (fun _ _ => rfl)) (pe_ix ix_tup (pv 2) pe_int (fun _ _ => rfl))) (pa_cons (pe_op op_mulW (pe_ix ix_tup (pv 2) pe_int (fun _ _ => rfl)) (pe_ix ix_tup (pv 2) pe_int (fun _ _ => rfl))) pa_nil)))))) (pw_or1 (PW.pt (pw_and (pt_cmpR op_ne (pe_ix ix_tup (pv 2) pe_int (fun _ _ => rfl)) pe_int (nomark _)) (pw_and1 (pt_not (pt_val (pe_call (ok_l_is T) (hr.mono (by decide)) (by rfl) T.g__law_is T.F_l_is.kp T.b_l_is .nil pass0 (pa_cons (pe_meth (pv 7) T.cl_Ratio T.m_Ratio_over (ok_m_Ratio_over T) (hr.mono (by decide)) T.b_m_Ratio_over .nil passL (pa_cons (pv 7) pa_nil)) (pa_cons pe_int (pa_cons pe_int pa_nil)))))))))))) (pss_one (ps_ret pe_bl)) pss_nil))))))))))))
      (pss_one (ps_ret (pe_call (ok_l_list_right T) (hr.mono (by decide)) (by rfl) T.g__law_list_right T.F_l_list_right.kp T.b_l_list_right .nil pass0 (pa_cons (pv 1) (pa_cons (pe_lst (pa_cons (pe_tup (pa_cons (pv 7) (pa_cons (pv 2) pa_nil))) (pa_cons (pe_tup (pa_cons (pv 8) (pa_cons (pv 3) pa_nil))) (pa_cons (pe_tup (pa_cons (pv 6) (pa_cons (pe_tup (pa_cons (pv 6) (pa_cons pe_int pa_nil))) pa_nil))) pa_nil)))) pa_nil))))))))))))))))), ?_⟩
    walk_at "go"
    intro g l H1 s1 hg hl B1
    walk_at "go"
    intro a0 H2 za0 B2 K2
    walk_at "go"
    intro n1 H3 zn1 B3 K3
    walk_at "go"
    intro pl hpl
    have B4 := B3.new (o := .lst [.int 1, .int n1]) hpl
    have npl := (B3.ne hpl).1
    have hl4 : (upd H3 pl (.lst [.int 1, .int n1])) pl = some (.lst [.int 1, .int n1]) := upd_same
    walk_at "go"
    intro z H5 z0 z4 B5 K5
    have hl5 := K5 _ _ hl4 npl
    have hix : ∃ m : Int, atI [V.int 1, V.int n1] (z / 2) = some (.int m) ∧ (m = 1 ∨ m = n1) := by
      have : z / 2 = 0 ∨ z / 2 = 1 := by omega
      rcases this with e | e
      · exact ⟨1, by rw [e]; rfl, .inl rfl⟩
      · exact ⟨n1, by rw [e]; rfl, .inr rfl⟩
    obtain ⟨m, hm, em⟩ := hix
    refine ⟨_, _, rfl, rfl, ⟨by decide, by decide⟩, pl, _, _, _, rfl, rfl, SqL.of hl5, hm, ?_⟩
    refine or_go (by decide) fun a1 a10 ea1 => ?_
    have la1 : a1.natAbs ≤ 10 ^ 49 := by
      rcases ea1 with e | e
      · rcases em with e2 | e2
        · rw [e, e2]
          decide
        · rw [e, e2]
          exact zn1
      · rw [e]
        decide
    walk_at "go"
    intro pa hpa
    have B6 := B5.new (o := .tup [.int a0, .int a1]) hpa
    have npa := (B5.ne hpa).1
    have hA6 : (upd H5 pa (.tup [.int a0, .int a1])) pa = some (.tup [.int a0, .int a1]) := upd_same
    walk_at "go"
    intro b0 H7 zb0 B7 K7
    walk_at "go"
    intro m1 H8 zm1 B8 K8
    refine or_go (by decide) fun b1 b10 eb1 => ?_
    have lb1 : b1.natAbs ≤ 10 ^ 49 := by
      rcases eb1 with e | e
      · rw [e]
        exact zm1
      · rw [e]
        decide
    walk_at "go"
    intro pb hpb
    have hA8 := K8 _ _ (K7 _ _ hA6 npa) npa
    have B9 := B8.new (o := .tup [.int b0, .int b1]) hpb
    have npb := (B8.ne hpb).1
    have hA9 : (upd H8 pb (.tup [.int b0, .int b1])) pa = some (.tup [.int a0, .int a1]) := Same.new hpb _ _ hA8
    have hB9 : (upd H8 pb (.tup [.int b0, .int b1])) pb = some (.tup [.int b0, .int b1]) := upd_same
    walk_at "go"
    intro c H10 c0 c6 B10 K10
    have hA10 := K10 _ _ hA9 npa
    have hB10 := K10 _ _ hB9 npb
    have l1 : a0.natAbs < 2 ^ 210 := lt_pow (lt200 za0) (by decide)
    have l2 : a1.natAbs < 2 ^ 210 := lt_pow (lt200 la1) (by decide)
    refine ⟨⟨fun σ' H' => Wd (∃ (pb : Addr) (b0 b1 : Int) (v5 : Option V), σ' = [some (.ref a), some (.ref g), some (.ref pa), some (.ref pb), some (.int c), v5, none, none, none, none, none] ∧ H' pa = some (.tup [.int a0, .int a1]) ∧ H' pb = some (.tup [.int b0, .int b1]) ∧
      b1 ≠ 0 ∧ b0.natAbs < 2 ^ 210 ∧ b1.natAbs < 2 ^ 210 ∧ Bag H' g l), ?_, ?_⟩⟩
    · walk_at "go"
      refine if_dec (fun e => ?_) (fun e => ?_)
      · walk_at "go"
        intro t H11 t0 t9 B11 K11
        have hA11 := K11 _ _ hA10 npa
        have lt : (1 + t).natAbs < 2 ^ 5 := by omega
        have lc : (1 - 2 * c).natAbs < 2 ^ 5 := by omega
        have m1 := mulw l1 lt (by decide)
        have m2 := mulw (mul_lt l1 lt) lc (by decide)
        have m3 := mulw l2 lt (by decide)
        have y0 := lt200 za0
        have y1 := lt200 la1
        walk_at "go"
        intro p hp
        have x1 : (a0 * (1 + t) * (1 - 2 * c)).natAbs < 2 ^ 210 := mul_lt (a := 205) (b := 5) (mul_lt (a := 200) (b := 5) y0 lt) lc
        have x2 : (a1 * (1 + t)).natAbs < 2 ^ 210 := lt_pow (mul_lt (a := 200) (b := 5) y1 lt) (by decide)
        exact ⟨p, _, _, _, rfl, Same.new hp _ _ hA11, upd_same, Int.mul_ne_zero a10 (by omega), x1, x2, B11.new hp⟩
      · exact ⟨pb, b0, b1, none, rfl, hA10, hB10, b10, lt_pow (lt200 zb0) (by decide), lt_pow (lt200 lb1) (by decide), B10⟩
    clear hB10 hB9 B9 npb hpb lb1 eb1 b10 zb0
    rintro σ1 H11 ⟨pb, b0, b1, v5, rfl, hA11, hB11, b10, l3, l4, B11⟩
    walk_at "go"
    intro wh H12 zw B12 K12
    obtain ⟨xs11, hg11⟩ := B11.lst
    have npb : pb ≠ g := ne_of hB11 hg11 (by intro z; cases z)
    have hA12 := K12 _ _ hA11 npa
    have hB12 := K12 _ _ hB11 npb
    have lw : wh.natAbs < 2 ^ 210 := lt_pow (lt200 zw) (by decide)
    refine ⟨_, rfl, pa, _, _, _, rfl, rfl, SqT.of hA12, rfl, _, rfl, pa, _, _, _, rfl, rfl, SqT.of hA12, rfl, fun x dx hx hd _ => ?_⟩
    refine mk_ratio hx hd (lt_pow l2 (by decide)) (fun e => absurd e a10) (fun _ H13 s13 i13 => ⟨rfl, ?_⟩)
    have hA13 := s13 _ _ hA12
    have hB13 := s13 _ _ hB12
    refine ⟨⟨fun σ' H' => Wd (∃ v : V, σ' = [some (.ref a), some (.ref g), some (.ref pa), some (.ref pb), some (.int c), v5, some (.int wh), some v, none, none, none] ∧ IsR A.Ratio H' v (Rat.divInt a0 a1) ∧ Same H12 H'), ?_, ?_⟩⟩
    · walk_at "go"
      refine if_int (fun e => ?_) (fun e => ?_)
      · walk_at "go"
        intro y dy hy hdy _
        refine mk_ratio hy hdy (lt_pow (a := 1) (by decide) (by decide)) (fun e => by cases e) (fun _ H14 s14 i14 => ⟨rfl, ?_⟩)
        rw [← e] at i14
        exact ⟨_, rfl, i14, s13.trans s14⟩
      · exact ⟨_, rfl, i13, s13⟩
    rintro σ2 H14 ⟨v, rfl, iv, s14⟩
    have hA14 := s14 _ _ hA12
    have hB14 := s14 _ _ hB12
    have B14 := B12.keep s14
    refine ⟨_, rfl, pb, _, _, _, rfl, rfl, SqT.of hB14, rfl, _, rfl, pb, _, _, _, rfl, rfl, SqT.of hB14, rfl, fun y dy hy hdy _ => ?_⟩
    refine mk_ratio hy hdy (lt_pow l4 (by decide)) (fun e => absurd e b10) (fun _ H15 s15 iu => ⟨rfl, ?_⟩)
    have hA15 := s15 _ _ hA14
    have hB15 := s15 _ _ hB14
    have B15 := B14.keep s15
    have iv15 := iv.same s15
    have sA : Sz 210 (Rat.divInt a0 a1) := Sz.div l1 l2 a10
    have sB : Sz 210 (Rat.divInt b0 b1) := Sz.div l3 l4 b10
    have sW : Sz 210 (wh : Rat) := .int lw (by decide)
    refine ⟨⟨2, rfl, by decide, by decide, for_range (lo := 0) (n := 2) (fun i σ' H' => Wd (∃ v9 v10 : Option V, σ' = [some (.ref a), some (.ref g), some (.ref pa), some (.ref pb), some (.int c), v5, some (.int wh), some v, some (.ref y), v9, v10] ∧ Same H15 H'))
      ⟨none, none, rfl, Same.refl _⟩ ?_ ?_⟩⟩
    · rintro i σ' H' _ ⟨v9, v10, rfl, s16⟩
      have hA := s16 _ _ hA15
      have hB := s16 _ _ hB15
      have r1 := iv15.same s16
      have r2 := iu.same s16
      have p1 : a1.natAbs < 2 ^ 9000 := lt_pow l2 (by decide)
      have p2 : b1.natAbs < 2 ^ 9000 := lt_pow l4 (by decide)
      have rA : Rat.divInt a0 a1 = Rat.divInt a0 a1 := rfl
      have rB : Rat.divInt b0 b1 = Rat.divInt b0 b1 := rfl
      refine ⟨_, rfl, _, rfl, pa, _, _, _, rfl, rfl, SqT.of hA, rfl, _, rfl, pa, _, _, _, rfl, rfl, SqT.of hA, rfl, _, _, _, _, rfl, r1, a10, p1, rfl, fun H1' t1 => ⟨_, rfl, iteF ?_⟩⟩
      refine ⟨_, rfl, _, rfl, pb, _, _, _, rfl, rfl, SqT.of (t1 _ _ hB), rfl, _, rfl, pb, _, _, _, rfl, rfl, SqT.of (t1 _ _ hB), rfl, _, _, _, _, rfl, r2.same t1, b10, p2, rfl, fun H2' t2 => ⟨_, rfl, iteF ?_⟩⟩
      have u2 := t1.trans t2
      refine ⟨_, rfl, _, rfl, _, rfl, _, rfl, pa, pb, _, _, a0, a1, b0, b1, rfl, u2 _ _ hA, u2 _ _ hB, a10, b10, ⟨l1, l2, l3, l4⟩, r1.same u2, r2.same u2, fun H3' t3 => ⟨_, rfl, iteF ?_⟩⟩
      have u3 := u2.trans t3
      refine ⟨_, rfl, _, rfl, _, rfl, pa, _, a0, a1, wh, rfl, u3 _ _ hA, a10, ⟨l1, l2, lw⟩, r1.same u3, fun H4' t4 => ⟨_, rfl, iteF ?_⟩⟩
      have u4 := u3.trans t4
      have e0 : Rat.divInt wh 1 = (wh : Rat) := Rat.num_divInt_den (wh : Rat)
      refine ⟨_, rfl, ?_⟩
      refine ⟨_, rfl, _, rfl, r_own (r1.same u4) (.inl (r2.same u4)) sA sB (by decide) fun v1 H5' s5 i5 => ?_⟩
      have u5 := u4.trans s5
      refine ⟨_, rfl, _, rfl, r_own i5 (.inr ⟨wh, rfl, rfl⟩) (sA.add sB) sW (by decide) fun v2 H6' s6 i6 => ?_⟩
      have u6 := u5.trans s6
      refine ⟨_, rfl, _, rfl, r_own i6 (.inl (r2.same u6)) ((sA.add sB).sub sW) sB (by decide) fun v3 H7' s7 i7 => ?_⟩
      have u7 := u6.trans s7
      have hA7 := u7 _ _ hA
      have hB7 := u7 _ _ hB
      have w1 : (wh * b1).natAbs < 2 ^ 420 := mul_lt (a := 210) (b := 210) lw l4
      have w2 : (b0 - wh * b1).natAbs < 2 ^ 421 := by
        rw [Int.sub_eq_add_neg]
        exact natAbs_add_lt l3 (by rw [Int.natAbs_neg]; exact w1) (by decide) (Nat.le_refl _)
      have w3 : ((b0 - wh * b1) * a1).natAbs < 2 ^ 631 := mul_lt (a := 421) (b := 210) w2 l2
      have w4 : (a0 * b1).natAbs < 2 ^ 420 := mul_lt (a := 210) (b := 210) l1 l4
      have w5 : (a0 * b1 + (b0 - wh * b1) * a1).natAbs < 2 ^ 632 := natAbs_add_lt w4 w3 (by decide) (Nat.le_refl _)
      have w6 : (a1 * b1).natAbs < 2 ^ 420 := mul_lt (a := 210) (b := 210) l2 l4
      have m1 := mulw l1 l4 (by decide)
      have m2 := mulw lw l4 (by decide)
      have m3 := mulw w2 l2 (by decide)
      have m4 := mulw w5 l3 (by decide)
      have m5 := mulw l2 l4 (by decide)
      have m6 := mulw w6 l4 (by decide)
      have m7 := mulw l1 l1 (by decide)
      have m8 := mulw l2 l2 (by decide)
      have p3 : (a1 * b1 * b1).natAbs < 2 ^ 9000 := lt_pow (mul_lt w6 l4) (by decide)
      have p4 : (a1 * a1).natAbs < 2 ^ 9000 := lt_pow (mul_lt l2 l2) (by decide)
      have p5 : (1 : Int).natAbs < 2 ^ 9000 := lt_pow (a := 1) (by decide) (by decide)
      have q3 : a1 * b1 * b1 ≠ 0 := Int.mul_ne_zero (Int.mul_ne_zero a10 b10) b10
      have q4 : a1 * a1 ≠ 0 := Int.mul_ne_zero a10 a10
      have e1 : Rat.divInt ((a0 * b1 + (b0 - wh * b1) * a1) * b0) (a1 * b1 * b1) = (Rat.divInt a0 a1 + Rat.divInt b0 b1 - (wh : Rat)) * Rat.divInt b0 b1 := by
        rw [← e0, Rat.divInt_add_divInt _ _ a10 b10, Rat.divInt_sub_divInt _ _ (Int.mul_ne_zero a10 b10) (by decide), Rat.divInt_mul_divInt, Int.mul_one, Int.mul_one]
        congr 2
        rw [Int.sub_mul]
        have e : wh * b1 * a1 = wh * (a1 * b1) := by rw [Int.mul_assoc, Int.mul_comm b1 a1]
        rw [e]
        omega
      have e2 : Rat.divInt (2 * a0) a1 = Rat.divInt a0 a1 + Rat.divInt a0 a1 := by
        rw [Rat.divInt_add_divInt _ _ a10 a10, ← Int.add_mul, Rat.divInt_mul_right a10]
        congr 1
        omega
      have e3 : Rat.divInt 0 1 = Rat.divInt a0 a1 - Rat.divInt a0 a1 := by
        rw [Rat.sub_self]
        exact Rat.zero_divInt 1
      have e4 : Rat.divInt (a0 * a0) (a1 * a1) = Rat.divInt a0 a1 * Rat.divInt a0 a1 := (Rat.divInt_mul_divInt ..).symm
      have r7 := r1.same u7
      walk_at "go"
      intro H8' t8
      have u8 := u7.trans t8
      have hA8 := u8 _ _ hA
      walk_at "go"
      refine r_own (r1.same u8) (.inl (r1.same u8)) sA sA (by decide) fun v4 H9' s9 i9 => ?_
      have hA9 := s9 _ _ hA8
      walk_at "go"
      intro H10' t10
      have u10 := u8.trans (s9.trans t10)
      have hA10 := u10 _ _ hA
      walk_at "go"
      refine r_own (r1.same u10) (.inl (r1.same u10)) sA sA (by decide) fun v5 H11' s11 i11 => ?_
      walk_at "go"
      intro H12' t12
      have u12 := u10.trans (s11.trans t12)
      have hA12 := u12 _ _ hA
      walk_at "go"
      refine r_own (r1.same u12) (.inl (r1.same u12)) sA sA (by decide) fun v6 H13' s13 i13 => ?_
      have hA13 := s13 _ _ hA12
      walk_at "go"
      intro H14' t14
      have u14 := u12.trans (s13.trans t14)
      have hA14 := u14 _ _ hA
      walk_at "go"
      refine if_intN (fun e => ?_) (fun e => ?_)
      · have nz : Rat.divInt a0 a1 ≠ 0 := fun z => e (by
          have z2 := (Rat.divInt_eq_divInt_iff a10 a10).mp (z.trans (Rat.zero_divInt a1).symm)
          rw [Int.zero_mul] at z2
          exact (Int.mul_eq_zero.mp z2).resolve_right a10)
        have e5 : Rat.divInt 1 1 = Rat.divInt a0 a1 / Rat.divInt a0 a1 := by
          rw [Rat.div_def, Rat.mul_inv_cancel _ nz]
          rfl
        obtain ⟨p, dx', rfl, hp⟩ := id (r1.same u14)
        refine ⟨_, rfl, p, dx', _, rfl, hp, rf_no _ _ (by decide +kernel) (by decide +kernel), _, rfl, _, _, _, _, 210, 210, rfl, r1.same u14, .inl (r1.same u14), sA, sA, by decide, fun z => absurd z nz, fun _ v7 H15' s15 i15 => ?_⟩
        walk_at "go"
        intro H16' t16
        walk_at "go"
        exact ⟨_, _, rfl, s16.trans (u14.trans (s15.trans t16))⟩
      · walk_at "go"
        exact ⟨_, _, rfl, s16.trans u14⟩
    · rintro σ' H' ⟨v9, v10, rfl, s16⟩
      have hA := s16 _ _ hA15
      have hB := s16 _ _ hB15
      have r1 := iv15.same s16
      have r2 := iu.same s16
      have B16 := B15.keep s16
      refine ⟨_, rfl, _, rfl, _, rfl, by walk_at "fact", fun p1 hp1 => ?_⟩
      refine ⟨_, rfl, _, rfl, by walk_at "fact", fun p2 hp2 => ?_⟩
      refine ⟨_, rfl, _, rfl, by walk_at "fact", fun p3 hp3 => ?_⟩
      refine ⟨by walk_at "fact", fun p4 hp4 => ?_⟩
      refine ⟨by walk_at "fact", fun p5 hp5 => ?_⟩
      have w1 := Same.new (o := .tup [v, .ref pa]) hp1
      have w2 := Same.new (o := .tup [.ref y, .ref pb]) hp2
      have w3 := Same.new (o := .tup [.int wh, .int 1]) hp3
      have w4 := Same.new (o := .tup [.int wh, .ref p3]) hp4
      have w5 := Same.new (o := .lst [.ref p1, .ref p2, .ref p4]) hp5
      have ww := w1.trans (w2.trans (w3.trans (w4.trans w5)))
      have B17 := B16.keep ww
      have ng : p5 ≠ g := ((((B16.keep w1).keep w2).keep w3).keep w4 |>.ne hp5).1
      refine ⟨g, l, p5, _, rfl, B17, upd_same, ng, Nat.le_of_ble_eq_true rfl, Nat.le_of_ble_eq_true rfl, fun x hx => ?_, k⟩
      simp only [List.mem_cons, List.not_mem_nil, or_false] at hx
      rcases hx with rfl | rfl | rfl
      · exact ⟨p1, v, pa, a0, a1, rfl, (w2.trans (w3.trans (w4.trans w5))) _ _ upd_same, ww _ _ hA, a10, ⟨l1, l2⟩, .inl (r1.same ww)⟩
      · exact ⟨p2, .ref y, pb, b0, b1, rfl, (w3.trans (w4.trans w5)) _ _ upd_same, ww _ _ hB, b10, ⟨l3, l4⟩, .inl (r2.same ww)⟩
      · exact ⟨p4, .int wh, p3, wh, 1, rfl, w5 _ _ upd_same, (w4.trans w5) _ _ upd_same, by decide, ⟨lw, lt_pow (a := 1) (by decide) (by decide)⟩, .inr ⟨wh, rfl, Rat.num_divInt_den (wh : Rat)⟩⟩
end

theorem all_mk {l : PySem.W.OpenLaw} {w : World} {K : PySem.W.Frag} {h : Heap} {mg : Str → Option Value} {fa a_CostError a_NoRatio a_Ratio a_f_common_divisor a_f_halves a_m_Ratio_init a_m_Ratio_add a_m_Ratio_radd a_m_Ratio_sub a_m_Ratio_rsub a_m_Ratio_mul a_m_Ratio_rmul a_m_Ratio_neg a_m_Ratio_abs a_m_Ratio_over a_m_Ratio_sum_of a_sp_m_Ratio_sum_of a_l_bag a_l_draw a_l_number a_l_pick a_l_integer a_l_divisor a_l_lowest a_l_is a_l_sums_right a_l_whole_right a_l_list_right a_f_law : Addr} (X : K.In h) (G : h.Ns mainGlobals mg) (hfa : mg "law" = some (.ref fa))
    {od_f_common_divisor : Option Addr} {an_f_common_divisor : Option Addr} {sl_f_common_divisor : Array (Option Value)} {oc_f_common_divisor : Value} {kV_f_common_divisor : Value} {dc_f_common_divisor : Value} {pm_f_common_divisor : Value} {cd_f_common_divisor : Value} {ct_f_common_divisor : Value} {od_f_halves : Option Addr} {an_f_halves : Option Addr} {sl_f_halves : Array (Option Value)} {oc_f_halves : Value} {kV_f_halves : Value} {dc_f_halves : Value} {pm_f_halves : Value} {cd_f_halves : Value} {ct_f_halves : Value} {od_m_Ratio_init : Option Addr} {an_m_Ratio_init : Option Addr} {sl_m_Ratio_init : Array (Option Value)} {oc_m_Ratio_init : Value} {kV_m_Ratio_init : Value} {dc_m_Ratio_init : Value} {pm_m_Ratio_init : Value} {cd_m_Ratio_init : Value} {ct_m_Ratio_init : Value} {tp_m_Ratio_init : Addr} {tn_m_Ratio_init : Nat} {tc_m_Ratio_init : Value} {td_m_Ratio_init : Option Addr} {ts_m_Ratio_init : Array (Option Value)} {tk0_m_Ratio_init : Tok} {od_m_Ratio_add : Option Addr} {an_m_Ratio_add : Option Addr} {sl_m_Ratio_add : Array (Option Value)} {oc_m_Ratio_add : Value} {kV_m_Ratio_add : Value} {dc_m_Ratio_add : Value} {pm_m_Ratio_add : Value} {cd_m_Ratio_add : Value} {ct_m_Ratio_add : Value} {od_m_Ratio_radd : Option Addr} {an_m_Ratio_radd : Option Addr} {sl_m_Ratio_radd : Array (Option Value)} {oc_m_Ratio_radd : Value} {kV_m_Ratio_radd : Value} {dc_m_Ratio_radd : Value} {pm_m_Ratio_radd : Value} {cd_m_Ratio_radd : Value} {ct_m_Ratio_radd : Value} {od_m_Ratio_sub : Option Addr} {an_m_Ratio_sub : Option Addr} {sl_m_Ratio_sub : Array (Option Value)} {oc_m_Ratio_sub : Value} {kV_m_Ratio_sub : Value} {dc_m_Ratio_sub : Value} {pm_m_Ratio_sub : Value} {cd_m_Ratio_sub : Value} {ct_m_Ratio_sub : Value} {od_m_Ratio_rsub : Option Addr} {an_m_Ratio_rsub : Option Addr} {sl_m_Ratio_rsub : Array (Option Value)} {oc_m_Ratio_rsub : Value} {kV_m_Ratio_rsub : Value} {dc_m_Ratio_rsub : Value} {pm_m_Ratio_rsub : Value} {cd_m_Ratio_rsub : Value} {ct_m_Ratio_rsub : Value} {od_m_Ratio_mul : Option Addr} {an_m_Ratio_mul : Option Addr} {sl_m_Ratio_mul : Array (Option Value)} {oc_m_Ratio_mul : Value} {kV_m_Ratio_mul : Value} {dc_m_Ratio_mul : Value} {pm_m_Ratio_mul : Value} {cd_m_Ratio_mul : Value} {ct_m_Ratio_mul : Value} {od_m_Ratio_rmul : Option Addr} {an_m_Ratio_rmul : Option Addr} {sl_m_Ratio_rmul : Array (Option Value)} {oc_m_Ratio_rmul : Value} {kV_m_Ratio_rmul : Value} {dc_m_Ratio_rmul : Value} {pm_m_Ratio_rmul : Value} {cd_m_Ratio_rmul : Value} {ct_m_Ratio_rmul : Value} {od_m_Ratio_neg : Option Addr} {an_m_Ratio_neg : Option Addr} {sl_m_Ratio_neg : Array (Option Value)} {oc_m_Ratio_neg : Value} {kV_m_Ratio_neg : Value} {dc_m_Ratio_neg : Value} {pm_m_Ratio_neg : Value} {cd_m_Ratio_neg : Value} {ct_m_Ratio_neg : Value} {od_m_Ratio_abs : Option Addr} {an_m_Ratio_abs : Option Addr} {sl_m_Ratio_abs : Array (Option Value)} {oc_m_Ratio_abs : Value} {kV_m_Ratio_abs : Value} {dc_m_Ratio_abs : Value} {pm_m_Ratio_abs : Value} {cd_m_Ratio_abs : Value} {ct_m_Ratio_abs : Value} {od_m_Ratio_over : Option Addr} {an_m_Ratio_over : Option Addr} {sl_m_Ratio_over : Array (Option Value)} {oc_m_Ratio_over : Value} {kV_m_Ratio_over : Value} {dc_m_Ratio_over : Value} {pm_m_Ratio_over : Value} {cd_m_Ratio_over : Value} {ct_m_Ratio_over : Value} {od_m_Ratio_sum_of : Option Addr} {an_m_Ratio_sum_of : Option Addr} {sl_m_Ratio_sum_of : Array (Option Value)} {oc_m_Ratio_sum_of : Value} {kV_m_Ratio_sum_of : Value} {dc_m_Ratio_sum_of : Value} {pm_m_Ratio_sum_of : Value} {cd_m_Ratio_sum_of : Value} {ct_m_Ratio_sum_of : Value} {od_l_bag : Option Addr} {an_l_bag : Option Addr} {sl_l_bag : Array (Option Value)} {oc_l_bag : Value} {kV_l_bag : Value} {dc_l_bag : Value} {pm_l_bag : Value} {cd_l_bag : Value} {ct_l_bag : Value} {od_l_draw : Option Addr} {an_l_draw : Option Addr} {sl_l_draw : Array (Option Value)} {oc_l_draw : Value} {kV_l_draw : Value} {dc_l_draw : Value} {pm_l_draw : Value} {cd_l_draw : Value} {ct_l_draw : Value} {od_l_number : Option Addr} {an_l_number : Option Addr} {sl_l_number : Array (Option Value)} {oc_l_number : Value} {kV_l_number : Value} {dc_l_number : Value} {pm_l_number : Value} {cd_l_number : Value} {ct_l_number : Value} {od_l_pick : Option Addr} {an_l_pick : Option Addr} {sl_l_pick : Array (Option Value)} {oc_l_pick : Value} {kV_l_pick : Value} {dc_l_pick : Value} {pm_l_pick : Value} {cd_l_pick : Value} {ct_l_pick : Value} {od_l_integer : Option Addr} {an_l_integer : Option Addr} {sl_l_integer : Array (Option Value)} {oc_l_integer : Value} {kV_l_integer : Value} {dc_l_integer : Value} {pm_l_integer : Value} {cd_l_integer : Value} {ct_l_integer : Value} {od_l_divisor : Option Addr} {an_l_divisor : Option Addr} {sl_l_divisor : Array (Option Value)} {oc_l_divisor : Value} {kV_l_divisor : Value} {dc_l_divisor : Value} {pm_l_divisor : Value} {cd_l_divisor : Value} {ct_l_divisor : Value} {od_l_lowest : Option Addr} {an_l_lowest : Option Addr} {sl_l_lowest : Array (Option Value)} {oc_l_lowest : Value} {kV_l_lowest : Value} {dc_l_lowest : Value} {pm_l_lowest : Value} {cd_l_lowest : Value} {ct_l_lowest : Value} {od_l_is : Option Addr} {an_l_is : Option Addr} {sl_l_is : Array (Option Value)} {oc_l_is : Value} {kV_l_is : Value} {dc_l_is : Value} {pm_l_is : Value} {cd_l_is : Value} {ct_l_is : Value} {od_l_sums_right : Option Addr} {an_l_sums_right : Option Addr} {sl_l_sums_right : Array (Option Value)} {oc_l_sums_right : Value} {kV_l_sums_right : Value} {dc_l_sums_right : Value} {pm_l_sums_right : Value} {cd_l_sums_right : Value} {ct_l_sums_right : Value} {od_l_whole_right : Option Addr} {an_l_whole_right : Option Addr} {sl_l_whole_right : Array (Option Value)} {oc_l_whole_right : Value} {kV_l_whole_right : Value} {dc_l_whole_right : Value} {pm_l_whole_right : Value} {cd_l_whole_right : Value} {ct_l_whole_right : Value} {od_l_list_right : Option Addr} {an_l_list_right : Option Addr} {sl_l_list_right : Array (Option Value)} {oc_l_list_right : Value} {kV_l_list_right : Value} {dc_l_list_right : Value} {pm_l_list_right : Value} {cd_l_list_right : Value} {ct_l_list_right : Value} {od_f_law : Option Addr} {an_f_law : Option Addr} {sl_f_law : Array (Option Value)} {oc_f_law : Value} {kV_f_law : Value} {dc_f_law : Value} {pm_f_law : Value} {cd_f_law : Value} {ct_f_law : Value} {rest_m_Ratio_sum_of : List Value}
    (pz_abs : PySem.W.nsIn K mainGlobals "abs" = some none)
    (pz_bool : PySem.W.nsIn K mainGlobals "bool" = some none)
    (pz_int : PySem.W.nsIn K mainGlobals "int" = some none)
    (pz_isinstance : PySem.W.nsIn K mainGlobals "isinstance" = some none)
    (pz_len : PySem.W.nsIn K mainGlobals "len" = some none)
    (pz_list : PySem.W.nsIn K mainGlobals "list" = some none)
    (pz_range : PySem.W.nsIn K mainGlobals "range" = some none)
    (pz_staticmethod : PySem.W.nsIn K mainGlobals "staticmethod" = some none)
    (pg_CostError : PySem.W.nsIn K mainGlobals "CostError" = some (some (.ref a_CostError)))
    (pek_CostError : PySem.W.keepIn K (.ref a_CostError) = true)
    (peb_CostError : PySem.W.subIn K (.ref a_CostError) (.type "BaseException") = some true)
    (pet_CostError : PySem.W.typeIn K (.ref a_CostError) = some (.type "type"))
    (peh_CostError : PySem.W.hasDictIn K a_CostError = true)
    (peic_CostError : PySem.W.isClsIn K a_CostError = true)
    (pes_CostError : PySem.W.subIn K (.ref a_CostError) (.ref a_CostError) = some true)
    (pg_NoRatio : PySem.W.nsIn K mainGlobals "NoRatio" = some (some (.ref a_NoRatio)))
    (pek_NoRatio : PySem.W.keepIn K (.ref a_NoRatio) = true)
    (peb_NoRatio : PySem.W.subIn K (.ref a_NoRatio) (.type "BaseException") = some true)
    (pet_NoRatio : PySem.W.typeIn K (.ref a_NoRatio) = some (.type "type"))
    (peh_NoRatio : PySem.W.hasDictIn K a_NoRatio = true)
    (peic_NoRatio : PySem.W.isClsIn K a_NoRatio = true)
    (pes_NoRatio : PySem.W.subIn K (.ref a_NoRatio) (.ref a_NoRatio) = some true)
    (pex_NoRatio : PySem.W.excIn K a_NoRatio [.type "ValueError", .type "Exception", .type "BaseException", .type "object"] "ValueError.__new__" = true)
    (pxg_NoRatio : PySem.W.findIn K (.ref a_NoRatio) "__getattribute__" = some (some (.builtin "BaseException.__getattribute__")))
    (pxk_NoRatio : PySem.W.findIn K (.ref a_NoRatio) "__getattr__" = some none)
    (pxa_NoRatio : PySem.W.findIn K (.ref a_NoRatio) "__class__" = some (some (.builtin "object.__class__")))
    (pxn_NoRatio : PySem.W.specialIn K (.builtin "object.__class__") "__get__" = some (some (.builtin "getset_descriptor.__get__")))
    (pxt_NoRatio : PySem.W.takesIn K (.builtin "object.__class__") = some true)
    (pxm_NoRatio : PySem.W.mroIn K a_NoRatio (.type "object") = some true)
    (pg_Ratio : PySem.W.nsIn K mainGlobals "Ratio" = some (some (.ref a_Ratio)))
    (ppg_Ratio : PySem.W.plainGet K a_Ratio Str.empty = true)
    (phd_Ratio : PySem.W.hasDictIn K a_Ratio = true)
    (ppo_Ratio : PySem.W.plainOver K a_Ratio = true)
    (psa_Ratio : PySem.W.findIn K (.ref a_Ratio) "__setattr__" = some (some (.builtin "object.__setattr__")))
    (pn_Ratio_top : NoAttr K a_Ratio "top")
    (pn_Ratio_bottom : NoAttr K a_Ratio "bottom")
    (pma_Ratio : PySem.W.makesIn K a_Ratio = true)
    (pmi_Ratio : PySem.W.findIn K (.ref a_Ratio) "__init__" = some (some (.ref a_m_Ratio_init)))
    (pmf_Ratio : PySem.W.isFn K (.ref a_m_Ratio_init) = true)
    (pmc_Ratio : PySem.W.keepIn K (.ref a_Ratio) = true)
    (pmt_m_Ratio_add : PySem.W.findIn K (.ref a_Ratio) "__add__" = some (some (.ref a_m_Ratio_add)))
    (pmn_m_Ratio_add : PySem.W.isFn K (.ref a_m_Ratio_add) = true)
    (pmk_m_Ratio_add : PySem.W.keepIn K (.ref a_m_Ratio_add) = true)
    (pmt_m_Ratio_radd : PySem.W.findIn K (.ref a_Ratio) "__radd__" = some (some (.ref a_m_Ratio_radd)))
    (pmn_m_Ratio_radd : PySem.W.isFn K (.ref a_m_Ratio_radd) = true)
    (pmk_m_Ratio_radd : PySem.W.keepIn K (.ref a_m_Ratio_radd) = true)
    (pmt_m_Ratio_sub : PySem.W.findIn K (.ref a_Ratio) "__sub__" = some (some (.ref a_m_Ratio_sub)))
    (pmn_m_Ratio_sub : PySem.W.isFn K (.ref a_m_Ratio_sub) = true)
    (pmk_m_Ratio_sub : PySem.W.keepIn K (.ref a_m_Ratio_sub) = true)
    (pmt_m_Ratio_rsub : PySem.W.findIn K (.ref a_Ratio) "__rsub__" = some (some (.ref a_m_Ratio_rsub)))
    (pmn_m_Ratio_rsub : PySem.W.isFn K (.ref a_m_Ratio_rsub) = true)
    (pmk_m_Ratio_rsub : PySem.W.keepIn K (.ref a_m_Ratio_rsub) = true)
    (pmt_m_Ratio_mul : PySem.W.findIn K (.ref a_Ratio) "__mul__" = some (some (.ref a_m_Ratio_mul)))
    (pmn_m_Ratio_mul : PySem.W.isFn K (.ref a_m_Ratio_mul) = true)
    (pmk_m_Ratio_mul : PySem.W.keepIn K (.ref a_m_Ratio_mul) = true)
    (pmt_m_Ratio_rmul : PySem.W.findIn K (.ref a_Ratio) "__rmul__" = some (some (.ref a_m_Ratio_rmul)))
    (pmn_m_Ratio_rmul : PySem.W.isFn K (.ref a_m_Ratio_rmul) = true)
    (pmk_m_Ratio_rmul : PySem.W.keepIn K (.ref a_m_Ratio_rmul) = true)
    (pmt_m_Ratio_neg : PySem.W.findIn K (.ref a_Ratio) "__neg__" = some (some (.ref a_m_Ratio_neg)))
    (pmn_m_Ratio_neg : PySem.W.isFn K (.ref a_m_Ratio_neg) = true)
    (pmk_m_Ratio_neg : PySem.W.keepIn K (.ref a_m_Ratio_neg) = true)
    (pmt_m_Ratio_abs : PySem.W.findIn K (.ref a_Ratio) "__abs__" = some (some (.ref a_m_Ratio_abs)))
    (pmn_m_Ratio_abs : PySem.W.isFn K (.ref a_m_Ratio_abs) = true)
    (pmk_m_Ratio_abs : PySem.W.keepIn K (.ref a_m_Ratio_abs) = true)
    (pmt_m_Ratio_over : PySem.W.findIn K (.ref a_Ratio) "over" = some (some (.ref a_m_Ratio_over)))
    (pmn_m_Ratio_over : PySem.W.isFn K (.ref a_m_Ratio_over) = true)
    (pmk_m_Ratio_over : PySem.W.keepIn K (.ref a_m_Ratio_over) = true)
    (ps1_m_Ratio_sum_of : PySem.W.readsIn K a_Ratio (.type "type") = true)
    (ps2_m_Ratio_sum_of : PySem.W.specialIn K (.ref a_Ratio) "__getattribute__" = some (some (.builtin "type.__getattribute__")))
    (ps3_m_Ratio_sum_of : PySem.W.findCls K (.ref a_Ratio) (.type "type") "sum_of" = some (.get (.builtin "staticmethod.__get__") (.ref a_sp_m_Ratio_sum_of) .none (.ref a_Ratio)))
    (ps4_m_Ratio_sum_of : PySem.W.recIn K a_sp_m_Ratio_sum_of "staticmethod" = some (.ref a_m_Ratio_sum_of :: rest_m_Ratio_sum_of))
    (ps5_m_Ratio_sum_of : PySem.W.keepIn K (.ref a_m_Ratio_sum_of) = true)
    (ptc_Ratio : PySem.W.findIn K (.ref a_Ratio) "__class__" = some (some (.builtin "object.__class__")))
    (ptn_Ratio : PySem.W.specialIn K (.builtin "object.__class__") "__get__" = some (some (.builtin "getset_descriptor.__get__")))
    (ptk_Ratio : PySem.W.takesIn K (.builtin "object.__class__") = some true)
    (ptm_Ratio : PySem.W.mroIn K a_Ratio (.type "object") = some true)
    (pki_Ratio : PySem.W.kitOne K (.ref a_Ratio) (.type "int") = some false)
    (psf_Ratio : PySem.W.selfFirst K a_Ratio = true)
    (psi_Ratio : PySem.W.subIn K (.type "int") (.ref a_Ratio) = some false)
    (psj_Ratio : PySem.W.subIn K (.ref a_Ratio) (.type "int") = some false)
    (po1a_Ratio : PySem.W.findIn K (.type "int") (PySem.dunder "add") = some (some (.builtin "int.__add__")))
    (po2a_Ratio : PySem.W.findIn K (.type "int") (dunderR "add") = some (some (.builtin "int.__radd__")))
    (po1s_Ratio : PySem.W.findIn K (.type "int") (PySem.dunder "sub") = some (some (.builtin "int.__sub__")))
    (po2s_Ratio : PySem.W.findIn K (.type "int") (dunderR "sub") = some (some (.builtin "int.__rsub__")))
    (po1m_Ratio : PySem.W.findIn K (.type "int") (PySem.dunder "mul") = some (some (.builtin "int.__mul__")))
    (po2m_Ratio : PySem.W.findIn K (.type "int") (dunderR "mul") = some (some (.builtin "int.__rmul__")))
    (pnia_Ratio : noI K a_Ratio "add" = true)
    (pnis_Ratio : noI K a_Ratio "sub" = true)
    (pnim_Ratio : noI K a_Ratio "mul" = true)
    (prd_Ratio : PySem.W.readsIn K a_Ratio (.type "type") = true)
    (pcga_Ratio : PySem.W.specialIn K (.ref a_Ratio) "__getattribute__" = some (some (.builtin "type.__getattribute__")))
    (pa_f_common_divisor : PySem.W.nsIn K mainGlobals "common_divisor" = some (some (.ref a_f_common_divisor)))
    (pl_f_common_divisor : K.lookup a_f_common_divisor = some ⟨oc_f_common_divisor, od_f_common_divisor, .func (PySem.W.fnOf "common_divisor" "common_divisor" (defArgs s_f_common_divisor) (defBody s_f_common_divisor) (defScope s_f_common_divisor) .none kV_f_common_divisor dc_f_common_divisor pm_f_common_divisor an_f_common_divisor cd_f_common_divisor ct_f_common_divisor), sl_f_common_divisor⟩)
    (pc_f_common_divisor : PySem.W.codeIn K cd_f_common_divisor "common_divisor" = true)
    (pq_f_common_divisor : PySem.W.keepIn K (.ref a_f_common_divisor) = true)
    (pa_f_halves : PySem.W.nsIn K mainGlobals "halves" = some (some (.ref a_f_halves)))
    (pl_f_halves : K.lookup a_f_halves = some ⟨oc_f_halves, od_f_halves, .func (PySem.W.fnOf "halves" "halves" (defArgs s_f_halves) (defBody s_f_halves) (defScope s_f_halves) .none kV_f_halves dc_f_halves pm_f_halves an_f_halves cd_f_halves ct_f_halves), sl_f_halves⟩)
    (pc_f_halves : PySem.W.codeIn K cd_f_halves "halves" = true)
    (pq_f_halves : PySem.W.keepIn K (.ref a_f_halves) = true)
    (pl_m_Ratio_init : K.lookup a_m_Ratio_init = some ⟨oc_m_Ratio_init, od_m_Ratio_init, .func (PySem.W.fnOf "__init__" "Ratio.__init__" (defArgs s_m_Ratio_init) (defBody s_m_Ratio_init) (defScope s_m_Ratio_init) (.ref tp_m_Ratio_init) kV_m_Ratio_init dc_m_Ratio_init pm_m_Ratio_init an_m_Ratio_init cd_m_Ratio_init ct_m_Ratio_init), sl_m_Ratio_init⟩)
    (pt_m_Ratio_init : K.lookup tp_m_Ratio_init = some ⟨tc_m_Ratio_init, td_m_Ratio_init, .seq #[.int 1 tk0_m_Ratio_init] tn_m_Ratio_init, ts_m_Ratio_init⟩)
    (pc_m_Ratio_init : PySem.W.codeIn K cd_m_Ratio_init "Ratio.__init__" = true)
    (pq_m_Ratio_init : PySem.W.keepIn K (.ref a_m_Ratio_init) = true)
    (pl_m_Ratio_add : K.lookup a_m_Ratio_add = some ⟨oc_m_Ratio_add, od_m_Ratio_add, .func (PySem.W.fnOf "__add__" "Ratio.__add__" (defArgs s_m_Ratio_add) (defBody s_m_Ratio_add) (defScope s_m_Ratio_add) .none kV_m_Ratio_add dc_m_Ratio_add pm_m_Ratio_add an_m_Ratio_add cd_m_Ratio_add ct_m_Ratio_add), sl_m_Ratio_add⟩)
    (pc_m_Ratio_add : PySem.W.codeIn K cd_m_Ratio_add "Ratio.__add__" = true)
    (pq_m_Ratio_add : PySem.W.keepIn K (.ref a_m_Ratio_add) = true)
    (pl_m_Ratio_radd : K.lookup a_m_Ratio_radd = some ⟨oc_m_Ratio_radd, od_m_Ratio_radd, .func (PySem.W.fnOf "__radd__" "Ratio.__radd__" (defArgs s_m_Ratio_radd) (defBody s_m_Ratio_radd) (defScope s_m_Ratio_radd) .none kV_m_Ratio_radd dc_m_Ratio_radd pm_m_Ratio_radd an_m_Ratio_radd cd_m_Ratio_radd ct_m_Ratio_radd), sl_m_Ratio_radd⟩)
    (pc_m_Ratio_radd : PySem.W.codeIn K cd_m_Ratio_radd "Ratio.__radd__" = true)
    (pq_m_Ratio_radd : PySem.W.keepIn K (.ref a_m_Ratio_radd) = true)
    (pl_m_Ratio_sub : K.lookup a_m_Ratio_sub = some ⟨oc_m_Ratio_sub, od_m_Ratio_sub, .func (PySem.W.fnOf "__sub__" "Ratio.__sub__" (defArgs s_m_Ratio_sub) (defBody s_m_Ratio_sub) (defScope s_m_Ratio_sub) .none kV_m_Ratio_sub dc_m_Ratio_sub pm_m_Ratio_sub an_m_Ratio_sub cd_m_Ratio_sub ct_m_Ratio_sub), sl_m_Ratio_sub⟩)
    (pc_m_Ratio_sub : PySem.W.codeIn K cd_m_Ratio_sub "Ratio.__sub__" = true)
    (pq_m_Ratio_sub : PySem.W.keepIn K (.ref a_m_Ratio_sub) = true)
    (pl_m_Ratio_rsub : K.lookup a_m_Ratio_rsub = some ⟨oc_m_Ratio_rsub, od_m_Ratio_rsub, .func (PySem.W.fnOf "__rsub__" "Ratio.__rsub__" (defArgs s_m_Ratio_rsub) (defBody s_m_Ratio_rsub) (defScope s_m_Ratio_rsub) .none kV_m_Ratio_rsub dc_m_Ratio_rsub pm_m_Ratio_rsub an_m_Ratio_rsub cd_m_Ratio_rsub ct_m_Ratio_rsub), sl_m_Ratio_rsub⟩)
    (pc_m_Ratio_rsub : PySem.W.codeIn K cd_m_Ratio_rsub "Ratio.__rsub__" = true)
    (pq_m_Ratio_rsub : PySem.W.keepIn K (.ref a_m_Ratio_rsub) = true)
    (pl_m_Ratio_mul : K.lookup a_m_Ratio_mul = some ⟨oc_m_Ratio_mul, od_m_Ratio_mul, .func (PySem.W.fnOf "__mul__" "Ratio.__mul__" (defArgs s_m_Ratio_mul) (defBody s_m_Ratio_mul) (defScope s_m_Ratio_mul) .none kV_m_Ratio_mul dc_m_Ratio_mul pm_m_Ratio_mul an_m_Ratio_mul cd_m_Ratio_mul ct_m_Ratio_mul), sl_m_Ratio_mul⟩)
    (pc_m_Ratio_mul : PySem.W.codeIn K cd_m_Ratio_mul "Ratio.__mul__" = true)
    (pq_m_Ratio_mul : PySem.W.keepIn K (.ref a_m_Ratio_mul) = true)
    (pl_m_Ratio_rmul : K.lookup a_m_Ratio_rmul = some ⟨oc_m_Ratio_rmul, od_m_Ratio_rmul, .func (PySem.W.fnOf "__rmul__" "Ratio.__rmul__" (defArgs s_m_Ratio_rmul) (defBody s_m_Ratio_rmul) (defScope s_m_Ratio_rmul) .none kV_m_Ratio_rmul dc_m_Ratio_rmul pm_m_Ratio_rmul an_m_Ratio_rmul cd_m_Ratio_rmul ct_m_Ratio_rmul), sl_m_Ratio_rmul⟩)
    (pc_m_Ratio_rmul : PySem.W.codeIn K cd_m_Ratio_rmul "Ratio.__rmul__" = true)
    (pq_m_Ratio_rmul : PySem.W.keepIn K (.ref a_m_Ratio_rmul) = true)
    (pl_m_Ratio_neg : K.lookup a_m_Ratio_neg = some ⟨oc_m_Ratio_neg, od_m_Ratio_neg, .func (PySem.W.fnOf "__neg__" "Ratio.__neg__" (defArgs s_m_Ratio_neg) (defBody s_m_Ratio_neg) (defScope s_m_Ratio_neg) .none kV_m_Ratio_neg dc_m_Ratio_neg pm_m_Ratio_neg an_m_Ratio_neg cd_m_Ratio_neg ct_m_Ratio_neg), sl_m_Ratio_neg⟩)
    (pc_m_Ratio_neg : PySem.W.codeIn K cd_m_Ratio_neg "Ratio.__neg__" = true)
    (pq_m_Ratio_neg : PySem.W.keepIn K (.ref a_m_Ratio_neg) = true)
    (pl_m_Ratio_abs : K.lookup a_m_Ratio_abs = some ⟨oc_m_Ratio_abs, od_m_Ratio_abs, .func (PySem.W.fnOf "__abs__" "Ratio.__abs__" (defArgs s_m_Ratio_abs) (defBody s_m_Ratio_abs) (defScope s_m_Ratio_abs) .none kV_m_Ratio_abs dc_m_Ratio_abs pm_m_Ratio_abs an_m_Ratio_abs cd_m_Ratio_abs ct_m_Ratio_abs), sl_m_Ratio_abs⟩)
    (pc_m_Ratio_abs : PySem.W.codeIn K cd_m_Ratio_abs "Ratio.__abs__" = true)
    (pq_m_Ratio_abs : PySem.W.keepIn K (.ref a_m_Ratio_abs) = true)
    (pl_m_Ratio_over : K.lookup a_m_Ratio_over = some ⟨oc_m_Ratio_over, od_m_Ratio_over, .func (PySem.W.fnOf "over" "Ratio.over" (defArgs s_m_Ratio_over) (defBody s_m_Ratio_over) (defScope s_m_Ratio_over) .none kV_m_Ratio_over dc_m_Ratio_over pm_m_Ratio_over an_m_Ratio_over cd_m_Ratio_over ct_m_Ratio_over), sl_m_Ratio_over⟩)
    (pc_m_Ratio_over : PySem.W.codeIn K cd_m_Ratio_over "Ratio.over" = true)
    (pq_m_Ratio_over : PySem.W.keepIn K (.ref a_m_Ratio_over) = true)
    (pl_m_Ratio_sum_of : K.lookup a_m_Ratio_sum_of = some ⟨oc_m_Ratio_sum_of, od_m_Ratio_sum_of, .func (PySem.W.fnOf "sum_of" "Ratio.sum_of" (defArgs s_m_Ratio_sum_of) (defBody s_m_Ratio_sum_of) (defScope s_m_Ratio_sum_of) .none kV_m_Ratio_sum_of dc_m_Ratio_sum_of pm_m_Ratio_sum_of an_m_Ratio_sum_of cd_m_Ratio_sum_of ct_m_Ratio_sum_of), sl_m_Ratio_sum_of⟩)
    (pc_m_Ratio_sum_of : PySem.W.codeIn K cd_m_Ratio_sum_of "Ratio.sum_of" = true)
    (pq_m_Ratio_sum_of : PySem.W.keepIn K (.ref a_m_Ratio_sum_of) = true)
    (pa_l_bag : PySem.W.nsIn K mainGlobals "_law_bag" = some (some (.ref a_l_bag)))
    (pl_l_bag : K.lookup a_l_bag = some ⟨oc_l_bag, od_l_bag, .func (PySem.W.fnOf "_law_bag" "_law_bag" (defArgs s_l_bag) (defBody s_l_bag) (defScope s_l_bag) .none kV_l_bag dc_l_bag pm_l_bag an_l_bag cd_l_bag ct_l_bag), sl_l_bag⟩)
    (pc_l_bag : PySem.W.codeIn K cd_l_bag "_law_bag" = true)
    (pq_l_bag : PySem.W.keepIn K (.ref a_l_bag) = true)
    (pa_l_draw : PySem.W.nsIn K mainGlobals "_law_draw" = some (some (.ref a_l_draw)))
    (pl_l_draw : K.lookup a_l_draw = some ⟨oc_l_draw, od_l_draw, .func (PySem.W.fnOf "_law_draw" "_law_draw" (defArgs s_l_draw) (defBody s_l_draw) (defScope s_l_draw) .none kV_l_draw dc_l_draw pm_l_draw an_l_draw cd_l_draw ct_l_draw), sl_l_draw⟩)
    (pc_l_draw : PySem.W.codeIn K cd_l_draw "_law_draw" = true)
    (pq_l_draw : PySem.W.keepIn K (.ref a_l_draw) = true)
    (pa_l_number : PySem.W.nsIn K mainGlobals "_law_number" = some (some (.ref a_l_number)))
    (pl_l_number : K.lookup a_l_number = some ⟨oc_l_number, od_l_number, .func (PySem.W.fnOf "_law_number" "_law_number" (defArgs s_l_number) (defBody s_l_number) (defScope s_l_number) .none kV_l_number dc_l_number pm_l_number an_l_number cd_l_number ct_l_number), sl_l_number⟩)
    (pc_l_number : PySem.W.codeIn K cd_l_number "_law_number" = true)
    (pq_l_number : PySem.W.keepIn K (.ref a_l_number) = true)
    (pa_l_pick : PySem.W.nsIn K mainGlobals "_law_pick" = some (some (.ref a_l_pick)))
    (pl_l_pick : K.lookup a_l_pick = some ⟨oc_l_pick, od_l_pick, .func (PySem.W.fnOf "_law_pick" "_law_pick" (defArgs s_l_pick) (defBody s_l_pick) (defScope s_l_pick) .none kV_l_pick dc_l_pick pm_l_pick an_l_pick cd_l_pick ct_l_pick), sl_l_pick⟩)
    (pc_l_pick : PySem.W.codeIn K cd_l_pick "_law_pick" = true)
    (pq_l_pick : PySem.W.keepIn K (.ref a_l_pick) = true)
    (pa_l_integer : PySem.W.nsIn K mainGlobals "_law_integer" = some (some (.ref a_l_integer)))
    (pl_l_integer : K.lookup a_l_integer = some ⟨oc_l_integer, od_l_integer, .func (PySem.W.fnOf "_law_integer" "_law_integer" (defArgs s_l_integer) (defBody s_l_integer) (defScope s_l_integer) .none kV_l_integer dc_l_integer pm_l_integer an_l_integer cd_l_integer ct_l_integer), sl_l_integer⟩)
    (pc_l_integer : PySem.W.codeIn K cd_l_integer "_law_integer" = true)
    (pq_l_integer : PySem.W.keepIn K (.ref a_l_integer) = true)
    (pa_l_divisor : PySem.W.nsIn K mainGlobals "_law_divisor" = some (some (.ref a_l_divisor)))
    (pl_l_divisor : K.lookup a_l_divisor = some ⟨oc_l_divisor, od_l_divisor, .func (PySem.W.fnOf "_law_divisor" "_law_divisor" (defArgs s_l_divisor) (defBody s_l_divisor) (defScope s_l_divisor) .none kV_l_divisor dc_l_divisor pm_l_divisor an_l_divisor cd_l_divisor ct_l_divisor), sl_l_divisor⟩)
    (pc_l_divisor : PySem.W.codeIn K cd_l_divisor "_law_divisor" = true)
    (pq_l_divisor : PySem.W.keepIn K (.ref a_l_divisor) = true)
    (pa_l_lowest : PySem.W.nsIn K mainGlobals "_law_lowest" = some (some (.ref a_l_lowest)))
    (pl_l_lowest : K.lookup a_l_lowest = some ⟨oc_l_lowest, od_l_lowest, .func (PySem.W.fnOf "_law_lowest" "_law_lowest" (defArgs s_l_lowest) (defBody s_l_lowest) (defScope s_l_lowest) .none kV_l_lowest dc_l_lowest pm_l_lowest an_l_lowest cd_l_lowest ct_l_lowest), sl_l_lowest⟩)
    (pc_l_lowest : PySem.W.codeIn K cd_l_lowest "_law_lowest" = true)
    (pq_l_lowest : PySem.W.keepIn K (.ref a_l_lowest) = true)
    (pa_l_is : PySem.W.nsIn K mainGlobals "_law_is" = some (some (.ref a_l_is)))
    (pl_l_is : K.lookup a_l_is = some ⟨oc_l_is, od_l_is, .func (PySem.W.fnOf "_law_is" "_law_is" (defArgs s_l_is) (defBody s_l_is) (defScope s_l_is) .none kV_l_is dc_l_is pm_l_is an_l_is cd_l_is ct_l_is), sl_l_is⟩)
    (pc_l_is : PySem.W.codeIn K cd_l_is "_law_is" = true)
    (pq_l_is : PySem.W.keepIn K (.ref a_l_is) = true)
    (pa_l_sums_right : PySem.W.nsIn K mainGlobals "_law_sums_right" = some (some (.ref a_l_sums_right)))
    (pl_l_sums_right : K.lookup a_l_sums_right = some ⟨oc_l_sums_right, od_l_sums_right, .func (PySem.W.fnOf "_law_sums_right" "_law_sums_right" (defArgs s_l_sums_right) (defBody s_l_sums_right) (defScope s_l_sums_right) .none kV_l_sums_right dc_l_sums_right pm_l_sums_right an_l_sums_right cd_l_sums_right ct_l_sums_right), sl_l_sums_right⟩)
    (pc_l_sums_right : PySem.W.codeIn K cd_l_sums_right "_law_sums_right" = true)
    (pq_l_sums_right : PySem.W.keepIn K (.ref a_l_sums_right) = true)
    (pa_l_whole_right : PySem.W.nsIn K mainGlobals "_law_whole_right" = some (some (.ref a_l_whole_right)))
    (pl_l_whole_right : K.lookup a_l_whole_right = some ⟨oc_l_whole_right, od_l_whole_right, .func (PySem.W.fnOf "_law_whole_right" "_law_whole_right" (defArgs s_l_whole_right) (defBody s_l_whole_right) (defScope s_l_whole_right) .none kV_l_whole_right dc_l_whole_right pm_l_whole_right an_l_whole_right cd_l_whole_right ct_l_whole_right), sl_l_whole_right⟩)
    (pc_l_whole_right : PySem.W.codeIn K cd_l_whole_right "_law_whole_right" = true)
    (pq_l_whole_right : PySem.W.keepIn K (.ref a_l_whole_right) = true)
    (pa_l_list_right : PySem.W.nsIn K mainGlobals "_law_list_right" = some (some (.ref a_l_list_right)))
    (pl_l_list_right : K.lookup a_l_list_right = some ⟨oc_l_list_right, od_l_list_right, .func (PySem.W.fnOf "_law_list_right" "_law_list_right" (defArgs s_l_list_right) (defBody s_l_list_right) (defScope s_l_list_right) .none kV_l_list_right dc_l_list_right pm_l_list_right an_l_list_right cd_l_list_right ct_l_list_right), sl_l_list_right⟩)
    (pc_l_list_right : PySem.W.codeIn K cd_l_list_right "_law_list_right" = true)
    (pq_l_list_right : PySem.W.keepIn K (.ref a_l_list_right) = true)
    (pa_f_law : PySem.W.nsIn K mainGlobals "law" = some (some (.ref a_f_law)))
    (pl_f_law : K.lookup a_f_law = some ⟨oc_f_law, od_f_law, .func (PySem.W.fnOf "law" "law" (defArgs s_f_law) (defBody s_f_law) (defScope s_f_law) .none kV_f_law dc_f_law pm_f_law an_f_law cd_f_law ct_f_law), sl_f_law⟩)
    (pc_f_law : PySem.W.codeIn K cd_f_law "law" = true)
    (pq_f_law : PySem.W.keepIn K (.ref a_f_law) = true) :
    ∃ fd : FuncData, (∀ (s : Shared) (v : Value), BindsTo s fd ⟨[v], []⟩ [("_law_script", v)]) ∧ ∀ base : Heap, K.In base → base.Ns mainGlobals mg → FnOk l.prog w K mg base CX0 13 fa fd P_f_law (spLaw K) := by
  have e := hfa.symm.trans (PySem.W.mg_of X G pa_f_law)
  cases e
  have F_f_common_divisor := fun_mk (st := s_f_common_divisor) pl_f_common_divisor pc_f_common_divisor pq_f_common_divisor
  have b_f_common_divisor := F_f_common_divisor.binds (ps := P_f_common_divisor) fun _ _ _ _ _ _ us hl => match us, hl with | [_, _], _ => rfl
  have F_f_halves := fun_mk (st := s_f_halves) pl_f_halves pc_f_halves pq_f_halves
  have b_f_halves := F_f_halves.binds (ps := P_f_halves) fun _ _ _ _ _ _ us hl => match us, hl with | [_], _ => rfl
  have F_m_Ratio_init : FunD K "__init__" "Ratio.__init__" (defArgs s_m_Ratio_init) (defBody s_m_Ratio_init) (defScope s_m_Ratio_init) [.int 1] [] a_m_Ratio_init (PySem.W.fnOf "__init__" "Ratio.__init__" (defArgs s_m_Ratio_init) (defBody s_m_Ratio_init) (defScope s_m_Ratio_init) (.ref tp_m_Ratio_init) kV_m_Ratio_init dc_m_Ratio_init pm_m_Ratio_init an_m_Ratio_init cd_m_Ratio_init ct_m_Ratio_init) := ⟨⟨_, _, _, _, _, _, _, _, _, _, rfl, pl_m_Ratio_init, pc_m_Ratio_init, (.inr ⟨by simp, _, _, _, _, rfl, pt_m_Ratio_init, rfl, (.cons ⟨_, rfl⟩ .nil)⟩), (.inl rfl)⟩, pq_m_Ratio_init⟩
  obtain ⟨e_m_Ratio_init, ve_m_Ratio_init, b_m_Ratio_init⟩ := F_m_Ratio_init.binds1 (ps := P_m_Ratio_init) 3 1 (by simp) rfl fun T kV doc pm an cdv ct us its hu hi => ⟨_, rfl, by
      match us, hu, its, hi with
      | [_, _, _], _, [_], _ => rfl⟩
  cases ve_m_Ratio_init
  obtain ⟨ds_m_Ratio_init, dv_m_Ratio_init, bd_m_Ratio_init⟩ := F_m_Ratio_init.binds1 (ps := P_m_Ratio_init) 2 0 (by simp) rfl fun T kV doc pm an cdv ct us its hu hi => ⟨_, rfl, by
      match us, hu, its, hi with
      | [_, _], _, [_], _ => rfl⟩
  have F_m_Ratio_add := fun_mk (st := s_m_Ratio_add) pl_m_Ratio_add pc_m_Ratio_add pq_m_Ratio_add
  have b_m_Ratio_add := F_m_Ratio_add.binds (ps := P_m_Ratio_add) fun _ _ _ _ _ _ us hl => match us, hl with | [_, _], _ => rfl
  have F_m_Ratio_radd := fun_mk (st := s_m_Ratio_radd) pl_m_Ratio_radd pc_m_Ratio_radd pq_m_Ratio_radd
  have b_m_Ratio_radd := F_m_Ratio_radd.binds (ps := P_m_Ratio_radd) fun _ _ _ _ _ _ us hl => match us, hl with | [_, _], _ => rfl
  have F_m_Ratio_sub := fun_mk (st := s_m_Ratio_sub) pl_m_Ratio_sub pc_m_Ratio_sub pq_m_Ratio_sub
  have b_m_Ratio_sub := F_m_Ratio_sub.binds (ps := P_m_Ratio_sub) fun _ _ _ _ _ _ us hl => match us, hl with | [_, _], _ => rfl
  have F_m_Ratio_rsub := fun_mk (st := s_m_Ratio_rsub) pl_m_Ratio_rsub pc_m_Ratio_rsub pq_m_Ratio_rsub
  have b_m_Ratio_rsub := F_m_Ratio_rsub.binds (ps := P_m_Ratio_rsub) fun _ _ _ _ _ _ us hl => match us, hl with | [_, _], _ => rfl
  have F_m_Ratio_mul := fun_mk (st := s_m_Ratio_mul) pl_m_Ratio_mul pc_m_Ratio_mul pq_m_Ratio_mul
  have b_m_Ratio_mul := F_m_Ratio_mul.binds (ps := P_m_Ratio_mul) fun _ _ _ _ _ _ us hl => match us, hl with | [_, _], _ => rfl
  have F_m_Ratio_rmul := fun_mk (st := s_m_Ratio_rmul) pl_m_Ratio_rmul pc_m_Ratio_rmul pq_m_Ratio_rmul
  have b_m_Ratio_rmul := F_m_Ratio_rmul.binds (ps := P_m_Ratio_rmul) fun _ _ _ _ _ _ us hl => match us, hl with | [_, _], _ => rfl
  have F_m_Ratio_neg := fun_mk (st := s_m_Ratio_neg) pl_m_Ratio_neg pc_m_Ratio_neg pq_m_Ratio_neg
  have b_m_Ratio_neg := F_m_Ratio_neg.binds (ps := P_m_Ratio_neg) fun _ _ _ _ _ _ us hl => match us, hl with | [_], _ => rfl
  have F_m_Ratio_abs := fun_mk (st := s_m_Ratio_abs) pl_m_Ratio_abs pc_m_Ratio_abs pq_m_Ratio_abs
  have b_m_Ratio_abs := F_m_Ratio_abs.binds (ps := P_m_Ratio_abs) fun _ _ _ _ _ _ us hl => match us, hl with | [_], _ => rfl
  have F_m_Ratio_over := fun_mk (st := s_m_Ratio_over) pl_m_Ratio_over pc_m_Ratio_over pq_m_Ratio_over
  have b_m_Ratio_over := F_m_Ratio_over.binds (ps := P_m_Ratio_over) fun _ _ _ _ _ _ us hl => match us, hl with | [_, _], _ => rfl
  have F_m_Ratio_sum_of := fun_mk (st := s_m_Ratio_sum_of) pl_m_Ratio_sum_of pc_m_Ratio_sum_of pq_m_Ratio_sum_of
  have b_m_Ratio_sum_of := F_m_Ratio_sum_of.binds (ps := P_m_Ratio_sum_of) fun _ _ _ _ _ _ us hl => match us, hl with | [_], _ => rfl
  have F_l_bag := fun_mk (st := s_l_bag) pl_l_bag pc_l_bag pq_l_bag
  have b_l_bag := F_l_bag.binds (ps := P_l_bag) fun _ _ _ _ _ _ us hl => match us, hl with | [_], _ => rfl
  have F_l_draw := fun_mk (st := s_l_draw) pl_l_draw pc_l_draw pq_l_draw
  have b_l_draw := F_l_draw.binds (ps := P_l_draw) fun _ _ _ _ _ _ us hl => match us, hl with | [_, _], _ => rfl
  have F_l_number := fun_mk (st := s_l_number) pl_l_number pc_l_number pq_l_number
  have b_l_number := F_l_number.binds (ps := P_l_number) fun _ _ _ _ _ _ us hl => match us, hl with | [_], _ => rfl
  have F_l_pick := fun_mk (st := s_l_pick) pl_l_pick pc_l_pick pq_l_pick
  have b_l_pick := F_l_pick.binds (ps := P_l_pick) fun _ _ _ _ _ _ us hl => match us, hl with | [_, _], _ => rfl
  have F_l_integer := fun_mk (st := s_l_integer) pl_l_integer pc_l_integer pq_l_integer
  have b_l_integer := F_l_integer.binds (ps := P_l_integer) fun _ _ _ _ _ _ us hl => match us, hl with | [_], _ => rfl
  have F_l_divisor := fun_mk (st := s_l_divisor) pl_l_divisor pc_l_divisor pq_l_divisor
  have b_l_divisor := F_l_divisor.binds (ps := P_l_divisor) fun _ _ _ _ _ _ us hl => match us, hl with | [_, _], _ => rfl
  have F_l_lowest := fun_mk (st := s_l_lowest) pl_l_lowest pc_l_lowest pq_l_lowest
  have b_l_lowest := F_l_lowest.binds (ps := P_l_lowest) fun _ _ _ _ _ _ us hl => match us, hl with | [_, _], _ => rfl
  have F_l_is := fun_mk (st := s_l_is) pl_l_is pc_l_is pq_l_is
  have b_l_is := F_l_is.binds (ps := P_l_is) fun _ _ _ _ _ _ us hl => match us, hl with | [_, _, _], _ => rfl
  have F_l_sums_right := fun_mk (st := s_l_sums_right) pl_l_sums_right pc_l_sums_right pq_l_sums_right
  have b_l_sums_right := F_l_sums_right.binds (ps := P_l_sums_right) fun _ _ _ _ _ _ us hl => match us, hl with | [_, _, _, _], _ => rfl
  have F_l_whole_right := fun_mk (st := s_l_whole_right) pl_l_whole_right pc_l_whole_right pq_l_whole_right
  have b_l_whole_right := F_l_whole_right.binds (ps := P_l_whole_right) fun _ _ _ _ _ _ us hl => match us, hl with | [_, _, _], _ => rfl
  have F_l_list_right := fun_mk (st := s_l_list_right) pl_l_list_right pc_l_list_right pq_l_list_right
  have b_l_list_right := F_l_list_right.binds (ps := P_l_list_right) fun _ _ _ _ _ _ us hl => match us, hl with | [_, _], _ => rfl
  have F_f_law := fun_mk (st := s_f_law) pl_f_law pc_f_law pq_f_law
  have b_f_law := F_f_law.binds (ps := P_f_law) fun _ _ _ _ _ _ us hl => match us, hl with | [_], _ => rfl
  have T : Txt K mg ⟨a_CostError, a_NoRatio, a_Ratio, a_f_common_divisor, (PySem.W.fnOf "common_divisor" "common_divisor" (defArgs s_f_common_divisor) (defBody s_f_common_divisor) (defScope s_f_common_divisor) .none kV_f_common_divisor dc_f_common_divisor pm_f_common_divisor an_f_common_divisor cd_f_common_divisor ct_f_common_divisor), a_f_halves, (PySem.W.fnOf "halves" "halves" (defArgs s_f_halves) (defBody s_f_halves) (defScope s_f_halves) .none kV_f_halves dc_f_halves pm_f_halves an_f_halves cd_f_halves ct_f_halves), a_m_Ratio_init, (PySem.W.fnOf "__init__" "Ratio.__init__" (defArgs s_m_Ratio_init) (defBody s_m_Ratio_init) (defScope s_m_Ratio_init) (.ref tp_m_Ratio_init) kV_m_Ratio_init dc_m_Ratio_init pm_m_Ratio_init an_m_Ratio_init cd_m_Ratio_init ct_m_Ratio_init), a_m_Ratio_add, (PySem.W.fnOf "__add__" "Ratio.__add__" (defArgs s_m_Ratio_add) (defBody s_m_Ratio_add) (defScope s_m_Ratio_add) .none kV_m_Ratio_add dc_m_Ratio_add pm_m_Ratio_add an_m_Ratio_add cd_m_Ratio_add ct_m_Ratio_add), a_m_Ratio_radd, (PySem.W.fnOf "__radd__" "Ratio.__radd__" (defArgs s_m_Ratio_radd) (defBody s_m_Ratio_radd) (defScope s_m_Ratio_radd) .none kV_m_Ratio_radd dc_m_Ratio_radd pm_m_Ratio_radd an_m_Ratio_radd cd_m_Ratio_radd ct_m_Ratio_radd), a_m_Ratio_sub, (PySem.W.fnOf "__sub__" "Ratio.__sub__" (defArgs s_m_Ratio_sub) (defBody s_m_Ratio_sub) (defScope s_m_Ratio_sub) .none kV_m_Ratio_sub dc_m_Ratio_sub pm_m_Ratio_sub an_m_Ratio_sub cd_m_Ratio_sub ct_m_Ratio_sub), a_m_Ratio_rsub, (PySem.W.fnOf "__rsub__" "Ratio.__rsub__" (defArgs s_m_Ratio_rsub) (defBody s_m_Ratio_rsub) (defScope s_m_Ratio_rsub) .none kV_m_Ratio_rsub dc_m_Ratio_rsub pm_m_Ratio_rsub an_m_Ratio_rsub cd_m_Ratio_rsub ct_m_Ratio_rsub), a_m_Ratio_mul, (PySem.W.fnOf "__mul__" "Ratio.__mul__" (defArgs s_m_Ratio_mul) (defBody s_m_Ratio_mul) (defScope s_m_Ratio_mul) .none kV_m_Ratio_mul dc_m_Ratio_mul pm_m_Ratio_mul an_m_Ratio_mul cd_m_Ratio_mul ct_m_Ratio_mul), a_m_Ratio_rmul, (PySem.W.fnOf "__rmul__" "Ratio.__rmul__" (defArgs s_m_Ratio_rmul) (defBody s_m_Ratio_rmul) (defScope s_m_Ratio_rmul) .none kV_m_Ratio_rmul dc_m_Ratio_rmul pm_m_Ratio_rmul an_m_Ratio_rmul cd_m_Ratio_rmul ct_m_Ratio_rmul), a_m_Ratio_neg, (PySem.W.fnOf "__neg__" "Ratio.__neg__" (defArgs s_m_Ratio_neg) (defBody s_m_Ratio_neg) (defScope s_m_Ratio_neg) .none kV_m_Ratio_neg dc_m_Ratio_neg pm_m_Ratio_neg an_m_Ratio_neg cd_m_Ratio_neg ct_m_Ratio_neg), a_m_Ratio_abs, (PySem.W.fnOf "__abs__" "Ratio.__abs__" (defArgs s_m_Ratio_abs) (defBody s_m_Ratio_abs) (defScope s_m_Ratio_abs) .none kV_m_Ratio_abs dc_m_Ratio_abs pm_m_Ratio_abs an_m_Ratio_abs cd_m_Ratio_abs ct_m_Ratio_abs), a_m_Ratio_over, (PySem.W.fnOf "over" "Ratio.over" (defArgs s_m_Ratio_over) (defBody s_m_Ratio_over) (defScope s_m_Ratio_over) .none kV_m_Ratio_over dc_m_Ratio_over pm_m_Ratio_over an_m_Ratio_over cd_m_Ratio_over ct_m_Ratio_over), a_m_Ratio_sum_of, (PySem.W.fnOf "sum_of" "Ratio.sum_of" (defArgs s_m_Ratio_sum_of) (defBody s_m_Ratio_sum_of) (defScope s_m_Ratio_sum_of) .none kV_m_Ratio_sum_of dc_m_Ratio_sum_of pm_m_Ratio_sum_of an_m_Ratio_sum_of cd_m_Ratio_sum_of ct_m_Ratio_sum_of), a_sp_m_Ratio_sum_of, a_l_bag, (PySem.W.fnOf "_law_bag" "_law_bag" (defArgs s_l_bag) (defBody s_l_bag) (defScope s_l_bag) .none kV_l_bag dc_l_bag pm_l_bag an_l_bag cd_l_bag ct_l_bag), a_l_draw, (PySem.W.fnOf "_law_draw" "_law_draw" (defArgs s_l_draw) (defBody s_l_draw) (defScope s_l_draw) .none kV_l_draw dc_l_draw pm_l_draw an_l_draw cd_l_draw ct_l_draw), a_l_number, (PySem.W.fnOf "_law_number" "_law_number" (defArgs s_l_number) (defBody s_l_number) (defScope s_l_number) .none kV_l_number dc_l_number pm_l_number an_l_number cd_l_number ct_l_number), a_l_pick, (PySem.W.fnOf "_law_pick" "_law_pick" (defArgs s_l_pick) (defBody s_l_pick) (defScope s_l_pick) .none kV_l_pick dc_l_pick pm_l_pick an_l_pick cd_l_pick ct_l_pick), a_l_integer, (PySem.W.fnOf "_law_integer" "_law_integer" (defArgs s_l_integer) (defBody s_l_integer) (defScope s_l_integer) .none kV_l_integer dc_l_integer pm_l_integer an_l_integer cd_l_integer ct_l_integer), a_l_divisor, (PySem.W.fnOf "_law_divisor" "_law_divisor" (defArgs s_l_divisor) (defBody s_l_divisor) (defScope s_l_divisor) .none kV_l_divisor dc_l_divisor pm_l_divisor an_l_divisor cd_l_divisor ct_l_divisor), a_l_lowest, (PySem.W.fnOf "_law_lowest" "_law_lowest" (defArgs s_l_lowest) (defBody s_l_lowest) (defScope s_l_lowest) .none kV_l_lowest dc_l_lowest pm_l_lowest an_l_lowest cd_l_lowest ct_l_lowest), a_l_is, (PySem.W.fnOf "_law_is" "_law_is" (defArgs s_l_is) (defBody s_l_is) (defScope s_l_is) .none kV_l_is dc_l_is pm_l_is an_l_is cd_l_is ct_l_is), a_l_sums_right, (PySem.W.fnOf "_law_sums_right" "_law_sums_right" (defArgs s_l_sums_right) (defBody s_l_sums_right) (defScope s_l_sums_right) .none kV_l_sums_right dc_l_sums_right pm_l_sums_right an_l_sums_right cd_l_sums_right ct_l_sums_right), a_l_whole_right, (PySem.W.fnOf "_law_whole_right" "_law_whole_right" (defArgs s_l_whole_right) (defBody s_l_whole_right) (defScope s_l_whole_right) .none kV_l_whole_right dc_l_whole_right pm_l_whole_right an_l_whole_right cd_l_whole_right ct_l_whole_right), a_l_list_right, (PySem.W.fnOf "_law_list_right" "_law_list_right" (defArgs s_l_list_right) (defBody s_l_list_right) (defScope s_l_list_right) .none kV_l_list_right dc_l_list_right pm_l_list_right an_l_list_right cd_l_list_right ct_l_list_right), fa, (PySem.W.fnOf "law" "law" (defArgs s_f_law) (defBody s_f_law) (defScope s_f_law) .none kV_f_law dc_f_law pm_f_law an_f_law cd_f_law ct_f_law), ds_m_Ratio_init⟩ := {
    z_abs := PySem.W.mg_none_of X G pz_abs,
    z_bool := PySem.W.mg_none_of X G pz_bool,
    z_int := PySem.W.mg_none_of X G pz_int,
    z_isinstance := PySem.W.mg_none_of X G pz_isinstance,
    z_len := PySem.W.mg_none_of X G pz_len,
    z_list := PySem.W.mg_none_of X G pz_list,
    z_range := PySem.W.mg_none_of X G pz_range,
    z_staticmethod := PySem.W.mg_none_of X G pz_staticmethod,
    g_CostError := PySem.W.mg_of X G pg_CostError,
    ek_CostError := pek_CostError,
    eb_CostError := peb_CostError,
    et_CostError := pet_CostError,
    eh_CostError := peh_CostError,
    eic_CostError := peic_CostError,
    es_CostError := pes_CostError,
    g_NoRatio := PySem.W.mg_of X G pg_NoRatio,
    ek_NoRatio := pek_NoRatio,
    eb_NoRatio := peb_NoRatio,
    et_NoRatio := pet_NoRatio,
    eh_NoRatio := peh_NoRatio,
    eic_NoRatio := peic_NoRatio,
    es_NoRatio := pes_NoRatio,
    ex_NoRatio := pex_NoRatio,
    xg_NoRatio := pxg_NoRatio,
    xk_NoRatio := pxk_NoRatio,
    xa_NoRatio := pxa_NoRatio,
    xn_NoRatio := pxn_NoRatio,
    xt_NoRatio := pxt_NoRatio,
    xm_NoRatio := pxm_NoRatio,
    g_Ratio := PySem.W.mg_of X G pg_Ratio,
    cl_Ratio := ⟨ppg_Ratio, phd_Ratio, ppo_Ratio, psa_Ratio⟩,
    n_Ratio_top := pn_Ratio_top,
    n_Ratio_bottom := pn_Ratio_bottom,
    mk_Ratio := ⟨pma_Ratio, pmi_Ratio, pmf_Ratio, pmc_Ratio⟩,
    m_Ratio___add__ := ⟨pmt_m_Ratio_add, pmn_m_Ratio_add, pmk_m_Ratio_add⟩,
    m_Ratio___radd__ := ⟨pmt_m_Ratio_radd, pmn_m_Ratio_radd, pmk_m_Ratio_radd⟩,
    m_Ratio___sub__ := ⟨pmt_m_Ratio_sub, pmn_m_Ratio_sub, pmk_m_Ratio_sub⟩,
    m_Ratio___rsub__ := ⟨pmt_m_Ratio_rsub, pmn_m_Ratio_rsub, pmk_m_Ratio_rsub⟩,
    m_Ratio___mul__ := ⟨pmt_m_Ratio_mul, pmn_m_Ratio_mul, pmk_m_Ratio_mul⟩,
    m_Ratio___rmul__ := ⟨pmt_m_Ratio_rmul, pmn_m_Ratio_rmul, pmk_m_Ratio_rmul⟩,
    m_Ratio___neg__ := ⟨pmt_m_Ratio_neg, pmn_m_Ratio_neg, pmk_m_Ratio_neg⟩,
    m_Ratio___abs__ := ⟨pmt_m_Ratio_abs, pmn_m_Ratio_abs, pmk_m_Ratio_abs⟩,
    m_Ratio_over := ⟨pmt_m_Ratio_over, pmn_m_Ratio_over, pmk_m_Ratio_over⟩,
    sm_Ratio_sum_of := ⟨ps1_m_Ratio_sum_of, ps2_m_Ratio_sum_of, ps3_m_Ratio_sum_of, ⟨_, ps4_m_Ratio_sum_of⟩, ps5_m_Ratio_sum_of⟩,
    tc_Ratio := ptc_Ratio,
    tn_Ratio := ptn_Ratio,
    tk_Ratio := ptk_Ratio,
    tm_Ratio := ptm_Ratio,
    ki_Ratio := pki_Ratio,
    sf_Ratio := psf_Ratio,
    si_Ratio := psi_Ratio,
    sj_Ratio := psj_Ratio,
    o1a_Ratio := po1a_Ratio,
    o2a_Ratio := po2a_Ratio,
    o1s_Ratio := po1s_Ratio,
    o2s_Ratio := po2s_Ratio,
    o1m_Ratio := po1m_Ratio,
    o2m_Ratio := po2m_Ratio,
    nia_Ratio := pnia_Ratio,
    nis_Ratio := pnis_Ratio,
    nim_Ratio := pnim_Ratio,
    rd_Ratio := prd_Ratio,
    cga_Ratio := pcga_Ratio,
    F_f_common_divisor := F_f_common_divisor,
    b_f_common_divisor := b_f_common_divisor,
    g_common_divisor := PySem.W.mg_of X G pa_f_common_divisor,
    F_f_halves := F_f_halves,
    b_f_halves := b_f_halves,
    g_halves := PySem.W.mg_of X G pa_f_halves,
    F_m_Ratio_init := F_m_Ratio_init,
    b_m_Ratio_init := b_m_Ratio_init,
    dv_m_Ratio_init := dv_m_Ratio_init,
    b_m_Ratio_init_d1 := bd_m_Ratio_init,
    F_m_Ratio_add := F_m_Ratio_add,
    b_m_Ratio_add := b_m_Ratio_add,
    F_m_Ratio_radd := F_m_Ratio_radd,
    b_m_Ratio_radd := b_m_Ratio_radd,
    F_m_Ratio_sub := F_m_Ratio_sub,
    b_m_Ratio_sub := b_m_Ratio_sub,
    F_m_Ratio_rsub := F_m_Ratio_rsub,
    b_m_Ratio_rsub := b_m_Ratio_rsub,
    F_m_Ratio_mul := F_m_Ratio_mul,
    b_m_Ratio_mul := b_m_Ratio_mul,
    F_m_Ratio_rmul := F_m_Ratio_rmul,
    b_m_Ratio_rmul := b_m_Ratio_rmul,
    F_m_Ratio_neg := F_m_Ratio_neg,
    b_m_Ratio_neg := b_m_Ratio_neg,
    F_m_Ratio_abs := F_m_Ratio_abs,
    b_m_Ratio_abs := b_m_Ratio_abs,
    F_m_Ratio_over := F_m_Ratio_over,
    b_m_Ratio_over := b_m_Ratio_over,
    F_m_Ratio_sum_of := F_m_Ratio_sum_of,
    b_m_Ratio_sum_of := b_m_Ratio_sum_of,
    F_l_bag := F_l_bag,
    b_l_bag := b_l_bag,
    g__law_bag := PySem.W.mg_of X G pa_l_bag,
    F_l_draw := F_l_draw,
    b_l_draw := b_l_draw,
    g__law_draw := PySem.W.mg_of X G pa_l_draw,
    F_l_number := F_l_number,
    b_l_number := b_l_number,
    g__law_number := PySem.W.mg_of X G pa_l_number,
    F_l_pick := F_l_pick,
    b_l_pick := b_l_pick,
    g__law_pick := PySem.W.mg_of X G pa_l_pick,
    F_l_integer := F_l_integer,
    b_l_integer := b_l_integer,
    g__law_integer := PySem.W.mg_of X G pa_l_integer,
    F_l_divisor := F_l_divisor,
    b_l_divisor := b_l_divisor,
    g__law_divisor := PySem.W.mg_of X G pa_l_divisor,
    F_l_lowest := F_l_lowest,
    b_l_lowest := b_l_lowest,
    g__law_lowest := PySem.W.mg_of X G pa_l_lowest,
    F_l_is := F_l_is,
    b_l_is := b_l_is,
    g__law_is := PySem.W.mg_of X G pa_l_is,
    F_l_sums_right := F_l_sums_right,
    b_l_sums_right := b_l_sums_right,
    g__law_sums_right := PySem.W.mg_of X G pa_l_sums_right,
    F_l_whole_right := F_l_whole_right,
    b_l_whole_right := b_l_whole_right,
    g__law_whole_right := PySem.W.mg_of X G pa_l_whole_right,
    F_l_list_right := F_l_list_right,
    b_l_list_right := b_l_list_right,
    g__law_list_right := PySem.W.mg_of X G pa_l_list_right,
    F_f_law := F_f_law,
    b_f_law := b_f_law,
    g_law := PySem.W.mg_of X G pa_f_law }
  exact ⟨_, fun s v => .of_eq rfl, fun base _ _ => ok_f_law T⟩
theorem walk {l : PySem.W.OpenLaw} {q : Program} {loose : List Str} {XP : (Str → Option Value) → Heap → Prop} {YP : World → Heap → Prop} {d : DefRec} {K : Params → PySem.W.Frag} (hn : l.most = some 63) (hdf : d.params.defaults = [])
    (hY : ∀ (w : World) (h : Heap), YP w h → (K w.params).In h)
    (F : ∀ (w : World) (mg : Str → Option Value) (fa : Addr) (h : Heap), (K w.params).In h → h.Ns mainGlobals mg → mg d.name = some (.ref fa) →
      ∃ fd : FuncData, (∀ (s : Shared) (u : Value), BindsTo s fd ⟨[u], []⟩ [("_law_script", u)]) ∧ ∀ base : Heap, (K w.params).In base → base.Ns mainGlobals mg → FnOk l.prog w (K w.params) mg base CX0 13 fa fd ["_law_script"] (spLaw (K w.params))) :
    PySem.W.WalkO q loose XP YP l.row.toRowW d [] (fun f vs => PySem.call f vs) :=
  L2.walk_of (n := 63) (k := 13) (x := "_law_script") (CX := fun _ => CX0) (sp := fun w => spLaw (K w.params)) hn (by decide) hdf ⟨rfl, by decide, by decide⟩ hY F (fun _ _ a ns hl _ hS => ⟨a, ns, rfl, hS, hl, fun _ => rfl⟩) fun _ _ _ _ _ z => z
end Lot
open PySem PySem.W PyProof.Rows
set_option maxRecDepth 100000 in
set_option maxHeartbeats 0 in
theorem PySem.Challenge.cw_lotcosts_k11_ratios_exact_holds : PySem.Challenge.rw_lotcosts_k11_ratios_exact.Holds := by
  w_on; o_law; k_head; (case hw => w_witness2)
  k_fill
  refine Lot.walk (l := PySem.Challenge.rw_lotcosts_k11_ratios_exact) rfl rfl (fun w h Y => PySem.W.kIn_of Y) ?F
  case F =>
    intro w mg fa h KX G hmg
    refine' Lot.all_mk KX G hmg ?pz_abs ?pz_bool ?pz_int ?pz_isinstance ?pz_len ?pz_list ?pz_range ?pz_staticmethod ?pg_CostError ?pek_CostError ?peb_CostError ?pet_CostError ?peh_CostError ?peic_CostError ?pes_CostError ?pg_NoRatio ?pek_NoRatio ?peb_NoRatio ?pet_NoRatio ?peh_NoRatio ?peic_NoRatio ?pes_NoRatio ?pex_NoRatio ?pxg_NoRatio ?pxk_NoRatio ?pxa_NoRatio ?pxn_NoRatio ?pxt_NoRatio ?pxm_NoRatio ?pg_Ratio ?ppg_Ratio ?phd_Ratio ?ppo_Ratio ?psa_Ratio ?pn_Ratio_top ?pn_Ratio_bottom ?pma_Ratio ?pmi_Ratio ?pmf_Ratio ?pmc_Ratio ?pmt_m_Ratio_add ?pmn_m_Ratio_add ?pmk_m_Ratio_add ?pmt_m_Ratio_radd ?pmn_m_Ratio_radd ?pmk_m_Ratio_radd ?pmt_m_Ratio_sub ?pmn_m_Ratio_sub ?pmk_m_Ratio_sub ?pmt_m_Ratio_rsub ?pmn_m_Ratio_rsub ?pmk_m_Ratio_rsub ?pmt_m_Ratio_mul ?pmn_m_Ratio_mul ?pmk_m_Ratio_mul ?pmt_m_Ratio_rmul ?pmn_m_Ratio_rmul ?pmk_m_Ratio_rmul ?pmt_m_Ratio_neg ?pmn_m_Ratio_neg ?pmk_m_Ratio_neg ?pmt_m_Ratio_abs ?pmn_m_Ratio_abs ?pmk_m_Ratio_abs ?pmt_m_Ratio_over ?pmn_m_Ratio_over ?pmk_m_Ratio_over ?ps1_m_Ratio_sum_of ?ps2_m_Ratio_sum_of ?ps3_m_Ratio_sum_of ?ps4_m_Ratio_sum_of ?ps5_m_Ratio_sum_of ?ptc_Ratio ?ptn_Ratio ?ptk_Ratio ?ptm_Ratio ?pki_Ratio ?psf_Ratio ?psi_Ratio ?psj_Ratio ?po1a_Ratio ?po2a_Ratio ?po1s_Ratio ?po2s_Ratio ?po1m_Ratio ?po2m_Ratio ?pnia_Ratio ?pnis_Ratio ?pnim_Ratio ?prd_Ratio ?pcga_Ratio ?pa_f_common_divisor ?pl_f_common_divisor ?pc_f_common_divisor ?pq_f_common_divisor ?pa_f_halves ?pl_f_halves ?pc_f_halves ?pq_f_halves ?pl_m_Ratio_init ?pt_m_Ratio_init ?pc_m_Ratio_init ?pq_m_Ratio_init ?pl_m_Ratio_add ?pc_m_Ratio_add ?pq_m_Ratio_add ?pl_m_Ratio_radd ?pc_m_Ratio_radd ?pq_m_Ratio_radd ?pl_m_Ratio_sub ?pc_m_Ratio_sub ?pq_m_Ratio_sub ?pl_m_Ratio_rsub ?pc_m_Ratio_rsub ?pq_m_Ratio_rsub ?pl_m_Ratio_mul ?pc_m_Ratio_mul ?pq_m_Ratio_mul ?pl_m_Ratio_rmul ?pc_m_Ratio_rmul ?pq_m_Ratio_rmul ?pl_m_Ratio_neg ?pc_m_Ratio_neg ?pq_m_Ratio_neg ?pl_m_Ratio_abs ?pc_m_Ratio_abs ?pq_m_Ratio_abs ?pl_m_Ratio_over ?pc_m_Ratio_over ?pq_m_Ratio_over ?pl_m_Ratio_sum_of ?pc_m_Ratio_sum_of ?pq_m_Ratio_sum_of ?pa_l_bag ?pl_l_bag ?pc_l_bag ?pq_l_bag ?pa_l_draw ?pl_l_draw ?pc_l_draw ?pq_l_draw ?pa_l_number ?pl_l_number ?pc_l_number ?pq_l_number ?pa_l_pick ?pl_l_pick ?pc_l_pick ?pq_l_pick ?pa_l_integer ?pl_l_integer ?pc_l_integer ?pq_l_integer ?pa_l_divisor ?pl_l_divisor ?pc_l_divisor ?pq_l_divisor ?pa_l_lowest ?pl_l_lowest ?pc_l_lowest ?pq_l_lowest ?pa_l_is ?pl_l_is ?pc_l_is ?pq_l_is ?pa_l_sums_right ?pl_l_sums_right ?pc_l_sums_right ?pq_l_sums_right ?pa_l_whole_right ?pl_l_whole_right ?pc_l_whole_right ?pq_l_whole_right ?pa_l_list_right ?pl_l_list_right ?pc_l_list_right ?pq_l_list_right ?pa_f_law ?pl_f_law ?pc_f_law ?pq_f_law
    (case pz_abs => first | k_is | rfl)
    (case pz_bool => first | k_is | rfl)
    (case pz_int => first | k_is | rfl)
    (case pz_isinstance => first | k_is | rfl)
    (case pz_len => first | k_is | rfl)
    (case pz_list => first | k_is | rfl)
    (case pz_range => first | k_is | rfl)
    (case pz_staticmethod => first | k_is | rfl)
    (case pg_CostError => first | k_is | rfl)
    (case pek_CostError => first | k_is | rfl)
    (case peb_CostError => first | k_is | rfl)
    (case pet_CostError => first | k_is | rfl)
    (case peh_CostError => first | k_is | rfl)
    (case peic_CostError => first | k_is | rfl)
    (case pes_CostError => first | k_is | rfl)
    (case pg_NoRatio => first | k_is | rfl)
    (case pek_NoRatio => first | k_is | rfl)
    (case peb_NoRatio => first | k_is | rfl)
    (case pet_NoRatio => first | k_is | rfl)
    (case peh_NoRatio => first | k_is | rfl)
    (case peic_NoRatio => first | k_is | rfl)
    (case pes_NoRatio => first | k_is | rfl)
    (case pex_NoRatio => k_exc)
    (case pxg_NoRatio => first | k_is | rfl)
    (case pxk_NoRatio => first | k_is | rfl)
    (case pxa_NoRatio => first | k_is | rfl)
    (case pxn_NoRatio => first | k_is | rfl)
    (case pxt_NoRatio => first | k_is | rfl)
    (case pxm_NoRatio => first | k_is | rfl)
    (case pg_Ratio => first | k_is | rfl)
    (case ppg_Ratio => first | k_is | rfl)
    (case phd_Ratio => first | k_is | rfl)
    (case ppo_Ratio => first | k_is | rfl)
    (case psa_Ratio => first | k_is | rfl)
    (case pn_Ratio_top => first | k_is | rfl)
    (case pn_Ratio_bottom => first | k_is | rfl)
    (case pma_Ratio => first | k_is | rfl)
    (case pmi_Ratio => first | k_is | rfl)
    (case pmf_Ratio => first | k_is | rfl)
    (case pmc_Ratio => first | k_is | rfl)
    (case pmt_m_Ratio_add => first | k_is | rfl)
    (case pmn_m_Ratio_add => first | k_is | rfl)
    (case pmk_m_Ratio_add => first | k_is | rfl)
    (case pmt_m_Ratio_radd => first | k_is | rfl)
    (case pmn_m_Ratio_radd => first | k_is | rfl)
    (case pmk_m_Ratio_radd => first | k_is | rfl)
    (case pmt_m_Ratio_sub => first | k_is | rfl)
    (case pmn_m_Ratio_sub => first | k_is | rfl)
    (case pmk_m_Ratio_sub => first | k_is | rfl)
    (case pmt_m_Ratio_rsub => first | k_is | rfl)
    (case pmn_m_Ratio_rsub => first | k_is | rfl)
    (case pmk_m_Ratio_rsub => first | k_is | rfl)
    (case pmt_m_Ratio_mul => first | k_is | rfl)
    (case pmn_m_Ratio_mul => first | k_is | rfl)
    (case pmk_m_Ratio_mul => first | k_is | rfl)
    (case pmt_m_Ratio_rmul => first | k_is | rfl)
    (case pmn_m_Ratio_rmul => first | k_is | rfl)
    (case pmk_m_Ratio_rmul => first | k_is | rfl)
    (case pmt_m_Ratio_neg => first | k_is | rfl)
    (case pmn_m_Ratio_neg => first | k_is | rfl)
    (case pmk_m_Ratio_neg => first | k_is | rfl)
    (case pmt_m_Ratio_abs => first | k_is | rfl)
    (case pmn_m_Ratio_abs => first | k_is | rfl)
    (case pmk_m_Ratio_abs => first | k_is | rfl)
    (case pmt_m_Ratio_over => first | k_is | rfl)
    (case pmn_m_Ratio_over => first | k_is | rfl)
    (case pmk_m_Ratio_over => first | k_is | rfl)
    (case ps1_m_Ratio_sum_of => first | k_is | rfl)
    (case ps2_m_Ratio_sum_of => first | k_is | rfl)
    (case ps3_m_Ratio_sum_of => first | k_is | rfl)
    (case ps4_m_Ratio_sum_of => first | k_is | rfl)
    (case ps5_m_Ratio_sum_of => first | k_is | rfl)
    (case ptc_Ratio => first | k_is | rfl)
    (case ptn_Ratio => first | k_is | rfl)
    (case ptk_Ratio => first | k_is | rfl)
    (case ptm_Ratio => first | k_is | rfl)
    (case pki_Ratio => first | k_is | rfl)
    (case psf_Ratio => first | k_is | rfl)
    (case psi_Ratio => first | k_is | rfl)
    (case psj_Ratio => first | k_is | rfl)
    (case po1a_Ratio => first | k_is | rfl)
    (case po2a_Ratio => first | k_is | rfl)
    (case po1s_Ratio => first | k_is | rfl)
    (case po2s_Ratio => first | k_is | rfl)
    (case po1m_Ratio => first | k_is | rfl)
    (case po2m_Ratio => first | k_is | rfl)
    (case pnia_Ratio => first | k_is | rfl)
    (case pnis_Ratio => first | k_is | rfl)
    (case pnim_Ratio => first | k_is | rfl)
    (case prd_Ratio => first | k_is | rfl)
    (case pcga_Ratio => first | k_is | rfl)
    (case pa_f_common_divisor => first | k_is | rfl)
    (case pl_f_common_divisor => first | k_is | rfl)
    (case pc_f_common_divisor => first | k_is | rfl)
    (case pq_f_common_divisor => first | k_is | rfl)
    (case pa_f_halves => first | k_is | rfl)
    (case pl_f_halves => first | k_is | rfl)
    (case pc_f_halves => first | k_is | rfl)
    (case pq_f_halves => first | k_is | rfl)
    (case pl_m_Ratio_init => first | k_is | rfl)
    (case pt_m_Ratio_init => first | k_is | rfl)
    (case pc_m_Ratio_init => first | k_is | rfl)
    (case pq_m_Ratio_init => first | k_is | rfl)
    (case pl_m_Ratio_add => first | k_is | rfl)
    (case pc_m_Ratio_add => first | k_is | rfl)
    (case pq_m_Ratio_add => first | k_is | rfl)
    (case pl_m_Ratio_radd => first | k_is | rfl)
    (case pc_m_Ratio_radd => first | k_is | rfl)
    (case pq_m_Ratio_radd => first | k_is | rfl)
    (case pl_m_Ratio_sub => first | k_is | rfl)
    (case pc_m_Ratio_sub => first | k_is | rfl)
    (case pq_m_Ratio_sub => first | k_is | rfl)
    (case pl_m_Ratio_rsub => first | k_is | rfl)
    (case pc_m_Ratio_rsub => first | k_is | rfl)
    (case pq_m_Ratio_rsub => first | k_is | rfl)
    (case pl_m_Ratio_mul => first | k_is | rfl)
    (case pc_m_Ratio_mul => first | k_is | rfl)
    (case pq_m_Ratio_mul => first | k_is | rfl)
    (case pl_m_Ratio_rmul => first | k_is | rfl)
    (case pc_m_Ratio_rmul => first | k_is | rfl)
    (case pq_m_Ratio_rmul => first | k_is | rfl)
    (case pl_m_Ratio_neg => first | k_is | rfl)
    (case pc_m_Ratio_neg => first | k_is | rfl)
    (case pq_m_Ratio_neg => first | k_is | rfl)
    (case pl_m_Ratio_abs => first | k_is | rfl)
    (case pc_m_Ratio_abs => first | k_is | rfl)
    (case pq_m_Ratio_abs => first | k_is | rfl)
    (case pl_m_Ratio_over => first | k_is | rfl)
    (case pc_m_Ratio_over => first | k_is | rfl)
    (case pq_m_Ratio_over => first | k_is | rfl)
    (case pl_m_Ratio_sum_of => first | k_is | rfl)
    (case pc_m_Ratio_sum_of => first | k_is | rfl)
    (case pq_m_Ratio_sum_of => first | k_is | rfl)
    (case pa_l_bag => first | k_is | rfl)
    (case pl_l_bag => first | k_is | rfl)
    (case pc_l_bag => first | k_is | rfl)
    (case pq_l_bag => first | k_is | rfl)
    (case pa_l_draw => first | k_is | rfl)
    (case pl_l_draw => first | k_is | rfl)
    (case pc_l_draw => first | k_is | rfl)
    (case pq_l_draw => first | k_is | rfl)
    (case pa_l_number => first | k_is | rfl)
    (case pl_l_number => first | k_is | rfl)
    (case pc_l_number => first | k_is | rfl)
    (case pq_l_number => first | k_is | rfl)
    (case pa_l_pick => first | k_is | rfl)
    (case pl_l_pick => first | k_is | rfl)
    (case pc_l_pick => first | k_is | rfl)
    (case pq_l_pick => first | k_is | rfl)
    (case pa_l_integer => first | k_is | rfl)
    (case pl_l_integer => first | k_is | rfl)
    (case pc_l_integer => first | k_is | rfl)
    (case pq_l_integer => first | k_is | rfl)
    (case pa_l_divisor => first | k_is | rfl)
    (case pl_l_divisor => first | k_is | rfl)
    (case pc_l_divisor => first | k_is | rfl)
    (case pq_l_divisor => first | k_is | rfl)
    (case pa_l_lowest => first | k_is | rfl)
    (case pl_l_lowest => first | k_is | rfl)
    (case pc_l_lowest => first | k_is | rfl)
    (case pq_l_lowest => first | k_is | rfl)
    (case pa_l_is => first | k_is | rfl)
    (case pl_l_is => first | k_is | rfl)
    (case pc_l_is => first | k_is | rfl)
    (case pq_l_is => first | k_is | rfl)
    (case pa_l_sums_right => first | k_is | rfl)
    (case pl_l_sums_right => first | k_is | rfl)
    (case pc_l_sums_right => first | k_is | rfl)
    (case pq_l_sums_right => first | k_is | rfl)
    (case pa_l_whole_right => first | k_is | rfl)
    (case pl_l_whole_right => first | k_is | rfl)
    (case pc_l_whole_right => first | k_is | rfl)
    (case pq_l_whole_right => first | k_is | rfl)
    (case pa_l_list_right => first | k_is | rfl)
    (case pl_l_list_right => first | k_is | rfl)
    (case pc_l_list_right => first | k_is | rfl)
    (case pq_l_list_right => first | k_is | rfl)
    (case pa_f_law => first | k_is | rfl)
    (case pl_f_law => first | k_is | rfl)
    (case pc_f_law => first | k_is | rfl)
    (case pq_f_law => first | k_is | rfl)
#print axioms PySem.Challenge.cw_lotcosts_k11_ratios_exact_holds

