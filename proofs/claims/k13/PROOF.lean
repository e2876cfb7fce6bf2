import PyProof.Rows.All
import Wide.All
import OpenK.AllK
import Wide.FinOn
import HandS.ForMost
import HandS.ForExc
import HandS.Flow
import HandS.Evl
import HandS.Style
import HandS.IsInst
import HandS.ExcIs
import HandS.Wide
import HandS.Defaults
import PySem.Challenge.RW_lotcosts_k13_division_by_zero
set_option Elab.async false
set_option linter.all false
set_option pp.maxSteps 400
set_option maxRecDepth 100000
set_option maxHeartbeats 4000000
namespace Lot
open PySem L2
/-! ### steps -/
local macro_rules | `(tactic| walk_at "ne") => `(tactic| first
  | assumption
  | (apply Ne.symm; assumption)
  | exact ne_of_none (by assumption) (by assumption)
  | exact (ne_of_none (by assumption) (by assumption)).symm)
local macro_rules | `(tactic| walk_at "at") => `(tactic| first
  | assumption
  | exact upd_same
  | (refine Eq.trans (upd_ne (by walk_at "ne")) ?_; walk_at "at"))
local macro_rules | `(tactic| walk_at "num") => `(tactic| first
  | decide
  | omega
  | (dsimp only; first | decide | omega))
local macro_rules | `(tactic| walk_at "fact") => `(tactic| first
  | exact rfl
  | assumption
  | walk_at "at"
  | exact SqL.of (by walk_at "at")
  | exact SqT.of (by walk_at "at")
  | exact .inl (SqL.of (by walk_at "at"))
  | exact .inr (SqT.of (by walk_at "at"))
  | exact .inl ⟨rfl, _, SqL.of (by walk_at "at")⟩
  | exact Or.inl ⟨by walk_at "num", by walk_at "num"⟩
  | exact Or.inr ⟨by walk_at "num", by walk_at "num"⟩
  | exact ⟨by walk_at "num", by walk_at "num"⟩
  | exact ⟨by walk_at "num", by walk_at "num", by walk_at "num"⟩
  | exact wide_div (b := 9000) (by omega) (by assumption) (by decide) (by decide)
  | exact Nat.le_of_ble_eq_true rfl
  | walk_at "num")
local macro_rules | `(tactic| walk_at "go") => `(tactic| repeat (first
  | apply Exists.intro
  | refine And.intro (by walk_at "fact") ?_
  | refine Or.inl ⟨_, rfl, ?_⟩
  | refine Or.inr ⟨_, rfl, ?_⟩))
def top (i : Nat) : Stmt := PySem.Challenge.pw_lotcosts_k13_division_by_zero.main.body.getD i (.Pass ⟨0, 0, 0, 0⟩)
abbrev s_f_common_divisor : Stmt := top 5
abbrev N_f_common_divisor : List Str := ["one", "other"]
abbrev P_f_common_divisor : List Str := ["one", "other"]
theorem sc_f_common_divisor : FnScope N_f_common_divisor P_f_common_divisor (defScope s_f_common_divisor) := ⟨rfl, rfl, rfl, by decide +kernel, rfl, by decide +kernel, by decide +kernel⟩
abbrev s_f_halves : Stmt := top 6
abbrev N_f_halves : List Str := ["value"]
abbrev P_f_halves : List Str := ["value"]
theorem sc_f_halves : FnScope N_f_halves P_f_halves (defScope s_f_halves) := ⟨rfl, rfl, rfl, by decide +kernel, rfl, by decide +kernel, by decide +kernel⟩
abbrev s_m_Ratio_init : Stmt := inClass (top 7) 0
abbrev N_m_Ratio_init : List Str := ["self", "top", "bottom", "divisor"]
abbrev P_m_Ratio_init : List Str := ["self", "top", "bottom"]
theorem sc_m_Ratio_init : FnScope N_m_Ratio_init P_m_Ratio_init (defScope s_m_Ratio_init) := ⟨rfl, rfl, rfl, by decide +kernel, rfl, by decide +kernel, by decide +kernel⟩
abbrev s_m_Ratio_add : Stmt := inClass (top 7) 1
abbrev N_m_Ratio_add : List Str := ["self", "other", "top", "bottom"]
abbrev P_m_Ratio_add : List Str := ["self", "other"]
theorem sc_m_Ratio_add : FnScope N_m_Ratio_add P_m_Ratio_add (defScope s_m_Ratio_add) := ⟨rfl, rfl, rfl, by decide +kernel, rfl, by decide +kernel, by decide +kernel⟩
abbrev s_m_Ratio_radd : Stmt := inClass (top 7) 2
abbrev N_m_Ratio_radd : List Str := ["self", "other"]
abbrev P_m_Ratio_radd : List Str := ["self", "other"]
theorem sc_m_Ratio_radd : FnScope N_m_Ratio_radd P_m_Ratio_radd (defScope s_m_Ratio_radd) := ⟨rfl, rfl, rfl, by decide +kernel, rfl, by decide +kernel, by decide +kernel⟩
abbrev s_m_Ratio_sub : Stmt := inClass (top 7) 3
abbrev N_m_Ratio_sub : List Str := ["self", "other", "top", "bottom"]
abbrev P_m_Ratio_sub : List Str := ["self", "other"]
theorem sc_m_Ratio_sub : FnScope N_m_Ratio_sub P_m_Ratio_sub (defScope s_m_Ratio_sub) := ⟨rfl, rfl, rfl, by decide +kernel, rfl, by decide +kernel, by decide +kernel⟩
abbrev s_m_Ratio_rsub : Stmt := inClass (top 7) 4
abbrev N_m_Ratio_rsub : List Str := ["self", "other"]
abbrev P_m_Ratio_rsub : List Str := ["self", "other"]
theorem sc_m_Ratio_rsub : FnScope N_m_Ratio_rsub P_m_Ratio_rsub (defScope s_m_Ratio_rsub) := ⟨rfl, rfl, rfl, by decide +kernel, rfl, by decide +kernel, by decide +kernel⟩
abbrev s_m_Ratio_mul : Stmt := inClass (top 7) 5
abbrev N_m_Ratio_mul : List Str := ["self", "other", "top", "bottom"]
abbrev P_m_Ratio_mul : List Str := ["self", "other"]
theorem sc_m_Ratio_mul : FnScope N_m_Ratio_mul P_m_Ratio_mul (defScope s_m_Ratio_mul) := ⟨rfl, rfl, rfl, by decide +kernel, rfl, by decide +kernel, by decide +kernel⟩
abbrev s_m_Ratio_rmul : Stmt := inClass (top 7) 6
abbrev N_m_Ratio_rmul : List Str := ["self", "other"]
abbrev P_m_Ratio_rmul : List Str := ["self", "other"]
theorem sc_m_Ratio_rmul : FnScope N_m_Ratio_rmul P_m_Ratio_rmul (defScope s_m_Ratio_rmul) := ⟨rfl, rfl, rfl, by decide +kernel, rfl, by decide +kernel, by decide +kernel⟩
abbrev s_m_Ratio_neg : Stmt := inClass (top 7) 7
abbrev N_m_Ratio_neg : List Str := ["self"]
abbrev P_m_Ratio_neg : List Str := ["self"]
theorem sc_m_Ratio_neg : FnScope N_m_Ratio_neg P_m_Ratio_neg (defScope s_m_Ratio_neg) := ⟨rfl, rfl, rfl, by decide +kernel, rfl, by decide +kernel, by decide +kernel⟩
abbrev s_m_Ratio_abs : Stmt := inClass (top 7) 8
abbrev N_m_Ratio_abs : List Str := ["self"]
abbrev P_m_Ratio_abs : List Str := ["self"]
theorem sc_m_Ratio_abs : FnScope N_m_Ratio_abs P_m_Ratio_abs (defScope s_m_Ratio_abs) := ⟨rfl, rfl, rfl, by decide +kernel, rfl, by decide +kernel, by decide +kernel⟩
abbrev s_m_Ratio_over : Stmt := inClass (top 7) 9
abbrev N_m_Ratio_over : List Str := ["self", "other", "top", "bottom"]
abbrev P_m_Ratio_over : List Str := ["self", "other"]
theorem sc_m_Ratio_over : FnScope N_m_Ratio_over P_m_Ratio_over (defScope s_m_Ratio_over) := ⟨rfl, rfl, rfl, by decide +kernel, rfl, by decide +kernel, by decide +kernel⟩
abbrev s_l_bag : Stmt := top 9
abbrev N_l_bag : List Str := ["_law_script"]
abbrev P_l_bag : List Str := ["_law_script"]
theorem sc_l_bag : FnScope N_l_bag P_l_bag (defScope s_l_bag) := ⟨rfl, rfl, rfl, by decide +kernel, rfl, by decide +kernel, by decide +kernel⟩
abbrev s_l_draw : Stmt := top 10
abbrev N_l_draw : List Str := ["_law_bag_here", "_law_size", "_law_cell", "_law_digit", "_law_mixed_here"]
abbrev P_l_draw : List Str := ["_law_bag_here", "_law_size"]
theorem sc_l_draw : FnScope N_l_draw P_l_draw (defScope s_l_draw) := ⟨rfl, rfl, rfl, by decide +kernel, rfl, by decide +kernel, by decide +kernel⟩
abbrev s_l_mixed : Stmt := top 11
abbrev N_l_mixed : List Str := ["_law_bag_here", "_law_items", "_law_left", "_law_found", "_law_k"]
abbrev P_l_mixed : List Str := ["_law_bag_here", "_law_items"]
theorem sc_l_mixed : FnScope N_l_mixed P_l_mixed (defScope s_l_mixed) := ⟨rfl, rfl, rfl, by decide +kernel, rfl, by decide +kernel, by decide +kernel⟩
abbrev s_l_integer : Stmt := top 12
abbrev N_l_integer : List Str := ["_law_bag_here", "_law_choice", "_law_size", "_law_value"]
abbrev P_l_integer : List Str := ["_law_bag_here"]
theorem sc_l_integer : FnScope N_l_integer P_l_integer (defScope s_l_integer) := ⟨rfl, rfl, rfl, by decide +kernel, rfl, by decide +kernel, by decide +kernel⟩
abbrev s_l_divisor : Stmt := top 13
abbrev N_l_divisor : List Str := ["_law_one", "_law_other", "_law_rest"]
abbrev P_l_divisor : List Str := ["_law_one", "_law_other"]
theorem sc_l_divisor : FnScope N_l_divisor P_l_divisor (defScope s_l_divisor) := ⟨rfl, rfl, rfl, by decide +kernel, rfl, by decide +kernel, by decide +kernel⟩
abbrev s_l_lowest : Stmt := top 14
abbrev N_l_lowest : List Str := ["_law_top", "_law_bottom", "_law_divisor_here"]
abbrev P_l_lowest : List Str := ["_law_top", "_law_bottom"]
theorem sc_l_lowest : FnScope N_l_lowest P_l_lowest (defScope s_l_lowest) := ⟨rfl, rfl, rfl, by decide +kernel, rfl, by decide +kernel, by decide +kernel⟩
abbrev s_l_quotient : Stmt := top 15
abbrev N_l_quotient : List Str := ["_law_way", "_law_a", "_law_b", "e"]
abbrev P_l_quotient : List Str := ["_law_way", "_law_a", "_law_b"]
theorem sc_l_quotient : FnScope N_l_quotient P_l_quotient (defScope s_l_quotient) := ⟨rfl, rfl, rfl, by decide +kernel, rfl, by decide +kernel, by decide +kernel⟩
abbrev s_l_due : Stmt := top 16
abbrev N_l_due : List Str := ["_law_way", "_law_a", "_law_b"]
abbrev P_l_due : List Str := ["_law_way", "_law_a", "_law_b"]
theorem sc_l_due : FnScope N_l_due P_l_due (defScope s_l_due) := ⟨rfl, rfl, rfl, by decide +kernel, rfl, by decide +kernel, by decide +kernel⟩
abbrev s_f_law : Stmt := top 17
abbrev N_f_law : List Str := ["_law_script", "_law_bag_here", "_law_zero", "_law_a", "_law_b", "_law_way", "_law_told", "_law_top", "_law_bottom"]
abbrev P_f_law : List Str := ["_law_script"]
theorem sc_f_law : FnScope N_f_law P_f_law (defScope s_f_law) := ⟨rfl, rfl, rfl, by decide +kernel, rfl, by decide +kernel, by decide +kernel⟩
structure Ad where
  CostError : Addr
  NoRatio : Addr
  Ratio : Addr
  f_common_divisor : Addr
  fd_f_common_divisor : FuncData
  f_halves : Addr
  fd_f_halves : FuncData
  m_Ratio_init : Addr
  fd_m_Ratio_init : FuncData
  m_Ratio_add : Addr
  fd_m_Ratio_add : FuncData
  m_Ratio_radd : Addr
  fd_m_Ratio_radd : FuncData
  m_Ratio_sub : Addr
  fd_m_Ratio_sub : FuncData
  m_Ratio_rsub : Addr
  fd_m_Ratio_rsub : FuncData
  m_Ratio_mul : Addr
  fd_m_Ratio_mul : FuncData
  m_Ratio_rmul : Addr
  fd_m_Ratio_rmul : FuncData
  m_Ratio_neg : Addr
  fd_m_Ratio_neg : FuncData
  m_Ratio_abs : Addr
  fd_m_Ratio_abs : FuncData
  m_Ratio_over : Addr
  fd_m_Ratio_over : FuncData
  l_bag : Addr
  fd_l_bag : FuncData
  l_draw : Addr
  fd_l_draw : FuncData
  l_mixed : Addr
  fd_l_mixed : FuncData
  l_integer : Addr
  fd_l_integer : FuncData
  l_divisor : Addr
  fd_l_divisor : FuncData
  l_lowest : Addr
  fd_l_lowest : FuncData
  l_quotient : Addr
  fd_l_quotient : FuncData
  l_due : Addr
  fd_l_due : FuncData
  f_law : Addr
  fd_f_law : FuncData
  ds_m_Ratio_init : List Value
structure Txt (K : PySem.W.Frag) (mg : Str → Option Value) (A : Ad) : Prop where
  z_ValueError : mg "ValueError" = none
  z_abs : mg "abs" = none
  z_int : mg "int" = none
  z_isinstance : mg "isinstance" = none
  z_len : mg "len" = none
  z_list : mg "list" = none
  z_range : mg "range" = none
  g_CostError : mg "CostError" = some (.ref A.CostError)
  ek_CostError : PySem.W.keepIn K (.ref A.CostError) = true
  eb_CostError : PySem.W.subIn K (.ref A.CostError) (.type "BaseException") = some true
  et_CostError : PySem.W.typeIn K (.ref A.CostError) = some (.type "type")
  eh_CostError : PySem.W.hasDictIn K A.CostError = true
  eic_CostError : PySem.W.isClsIn K A.CostError = true
  es_CostError : PySem.W.subIn K (.ref A.CostError) (.ref A.CostError) = some true
  g_NoRatio : mg "NoRatio" = some (.ref A.NoRatio)
  ek_NoRatio : PySem.W.keepIn K (.ref A.NoRatio) = true
  eb_NoRatio : PySem.W.subIn K (.ref A.NoRatio) (.type "BaseException") = some true
  et_NoRatio : PySem.W.typeIn K (.ref A.NoRatio) = some (.type "type")
  eh_NoRatio : PySem.W.hasDictIn K A.NoRatio = true
  eic_NoRatio : PySem.W.isClsIn K A.NoRatio = true
  es_NoRatio : PySem.W.subIn K (.ref A.NoRatio) (.ref A.NoRatio) = some true
  ex_NoRatio : PySem.W.excIn K A.NoRatio [.type "ValueError", .type "Exception", .type "BaseException", .type "object"] "ValueError.__new__" = true
  xg_NoRatio : PySem.W.findIn K (.ref A.NoRatio) "__getattribute__" = some (some (.builtin "BaseException.__getattribute__"))
  xk_NoRatio : PySem.W.findIn K (.ref A.NoRatio) "__getattr__" = some none
  xa_NoRatio : PySem.W.findIn K (.ref A.NoRatio) "__class__" = some (some (.builtin "object.__class__"))
  xn_NoRatio : PySem.W.specialIn K (.builtin "object.__class__") "__get__" = some (some (.builtin "getset_descriptor.__get__"))
  xt_NoRatio : PySem.W.takesIn K (.builtin "object.__class__") = some true
  xm_NoRatio : PySem.W.mroIn K A.NoRatio (.type "object") = some true
  xc_NoRatio : PySem.W.kitOne K (.ref A.NoRatio) (.ref A.CostError) = some true
  xv_NoRatio : PySem.W.kitOne K (.ref A.NoRatio) (.type "ValueError") = some true
  g_Ratio : mg "Ratio" = some (.ref A.Ratio)
  cl_Ratio : Cls K A.Ratio
  n_Ratio_top : NoAttr K A.Ratio "top"
  n_Ratio_bottom : NoAttr K A.Ratio "bottom"
  mk_Ratio : Mk K A.Ratio A.m_Ratio_init
  m_Ratio___add__ : Meth K A.Ratio "__add__" A.m_Ratio_add
  m_Ratio___radd__ : Meth K A.Ratio "__radd__" A.m_Ratio_radd
  m_Ratio___sub__ : Meth K A.Ratio "__sub__" A.m_Ratio_sub
  m_Ratio___rsub__ : Meth K A.Ratio "__rsub__" A.m_Ratio_rsub
  m_Ratio___mul__ : Meth K A.Ratio "__mul__" A.m_Ratio_mul
  m_Ratio___rmul__ : Meth K A.Ratio "__rmul__" A.m_Ratio_rmul
  m_Ratio___neg__ : Meth K A.Ratio "__neg__" A.m_Ratio_neg
  m_Ratio___abs__ : Meth K A.Ratio "__abs__" A.m_Ratio_abs
  m_Ratio_over : Meth K A.Ratio "over" A.m_Ratio_over
  tc_Ratio : PySem.W.findIn K (.ref A.Ratio) "__class__" = some (some (.builtin "object.__class__"))
  tn_Ratio : PySem.W.specialIn K (.builtin "object.__class__") "__get__" = some (some (.builtin "getset_descriptor.__get__"))
  tk_Ratio : PySem.W.takesIn K (.builtin "object.__class__") = some true
  tm_Ratio : PySem.W.mroIn K A.Ratio (.type "object") = some true
  ki_Ratio : PySem.W.kitOne K (.ref A.Ratio) (.type "int") = some false
  F_f_common_divisor : Fun K "common_divisor" "common_divisor" s_f_common_divisor A.f_common_divisor A.fd_f_common_divisor
  b_f_common_divisor : Binds K A.fd_f_common_divisor P_f_common_divisor []
  g_common_divisor : mg "common_divisor" = some (.ref A.f_common_divisor)
  F_f_halves : Fun K "halves" "halves" s_f_halves A.f_halves A.fd_f_halves
  b_f_halves : Binds K A.fd_f_halves P_f_halves []
  g_halves : mg "halves" = some (.ref A.f_halves)
  F_m_Ratio_init : FunD K "__init__" "Ratio.__init__" (defArgs s_m_Ratio_init) (defBody s_m_Ratio_init) (defScope s_m_Ratio_init) [.int 1] [] A.m_Ratio_init A.fd_m_Ratio_init
  b_m_Ratio_init : Binds K A.fd_m_Ratio_init P_m_Ratio_init []
  dv_m_Ratio_init : Vals [.int 1] A.ds_m_Ratio_init
  b_m_Ratio_init_d1 : Binds K A.fd_m_Ratio_init P_m_Ratio_init A.ds_m_Ratio_init
  F_m_Ratio_add : Fun K "__add__" "Ratio.__add__" s_m_Ratio_add A.m_Ratio_add A.fd_m_Ratio_add
  b_m_Ratio_add : Binds K A.fd_m_Ratio_add P_m_Ratio_add []
  F_m_Ratio_radd : Fun K "__radd__" "Ratio.__radd__" s_m_Ratio_radd A.m_Ratio_radd A.fd_m_Ratio_radd
  b_m_Ratio_radd : Binds K A.fd_m_Ratio_radd P_m_Ratio_radd []
  F_m_Ratio_sub : Fun K "__sub__" "Ratio.__sub__" s_m_Ratio_sub A.m_Ratio_sub A.fd_m_Ratio_sub
  b_m_Ratio_sub : Binds K A.fd_m_Ratio_sub P_m_Ratio_sub []
  F_m_Ratio_rsub : Fun K "__rsub__" "Ratio.__rsub__" s_m_Ratio_rsub A.m_Ratio_rsub A.fd_m_Ratio_rsub
  b_m_Ratio_rsub : Binds K A.fd_m_Ratio_rsub P_m_Ratio_rsub []
  F_m_Ratio_mul : Fun K "__mul__" "Ratio.__mul__" s_m_Ratio_mul A.m_Ratio_mul A.fd_m_Ratio_mul
  b_m_Ratio_mul : Binds K A.fd_m_Ratio_mul P_m_Ratio_mul []
  F_m_Ratio_rmul : Fun K "__rmul__" "Ratio.__rmul__" s_m_Ratio_rmul A.m_Ratio_rmul A.fd_m_Ratio_rmul
  b_m_Ratio_rmul : Binds K A.fd_m_Ratio_rmul P_m_Ratio_rmul []
  F_m_Ratio_neg : Fun K "__neg__" "Ratio.__neg__" s_m_Ratio_neg A.m_Ratio_neg A.fd_m_Ratio_neg
  b_m_Ratio_neg : Binds K A.fd_m_Ratio_neg P_m_Ratio_neg []
  F_m_Ratio_abs : Fun K "__abs__" "Ratio.__abs__" s_m_Ratio_abs A.m_Ratio_abs A.fd_m_Ratio_abs
  b_m_Ratio_abs : Binds K A.fd_m_Ratio_abs P_m_Ratio_abs []
  F_m_Ratio_over : Fun K "over" "Ratio.over" s_m_Ratio_over A.m_Ratio_over A.fd_m_Ratio_over
  b_m_Ratio_over : Binds K A.fd_m_Ratio_over P_m_Ratio_over []
  F_l_bag : Fun K "_law_bag" "_law_bag" s_l_bag A.l_bag A.fd_l_bag
  b_l_bag : Binds K A.fd_l_bag P_l_bag []
  g__law_bag : mg "_law_bag" = some (.ref A.l_bag)
  F_l_draw : Fun K "_law_draw" "_law_draw" s_l_draw A.l_draw A.fd_l_draw
  b_l_draw : Binds K A.fd_l_draw P_l_draw []
  g__law_draw : mg "_law_draw" = some (.ref A.l_draw)
  F_l_mixed : Fun K "_law_mixed" "_law_mixed" s_l_mixed A.l_mixed A.fd_l_mixed
  b_l_mixed : Binds K A.fd_l_mixed P_l_mixed []
  g__law_mixed : mg "_law_mixed" = some (.ref A.l_mixed)
  F_l_integer : Fun K "_law_integer" "_law_integer" s_l_integer A.l_integer A.fd_l_integer
  b_l_integer : Binds K A.fd_l_integer P_l_integer []
  g__law_integer : mg "_law_integer" = some (.ref A.l_integer)
  F_l_divisor : Fun K "_law_divisor" "_law_divisor" s_l_divisor A.l_divisor A.fd_l_divisor
  b_l_divisor : Binds K A.fd_l_divisor P_l_divisor []
  g__law_divisor : mg "_law_divisor" = some (.ref A.l_divisor)
  F_l_lowest : Fun K "_law_lowest" "_law_lowest" s_l_lowest A.l_lowest A.fd_l_lowest
  b_l_lowest : Binds K A.fd_l_lowest P_l_lowest []
  g__law_lowest : mg "_law_lowest" = some (.ref A.l_lowest)
  F_l_quotient : Fun K "_law_quotient" "_law_quotient" s_l_quotient A.l_quotient A.fd_l_quotient
  b_l_quotient : Binds K A.fd_l_quotient P_l_quotient []
  g__law_quotient : mg "_law_quotient" = some (.ref A.l_quotient)
  F_l_due : Fun K "_law_due" "_law_due" s_l_due A.l_due A.fd_l_due
  b_l_due : Binds K A.fd_l_due P_l_due []
  g__law_due : mg "_law_due" = some (.ref A.l_due)
  F_f_law : Fun K "law" "law" s_f_law A.f_law A.fd_f_law
  b_f_law : Binds K A.fd_f_law P_f_law []
  g_law : mg "law" = some (.ref A.f_law)
/-- a word that the steps don't open -/
structure Wd (p : Prop) : Prop where
  ok : p
section
variable {X : Cx}
def tG (t : TS) : TS := fun D σ H => Wd (t D σ H)
def tGE (t : TE) : TE := fun σ H Q => Wd (t σ H Q)
theorem ps_g {st : Stmt} {t : TS} (h : PS X st t) : PS X st (tG t) := ⟨fun pins s σ H D I hw => h.run pins s σ H D I hw.ok⟩
theorem pss_g {st : List Stmt} {t : TS} (h : PSs X st t) : PSs X st (tG t) := ⟨fun pins s σ H D I hw => h.run pins s σ H D I hw.ok⟩
theorem pe_g {e : Expr} {t : TE} (h : PE X e t) : PE X e (tGE t) := ⟨fun pins s σ H Q I hw => h.run pins s σ H Q I hw.ok⟩
end
theorem if_int {i j : Int} {A B : Prop} (h1 : i = j → A) (h2 : i ≠ j → B) : if decide (V.int i = V.int j) = true then A else B := by
  by_cases e : i = j
  · rw [if_pos (decide_eq_true (congrArg V.int e))]
    exact h1 e
  · rw [if_neg fun z => e (V.int.inj (of_decide_eq_true z))]
    exact h2 e
theorem if_intN {i j : Int} {A B : Prop} (h1 : i ≠ j → A) (h2 : i = j → B) : if (!decide (V.int i = V.int j)) = true then A else B := by
  by_cases e : i = j
  · rw [decide_eq_true (congrArg V.int e)]
    exact iteF (h2 e)
  · rw [decide_eq_false fun z => e (V.int.inj z)]
    exact iteT (h1 e)
theorem if_dec {p A B : Prop} [Decidable p] (h1 : p → A) (h2 : ¬ p → B) : if decide p = true then A else B := by
  by_cases e : p
  · rw [if_pos (decide_eq_true e)]
    exact h1 e
  · rw [if_neg fun z => e (of_decide_eq_true z)]
    exact h2 e
theorem if_bl {b : Bool} {A B : Prop} (h1 : b = true → A) (h2 : b = false → B) : if b = true then A else B := by
  cases b with
  | true => exact h1 rfl
  | false => exact iteF (h2 rfl)
/-- all but what stands at g is kept -/
def Kp (g : Addr) (H H' : Hp) : Prop := ∀ b o, H b = some o → b ≠ g → H' b = some o
theorem Kp.refl (g : Addr) (H : Hp) : Kp g H H := fun _ _ h _ => h
theorem Kp.trans {g : Addr} {H H1 H2 : Hp} (a : Kp g H H1) (b : Kp g H1 H2) : Kp g H H2 := fun c o h n => b c o (a c o h n) n
theorem Kp.up {g : Addr} {H H' : Hp} {o : HO} (k : Kp g H H') : Kp g H (upd H' g o) := fun b u e n => by
  rw [upd_ne n]
  exact k b u e n

/-! ### the bag of draws -/
structure Bag (H : Hp) (g l : Addr) : Prop where
  ex : ∃ (i r s c : Int) (ns : List Int), H g = some (.lst [.ref l, .int i, .int r, .int s, .int c]) ∧ H l = some (.lst (ns.map V.int)) ∧ 0 ≤ i
def spDraw : Sp := fun vs H Q _ => ∃ (g l : Addr) (z : Int), vs = [.ref g, .int z] ∧ Bag H g l ∧ 0 < z ∧ z.natAbs < 2 ^ 9000 ∧
  ∀ (n : Int) (H' : Hp), 0 ≤ n → n < z → Bag H' g l → Kp g H H' → Q (.int n) H'
theorem at_ints {ns : List Int} {i : Int} (h0 : 0 ≤ i) (h1 : i < (ns.length : Int)) : ∃ n, atI (ns.map V.int) i = some (.int n) := by
  obtain ⟨j, rfl⟩ := Int.eq_ofNat_of_zero_le h0
  have hj : j < ns.length := by omega
  exact ⟨ns[j], atI_nat (by rw [List.getElem?_map, List.getElem?_eq_getElem hj]; rfl)⟩
theorem cmul_r {i j : Int} (h : -(2 ^ 64) < j ∧ j < 2 ^ 64) : CMul i j := .inr h
theorem cmul_l {i j : Int} (h : -(2 ^ 64) < i ∧ i < 2 ^ 64) : CMul i j := .inl h
theorem cpow_of {i j : Int} (h1 : 0 ≤ j ∧ j ≤ 1000000) (h2 : -(2 ^ 63) < i ∧ i < 2 ^ 63) : CPow i j := ⟨h1.1, h1.2, by omega⟩
section
variable {P : Program} {w : World} {K : PySem.W.Frag} {mg : Str → Option Value} {base : Heap} {A : Ad}
theorem ok_l_draw (T : Txt K mg A) : FnOk P w K mg base CX0 1 A.l_draw A.fd_l_draw P_l_draw spDraw := by
  refine T.F_l_draw.ok sc_l_draw (fun vs H Q E h => ?_) (fun cdv Ar outer s H vs Q E hr h => ?_)
  · obtain ⟨g, l, z, rfl, _⟩ := h
    rfl
  · obtain ⟨g, l, z, rfl, ⟨i, r, sd, c, ns, hg, hl, hi⟩, hz, hz2, k⟩ := h
    have nlg : l ≠ g := ne_of hl hg (by intro q; cases ns <;> cases q)
    refine ⟨_, (pss_cons (ps_asg (pe_op op_add (pe_ix ix_list (pv 0) pe_int (fun _ _ => rfl)) pe_int) (pg_sub (pv 0) pe_int set_list))
      (pss_g (Evl.pss_cut (ps_if (PW.pt (pw_and (pt_cmpR op_eq (pe_ix ix_list (pv 0) pe_int (fun _ _ => rfl)) pe_int (nomark _)) (pw_and1 (pt_cmpR op_lt (pe_ix ix_list (pv 0) pe_int (fun _ _ => rfl)) (pe_callB call_len_seq (by rfl) T.z_len (by decide +kernel) (pa_cons (pe_ix ix_list (pv 0) pe_int (fun _ _ => rfl)) pa_nil)) (nomark _))))) (pss_cons (ps_set (i := 2) sc_l_draw.nd rfl (Or.inl rfl) (pe_ix ix_list (pe_ix ix_list (pv 0) pe_int (fun _ _ => rfl)) (pe_ix ix_list (pv 0) pe_int (fun _ _ => rfl)) (fun _ _ => rfl)))
      (pss_cons (ps_asg (pe_op op_add (pe_ix ix_list (pv 0) pe_int (fun _ _ => rfl)) pe_int) (pg_sub (pv 0) pe_int set_list))
      (pss_cons (ps_asg (pe_op op_mul (pe_op op_add (pe_op op_mul pe_int (pe_callB call_abs (by rfl) T.z_abs (by decide +kernel) (pa_cons (pv 2) pa_nil))) (pe_callTy call_int1 (by rfl) T.z_int (by decide +kernel) (pa_cons (pe_cmpR op_lt (pv 2) pe_int (nomark _)) pa_nil))) (pe_callTy call_int1 (by rfl) T.z_int (by decide +kernel) (pa_cons (pe_cmpR op_ge (pe_callB call_abs (by rfl) T.z_abs (by decide +kernel) (pa_cons (pv 2) pa_nil)) (pe_op op_pow pe_int pe_int) (nomark _)) pa_nil))) (pg_sub (pv 0) pe_int set_list))
      (pss_one (ps_asg (pe_op op_mod (pe_callTy call_int1 (by rfl) T.z_int (by decide +kernel) (pa_cons (pe_op op_add (pe_op op_add (pe_op op_mul (pe_ix ix_list (pv 0) pe_int (fun _ _ => rfl)) pe_int) (pe_op op_mul (pv 2) pe_int)) pe_int) pa_nil)) pe_int) (pg_sub (pv 0) pe_int set_list)))))) pss_nil)
      (pss_cons (ps_set (i := 3) sc_l_draw.nd rfl (Or.inl rfl) (pe_op op_mod (pe_callTy call_int1 (by rfl) T.z_int (by decide +kernel) (pa_cons (pe_ix ix_list (pv 0) pe_int (fun _ _ => rfl)) pa_nil)) (pv 1)))
      (pss_cons (ps_if (pt_cmpR op_gt (pe_ix ix_list (pv 0) pe_int (fun _ _ => rfl)) pe_int (nomark _)) (pss_cons (ps_asg (pe_op op_fdivW (pe_ix ix_list (pv 0) pe_int (fun _ _ => rfl)) (pv 1)) (pg_sub (pv 0) pe_int set_list))
      (pss_one (ps_ret (pv 3)))) pss_nil)
      (pss_cons (ps_set (i := 4) sc_l_draw.nd rfl (Or.inl rfl) (pe_op op_mod (pe_callTy call_int1 (by rfl) T.z_int (by decide +kernel) (pa_cons (pe_op op_add (pe_ix ix_list (pv 0) pe_int (fun _ _ => rfl)) (pe_op op_mul (pe_ix ix_list (pv 0) pe_int (fun _ _ => rfl)) pe_int)) pa_nil)) pe_int))
      (pss_cons (ps_set (i := 4) sc_l_draw.nd rfl (Or.inl rfl) (pe_op op_mod (pe_callTy call_int1 (by rfl) T.z_int (by decide +kernel) (pa_cons (pe_op op_add (pe_op op_add (pe_op op_pow (pv 4) pe_int) (pe_op op_mul (pe_ix ix_list (pv 0) pe_int (fun _ _ => rfl)) pe_int)) pe_int) pa_nil)) pe_int))
      (pss_one (ps_ret (pe_op op_mod (pe_op op_fdiv (pe_op op_mod (pe_callTy call_int1 (by rfl) T.z_int (by decide +kernel) (pa_cons (pe_op op_pow (pv 4) pe_int) pa_nil)) pe_int) pe_int) (pv 1))))))))))), ?_⟩
    refine ⟨_, rfl, g, _, _, _, rfl, rfl, SqL.of hg, rfl, _, _, rfl, rfl, _, rfl, g, _, _, _, rfl, rfl, hg, rfl, ?_⟩
    refine ⟨⟨fun σ' H' => Wd (∃ (i r s c : Int) (v : Option V), σ' = [some (.ref g), some (.int z), v, none, none] ∧ 0 ≤ i ∧ H' g = some (.lst [.ref l, .int i, .int r, .int s, .int c]) ∧ H' l = some (.lst (ns.map V.int)) ∧ Kp g H H'), ?_, ?_⟩⟩
    · walk_at "go"
      refine if_int (fun e0 => ?_) (fun e0 => ?_)
      · walk_at "go"
        refine if_dec (fun e1 => ?_) (fun e1 => ?_)
        · obtain ⟨n, hn⟩ := at_ints (ns := ns) hi (by simpa using e1)
          walk_at "go"
          exact ⟨i + 1, _, _, c + 1, _, rfl, by omega, upd_same, by walk_at "at", (((Kp.refl g H).up.up.up.up))⟩
        · exact ⟨i, r, sd, c + 1, none, rfl, hi, upd_same, by walk_at "at", (Kp.refl g H).up⟩
      · refine iteF ?_
        exact ⟨i, r, sd, c + 1, none, rfl, hi, upd_same, by walk_at "at", (Kp.refl g H).up⟩
    · rintro σ' H' ⟨i, r, s, c, v, rfl, hi, hg, hl, kp⟩
      walk_at "go"
      refine if_dec (fun e1 => ?_) (fun e1 => ?_)
      · walk_at "go"
        exact k _ _ (Int.emod_nonneg _ (by omega)) (Int.emod_lt_of_pos _ hz) ⟨i, _, s, c, ns, upd_same, by walk_at "at", hi⟩ kp.up
      · walk_at "go"
        exact k _ _ (Int.emod_nonneg _ (by omega)) (Int.emod_lt_of_pos _ hz) ⟨i, r, s, c, ns, hg, hl, hi⟩ kp
end

/-! ### calls in the body of a try: what they raise is wished for at the slots as they stand -/
section
open PySem.Spec PyProof.Rows
variable {X : Cx} {CX : CXT} {k : Nat} {f C : Addr} {fd : FuncData} {ps : List Str} {sp : Sp} {dvs : List V} {ds : List Value} {E : L2.St → XK} {x m : Str} {p pos apos : Pos} {e o : Expr} {es : List Expr} {ta : TE} {t : TA}
theorem run_mkS {pins : List (Addr × Obj)} {σ : L2.St} {H : Hp} {s : Shared} {Q : VK} {us : List Value} {vs : List V} (M : Mk X.K C f) (F : FnOk X.prog X.w X.K X.mg X.base CX k f fd ps sp)
    (hr : Room (k + 1) X.A) (hb : Binds X.K fd ps ds) (hd : Vals dvs ds) (hx : PassesAt CX X σ (E σ)) (I : Inv X pins σ H s) (r : Vals vs us)
    (h : ∀ x dx, H x = none → H dx = none → dx ≠ x → sp (.ref x :: (vs ++ dvs)) (upd (upd H dx (.own x)) x (.ins C dx [])) (fun v H2 => v = .non ∧ Q (.ref x) H2) (E σ)) :
    wpAny (model X.prog X.w) X.A (call (.ref C) us) (EP X pins σ Q) X.xe s := by
  have a1 := h (s.heap.objs.size + 1) s.heap.objs.size (I.hok.fresh (Nat.le_succ _)) (I.hok.fresh (Nat.le_refl _)) (Nat.ne_of_lt (Nat.lt_succ_self _))
  have J := Inv.made (C := C) I
  have a2 : Vals (V.ref (s.heap.objs.size + 1) :: (vs ++ dvs)) (Value.ref (s.heap.objs.size + 1) :: (us ++ ds)) := .cons rfl (r.append hd)
  have a3 : (Value.ref (s.heap.objs.size + 1) :: us ++ ds).length = ps.length := by
    have z := a2.length
    rw [F.len _ _ _ _ a1] at z
    exact z.symm
  refine wpAny_call (make_map (f := f) I.kIn M.makes M.init (beq_iff_eq.mp M.fn) (codeAny_mono (F.run _ X.stack _ _ ⟨Value.ref (s.heap.objs.size + 1) :: us, []⟩
    (Value.ref (s.heap.objs.size + 1) :: (us ++ ds)) _ _ (E σ) (hr.make C us []) (J.env0.make C us []) (hb _ (Value.ref (s.heap.objs.size + 1) :: us) J.kIn a3) a2 a1) fun r s' z => ?_))
  cases r with
  | error u => exact hx pins _ _ u s' J z
  | ok fl =>
    cases fl with
    | ret u =>
      obtain ⟨v, H', J3, rv, ev, q3⟩ := J.after z
      subst ev
      exact ⟨rv, V.ref (s.heap.objs.size + 1), H', J3, rfl, q3⟩
    | next => exact z.elim
    | brk => exact z.elim
    | cont => exact z.elim
def tMakeS (C : Addr) (sp : Sp) (dvs : List V) (E : L2.St → XK) (t : TA) : TE := fun σ H Q => t σ H fun vs H1 => ∀ x dx, H1 x = none → H1 dx = none → dx ≠ x →
  sp (.ref x :: (vs ++ dvs)) (upd (upd H1 dx (.own x)) x (.ins C dx [])) (fun v H2 => v = .non ∧ Q (.ref x) H2) (E σ)
theorem pe_makeS (M : Mk X.K C f) (F : FnOk X.prog X.w X.K X.mg X.base CX k f fd ps sp) (hr : Room (k + 1) X.A) (hg : Gl X x) (hm : X.mg x = some (.ref C)) (hb : Binds X.K fd ps ds) (hd : Vals dvs ds) (hx : ∀ σ, PassesAt CX X σ (E σ))
    (ha : PA X (e :: es) t) (hdb : (x == ("__debug__" : Str)) = false := by decide) (he : starEach (e :: es) X.env = (false, eval e X.env) :: starEach es X.env := by rfl)
    (hpl : (backTo pos (starEach es X.env)).any (·.1) = false := by rfl) : PE X (.Call (.Name x p) (e :: es) [] pos) (tMakeS C sp dvs E t) := ⟨fun pins s σ H Q I h =>
  wpAny_Call_Name_kw (ld_glob I hg hm (PySem.W.callWith_K (h₀ := X.base) I.ok.mod.kin M.kp (thn (ha.run pos pins s σ H _ I h) fun us s1 ⟨vs, H1, I1, r, q⟩ => ⟨I1.kIn, run_mkS M F hr hb hd (hx σ) I1 r q⟩) he hpl) hdb)⟩
def tMethS (C : Addr) (m : Str) (sp : Sp) (E : L2.St → XK) (ta : TE) (t : TA) : TE := fun σ H Q => ta σ H fun x H1 => ∃ a dx fs, x = .ref a ∧ H1 a = some (.ins C dx fs) ∧ fs.lookup m = none ∧
  t σ H1 fun vs H2 => sp (.ref a :: vs) H2 Q (E σ)
theorem pe_methA {pl : Sem Bool} (he : PE X o ta) (c : Cls X.K C) (hm : Meth X.K C m f) (F : FnOk X.prog X.w X.K X.mg X.base CX k f fd ps sp) (hr : Room k X.A) (hb : Binds X.K fd ps []) (hx : ∀ σ, PassesAt CX X σ (E σ)) (ha : PA X (e :: es) t)
    (hst : starEach (e :: es) X.env = (false, eval e X.env) :: starEach es X.env := by rfl) (hpl : (backTo pos (starEach es X.env)).any (·.1) = false := by rfl)
    (ht : eval (.Call (.Attribute o m apos) (e :: es) [] pos) X.env = (eval o X.env >>= fun ov => standAt apos.atName >>= fun _ => holding [ov] (getMethod ov m pl) >>= fun (f, first) =>
      callWith pos f first (backTo pos (starEach (e :: es) X.env)) (backToKw pos (keywordEach [] X.env))) := by rfl) :
    PE X (.Call (.Attribute o m apos) (e :: es) [] pos) (tMethS C m sp E ta t) := by
  refine ⟨fun pins s σ H Q I h => ?_⟩
  refine PySem.W.methodCall_KW (pl := pl) (thn (he.run pins s σ H _ I h) fun u s1 ⟨x, H1, I1, rx, a, dx, fs, ex, ea, l, q⟩ => ?_) ht
  cases ex
  obtain rfl : u = Value.ref a := rx
  exact getmeth_ok I1 ea c hm l (PySem.W.callWith_K (first := [.ref a]) (h₀ := X.base) I.ok.mod.kin hm.kp (thn (ha.run pos pins s1 σ H1 _ I1 q) fun us s2 ⟨vs, H2, I2, r, q2⟩ =>
    ⟨I2.kIn, run_fnS (E := E) (us := .ref a :: us) (vs := .ref a :: vs) F hr hb (hx σ) I2 (.cons rfl r) q2⟩) hst hpl)

def oe0 : Obj := { cls := .none, data := .fields #[] }
variable {n : Str} {c : Value} {i : Nat} {body suite : List Stmt} {b0 : Stmt} {np pos' : Pos} {Wout : WX}
  {tb : WX → List (Addr × Obj) → (Value → Shared → Prop) → TS} {ts : Addr → Obj → Value → Option Addr → List (Addr × Obj) → TS}
/-- try: .. except x as n: .., the readings of the body and of the suite free of what they can't hang on (both shown by rfl) -/
theorem ps_tryV (hs : X.stack = X.env :: X.outer) (hf : X.env.frame = some X.env.locals) (hN : X.N.Nodup) (hi : X.N[i]? = some n) (hln : X.env.kindOf n = some .local) (hc : Names X x c) (tk : Takes X Wout)
    (hb : ∀ (W : WX) (pn : List (Addr × Obj)) (xe : Value → Shared → Prop), Takes (X.tr pn xe) W → PassesOwn (model X.prog X.w) X.A X.env xe → PSs (X.tr pn xe) body (tb W pn xe))
    (hsu : ∀ (a : Addr) (oe : Obj) (cls : Value) (d : Option Addr) (pn : List (Addr × Obj)), Zc cls d oe → (∃ vs, oe.data = .fields vs) → PSs (X.suite a ((a, oe) :: pn)) (b0 :: suite) (ts a oe cls d pn))
    (e1 : ∀ W pn xe, tb W pn xe = tb W [] (fun _ _ => False)) (e2 : ∀ a oe cls d pn, ts a oe cls d pn = ts a oe0 cls d []) :
    PS X (.Try body [.ExceptHandler (some (.Name x np)) (some n) (b0 :: suite) pos'] [] [] pos) (fun D σ H => tb (wAs X.K c i (fun a cls d => ts a oe0 cls d []) Wout D) [] (fun _ _ => False) D σ H) :=
  ps_try_as (tb := fun W => tb W [] (fun _ _ => False)) (ts := fun a cls d => ts a oe0 cls d []) hs hf hN hi hln hc tk (fun W pn xe k po => by rw [← e1 W pn xe]; exact hb W pn xe k po)
    (fun a oe cls d pn z f => by rw [← e2 a oe cls d pn]; exact hsu a oe cls d pn z f)
/-- isinstance(e, C) of the error that the suite holds, one without a dict of its own -/
def rIsEV (K : PySem.W.Frag) (cls : Value) (d : Option Addr) (a : Addr) : List V → Hp → VK → Prop := fun xs H Q => ∃ (D : Addr) (c : V) (cv : Value) (b : Bool), cls = .ref D ∧ d = none ∧ ExcC K D ∧ xs = [.ref a, c] ∧ (∀ u, RelV c u → u = cv) ∧ PySem.W.kitOne K (.ref D) cv = some b ∧ Q (.bl b) H
theorem call_isEV {a : Addr} {oe : Obj} {cls : Value} {d : Option Addr} {pn : List (Addr × Obj)} (hz : Zc cls d oe) (hf : ∃ vs, oe.data = .fields vs) : CallR (X.suite a ((a, oe) :: pn)) (.builtin "isinstance") (rIsEV X.K cls d a) := by
  intro pins s σ H xs us Q I r h
  obtain ⟨D, c, cv, b, rfl, rfl, C, h⟩ := h
  exact call_isE C hz hf pins s σ H xs us Q I r ⟨c, cv, b, h⟩
end

/-! ### ratios: plain mathematics -/
def iabs (n : Int) : Int := if n < 0 then -n else n
theorem iabs_eq (n : Int) : iabs n = (n.natAbs : Int) := by
  unfold iabs
  split <;> omega
theorem gcd_turn (a b : Nat) : Nat.gcd b (a % b) = Nat.gcd a b := by
  rw [Nat.gcd_comm b (a % b), ← Nat.gcd_rec, Nat.gcd_comm]
theorem low_num {t b s : Int} (hb : b ≠ 0) (hs : s = if b < 0 then -((Int.gcd t b : Nat) : Int) else ((Int.gcd t b : Nat) : Int)) :
    s ≠ 0 ∧ s.natAbs ≤ b.natAbs ∧ t.fdiv s = (Rat.divInt t b).num ∧ b.fdiv s = ((Rat.divInt t b).den : Int) := by
  have hg : 0 < Int.gcd t b := Int.gcd_pos_of_ne_zero_right _ hb
  obtain ⟨x, hx⟩ := Int.gcd_dvd_left (a := t) (b := b)
  obtain ⟨y, hy⟩ := Int.gcd_dvd_right (a := t) (b := b)
  have e1 : (Rat.divInt t b).num = b.sign * t / ((Int.gcd t b : Nat) : Int) := by rw [Rat.num_divInt, Int.gcd_comm]
  have e2 : ((Rat.divInt t b).den : Int) = (b.natAbs : Int) / ((Int.gcd t b : Nat) : Int) := by
    rw [Rat.den_divInt, if_neg hb, Int.gcd_comm b t]
    rfl
  have hle : (Int.gcd t b) ≤ b.natAbs := Nat.le_of_dvd (by omega) (Int.gcd_dvd_natAbs_right t b)
  generalize Int.gcd t b = g at *
  have hg' : ((g : Nat) : Int) ≠ 0 := by omega
  by_cases hneg : b < 0
  · rw [if_pos hneg] at hs
    subst hs
    refine ⟨by omega, by omega, ?_, ?_⟩
    · rw [e1, Int.sign_eq_neg_one_of_neg hneg]
      have h1 : t = -(g : Int) * (-x) := by rw [Int.neg_mul_neg]; exact hx
      have h2 : -1 * t = (g : Int) * (-x) := by rw [hx, Int.mul_neg]; omega
      rw [h2, Int.mul_ediv_cancel_left _ hg']
      conv => lhs; rw [h1]
      exact Int.mul_fdiv_cancel_left _ (by omega)
    · rw [e2]
      have h0 : (b.natAbs : Int) = (g : Int) * (-y) := by rw [Int.mul_neg, ← hy]; omega
      have h1 : b = -(g : Int) * (-y) := by rw [Int.neg_mul_neg]; exact hy
      rw [h0, Int.mul_ediv_cancel_left _ hg']
      conv => lhs; rw [h1]
      exact Int.mul_fdiv_cancel_left _ (by omega)
  · rw [if_neg hneg] at hs
    subst hs
    have hpos : 0 < b := by omega
    refine ⟨by omega, by omega, ?_, ?_⟩
    · rw [e1, Int.sign_eq_one_of_pos hpos, Int.one_mul]
      conv => rhs; rw [hx]
      rw [Int.mul_ediv_cancel_left _ hg']
      conv => lhs; rw [hx]
      exact Int.mul_fdiv_cancel_left _ (by omega)
    · rw [e2]
      have h0 : (b.natAbs : Int) = (g : Int) * y := by rw [← hy]; omega
      rw [h0, Int.mul_ediv_cancel_left _ hg']
      conv => lhs; rw [hy]
      exact Int.mul_fdiv_cancel_left _ (by omega)
theorem gcd_emod {x y : Int} (hx : 0 ≤ x) (hy : 0 ≤ y) : Int.gcd y (x % y) = Int.gcd x y := by
  obtain ⟨x', rfl⟩ := Int.eq_ofNat_of_zero_le hx
  obtain ⟨y', rfl⟩ := Int.eq_ofNat_of_zero_le hy
  exact gcd_turn _ _
theorem gcd_abs (t b : Int) : Int.gcd (if t < 0 then -t else t) (if b < 0 then -b else b) = Int.gcd t b := by
  unfold Int.gcd
  rw [show (if t < 0 then -t else t).natAbs = t.natAbs by split <;> omega, show (if b < 0 then -b else b).natAbs = b.natAbs by split <;> omega]

/-! ### rules that the layer lacks -/
section
variable {X : Cx} {pos p : Pos}
def CDivZ (_ j : Int) : Prop := j ≠ 0 ∧ j.natAbs.log2 < 9000
theorem op_fdivZ : OpR X (binaryOp .FloorDiv) (rI CDivZ fun i j => .int (i.fdiv j)) := opI fun _ _ _ _ _ _ _ hc q => PyProof.Rows.floordiv_int hc.1 q (.inl (PyProof.noPylong_of_log2 hc.2))
theorem cdivz {i j : Int} {b : Int} (h : j ≠ 0) (hj : j.natAbs ≤ b.natAbs) (hb : b.natAbs < 2 ^ 9000) : CDivZ i j := ⟨h, PySem.Flt.log2_lt_of (by decide) (Nat.lt_of_le_of_lt hj hb)⟩
/-- an own exception class without own __init__, made with nothing -/
theorem pmk_own0 {C : Addr} {bmB : List Value} {B newId initId : String} {x : Str} (F : ExcBaseFacts B newId initId bmB) (q : PySem.W.excIn X.K C bmB newId = true) (gC : X.mg x = some (.ref C))
    (kC : PySem.W.keepIn X.K (.ref C) = true) (r : Raises X (.ref C)) (hg : Gl X x) (hdb : (x == ("__debug__" : Str)) = false := by decide) : PMk X (.Call (.Name x p) [] [] pos) (fun _ H Q => Q (.ref C) none H) := by
  intro pins s σ H Q I h
  refine wpAny_Call_Name_kw (ld_glob I hg gC ?_ hdb)
  refine PySem.W.callWith_K0 I.kIn kC ?_
  obtain ⟨bm, N, nm, qn, bs, hdct, sn, sub, ab, col, dd, k0, k1, k2, k3, k5, mN, hC, hN, hni, T⟩ := exc_obj I.kIn q
  exact wpAny_call_exc_subT F T hC hN hni (fun h' e hm => mk_of I hm r h (I.hok.gone hm.new)) (Nat.zero_le _)
end
/-! ### ratios in the heap -/
def rf (a b : Int) : List (Str × V) := [("top", V.int a), ("bottom", V.int b)]
theorem rf_put (a b : Int) : putF "bottom" (V.int b) (putF "top" (V.int a) []) = rf a b := by
  show (if ("top" : Str) = "bottom" then [(("top" : Str), V.int b)] else (("top" : Str), V.int a) :: putF "bottom" (V.int b) []) = rf a b
  rw [if_neg (by decide +kernel)]
  all_goals rfl
theorem rf_top (a b : Int) : (rf a b).lookup ("top" : Str) = some (.int a) := by
  rw [← rf_put, lookup_putF, if_neg (by decide +kernel), lookup_putF, if_pos rfl]
theorem rf_bottom (a b : Int) : (rf a b).lookup ("bottom" : Str) = some (.int b) := by
  rw [← rf_put, lookup_putF, if_pos rfl]
theorem rf_no (a b : Int) {m : Str} (h1 : ¬ m = "top") (h2 : ¬ m = "bottom") : (rf a b).lookup m = none := by
  rw [← rf_put, lookup_putF, if_neg h2, lookup_putF, if_neg h1]
  all_goals rfl
/-- v is the ratio q -/
def IsR (C : Addr) (H : Hp) (v : V) (q : Rat) : Prop := ∃ p dx, v = .ref p ∧ H p = some (.ins C dx (rf q.num (q.den : Int)))
theorem IsR.mono {C : Addr} {H H' : Hp} {v : V} {q : Rat} (h : IsR C H v q) (s : ∀ p dx fs, H p = some (.ins C dx fs) → H' p = some (.ins C dx fs)) : IsR C H' v q := by
  obtain ⟨p, dx, e, h⟩ := h
  exact ⟨p, dx, e, s _ _ _ h⟩
theorem IsR.same {C : Addr} {H H' : Hp} {v : V} {q : Rat} (h : IsR C H v q) (s : Same H H') : IsR C H' v q := h.mono fun _ _ _ e => s _ _ e
theorem IsR.kp {C g : Addr} {H H' : Hp} {v : V} {q : Rat} {xs : List V} (h : IsR C H v q) (hg : H g = some (.lst xs)) (s : Kp g H H') : IsR C H' v q := h.mono fun _ _ _ e => s _ _ e (ne_of e hg (by intro z; cases z))
/-- v is the number q: a ratio or an int -/
def IsN (C : Addr) (H : Hp) (v : V) (q : Rat) : Prop := IsR C H v q ∨ ∃ n : Int, v = .int n ∧ q = (n : Rat)
/-! ### promises -/
def spGcd : Sp := fun vs H Q _ => ∃ a b : Int, vs = [.int a, .int b] ∧ 0 ≤ a ∧ 0 ≤ b ∧ Q (.int ((Int.gcd a b : Nat) : Int)) H
def spRatioInit (C CE : Addr) : Sp := fun vs H Q E => ∃ (p dx : Addr) (t b : Int), vs = [.ref p, .int t, .int b] ∧ H p = some (.ins C dx []) ∧ b.natAbs < 2 ^ 9000 ∧
  (b = 0 → E (.ref CE) none H) ∧ (b ≠ 0 → Q .non (upd H p (.ins C dx (rf (Rat.divInt t b).num ((Rat.divInt t b).den : Int)))))
section
variable {P : Program} {w : World} {K : PySem.W.Frag} {mg : Str → Option Value} {base : Heap} {A : Ad}
theorem ok_f_common_divisor (T : Txt K mg A) : FnOk P w K mg base CX0 1 A.f_common_divisor A.fd_f_common_divisor P_f_common_divisor spGcd := by
  refine T.F_f_common_divisor.ok sc_f_common_divisor (fun vs H Q E h => ?_) (fun cdv Ar outer s H vs Q E hr h => ?_)
  · obtain ⟨a, b, rfl, _⟩ := h
    rfl
  · obtain ⟨a, b, rfl, ha, hb, k⟩ := h
    refine ⟨_, (pss_cons (ps_g (ps_while PassesOwn.never (pt_cmpR op_ne (pv 1) pe_int (nomark _)) (pss_one (ps_par (i := 0) (j := 1) rfl sc_f_common_divisor.nd rfl rfl (by decide) rfl rfl (pa_cons (pv 1) (pa_cons (pe_op op_mod (pv 0) (pv 1)) pa_nil)) (by rfl)))))
      (pss_one (ps_ret (pv 0)))), ?_⟩
    refine ⟨⟨fun m σ' H' => Wd (∃ x y : Int, σ' = [some (.int x), some (.int y)] ∧ 0 ≤ x ∧ 0 ≤ y ∧ y.toNat = m ∧ Int.gcd x y = Int.gcd a b ∧ H' = H), ⟨_, ⟨a, b, rfl, ha, hb, rfl, rfl, rfl⟩⟩, ?_⟩⟩
    rintro m σ' H' ⟨x, y, rfl, hx, hy, hm, hg, rfl⟩
    walk_at "go"
    refine if_intN (fun e => ?_) (fun e => ?_)
    · refine ⟨fun σ2 H2 => Wd (σ2 = [some (.int y), some (.int (x % y))] ∧ H2 = H'), ?_, ?_⟩
      · rintro σ2 H2 ⟨rfl, rfl⟩
        have h1 : 0 ≤ x % y := Int.emod_nonneg _ e
        have h2 : x % y < y := Int.emod_lt_of_pos _ (by omega)
        refine ⟨(x % y).toNat, by omega, ⟨y, x % y, rfl, hy, h1, rfl, ?_, rfl⟩⟩
        rw [← hg]
        exact gcd_emod hx hy
      · walk_at "go"
        exact ⟨rfl, rfl⟩
    · subst e
      walk_at "go"
      have e : ((Int.gcd a b : Nat) : Int) = x := by
        rw [← hg, Int.gcd_zero_right]
        omega
      rw [e] at k
      exact k
theorem ok_m_Ratio_init (T : Txt K mg A) : FnOk P w K mg base (L2.CX P w) 4 A.m_Ratio_init A.fd_m_Ratio_init P_m_Ratio_init (spRatioInit A.Ratio A.NoRatio) := by
  refine T.F_m_Ratio_init.ok sc_m_Ratio_init (fun vs H Q E h => ?_) (fun cdv Ar outer s H vs Q E hr h => ?_)
  · obtain ⟨p, dx, t, b, rfl, _⟩ := h
    rfl
  · obtain ⟨p, dx, t, b, rfl, hp, hb, kE, kQ⟩ := h
    refine ⟨_, (pss_cons (ps_if (pt_cmpR op_eq (pv 2) pe_int (nomark _)) (pss_one (ps_raise rfl (takes_of rfl rfl rfl rfl) (pmk_own0 PySem.F.excBase_ValueError T.ex_NoRatio T.g_NoRatio T.ek_NoRatio (raises_own T.eb_NoRatio T.et_NoRatio) (by rfl)))) pss_nil)
      (pss_cons (ps_set (i := 3) sc_m_Ratio_init.nd rfl (Or.inl rfl) (pe_call (ok_f_common_divisor T) (hr.mono (by decide)) (by rfl) T.g_common_divisor T.F_f_common_divisor.kp T.b_f_common_divisor .nil pass0 (pa_cons (pe_callB call_abs (by rfl) T.z_abs (by decide +kernel) (pa_cons (pv 1) pa_nil)) (pa_cons (pe_callB call_abs (by rfl) T.z_abs (by decide +kernel) (pa_cons (pv 2) pa_nil)) pa_nil))))
      (pss_g (Evl.pss_cut (ps_if (pt_cmpR op_lt (pv 2) pe_int (nomark _)) (pss_one (ps_set (i := 3) sc_m_Ratio_init.nd rfl (Or.inl rfl) (pe_un un_neg (pv 3)))) pss_nil)
      (pss_cons (ps_fld (pv 0) (pe_op op_fdivZ (pv 1) (pv 3)) rfl)
      (pss_one (ps_fld (pv 0) (pe_op op_fdivZ (pv 2) (pv 3)) rfl))))))), ?_⟩
    walk_at "go"
    refine if_int (fun e => ?_) (fun e => ?_)
    · exact kE e
    · walk_at "go"
      refine ⟨⟨fun σ' H' => Wd (σ' = [some (.ref p), some (.int t), some (.int b), some (.int (if b < 0 then -((Int.gcd t b : Nat) : Int) else ((Int.gcd t b : Nat) : Int)))] ∧ H' = H), ?_, ?_⟩⟩
      · have eg := gcd_abs t b
        walk_at "go"
        refine if_dec (fun e1 => ?_) (fun e1 => ?_)
        · walk_at "go"
          refine ⟨?_, rfl⟩
          rw [eg, if_pos e1]
          rfl
        · refine ⟨?_, rfl⟩
          rw [eg, if_neg e1]
          rfl
      · rintro σ' H' ⟨rfl, rfl⟩
        obtain ⟨h0, h1, h2, h3⟩ := low_num (t := t) e rfl
        generalize (if b < 0 then -((Int.gcd t b : Nat) : Int) else ((Int.gcd t b : Nat) : Int)) = s at *
        have hz : ∀ i, CDivZ i s := fun i => cdivz h0 h1 hb
        have n1 := T.n_Ratio_top
        have n2 := T.n_Ratio_bottom
        have n3 := T.cl_Ratio
        refine ⟨_, rfl, _, rfl, _, _, rfl, rfl, hz _, _, rfl, p, A.Ratio, dx, [], rfl, hp, n3, n1, (by show 0 < 1000; decide), ?_⟩
        refine ⟨_, rfl, _, rfl, _, _, rfl, rfl, hz _, _, rfl, p, A.Ratio, dx, _, rfl, upd_same, n3, n2, (by show 1 < 1000; decide), ?_⟩
        dsimp only
        rw [upd_upd, h2, h3, rf_put]
        exact kQ e
end

/-! ### the law's own helpers: bag, integer, divisor, lowest -/
def spBag (K : PySem.W.Frag) : Sp := fun vs H Q _ => ∃ (a : Addr) (ns : List Int), vs = [.ref a] ∧ SqL K H a (ns.map V.int) ∧ ∀ (g l : Addr) (H' : Hp), Same H H' → H g = none → H l = none → Bag H' g l → Q (.ref g) H'
def spInteger : Sp := fun vs H Q _ => ∃ g l : Addr, vs = [.ref g] ∧ Bag H g l ∧ ∀ (n : Int) (H' : Hp), n.natAbs ≤ 10 ^ 49 → Bag H' g l → Kp g H H' → Q (.int n) H'
def spLowest : Sp := fun vs H Q _ => ∃ t b : Int, vs = [.int t, .int b] ∧ b ≠ 0 ∧ b.natAbs < 2 ^ 9000 ∧ ∀ p, H p = none → Q (.ref p) (upd H p (.tup [.int (Rat.divInt t b).num, .int ((Rat.divInt t b).den : Int)]))
theorem Bag.keep {H H' : Hp} {g l : Addr} (b : Bag H g l) (s : Same H H') : Bag H' g l := by
  obtain ⟨i, r, sd, c, ns, hg, hl, hi⟩ := b
  exact ⟨i, r, sd, c, ns, s _ _ hg, s _ _ hl, hi⟩
theorem Bag.lst {H : Hp} {g l : Addr} (b : Bag H g l) : ∃ xs, H g = some (.lst xs) := by
  obtain ⟨i, r, sd, c, ns, hg, hl, hi⟩ := b
  exact ⟨_, hg⟩
theorem Bag.ne {H : Hp} {g l p : Addr} (b : Bag H g l) (hp : H p = none) : p ≠ g ∧ p ≠ l := by
  obtain ⟨i, r, sd, c, ns, hg, hl, hi⟩ := b
  exact ⟨(ne_of_none hg hp).symm, (ne_of_none hl hp).symm⟩
/-- a bag stands where nothing of it is written -/
theorem Bag.put {H : Hp} {g l p : Addr} {o : HO} (b : Bag H g l) (n : p ≠ g ∧ p ≠ l) : Bag (upd H p o) g l := by
  obtain ⟨i, r, sd, c, ns, hg, hl, hi⟩ := b
  exact ⟨i, r, sd, c, ns, by rw [upd_ne n.1.symm]; exact hg, by rw [upd_ne n.2.symm]; exact hl, hi⟩
theorem Bag.new {H : Hp} {g l p : Addr} {o : HO} (b : Bag H g l) (hp : H p = none) : Bag (upd H p o) g l := b.keep fun c u e => by
  rw [upd_ne (ne_of_none e hp)]
  exact e
theorem Kp.new {g p : Addr} {H H' : Hp} {o : HO} (k : Kp g H H') (hp : H' p = none) : Kp g H (upd H' p o) := fun b u e n => by
  have e1 := k b u e n
  rw [upd_ne (ne_of_none e1 hp)]
  exact e1
theorem Kp.same {g : Addr} {H H' : Hp} (s : Same H H') : Kp g H H' := fun b u e _ => s b u e
theorem Same.new {H : Hp} {p : Addr} {o : HO} (hp : H p = none) : Same H (upd H p o) := fun b u e => by
  rw [upd_ne (ne_of_none e hp)]
  exact e
theorem size_at {c : Int} (h0 : 0 ≤ c) (h6 : c < 6) (hc : c ≠ 0) : ∃ z : Int, atI [V.int 1, V.int 2, V.int 3, V.int 12, V.int 1000, V.int (10 ^ (49 : Int).toNat)] c = some (.int z) ∧ 0 < z ∧ z ≤ 10 ^ 49 := by
  have : c = 1 ∨ c = 2 ∨ c = 3 ∨ c = 4 ∨ c = 5 := by omega
  rcases this with rfl | rfl | rfl | rfl | rfl
  · exact ⟨2, rfl, by decide, by decide⟩
  · exact ⟨3, rfl, by decide, by decide⟩
  · exact ⟨12, rfl, by decide, by decide⟩
  · exact ⟨1000, rfl, by decide, by decide⟩
  · exact ⟨10 ^ 49, rfl, by decide, by decide⟩
theorem big49 : (10 : Nat) ^ 49 < 2 ^ 200 := by decide
theorem pow_mono {a b : Nat} (h : a ≤ b) : (2 : Nat) ^ a ≤ 2 ^ b := Nat.pow_le_pow_right (by decide) h
theorem lt_pow {n a b : Nat} (h : n < 2 ^ a) (hab : a ≤ b) : n < 2 ^ b := Nat.lt_of_lt_of_le h (pow_mono hab)
theorem lt200 {n : Nat} (h : n ≤ 10 ^ 49) : n < 2 ^ 200 := Nat.lt_of_le_of_lt h big49
theorem lt9000 {n : Nat} (h : n ≤ 10 ^ 49) : n < 2 ^ 9000 := lt_pow (lt200 h) (by decide)
section
variable {P : Program} {w : World} {K : PySem.W.Frag} {mg : Str → Option Value} {base : Heap} {A : Ad}
theorem ok_l_bag (T : Txt K mg A) : FnOk P w K mg base CX0 1 A.l_bag A.fd_l_bag P_l_bag (spBag K) := by
  refine T.F_l_bag.ok sc_l_bag (fun vs H Q E h => ?_) (fun cdv Ar outer s H vs Q E hr h => ?_)
  · obtain ⟨a, ns, rfl, _⟩ := h
    rfl
  · obtain ⟨a, ns, rfl, hS, k⟩ := h
    refine ⟨_, (pss_one (ps_ret (pe_lst (pa_cons (pe_callTy call_list_of (by rfl) T.z_list (by decide +kernel) (pa_cons (pv 0) pa_nil)) (pa_cons pe_int (pa_cons pe_int (pa_cons pe_int (pa_cons pe_int pa_nil)))))))), ?_⟩
    refine ⟨_, rfl, a, _, rfl, .inl hS, fun l hl => ⟨by walk_at "fact", fun g hg => ?_⟩⟩
    have nlg : l ≠ g := fun z => by
      rw [z, upd_same] at hg
      cases hg
    have hg0 : H g = none := by
      rw [upd_ne nlg.symm] at hg
      exact hg
    exact k g l _ ((Same.new hl).trans (Same.new hg)) hg0 hl ⟨0, 0, 17, 0, ns, upd_same, by rw [upd_ne nlg]; exact upd_same, by decide⟩
theorem ok_l_integer (T : Txt K mg A) : FnOk P w K mg base CX0 2 A.l_integer A.fd_l_integer P_l_integer spInteger := by
  refine T.F_l_integer.ok sc_l_integer (fun vs H Q E h => ?_) (fun cdv Ar outer s H vs Q E hr h => ?_)
  · obtain ⟨g, l, rfl, _⟩ := h
    rfl
  · obtain ⟨g, l, rfl, hB, k⟩ := h
    refine ⟨_, (pss_cons (ps_set (i := 1) sc_l_integer.nd rfl (Or.inl rfl) (pe_call (ok_l_draw T) (hr.mono (by decide)) (by rfl) T.g__law_draw T.F_l_draw.kp T.b_l_draw .nil pass0 (pa_cons (pv 0) (pa_cons pe_int pa_nil))))
      (pss_cons (ps_if (pt_cmpR op_eq (pv 1) pe_int (nomark _)) (pss_one (ps_ret pe_int)) pss_nil)
      (pss_cons (ps_set (i := 2) sc_l_integer.nd rfl (Or.inl rfl) (pe_ix ix_list (pe_lst (pa_cons pe_int (pa_cons pe_int (pa_cons pe_int (pa_cons pe_int (pa_cons pe_int (pa_cons (pe_op op_pow pe_int pe_int) pa_nil))))))) (pv 1) (fun _ _ => rfl)))
      (pss_cons (ps_set (i := 3) sc_l_integer.nd rfl (Or.inl rfl) (pe_op op_add pe_int (pe_call (ok_l_draw T) (hr.mono (by decide)) (by rfl) T.g__law_draw T.F_l_draw.kp T.b_l_draw .nil pass0 (pa_cons (pv 0) (pa_cons (pv 2) pa_nil)))))
      (pss_cons (ps_if (pt_cmpR op_eq (pe_call (ok_l_draw T) (hr.mono (by decide)) (by rfl) T.g__law_draw T.F_l_draw.kp T.b_l_draw .nil pass0 (pa_cons (pv 0) (pa_cons pe_int pa_nil))) pe_int (nomark _)) (pss_one (ps_ret (pe_un un_neg (pv 3)))) pss_nil)
      (pss_one (ps_ret (pv 3)))))))), ?_⟩
    walk_at "go"
    intro c H1 c0 c6 B1 K1
    walk_at "go"
    refine if_int (fun e => ?_) (fun e => ?_)
    · exact k 0 H1 (by decide) B1 K1
    · obtain ⟨z, hz, z0, z1⟩ := size_at c0 c6 e
      have hz9 : z.natAbs < 2 ^ 9000 := lt9000 (by omega)
      walk_at "go"
      intro p hp
      have B2 := B1.new (o := .lst [V.int 1, V.int 2, V.int 3, V.int 12, V.int 1000, V.int (10 ^ (49 : Int).toNat)]) hp
      walk_at "go"
      intro n H2 n0 n1 B3 K3
      walk_at "go"
      intro b H4 b0 b2 B4 K4
      have K5 : Kp g H H4 := (K1.new (o := .lst _) hp).trans (K3.trans K4)
      walk_at "go"
      refine if_int (fun e => ?_) (fun e => ?_)
      · walk_at "go"
        exact k _ _ (by omega) B4 K5
      · walk_at "go"
        exact k _ _ (by omega) B4 K5
theorem ok_l_divisor (T : Txt K mg A) : FnOk P w K mg base CX0 1 A.l_divisor A.fd_l_divisor P_l_divisor spGcd := by
  refine T.F_l_divisor.ok sc_l_divisor (fun vs H Q E h => ?_) (fun cdv Ar outer s H vs Q E hr h => ?_)
  · obtain ⟨a, b, rfl, _⟩ := h
    rfl
  · obtain ⟨a, b, rfl, ha, hb, k⟩ := h
    refine ⟨_, (pss_cons (ps_g (ps_while PassesOwn.never (pt_cmpR op_ne (pv 1) pe_int (nomark _)) (pss_cons (ps_set (i := 2) sc_l_divisor.nd rfl (Or.inl rfl) (pe_op op_mod (pe_callTy call_int1 (by rfl) T.z_int (by decide +kernel) (pa_cons (pv 0) pa_nil)) (pv 1)))
      (pss_cons (ps_set (i := 0) sc_l_divisor.nd rfl (Or.inl rfl) (pv 1))
      (pss_one (ps_set (i := 1) sc_l_divisor.nd rfl (Or.inl rfl) (pv 2)))))))
      (pss_one (ps_ret (pv 0)))), ?_⟩
    refine ⟨⟨fun m σ' H' => Wd (∃ (x y : Int) (v : Option V), σ' = [some (.int x), some (.int y), v] ∧ 0 ≤ x ∧ 0 ≤ y ∧ y.toNat = m ∧ Int.gcd x y = Int.gcd a b ∧ H' = H), ⟨_, ⟨a, b, none, rfl, ha, hb, rfl, rfl, rfl⟩⟩, ?_⟩⟩
    rintro m σ' H' ⟨x, y, v, rfl, hx, hy, hm, hg, rfl⟩
    walk_at "go"
    refine if_intN (fun e => ?_) (fun e => ?_)
    · refine ⟨fun σ2 H2 => Wd (σ2 = [some (.int y), some (.int (x % y)), some (.int (x % y))] ∧ H2 = H'), ?_, ?_⟩
      · rintro σ2 H2 ⟨rfl, rfl⟩
        have h1 : 0 ≤ x % y := Int.emod_nonneg _ e
        have h2 : x % y < y := Int.emod_lt_of_pos _ (by omega)
        refine ⟨(x % y).toNat, by omega, ⟨y, x % y, _, rfl, hy, h1, rfl, ?_, rfl⟩⟩
        rw [← hg]
        exact gcd_emod hx hy
      · walk_at "go"
        exact ⟨rfl, rfl⟩
    · subst e
      walk_at "go"
      have e : ((Int.gcd a b : Nat) : Int) = x := by
        rw [← hg, Int.gcd_zero_right]
        omega
      rw [e] at k
      exact k
theorem ok_l_lowest (T : Txt K mg A) : FnOk P w K mg base CX0 2 A.l_lowest A.fd_l_lowest P_l_lowest spLowest := by
  refine T.F_l_lowest.ok sc_l_lowest (fun vs H Q E h => ?_) (fun cdv Ar outer s H vs Q E hr h => ?_)
  · obtain ⟨t, b, rfl, _⟩ := h
    rfl
  · obtain ⟨t, b, rfl, hb0, hb, k⟩ := h
    refine ⟨_, (pss_cons (ps_set (i := 2) sc_l_lowest.nd rfl (Or.inl rfl) (pe_call (ok_l_divisor T) (hr.mono (by decide)) (by rfl) T.g__law_divisor T.F_l_divisor.kp T.b_l_divisor .nil pass0 (pa_cons (pe_callB call_abs (by rfl) T.z_abs (by decide +kernel) (pa_cons (pv 0) pa_nil)) (pa_cons (pe_callB call_abs (by rfl) T.z_abs (by decide +kernel) (pa_cons (pv 1) pa_nil)) pa_nil))))
      (pss_g (Evl.pss_cut (ps_if (pt_cmpR op_lt (pv 1) pe_int (nomark _)) (pss_one (ps_set (i := 2) sc_l_lowest.nd rfl (Or.inl rfl) (pe_un un_neg (pv 2)))) pss_nil)
      (pss_one (ps_ret (pe_tup (pa_cons (pe_op op_fdivZ (pv 0) (pv 2)) (pa_cons (pe_op op_fdivZ (pv 1) (pv 2)) pa_nil)))))))), ?_⟩
    walk_at "go"
    refine ⟨⟨fun σ' H' => Wd (σ' = [some (.int t), some (.int b), some (.int (if b < 0 then -((Int.gcd t b : Nat) : Int) else ((Int.gcd t b : Nat) : Int)))] ∧ H' = H), ?_, ?_⟩⟩
    · have eg := gcd_abs t b
      walk_at "go"
      refine if_dec (fun e1 => ?_) (fun e1 => ?_)
      · walk_at "go"
        refine ⟨?_, rfl⟩
        rw [eg, if_pos e1]
        rfl
      · refine ⟨?_, rfl⟩
        rw [eg, if_neg e1]
        rfl
    · rintro σ' H' ⟨rfl, rfl⟩
      obtain ⟨h0, h1, h2, h3⟩ := low_num (t := t) hb0 rfl
      generalize (if b < 0 then -((Int.gcd t b : Nat) : Int) else ((Int.gcd t b : Nat) : Int)) = s at *
      have hz : ∀ i, CDivZ i s := fun i => cdivz h0 h1 hb
      refine ⟨_, rfl, _, rfl, _, _, rfl, rfl, hz _, _, rfl, _, rfl, _, _, rfl, rfl, hz _, by walk_at "fact", fun p hp => ?_⟩
      dsimp only
      rw [h2, h3]
      exact k p hp
end

/-! ### ratios: halves, over -/
def Sz (n : Nat) (q : Rat) : Prop := q.num.natAbs < 2 ^ n ∧ q.den < 2 ^ n
theorem Sz.mono {a b : Nat} {q : Rat} (h : Sz a q) (hab : a ≤ b) : Sz b q := ⟨lt_pow h.1 hab, lt_pow h.2 hab⟩
theorem Sz.int {n : Nat} {i : Int} (h : i.natAbs < 2 ^ n) (hn : 0 < n) : Sz n (i : Rat) := ⟨h, by
  show 1 < 2 ^ n
  exact Nat.lt_of_lt_of_le (by decide) (pow_mono (a := 1) hn)⟩
theorem num_le {t b : Int} : (Rat.divInt t b).num.natAbs ≤ t.natAbs := by
  rw [Rat.num_divInt]
  by_cases hb : b = 0
  · subst hb
    simp
  · have h1 : (b.sign * t / ((b.gcd t : Nat) : Int)).natAbs ≤ (b.sign * t).natAbs := Int.natAbs_ediv_le_natAbs _ _
    rw [Int.natAbs_mul, Int.natAbs_sign_of_ne_zero hb, Nat.one_mul] at h1
    exact h1
theorem den_le {t b : Int} (hb : b ≠ 0) : (Rat.divInt t b).den ≤ b.natAbs := by
  rw [Rat.den_divInt, if_neg hb]
  exact Nat.div_le_self _ _
theorem Sz.div {n : Nat} {t b : Int} (ht : t.natAbs < 2 ^ n) (hb : b.natAbs < 2 ^ n) (h0 : b ≠ 0) : Sz n (Rat.divInt t b) := ⟨Nat.lt_of_le_of_lt num_le ht, Nat.lt_of_le_of_lt (den_le h0) hb⟩
theorem mulw {i j : Int} {a b : Nat} (hi : i.natAbs < 2 ^ a) (hj : j.natAbs < 2 ^ b) (h : a + b ≤ 900000) : CMulW i j :=
  wide_mul (a := a + 1) (b := b + 1) (lt_pow hi (by omega)) (lt_pow hj (by omega)) (by omega) (by omega) (by omega)
theorem mul_lt {i j : Int} {a b : Nat} (hi : i.natAbs < 2 ^ a) (hj : j.natAbs < 2 ^ b) : (i * j).natAbs < 2 ^ (a + b) := wide_lt hi hj
theorem quot_eq {q r : Rat} : Rat.divInt (q.num * (r.den : Int)) ((q.den : Int) * r.num) = q / r := by
  rw [Rat.div_def, Rat.inv_def, ← Rat.divInt_mul_divInt, Rat.num_divInt_den]
theorem same_make {H : Hp} {x dx C : Addr} {fs fs' : List (Str × V)} (hx : H x = none) (hd : H dx = none) : Same H (upd (upd (upd H dx (.own x)) x (.ins C dx fs)) x (.ins C dx fs')) := fun b o e => by
  rw [upd_ne (ne_of_none e hx), upd_ne (ne_of_none e hx), upd_ne (ne_of_none e hd)]
  exact e
theorem same_make1 {H : Hp} {x dx C : Addr} {fs : List (Str × V)} (hx : H x = none) (hd : H dx = none) : Same H (upd (upd H dx (.own x)) x (.ins C dx fs)) := fun b o e => by
  rw [upd_ne (ne_of_none e hx), upd_ne (ne_of_none e hd)]
  exact e
theorem mk_ratio {C CE x dx : Addr} {H : Hp} {t b : Int} {R : VK} {E : XK} (hx : H x = none) (hd : H dx = none) (hb : b.natAbs < 2 ^ 9000) (h0 : b = 0 → ∀ H', Same H H' → E (.ref CE) none H')
    (h1 : b ≠ 0 → ∀ H', Same H H' → IsR C H' (.ref x) (Rat.divInt t b) → R .non H') : spRatioInit C CE [.ref x, .int t, .int b] (upd (upd H dx (.own x)) x (.ins C dx [])) R E :=
  ⟨x, dx, t, b, rfl, upd_same, hb, fun e => h0 e _ (same_make1 hx hd), fun e => h1 e _ (same_make hx hd) ⟨x, dx, rfl, upd_same⟩⟩
def spHalves (C : Addr) : Sp := fun vs H Q _ => ∃ (v : V) (q : Rat), vs = [v] ∧ IsN C H v q ∧ ∀ p, H p = none → Q (.ref p) (upd H p (.tup [.int q.num, .int (q.den : Int)]))
def spOver (C CE : Addr) : Sp := fun vs H Q E => ∃ (v u : V) (q r : Rat) (a b : Nat), vs = [v, u] ∧ IsR C H v q ∧ IsN C H u r ∧ Sz a q ∧ Sz b r ∧ a + b ≤ 9000 ∧
  (r = 0 → ∀ H', Same H H' → E (.ref CE) none H') ∧ (r ≠ 0 → ∀ v' H', Same H H' → IsR C H' v' (q / r) → Q v' H')
section
variable {P : Program} {w : World} {K : PySem.W.Frag} {mg : Str → Option Value} {base : Heap} {A : Ad}
theorem ty_ratio (T : Txt K mg A) {H : Hp} {p dx : Addr} {fs : List (Str × V)} (h : H p = some (.ins A.Ratio dx fs)) : TyX K H (.ref p) (.ref A.Ratio) := .base (.ins h T.cl_Ratio T.tc_Ratio T.tn_Ratio T.tk_Ratio T.tm_Ratio)
theorem ok_f_halves (T : Txt K mg A) : FnOk P w K mg base CX0 1 A.f_halves A.fd_f_halves P_f_halves (spHalves A.Ratio) := by
  refine T.F_f_halves.ok sc_f_halves (fun vs H Q E h => ?_) (fun cdv Ar outer s H vs Q E hr h => ?_)
  · obtain ⟨v, q, rfl, _⟩ := h
    rfl
  · obtain ⟨v, q, rfl, hN, k⟩ := h
    refine ⟨_, (pss_cons (ps_if (pt_val (pe_callB call_isi (by rfl) T.z_isinstance (by decide +kernel) (pa_cons (pv 0) (pa_cons (pe_bltn (v := .ty "int") (by rfl) T.z_int (by decide +kernel) rfl) pa_nil)))) (pss_one (ps_ret (pe_tup (pa_cons (pv 0) (pa_cons pe_int pa_nil))))) pss_nil)
      (pss_one (ps_ret (pe_tup (pa_cons (pe_fld (pv 0) rfl) (pa_cons (pe_fld (pv 0) rfl) pa_nil)))))), ?_⟩
    rcases hN with ⟨p, dx, rfl, hp⟩ | ⟨n, rfl, rfl⟩
    · have n1 := T.n_Ratio_top
      have n2 := T.n_Ratio_bottom
      have n3 := T.cl_Ratio
      refine ⟨_, rfl, _, _, _, _, _, rfl, .ty "int", ty_ratio T hp, T.ki_Ratio, _, rfl, iteF ?_⟩
      exact ⟨_, rfl, p, _, dx, _, _, rfl, hp, n3, n1, rf_top _ _, _, rfl, p, _, dx, _, _, rfl, hp, n3, n2, rf_bottom _ _, by walk_at "fact", k⟩
    · refine ⟨_, rfl, _, _, _, _, _, rfl, .ty "int", .base (.int n), kit_ty (by decide +kernel), _, rfl, iteT ?_⟩
      exact ⟨_, rfl, by walk_at "fact", k⟩
theorem ok_m_Ratio_over (T : Txt K mg A) : FnOk P w K mg base (L2.CX P w) 6 A.m_Ratio_over A.fd_m_Ratio_over P_m_Ratio_over (spOver A.Ratio A.NoRatio) := by
  refine T.F_m_Ratio_over.okX sc_m_Ratio_over (fun vs H Q E h => ?_) (fun cdv Ar outer s H vs Q E hr h => ?_)
  · obtain ⟨v, u, q, r, a, b, rfl, _⟩ := h
    rfl
  · obtain ⟨v, u, q, r, a, b, rfl, ⟨p, dx, rfl, hp⟩, hu, sq, sr, hab, kE, kQ⟩ := h
    have n1 := T.n_Ratio_top
    have n2 := T.n_Ratio_bottom
    have n3 := T.cl_Ratio
    refine ⟨_, (pss_cons (ps_asg (pe_call (ok_f_halves T) (hr.mono (by decide)) (by rfl) T.g_halves T.F_f_halves.kp T.b_f_halves .nil pass0 (pa_cons (pv 1) pa_nil)) (pg_tup rfl (pgs_cons (pg_name (i := 2) sc_m_Ratio_over.nd rfl (Or.inl rfl)) (pgs_cons (pg_name (i := 3) sc_m_Ratio_over.nd rfl (Or.inl rfl)) pgs_nil))))
      (pss_one (ps_ret (pe_make T.mk_Ratio (ok_m_Ratio_init T) (hr.mono (by decide)) (by rfl) T.g_Ratio T.b_m_Ratio_init .nil (E := E) (passes_call (takes_of rfl rfl rfl rfl) (fun _ _ _ _ h => h)) (pa_cons (pe_op op_mulW (pe_fld (pv 0) rfl) (pv 3)) (pa_cons (pe_op op_mulW (pe_fld (pv 0) rfl) (pv 2)) pa_nil)))))), ?_⟩
    refine ⟨_, rfl, u, r, rfl, hu, fun t ht => ?_⟩
    have npt : p ≠ t := ne_of_none hp ht
    have hp' : ∀ o, upd H t o p = some (.ins A.Ratio dx (rf q.num (q.den : Int))) := fun o => by
      rw [upd_ne npt]
      exact hp
    refine ⟨t, _, rfl, SqT.of upd_same, rfl, _, _, rfl, _, _, rfl, rfl, ?_⟩
    refine ⟨_, rfl, p, _, dx, _, _, rfl, hp' _, n3, n1, rf_top _ _, _, rfl, _, _, rfl, rfl, mulw sq.1 sr.2 (by omega), _, rfl, p, _, dx, _, _, rfl, hp' _, n3, n2, rf_bottom _ _, _, rfl, _, _, rfl, rfl, mulw sq.2 sr.1 (by omega), ?_⟩
    have hd : (q.den : Int) ≠ 0 := by
      have := q.den_nz
      omega
    intro x dx' hx hd' _
    refine mk_ratio hx hd' (lt_pow (mul_lt sq.2 sr.1) hab) (fun e H' s => ?_) (fun e H' s i => ⟨rfl, ?_⟩)
    · have e2 : r.num = 0 := (Int.mul_eq_zero.mp e).resolve_left hd
      exact kE (Rat.num_eq_zero.mp e2) H' ((Same.new ht).trans s)
    · have e2 : r ≠ 0 := fun z => by
        rw [z] at e
        exact e (Int.mul_zero _)
      rw [quot_eq] at i
      exact kQ e2 _ H' ((Same.new ht).trans s) i
end

/-! ### a drawn order -/
def spMixed : Sp := fun vs H Q _ => ∃ (g l q : Addr) (xs : List V), vs = [.ref g, .ref q] ∧ Bag H g l ∧ H q = some (.lst xs) ∧ xs.length ≤ 1000 ∧
  ∀ (p : Addr) (ys : List V) (H' : Hp), ys.Perm xs → H p = none → H' p = some (.lst ys) → Bag H' g l → Kp g H H' → Q (.ref p) H'
theorem Kp.put {g p : Addr} {H H' : Hp} {o : HO} (k : Kp g H H') (hp : H p = none) : Kp g H (upd H' p o) := fun b u e n => by
  rw [upd_ne (ne_of_none e hp)]
  exact k b u e n
theorem perm_pop {α : Type} : ∀ {zs : List α} {k : Nat} {y : α}, zs[k]? = some y → (y :: zs.eraseIdx k).Perm zs
  | z :: zs, 0, y, h => by
    simp at h
    subst h
    exact .refl _
  | z :: zs, k + 1, y, h => by
    have ih := perm_pop (zs := zs) (k := k) (y := y) (by simpa using h)
    exact (List.Perm.swap z y _).trans (ih.cons z)
theorem seq_ix {i : Int} {n : Nat} (h0 : 0 ≤ i) (h1 : i < n) : seqIndex? i n = some i.toNat := by
  have e : (if i < 0 then i + (n : Int) else i) = i := if_neg (by omega)
  unfold seqIndex?
  simp only [e, h0, h1, decide_true, Bool.and_self, if_true]
section
variable {P : Program} {w : World} {K : PySem.W.Frag} {mg : Str → Option Value} {base : Heap} {A : Ad}
theorem ok_l_mixed (T : Txt K mg A) : FnOk P w K mg base CX0 2 A.l_mixed A.fd_l_mixed P_l_mixed spMixed := by
  refine T.F_l_mixed.ok sc_l_mixed (fun vs H Q E h => ?_) (fun cdv Ar outer s H vs Q E hr h => ?_)
  · obtain ⟨g, l, q, xs, rfl, _⟩ := h
    rfl
  · obtain ⟨g, l, q, xs, rfl, hB, hq, hlen, k⟩ := h
    refine ⟨_, (pss_cons (ps_set (i := 2) sc_l_mixed.nd rfl (Or.inl rfl) (pe_callTy call_list_of (by rfl) T.z_list (by decide +kernel) (pa_cons (pv 1) pa_nil)))
      (pss_cons (ps_set (i := 3) sc_l_mixed.nd rfl (Or.inl rfl) (pe_lst pa_nil))
      (pss_cons (ps_g (ps_for PassesOwn.never rfl (pi_range1 rfl T.z_range (pa_cons (pe_callB call_len_seq (by rfl) T.z_len (by decide +kernel) (pa_cons (pv 1) pa_nil)) pa_nil)) (pg_name (i := 4) sc_l_mixed.nd rfl (Or.inl rfl)) (pss_one (ps_expr (pe_bm PySem.F.plainAttrs_list PySem.F.slot_list_append PySem.F.type_list_append mt_append (pv 3) (pa_cons (pe_bm PySem.F.plainAttrs_list PySem.F.slot_list_pop PySem.F.type_list_pop mt_popAt (pv 2) (pa_cons (pe_call (ok_l_draw T) (hr.mono (by decide)) (by rfl) T.g__law_draw T.F_l_draw.kp T.b_l_draw .nil pass0 (pa_cons (pv 0) (pa_cons (pe_callB call_len_seq (by rfl) T.z_len (by decide +kernel) (pa_cons (pv 2) pa_nil)) pa_nil))) pa_nil)) pa_nil))))))
      (pss_one (ps_ret (pv 3)))))), ?_⟩
    refine ⟨_, rfl, q, xs, rfl, .inl (SqL.of hq), fun a ha => ⟨Nat.zero_le _, fun f hf => ?_⟩⟩
    have naf : a ≠ f := fun z => by
      rw [z, upd_same] at hf
      cases hf
    have hf0 : H f = none := by
      rw [upd_ne naf.symm] at hf
      exact hf
    have na := hB.ne ha
    have nf := hB.ne hf0
    have nqa := ne_of_none hq ha
    have nqf := ne_of_none hq hf0
    refine ⟨⟨_, rfl, q, xs, rfl, .inl (SqL.of (by rw [upd_ne nqf, upd_ne nqa]; exact hq)), _, rfl, by omega, by omega, for_range (lo := 0) (n := xs.length) (fun i σ' H' => Wd (∃ (ys zs : List V) (v : Option V),
      σ' = [some (.ref g), some (.ref q), some (.ref a), some (.ref f), v] ∧ H' a = some (.lst zs) ∧ H' f = some (.lst ys) ∧ (ys ++ zs).Perm xs ∧ zs.length + i = xs.length ∧ Bag H' g l ∧ Kp g H H'))
      ⟨[], xs, none, rfl, by rw [upd_ne naf, upd_same], upd_same, .refl _, rfl, (hB.put na).put nf, ((Kp.refl g H).put ha).put hf0⟩ ?_ ?_⟩⟩
    · rintro i σ' H' hi ⟨ys, zs, v, rfl, h1, h2, hp, hz, B1, K1⟩
      have z9 : ((zs.length : Nat) : Int).natAbs < 2 ^ 9000 := lt_pow (a := 10) (by omega) (by decide)
      have yl : ys.length ≤ 1000 := by
        have := hp.length_eq
        rw [List.length_append] at this
        omega
      refine ⟨_, rfl, .inl ⟨rfl, _, SqL.of h2⟩, _, rfl, .inl ⟨rfl, _, SqL.of h1⟩, _, rfl, _, rfl, a, zs, rfl, .inl (SqL.of h1), g, l, _, rfl, B1, by omega, z9, fun n H2 n0 n1 B2 K2 => ?_⟩
      have h1' := K2 _ _ h1 na.1
      have h2' := K2 _ _ h2 nf.1
      have hk : n.toNat < zs.length := by omega
      have hy : zs[n.toNat]? = some zs[n.toNat] := List.getElem?_eq_getElem hk
      refine ⟨a, zs, n, n.toNat, zs[n.toNat], rfl, rfl, h1', by omega, by omega, seq_ix n0 n1, hy, f, ys, _, rfl, rfl, (by rw [upd_ne naf.symm]; exact h2'), Nat.lt_of_le_of_lt yl (by decide), ?_⟩
      refine ⟨ys ++ [zs[n.toNat]], zs.eraseIdx n.toNat, _, rfl, by rw [upd_ne naf, upd_same], upd_same, ?_, ?_, (B2.put na).put nf, ((K1.trans K2).put ha).put hf0⟩
      · rw [List.append_assoc]
        exact ((perm_pop hy).append_left ys).trans hp
      · rw [List.length_eraseIdx, if_pos hk]
        omega
    · rintro σ' H' ⟨ys, zs, v, rfl, h1, h2, hp, hz, B1, K1⟩
      have e : zs = [] := List.eq_nil_of_length_eq_zero (by omega)
      subst e
      rw [List.append_nil] at hp
      exact ⟨_, rfl, k f ys H' hp hf0 h2 B1 K1⟩
end

/-! ### the law -/
/-- the quotient that is asked for -/
def due13 (y a0 a1 b0 b1 : Int) : Rat := if y = 0 then (a0 : Rat) / (b0 : Rat) else if y = 1 then ((a0 : Rat) / (a1 : Rat)) / ((b0 : Rat) / (b1 : Rat)) else if y = 2 then ((a0 : Rat) / (a1 : Rat)) / (b0 : Rat) else (a0 : Rat) / ((b0 : Rat) / (b1 : Rat))
def sp13q (C : Addr) : Sp := fun vs H Q _ => ∃ (y a0 a1 b0 b1 : Int) (pa pb : Addr), vs = [.int y, .ref pa, .ref pb] ∧ H pa = some (.tup [.int a0, .int a1]) ∧ H pb = some (.tup [.int b0, .int b1]) ∧
  (a0.natAbs < 2 ^ 200 ∧ a1.natAbs < 2 ^ 200 ∧ b0.natAbs < 2 ^ 200 ∧ b1.natAbs < 2 ^ 200) ∧ a1 ≠ 0 ∧ b1 ≠ 0 ∧
  ∀ v H', Same H H' → (b0 = 0 → v = .bl true) → (b0 ≠ 0 → IsR C H' v (due13 y a0 a1 b0 b1)) → Q v H'
def sp13d : Sp := fun vs H Q _ => ∃ (y a0 a1 b0 b1 : Int) (pa pb : Addr), vs = [.int y, .ref pa, .ref pb] ∧ H pa = some (.tup [.int a0, .int a1]) ∧ H pb = some (.tup [.int b0, .int b1]) ∧
  (a0.natAbs < 2 ^ 200 ∧ a1.natAbs < 2 ^ 200 ∧ b0.natAbs < 2 ^ 200 ∧ b1.natAbs < 2 ^ 200) ∧ a1 ≠ 0 ∧ b1 ≠ 0 ∧ b0 ≠ 0 ∧
  ∀ (p : Addr) (t b : Int), H p = none → b ≠ 0 → b.natAbs < 2 ^ 9000 → Rat.divInt t b = due13 y a0 a1 b0 b1 → Q (.ref p) (upd H p (.tup [.int t, .int b]))
def spLaw (K : PySem.W.Frag) : Sp := fun vs H Q _ => ∃ (a : Addr) (ns : List Int), vs = [.ref a] ∧ SqL K H a (ns.map V.int) ∧ ns.length ≤ 63 ∧ ∀ H', Q (.bl true) H'
theorem due13_0 (a0 a1 b0 b1 : Int) : Rat.divInt a0 b0 = due13 0 a0 a1 b0 b1 := Rat.divInt_eq_div a0 b0
theorem due13_1 {a0 a1 b0 b1 : Int} (n1 : a1 ≠ 0) (n2 : b1 ≠ 0) (n0 : b0 ≠ 0) : Rat.divInt (a0 * b1) (a1 * b0) = due13 1 a0 a1 b0 b1 := by
  show _ = ((a0 : Rat) / (a1 : Rat)) / ((b0 : Rat) / (b1 : Rat))
  rw [← Rat.divInt_eq_div, ← Rat.divInt_eq_div, Rat.div_def, Rat.inv_divInt, Rat.divInt_mul_divInt]
theorem due13_2 {a0 a1 b0 b1 : Int} (n1 : a1 ≠ 0) (n0 : b0 ≠ 0) : Rat.divInt a0 (a1 * b0) = due13 2 a0 a1 b0 b1 := by
  show _ = ((a0 : Rat) / (a1 : Rat)) / (b0 : Rat)
  rw [← Rat.divInt_eq_div, ← Rat.num_divInt_den (b0 : Rat), Rat.div_def, Rat.inv_divInt, Rat.divInt_mul_divInt]
  show _ = Rat.divInt (a0 * 1) (a1 * b0)
  rw [Int.mul_one]
theorem due13_3 {y a0 a1 b0 b1 : Int} (e0 : y ≠ 0) (e1 : y ≠ 1) (e2 : y ≠ 2) (n2 : b1 ≠ 0) (n0 : b0 ≠ 0) : Rat.divInt (a0 * b1) b0 = due13 y a0 a1 b0 b1 := by
  unfold due13
  rw [if_neg e0, if_neg e1, if_neg e2, ← Rat.divInt_eq_div b0 b1, ← Rat.num_divInt_den (a0 : Rat), Rat.div_def, Rat.inv_divInt, Rat.divInt_mul_divInt]
  show _ = Rat.divInt (a0 * b1) (1 * b0)
  rw [Int.one_mul]
theorem neD_same {K : PySem.W.Frag} {H : Hp} {p q : Addr} {a b : Int} {Q : VK} (hp : H p = some (.tup [.int a, .int b])) (hq : H q = some (.tup [.int a, .int b])) (h : Q (.bl false) H) : rNeD K (.ref p) (.ref q) H Q := by
  refine ⟨.tuple [.int a, .int b], .tuple [.int a, .int b], .tup (SqT.of hp) (.cons (.int a) (.cons (.int b) .nil)), .tup (SqT.of hq) (.cons (.int a) (.cons (.int b) .nil)), rfl, rfl, ?_⟩
  have e : PyData.eqv (.tuple [.int a, .int b]) (.tuple [.int a, .int b]) = true := by simp [PyData.eqv, PyData.eqvAll]
  rw [e]
  exact h
theorem or_go {K : PySem.W.Frag} {H : Hp} {σ : L2.St} {Q : VK} {n d : Int} (hd : d ≠ 0) (h : ∀ m : Int, m ≠ 0 → (m = n ∨ m = d) → Q (.int m) H) : ∃ k, TruV K (.int n) H k ∧ if k = true then Q (.int n) H else tC (.int d) σ H Q := by
  by_cases e : n = 0
  · exact ⟨false, by rw [e]; rfl, iteF (h d hd (.inr rfl))⟩
  · exact ⟨true, (show true = (n != 0) by simp [e]), iteT (h n e (.inl rfl))⟩
theorem kit_self {K : PySem.W.Frag} {C : Addr} : PySem.W.kitOne K (.ref C) (.ref C) = some true := by simp [PySem.W.kitOne]
section
variable {P : Program} {w : World} {K : PySem.W.Frag} {mg : Str → Option Value} {base : Heap} {A : Ad}
theorem exm_NoRatio (T : Txt K mg A) : PySem.W.exmOne K (.ref A.NoRatio) (.ref A.NoRatio) = some true := PySem.W.exm_ref T.eb_NoRatio T.eh_NoRatio T.et_NoRatio T.es_NoRatio
theorem excC_NoRatio (T : Txt K mg A) : ExcC K A.NoRatio := ⟨T.xg_NoRatio, T.xk_NoRatio, T.eb_NoRatio, T.eh_NoRatio, T.xa_NoRatio, T.xn_NoRatio, T.xt_NoRatio, T.xm_NoRatio⟩
theorem suite13 (T : Txt K mg A) {D : Ends} {σ : L2.St} {H : Hp} {a : Addr} (hσ : σ[3]? = some (some (.ref a))) (h : D.rt (.bl true) H) :
    tRet (tAndV (tCB (rIsEV K (.ref A.NoRatio) none a) (tCons (tVar 3) (tCons (tC (.ref A.CostError)) tNil))) (tCB (rIsEV K (.ref A.NoRatio) none a) (tCons (tVar 3) (tCons (tC (.ty "ValueError")) tNil)))) D σ H :=
  ⟨_, hσ, _, _, _, _, rfl, rfl, excC_NoRatio T, rfl, fun _ r => r, T.xc_NoRatio, true, rfl, iteT ⟨_, hσ, _, _, _, _, rfl, rfl, excC_NoRatio T, rfl, fun _ r => r, T.xv_NoRatio, h⟩⟩
theorem w13 (T : Txt K mg A) {D : Ends} {σ : L2.St} {H : Hp} {Wout : WX} (hσ : 3 < σ.length) (h : D.rt (.bl true) H) :
    wAs K (.ref A.NoRatio) 3 (fun a cls d => tRet (tAndV (tCB (rIsEV K cls d a) (tCons (tVar 3) (tCons (tC (.ref A.CostError)) tNil))) (tCB (rIsEV K cls d a) (tCons (tVar 3) (tCons (tC (.ty "ValueError")) tNil))))) Wout D (.ref A.NoRatio) none σ H :=
  ⟨true, exm_NoRatio T, fun _ a _ => suite13 T (List.getElem?_set_self hσ) h, fun q => nomatch q⟩
theorem ok_l_quotient (T : Txt K mg A) : FnOk P w K mg base CX0 7 A.l_quotient A.fd_l_quotient P_l_quotient (sp13q A.Ratio) := by
  refine T.F_l_quotient.ok sc_l_quotient (fun vs H Q E h => ?_) (fun cdv Ar outer s H vs Q E hr h => ?_)
  · obtain ⟨y, a0, a1, b0, b1, pa, pb, rfl, _⟩ := h
    rfl
  · obtain ⟨y, a0, a1, b0, b1, pa, pb, rfl, ha, hb, ⟨z1, z2, z3, z4⟩, n1, n2, k⟩ := h
    refine ⟨_, (pss_one (ps_tryV (i := 3) rfl rfl sc_l_quotient.nd rfl rfl ⟨by rfl, by decide, .inl T.g_NoRatio⟩ takes0 (fun W pn xe tk _ => (pss_cons (ps_if (pt_cmpR op_eq (pv 0) pe_int (nomark _)) (pss_one (ps_ret (pe_makeS T.mk_Ratio (ok_m_Ratio_init T) (hr.mono (by decide)) (by rfl) T.g_Ratio T.b_m_Ratio_init .nil (fun σ => passAt tk σ) (pa_cons (pe_ix ix_tup (pv 1) pe_int (fun _ _ => rfl)) (pa_cons (pe_ix ix_tup (pv 2) pe_int (fun _ _ => rfl)) pa_nil))))) pss_nil)
      (pss_cons (ps_if (pt_cmpR op_eq (pv 0) pe_int (nomark _)) (pss_one (ps_ret (pe_methA (pe_makeS T.mk_Ratio (ok_m_Ratio_init T) (hr.mono (by decide)) (by rfl) T.g_Ratio T.b_m_Ratio_init .nil (fun σ => passAt tk σ) (pa_cons (pe_ix ix_tup (pv 1) pe_int (fun _ _ => rfl)) (pa_cons (pe_ix ix_tup (pv 1) pe_int (fun _ _ => rfl)) pa_nil))) T.cl_Ratio T.m_Ratio_over (ok_m_Ratio_over T) (hr.mono (by decide)) T.b_m_Ratio_over (fun σ => passAt tk σ) (pa_cons (pe_makeS T.mk_Ratio (ok_m_Ratio_init T) (hr.mono (by decide)) (by rfl) T.g_Ratio T.b_m_Ratio_init .nil (fun σ => passAt tk σ) (pa_cons (pe_ix ix_tup (pv 2) pe_int (fun _ _ => rfl)) (pa_cons (pe_ix ix_tup (pv 2) pe_int (fun _ _ => rfl)) pa_nil))) pa_nil)))) pss_nil)
      (pss_cons (ps_if (pt_cmpR op_eq (pv 0) pe_int (nomark _)) (pss_one (ps_ret (pe_methA (pe_makeS T.mk_Ratio (ok_m_Ratio_init T) (hr.mono (by decide)) (by rfl) T.g_Ratio T.b_m_Ratio_init .nil (fun σ => passAt tk σ) (pa_cons (pe_ix ix_tup (pv 1) pe_int (fun _ _ => rfl)) (pa_cons (pe_ix ix_tup (pv 1) pe_int (fun _ _ => rfl)) pa_nil))) T.cl_Ratio T.m_Ratio_over (ok_m_Ratio_over T) (hr.mono (by decide)) T.b_m_Ratio_over (fun σ => passAt tk σ) (pa_cons (pe_ix ix_tup (pv 2) pe_int (fun _ _ => rfl)) pa_nil)))) pss_nil)
      (pss_one (ps_ret (pe_methA (pe_makeS T.mk_Ratio (ok_m_Ratio_init T) (hr.mono (by decide)) (by rfl) T.g_Ratio T.b_m_Ratio_init_d1 T.dv_m_Ratio_init (fun σ => passAt tk σ) (pa_cons (pe_ix ix_tup (pv 1) pe_int (fun _ _ => rfl)) pa_nil)) T.cl_Ratio T.m_Ratio_over (ok_m_Ratio_over T) (hr.mono (by decide)) T.b_m_Ratio_over (fun σ => passAt tk σ) (pa_cons (pe_makeS T.mk_Ratio (ok_m_Ratio_init T) (hr.mono (by decide)) (by rfl) T.g_Ratio T.b_m_Ratio_init .nil (fun σ => passAt tk σ) (pa_cons (pe_ix ix_tup (pv 2) pe_int (fun _ _ => rfl)) (pa_cons (pe_ix ix_tup (pv 2) pe_int (fun _ _ => rfl)) pa_nil))) pa_nil)))))))) (fun a oe cls d pn hz hf => (pss_one (ps_ret (pe_and (pe_callB (call_isEV hz hf) (by rfl) T.z_isinstance (by decide +kernel) (pa_cons (pv 3) (pa_cons (pe_glob (v := .ref A.CostError) (by rfl) T.g_CostError rfl) pa_nil))) (pe_one (pe_callB (call_isEV hz hf) (by rfl) T.z_isinstance (by decide +kernel) (pa_cons (pv 3) (pa_cons (pe_bltn (v := .ty "ValueError") (by rfl) T.z_ValueError (by decide +kernel) rfl) pa_nil)))))))) (fun _ _ _ => rfl) (fun _ _ _ _ _ => rfl))), ?_⟩
    have eW : ∀ {H'}, Same H H' → b0 = 0 → Q (.bl true) H' := fun s e => k _ _ s (fun _ => rfl) (fun z => absurd e z)
    have hc : ∀ n d : Int, Rat.divInt n d = (n : Rat) / (d : Rat) := fun n d => Rat.divInt_eq_div n d
    have sz : ∀ {n d : Int}, n.natAbs < 2 ^ 200 → d.natAbs < 2 ^ 200 → d ≠ 0 → Sz 200 (Rat.divInt n d) := fun h1 h2 h3 => Sz.div h1 h2 h3
    have sa := sz z1 z2 n1
    have sb := sz z3 z4 n2
    have b00 : ∀ n : Int, Rat.divInt n b1 = 0 → n = 0 := fun n e => by
      have z := (Rat.divInt_eq_divInt_iff n2 n2).mp (e.trans (Rat.zero_divInt b1).symm)
      rw [Int.zero_mul] at z
      exact (Int.mul_eq_zero.mp z).resolve_right n2
    walk_at "go"
    refine if_int (fun e0 => ?_) (fun e0 => ?_)
    · -- Ratio(a[0], b[0])
      subst e0
      walk_at "go"
      intro x dx hx hd _
      refine mk_ratio hx hd (lt_pow z3 (by decide)) (fun e H' s => w13 T (Nat.le_of_ble_eq_true rfl) (eW s e)) (fun e H' s i => ⟨rfl, ?_⟩)
      exact k _ H' s (fun z => absurd z e) (fun _ => by rw [hc] at i; exact i)
    walk_at "go"
    refine if_int (fun e1 => ?_) (fun e1 => ?_)
    · -- Ratio(a[0], a[1]).over(Ratio(b[0], b[1]))
      subst e1
      walk_at "go"
      intro x dx hx hd _
      refine mk_ratio hx hd (lt_pow z2 (by decide)) (fun e => absurd e n1) (fun e H1 s1 i1 => ⟨rfl, ?_⟩)
      have hb1 := s1 _ _ hb
      obtain ⟨px, dx1, ex, hx1⟩ := id i1
      cases ex
      refine ⟨x, dx1, _, rfl, hx1, rf_no _ _ (by decide +kernel) (by decide +kernel), ?_⟩
      walk_at "go"
      intro y dy hy hd2 _
      refine mk_ratio hy hd2 (lt_pow z4 (by decide)) (fun e => absurd e n2) (fun e H2 s2 i2 => ⟨rfl, ?_⟩)
      refine ⟨_, _, _, _, 200, 200, rfl, i1.same s2, .inl i2, sa, sb, by decide, fun e H' s => w13 T (Nat.le_of_ble_eq_true rfl) (eW ((s1.trans s2).trans s) (b00 _ e)), fun e v' H' s i => ?_⟩
      refine k _ H' ((s1.trans s2).trans s) (fun z => absurd (by rw [z]; exact Rat.zero_divInt _) e) (fun _ => ?_)
      rw [hc, hc] at i
      exact i
    walk_at "go"
    refine if_int (fun e2 => ?_) (fun e2 => ?_)
    · -- Ratio(a[0], a[1]).over(b[0])
      subst e2
      walk_at "go"
      intro x dx hx hd _
      refine mk_ratio hx hd (lt_pow z2 (by decide)) (fun e => absurd e n1) (fun e H1 s1 i1 => ⟨rfl, ?_⟩)
      have hb1 := s1 _ _ hb
      obtain ⟨px, dx1, ex, hx1⟩ := id i1
      cases ex
      refine ⟨x, dx1, _, rfl, hx1, rf_no _ _ (by decide +kernel) (by decide +kernel), ?_⟩
      refine ⟨_, rfl, pb, _, _, _, rfl, rfl, SqT.of hb1, rfl, ?_⟩
      refine ⟨_, _, _, (b0 : Rat), 200, 200, rfl, i1, .inr ⟨b0, rfl, rfl⟩, sa, .int z3 (by decide), by decide, fun e H' s => w13 T (Nat.le_of_ble_eq_true rfl) (eW (s1.trans s) (Rat.intCast_eq_zero_iff.mp e)), fun e v' H' s i => ?_⟩
      refine k _ H' (s1.trans s) (fun z => absurd (by rw [z]; rfl) e) (fun _ => ?_)
      rw [hc] at i
      exact i
    · -- Ratio(a[0]).over(Ratio(b[0], b[1]))
      walk_at "go"
      intro x dx hx hd _
      refine mk_ratio hx hd (lt_pow (a := 1) (by decide) (by decide)) (fun e => by cases e) (fun e H1 s1 i1 => ⟨rfl, ?_⟩)
      have hb1 := s1 _ _ hb
      have ea : Rat.divInt a0 1 = (a0 : Rat) := Rat.num_divInt_den (a0 : Rat)
      rw [ea] at i1
      obtain ⟨px, dx1, ex, hx1⟩ := id i1
      cases ex
      refine ⟨x, dx1, _, rfl, hx1, rf_no _ _ (by decide +kernel) (by decide +kernel), ?_⟩
      walk_at "go"
      intro y' dy hy hd2 _
      refine mk_ratio hy hd2 (lt_pow z4 (by decide)) (fun e => absurd e n2) (fun e H2 s2 i2 => ⟨rfl, ?_⟩)
      refine ⟨_, _, _, _, 200, 200, rfl, i1.same s2, .inl i2, .int z1 (by decide), sb, by decide, fun e H' s => w13 T (Nat.le_of_ble_eq_true rfl) (eW ((s1.trans s2).trans s) (b00 _ e)), fun e v' H' s i => ?_⟩
      refine k _ H' ((s1.trans s2).trans s) (fun z => absurd (by rw [z]; exact Rat.zero_divInt _) e) (fun _ => ?_)
      rw [hc] at i
      unfold due13
      rw [if_neg e0, if_neg e1, if_neg e2]
      exact i
theorem ok_l_due (T : Txt K mg A) : FnOk P w K mg base CX0 1 A.l_due A.fd_l_due P_l_due sp13d := by
  refine T.F_l_due.ok sc_l_due (fun vs H Q E h => ?_) (fun cdv Ar outer s H vs Q E hr h => ?_)
  · obtain ⟨y, a0, a1, b0, b1, pa, pb, rfl, _⟩ := h
    rfl
  · obtain ⟨y, a0, a1, b0, b1, pa, pb, rfl, ha, hb, ⟨z1, z2, z3, z4⟩, n1, n2, n0, k⟩ := h
    have m1 := mulw z1 z4 (by decide)
    have m2 := mulw z2 z3 (by decide)
    have p1 := mul_lt z1 z4
    have p2 := mul_lt z2 z3
    refine ⟨_, (pss_cons (ps_if (pt_cmpR op_eq (pv 0) pe_int (nomark _)) (pss_one (ps_ret (pe_tup (pa_cons (pe_ix ix_tup (pv 1) pe_int (fun _ _ => rfl)) (pa_cons (pe_ix ix_tup (pv 2) pe_int (fun _ _ => rfl)) pa_nil))))) pss_nil)
      (pss_cons (ps_if (pt_cmpR op_eq (pv 0) pe_int (nomark _)) (pss_one (ps_ret (pe_tup (pa_cons (pe_op op_mulW (pe_ix ix_tup (pv 1) pe_int (fun _ _ => rfl)) (pe_ix ix_tup (pv 2) pe_int (fun _ _ => rfl))) (pa_cons (pe_op op_mulW (pe_ix ix_tup (pv 1) pe_int (fun _ _ => rfl)) (pe_ix ix_tup (pv 2) pe_int (fun _ _ => rfl))) pa_nil))))) pss_nil)
      (pss_cons (ps_if (pt_cmpR op_eq (pv 0) pe_int (nomark _)) (pss_one (ps_ret (pe_tup (pa_cons (pe_ix ix_tup (pv 1) pe_int (fun _ _ => rfl)) (pa_cons (pe_op op_mulW (pe_ix ix_tup (pv 1) pe_int (fun _ _ => rfl)) (pe_ix ix_tup (pv 2) pe_int (fun _ _ => rfl))) pa_nil))))) pss_nil)
      (pss_one (ps_ret (pe_tup (pa_cons (pe_op op_mulW (pe_ix ix_tup (pv 1) pe_int (fun _ _ => rfl)) (pe_ix ix_tup (pv 2) pe_int (fun _ _ => rfl))) (pa_cons (pe_ix ix_tup (pv 2) pe_int (fun _ _ => rfl)) pa_nil)))))))), ?_⟩
    walk_at "go"
    refine if_int (fun e0 => ?_) (fun e0 => ?_)
    · subst e0
      walk_at "go"
      intro p hp
      exact k p _ _ hp n0 (lt_pow z3 (by decide)) (due13_0 ..)
    walk_at "go"
    refine if_int (fun e1 => ?_) (fun e1 => ?_)
    · subst e1
      walk_at "go"
      intro p hp
      exact k p _ _ hp (Int.mul_ne_zero n1 n0) (lt_pow p2 (by decide)) (due13_1 n1 n2 n0)
    walk_at "go"
    refine if_int (fun e2 => ?_) (fun e2 => ?_)
    · subst e2
      walk_at "go"
      intro p hp
      exact k p _ _ hp (Int.mul_ne_zero n1 n0) (lt_pow p2 (by decide)) (due13_2 n1 n0)
    walk_at "go"
    intro p hp
    exact k p _ _ hp n0 (lt_pow z3 (by decide)) (due13_3 e0 e1 e2 n2 n0)
theorem ok_f_law (T : Txt K mg A) : FnOk P w K mg base CX0 8 A.f_law A.fd_f_law P_f_law (spLaw K) := by
  refine T.F_f_law.ok sc_f_law (fun vs H Q E h => ?_) (fun cdv Ar outer s H vs Q E hr h => ?_)
  · obtain ⟨a, ns, rfl, _⟩ := h
    rfl
  · obtain ⟨a, ns, rfl, hS, hlen, k⟩ := h
    refine ⟨_, (pss_cons (ps_set (i := 1) sc_f_law.nd rfl (Or.inl rfl) (pe_call (ok_l_bag T) (hr.mono (by decide)) (by rfl) T.g__law_bag T.F_l_bag.kp T.b_l_bag .nil pass0 (pa_cons (pv 0) pa_nil)))
      (pss_cons (ps_set (i := 2) sc_f_law.nd rfl (Or.inl rfl) (pe_call (ok_l_draw T) (hr.mono (by decide)) (by rfl) T.g__law_draw T.F_l_draw.kp T.b_l_draw .nil pass0 (pa_cons (pv 1) (pa_cons pe_int pa_nil))))
      (pss_cons (ps_set (i := 3) sc_f_law.nd rfl (Or.inl rfl) (pe_tup (pa_cons (pe_call (ok_l_integer T) (hr.mono (by decide)) (by rfl) T.g__law_integer T.F_l_integer.kp T.b_l_integer .nil pass0 (pa_cons (pv 1) pa_nil)) (pa_cons (pe_orT (pe_call (ok_l_integer T) (hr.mono (by decide)) (by rfl) T.g__law_integer T.F_l_integer.kp T.b_l_integer .nil pass0 (pa_cons (pv 1) pa_nil)) (pe_one pe_int)) pa_nil))))
      (pss_cons (ps_set (i := 4) sc_f_law.nd rfl (Or.inl rfl) (pe_tup (pa_cons (pe_op op_mul (pe_call (ok_l_integer T) (hr.mono (by decide)) (by rfl) T.g__law_integer T.F_l_integer.kp T.b_l_integer .nil pass0 (pa_cons (pv 1) pa_nil)) (pv 2)) (pa_cons (pe_orT (pe_call (ok_l_integer T) (hr.mono (by decide)) (by rfl) T.g__law_integer T.F_l_integer.kp T.b_l_integer .nil pass0 (pa_cons (pv 1) pa_nil)) (pe_one pe_int)) pa_nil))))
      (pss_cons (ps_g (ps_for PassesOwn.never rfl (pi_list (pe_call (ok_l_mixed T) (hr.mono (by decide)) (by rfl) T.g__law_mixed T.F_l_mixed.kp T.b_l_mixed .nil pass0 (pa_cons (pv 1) (pa_cons (pe_lst (pa_cons pe_int (pa_cons pe_int (pa_cons pe_int (pa_cons pe_int pa_nil))))) pa_nil)))) (pg_name (i := 5) sc_f_law.nd rfl (Or.inl rfl)) (pss_cons (ps_set (i := 6) sc_f_law.nd rfl (Or.inl rfl) (pe_call (ok_l_quotient T) (hr.mono (by decide)) (by rfl) T.g__law_quotient T.F_l_quotient.kp T.b_l_quotient .nil pass0 (pa_cons (pv 5) (pa_cons (pv 3) (pa_cons (pv 4) pa_nil)))))
      (pss_one (ps_if (pt_cmpR op_eq (pe_ix ix_tup (pv 4) pe_int (fun _ _ => rfl)) pe_int (nomark _)) (pss_one (ps_if (pt_cmpR op_notBl (pv 6) pe_bl (nomark _)) (pss_one (ps_ret pe_bl)) pss_nil)) (pss_cons (ps_asg (pe_call (ok_l_due T) (hr.mono (by decide)) (by rfl) T.g__law_due T.F_l_due.kp T.b_l_due .nil pass0 (pa_cons (pv 5) (pa_cons (pv 3) (pa_cons (pv 4) pa_nil)))) (pg_tup rfl (pgs_cons (pg_name (i := 7) sc_f_law.nd rfl (Or.inl rfl)) (pgs_cons (pg_name (i := 8) sc_f_law.nd rfl (Or.inl rfl)) pgs_nil))))
      (pss_one (ps_if (PW.pt (pw_or (pt_not (pt_val (pe_callB call_isi (by rfl) T.z_isinstance (by decide +kernel) (pa_cons (pv 6) (pa_cons (pe_glob (v := .ref A.Ratio) (by rfl) T.g_Ratio rfl) pa_nil))))) (pw_or1 (pt_cmpR (op_neD hr.units) (pe_tup (pa_cons (pe_fld (pv 6) rfl) (pa_cons (pe_fld (pv 6) rfl) pa_nil))) (pe_call (ok_l_lowest T) (hr.mono (by decide)) (by rfl) T.g__law_lowest T.F_l_lowest.kp T.b_l_lowest .nil pass0 (pa_cons (pv 7) (pa_cons (pv 8) pa_nil))) (nomark _))))) (pss_one (ps_ret pe_bl)) pss_nil))))))))
      (pss_one (ps_ret pe_bl))))))), ?_⟩
    walk_at "go"
    intro g l H1 s1 hg hl B1
    walk_at "go"
    intro z H2 z0 z2 B2 K2
    walk_at "go"
    intro a0 H3 za0 B3 K3
    walk_at "go"
    intro n1 H4 zn1 B4 K4
    refine or_go (by decide) fun a1 a10 ea1 => ?_
    walk_at "go"
    intro pa hpa
    have B5 := B4.new (o := .tup [.int a0, .int a1]) hpa
    have npa := (B4.ne hpa).1
    have hA4 : (upd H4 pa (.tup [.int a0, .int a1])) pa = some (.tup [.int a0, .int a1]) := upd_same
    walk_at "go"
    intro m0 H5 zm0 B6 K5
    walk_at "go"
    intro m1 H6 zm1 B7 K6
    refine or_go (by decide) fun b1 b10 eb1 => ?_
    walk_at "go"
    intro pb hpb
    have hA5 := K5 _ _ hA4 npa
    have hA6 := K6 _ _ hA5 npa
    have B8 := B7.new (o := .tup [.int (m0 * z), .int b1]) hpb
    have npb := (B7.ne hpb).1
    have hA7 : (upd H6 pb (.tup [.int (m0 * z), .int b1])) pa = some (.tup [.int a0, .int a1]) := Same.new hpb _ _ hA6
    have hB7 : (upd H6 pb (.tup [.int (m0 * z), .int b1])) pb = some (.tup [.int (m0 * z), .int b1]) := upd_same
    have l1 : a0.natAbs < 2 ^ 200 := lt200 za0
    have l2 : a1.natAbs < 2 ^ 200 := by
      rcases ea1 with e | e
      · rw [e]
        exact lt200 zn1
      · rw [e]
        decide
    have l3 : (m0 * z).natAbs < 2 ^ 200 := by
      have : z = 0 ∨ z = 1 := by omega
      rcases this with e | e
      · rw [e, Int.mul_zero]
        decide
      · rw [e, Int.mul_one]
        exact lt200 zm0
    have l4 : b1.natAbs < 2 ^ 200 := by
      rcases eb1 with e | e
      · rw [e]
        exact lt200 zm1
      · rw [e]
        decide
    refine ⟨_, rfl, by walk_at "fact", fun q hq => ⟨g, l, q, _, rfl, B8.new hq, upd_same, by decide, fun p ys H8 perm hp hp8 B9 K8 => ⟨p, rfl, ⟨_, SqL.of hp8⟩, ?_⟩⟩⟩
    have hA8 := K8 _ _ (Same.new hq _ _ hA7) npa
    have hB8 := K8 _ _ (Same.new hq _ _ hB7) npb
    refine for_list (K := K) (a := p) (xs := ys) (fun i σ' H' => Wd (∃ v5 v6 v7 v8 : Option V, σ' = [some (.ref a), some (.ref g), some (.int z), some (.ref pa), some (.ref pb), v5, v6, v7, v8] ∧ Same H8 H'))
      ⟨none, none, none, none, rfl, Same.refl _⟩ (fun i σ' H' _ ⟨_, _, _, _, _, s⟩ => s.seq (SqL.of hp8)) ?_ ?_
    · rintro i x σ' H' hi ⟨v5, v6, v7, v8, rfl, s8⟩
      obtain ⟨y, rfl⟩ : ∃ y, x = V.int y := by
        have hm : x ∈ [V.int 0, V.int 1, V.int 2, V.int 3] := perm.mem_iff.mp (List.mem_of_getElem? hi)
        simp only [List.mem_cons, List.not_mem_nil, or_false] at hm
        rcases hm with e | e | e | e
        all_goals exact ⟨_, e⟩
      have hA9 := s8 _ _ hA8
      have hB9 := s8 _ _ hB8
      refine ⟨_, rfl, _, rfl, _, rfl, y, a0, a1, m0 * z, b1, pa, pb, rfl, hA9, hB9, ⟨l1, l2, l3, l4⟩, a10, b10, fun v H9 s9 h0 h1 => ?_⟩
      have hA := s9 _ _ hA9
      have hB := s9 _ _ hB9
      walk_at "go"
      refine if_int (fun e => ?_) (fun e => ?_)
      · obtain rfl := h0 e
        refine ⟨_, rfl, true, true, rfl, rfl, _, rfl, iteF ?_⟩
        exact ⟨_, _, _, _, rfl, s8.trans s9⟩
      · obtain ⟨pv, dx, rfl, hv⟩ := h1 e
        refine ⟨_, rfl, _, rfl, _, rfl, y, a0, a1, m0 * z, b1, pa, pb, rfl, hA, hB, ⟨l1, l2, l3, l4⟩, a10, b10, e, fun p2 t b hp2 bn bl ed => ?_⟩
        have hv2 := Same.new (o := .tup [.int t, .int b]) hp2 _ _ hv
        refine ⟨p2, _, rfl, SqT.of upd_same, rfl, _, _, rfl, _, _, rfl, rfl, ?_⟩
        refine ⟨_, rfl, _, _, _, _, _, rfl, .own _, ty_ratio T hv2, kit_self, _, rfl, iteF ?_⟩
        refine ⟨_, rfl, pv, _, dx, _, _, rfl, hv2, T.cl_Ratio, T.n_Ratio_top, rf_top _ _, _, rfl, pv, _, dx, _, _, rfl, hv2, T.cl_Ratio, T.n_Ratio_bottom, rf_bottom _ _, by walk_at "fact", fun p3 hp3 => ?_⟩
        refine ⟨_, rfl, _, rfl, t, b, rfl, bn, bl, fun p4 hp4 => ?_⟩
        rw [ed]
        refine neD_same (Same.new hp4 _ _ upd_same) upd_same ⟨false, rfl, iteF ?_⟩
        exact ⟨_, _, _, _, rfl, (s8.trans s9).trans ((Same.new hp2).trans ((Same.new hp3).trans (Same.new hp4)))⟩
    · rintro σ' H' ⟨v5, v6, v7, v8, rfl, s8⟩
      exact k _
end

theorem all_mk {l : PySem.W.OpenLaw} {w : World} {K : PySem.W.Frag} {h : Heap} {mg : Str → Option Value} {fa a_CostError a_NoRatio a_Ratio a_f_common_divisor a_f_halves a_m_Ratio_init a_m_Ratio_add a_m_Ratio_radd a_m_Ratio_sub a_m_Ratio_rsub a_m_Ratio_mul a_m_Ratio_rmul a_m_Ratio_neg a_m_Ratio_abs a_m_Ratio_over a_l_bag a_l_draw a_l_mixed a_l_integer a_l_divisor a_l_lowest a_l_quotient a_l_due a_f_law : Addr} (X : K.In h) (G : h.Ns mainGlobals mg) (hfa : mg "law" = some (.ref fa))
    {od_f_common_divisor : Option Addr} {an_f_common_divisor : Option Addr} {sl_f_common_divisor : Array (Option Value)} {oc_f_common_divisor : Value} {kV_f_common_divisor : Value} {dc_f_common_divisor : Value} {pm_f_common_divisor : Value} {cd_f_common_divisor : Value} {ct_f_common_divisor : Value} {od_f_halves : Option Addr} {an_f_halves : Option Addr} {sl_f_halves : Array (Option Value)} {oc_f_halves : Value} {kV_f_halves : Value} {dc_f_halves : Value} {pm_f_halves : Value} {cd_f_halves : Value} {ct_f_halves : Value} {od_m_Ratio_init : Option Addr} {an_m_Ratio_init : Option Addr} {sl_m_Ratio_init : Array (Option Value)} {oc_m_Ratio_init : Value} {kV_m_Ratio_init : Value} {dc_m_Ratio_init : Value} {pm_m_Ratio_init : Value} {cd_m_Ratio_init : Value} {ct_m_Ratio_init : Value} {tp_m_Ratio_init : Addr} {tn_m_Ratio_init : Nat} {tc_m_Ratio_init : Value} {td_m_Ratio_init : Option Addr} {ts_m_Ratio_init : Array (Option Value)} {tk0_m_Ratio_init : Tok} {od_m_Ratio_add : Option Addr} {an_m_Ratio_add : Option Addr} {sl_m_Ratio_add : Array (Option Value)} {oc_m_Ratio_add : Value} {kV_m_Ratio_add : Value} {dc_m_Ratio_add : Value} {pm_m_Ratio_add : Value} {cd_m_Ratio_add : Value} {ct_m_Ratio_add : Value} {od_m_Ratio_radd : Option Addr} {an_m_Ratio_radd : Option Addr} {sl_m_Ratio_radd : Array (Option Value)} {oc_m_Ratio_radd : Value} {kV_m_Ratio_radd : Value} {dc_m_Ratio_radd : Value} {pm_m_Ratio_radd : Value} {cd_m_Ratio_radd : Value} {ct_m_Ratio_radd : Value} {od_m_Ratio_sub : Option Addr} {an_m_Ratio_sub : Option Addr} {sl_m_Ratio_sub : Array (Option Value)} {oc_m_Ratio_sub : Value} {kV_m_Ratio_sub : Value} {dc_m_Ratio_sub : Value} {pm_m_Ratio_sub : Value} {cd_m_Ratio_sub : Value} {ct_m_Ratio_sub : Value} {od_m_Ratio_rsub : Option Addr} {an_m_Ratio_rsub : Option Addr} {sl_m_Ratio_rsub : Array (Option Value)} {oc_m_Ratio_rsub : Value} {kV_m_Ratio_rsub : Value} {dc_m_Ratio_rsub : Value} {pm_m_Ratio_rsub : Value} {cd_m_Ratio_rsub : Value} {ct_m_Ratio_rsub : Value} {od_m_Ratio_mul : Option Addr} {an_m_Ratio_mul : Option Addr} {sl_m_Ratio_mul : Array (Option Value)} {oc_m_Ratio_mul : Value} {kV_m_Ratio_mul : Value} {dc_m_Ratio_mul : Value} {pm_m_Ratio_mul : Value} {cd_m_Ratio_mul : Value} {ct_m_Ratio_mul : Value} {od_m_Ratio_rmul : Option Addr} {an_m_Ratio_rmul : Option Addr} {sl_m_Ratio_rmul : Array (Option Value)} {oc_m_Ratio_rmul : Value} {kV_m_Ratio_rmul : Value} {dc_m_Ratio_rmul : Value} {pm_m_Ratio_rmul : Value} {cd_m_Ratio_rmul : Value} {ct_m_Ratio_rmul : Value} {od_m_Ratio_neg : Option Addr} {an_m_Ratio_neg : Option Addr} {sl_m_Ratio_neg : Array (Option Value)} {oc_m_Ratio_neg : Value} {kV_m_Ratio_neg : Value} {dc_m_Ratio_neg : Value} {pm_m_Ratio_neg : Value} {cd_m_Ratio_neg : Value} {ct_m_Ratio_neg : Value} {od_m_Ratio_abs : Option Addr} {an_m_Ratio_abs : Option Addr} {sl_m_Ratio_abs : Array (Option Value)} {oc_m_Ratio_abs : Value} {kV_m_Ratio_abs : Value} {dc_m_Ratio_abs : Value} {pm_m_Ratio_abs : Value} {cd_m_Ratio_abs : Value} {ct_m_Ratio_abs : Value} {od_m_Ratio_over : Option Addr} {an_m_Ratio_over : Option Addr} {sl_m_Ratio_over : Array (Option Value)} {oc_m_Ratio_over : Value} {kV_m_Ratio_over : Value} {dc_m_Ratio_over : Value} {pm_m_Ratio_over : Value} {cd_m_Ratio_over : Value} {ct_m_Ratio_over : Value} {od_l_bag : Option Addr} {an_l_bag : Option Addr} {sl_l_bag : Array (Option Value)} {oc_l_bag : Value} {kV_l_bag : Value} {dc_l_bag : Value} {pm_l_bag : Value} {cd_l_bag : Value} {ct_l_bag : Value} {od_l_draw : Option Addr} {an_l_draw : Option Addr} {sl_l_draw : Array (Option Value)} {oc_l_draw : Value} {kV_l_draw : Value} {dc_l_draw : Value} {pm_l_draw : Value} {cd_l_draw : Value} {ct_l_draw : Value} {od_l_mixed : Option Addr} {an_l_mixed : Option Addr} {sl_l_mixed : Array (Option Value)} {oc_l_mixed : Value} {kV_l_mixed : Value} {dc_l_mixed : Value} {pm_l_mixed : Value} {cd_l_mixed : Value} {ct_l_mixed : Value} {od_l_integer : Option Addr} {an_l_integer : Option Addr} {sl_l_integer : Array (Option Value)} {oc_l_integer : Value} {kV_l_integer : Value} {dc_l_integer : Value} {pm_l_integer : Value} {cd_l_integer : Value} {ct_l_integer : Value} {od_l_divisor : Option Addr} {an_l_divisor : Option Addr} {sl_l_divisor : Array (Option Value)} {oc_l_divisor : Value} {kV_l_divisor : Value} {dc_l_divisor : Value} {pm_l_divisor : Value} {cd_l_divisor : Value} {ct_l_divisor : Value} {od_l_lowest : Option Addr} {an_l_lowest : Option Addr} {sl_l_lowest : Array (Option Value)} {oc_l_lowest : Value} {kV_l_lowest : Value} {dc_l_lowest : Value} {pm_l_lowest : Value} {cd_l_lowest : Value} {ct_l_lowest : Value} {od_l_quotient : Option Addr} {an_l_quotient : Option Addr} {sl_l_quotient : Array (Option Value)} {oc_l_quotient : Value} {kV_l_quotient : Value} {dc_l_quotient : Value} {pm_l_quotient : Value} {cd_l_quotient : Value} {ct_l_quotient : Value} {od_l_due : Option Addr} {an_l_due : Option Addr} {sl_l_due : Array (Option Value)} {oc_l_due : Value} {kV_l_due : Value} {dc_l_due : Value} {pm_l_due : Value} {cd_l_due : Value} {ct_l_due : Value} {od_f_law : Option Addr} {an_f_law : Option Addr} {sl_f_law : Array (Option Value)} {oc_f_law : Value} {kV_f_law : Value} {dc_f_law : Value} {pm_f_law : Value} {cd_f_law : Value} {ct_f_law : Value}
    (pz_ValueError : PySem.W.nsIn K mainGlobals "ValueError" = some none)
    (pz_abs : PySem.W.nsIn K mainGlobals "abs" = some none)
    (pz_int : PySem.W.nsIn K mainGlobals "int" = some none)
    (pz_isinstance : PySem.W.nsIn K mainGlobals "isinstance" = some none)
    (pz_len : PySem.W.nsIn K mainGlobals "len" = some none)
    (pz_list : PySem.W.nsIn K mainGlobals "list" = some none)
    (pz_range : PySem.W.nsIn K mainGlobals "range" = some none)
    (pg_CostError : PySem.W.nsIn K mainGlobals "CostError" = some (some (.ref a_CostError)))
    (pek_CostError : PySem.W.keepIn K (.ref a_CostError) = true)
    (peb_CostError : PySem.W.subIn K (.ref a_CostError) (.type "BaseException") = some true)
    (pet_CostError : PySem.W.typeIn K (.ref a_CostError) = some (.type "type"))
    (peh_CostError : PySem.W.hasDictIn K a_CostError = true)
    (peic_CostError : PySem.W.isClsIn K a_CostError = true)
    (pes_CostError : PySem.W.subIn K (.ref a_CostError) (.ref a_CostError) = some true)
    (pg_NoRatio : PySem.W.nsIn K mainGlobals "NoRatio" = some (some (.ref a_NoRatio)))
    (pek_NoRatio : PySem.W.keepIn K (.ref a_NoRatio) = true)
    (peb_NoRatio : PySem.W.subIn K (.ref a_NoRatio) (.type "BaseException") = some true)
    (pet_NoRatio : PySem.W.typeIn K (.ref a_NoRatio) = some (.type "type"))
    (peh_NoRatio : PySem.W.hasDictIn K a_NoRatio = true)
    (peic_NoRatio : PySem.W.isClsIn K a_NoRatio = true)
    (pes_NoRatio : PySem.W.subIn K (.ref a_NoRatio) (.ref a_NoRatio) = some true)
    (pex_NoRatio : PySem.W.excIn K a_NoRatio [.type "ValueError", .type "Exception", .type "BaseException", .type "object"] "ValueError.__new__" = true)
    (pxg_NoRatio : PySem.W.findIn K (.ref a_NoRatio) "__getattribute__" = some (some (.builtin "BaseException.__getattribute__")))
    (pxk_NoRatio : PySem.W.findIn K (.ref a_NoRatio) "__getattr__" = some none)
    (pxa_NoRatio : PySem.W.findIn K (.ref a_NoRatio) "__class__" = some (some (.builtin "object.__class__")))
    (pxn_NoRatio : PySem.W.specialIn K (.builtin "object.__class__") "__get__" = some (some (.builtin "getset_descriptor.__get__")))
    (pxt_NoRatio : PySem.W.takesIn K (.builtin "object.__class__") = some true)
    (pxm_NoRatio : PySem.W.mroIn K a_NoRatio (.type "object") = some true)
    (pxc_NoRatio : PySem.W.kitOne K (.ref a_NoRatio) (.ref a_CostError) = some true)
    (pxv_NoRatio : PySem.W.kitOne K (.ref a_NoRatio) (.type "ValueError") = some true)
    (pg_Ratio : PySem.W.nsIn K mainGlobals "Ratio" = some (some (.ref a_Ratio)))
    (ppg_Ratio : PySem.W.plainGet K a_Ratio Str.empty = true)
    (phd_Ratio : PySem.W.hasDictIn K a_Ratio = true)
    (ppo_Ratio : PySem.W.plainOver K a_Ratio = true)
    (psa_Ratio : PySem.W.findIn K (.ref a_Ratio) "__setattr__" = some (some (.builtin "object.__setattr__")))
    (pn_Ratio_top : NoAttr K a_Ratio "top")
    (pn_Ratio_bottom : NoAttr K a_Ratio "bottom")
    (pma_Ratio : PySem.W.makesIn K a_Ratio = true)
    (pmi_Ratio : PySem.W.findIn K (.ref a_Ratio) "__init__" = some (some (.ref a_m_Ratio_init)))
    (pmf_Ratio : PySem.W.isFn K (.ref a_m_Ratio_init) = true)
    (pmc_Ratio : PySem.W.keepIn K (.ref a_Ratio) = true)
    (pmt_m_Ratio_add : PySem.W.findIn K (.ref a_Ratio) "__add__" = some (some (.ref a_m_Ratio_add)))
    (pmn_m_Ratio_add : PySem.W.isFn K (.ref a_m_Ratio_add) = true)
    (pmk_m_Ratio_add : PySem.W.keepIn K (.ref a_m_Ratio_add) = true)
    (pmt_m_Ratio_radd : PySem.W.findIn K (.ref a_Ratio) "__radd__" = some (some (.ref a_m_Ratio_radd)))
    (pmn_m_Ratio_radd : PySem.W.isFn K (.ref a_m_Ratio_radd) = true)
    (pmk_m_Ratio_radd : PySem.W.keepIn K (.ref a_m_Ratio_radd) = true)
    (pmt_m_Ratio_sub : PySem.W.findIn K (.ref a_Ratio) "__sub__" = some (some (.ref a_m_Ratio_sub)))
    (pmn_m_Ratio_sub : PySem.W.isFn K (.ref a_m_Ratio_sub) = true)
    (pmk_m_Ratio_sub : PySem.W.keepIn K (.ref a_m_Ratio_sub) = true)
    (pmt_m_Ratio_rsub : PySem.W.findIn K (.ref a_Ratio) "__rsub__" = some (some (.ref a_m_Ratio_rsub)))
    (pmn_m_Ratio_rsub : PySem.W.isFn K (.ref a_m_Ratio_rsub) = true)
    (pmk_m_Ratio_rsub : PySem.W.keepIn K (.ref a_m_Ratio_rsub) = true)
    (pmt_m_Ratio_mul : PySem.W.findIn K (.ref a_Ratio) "__mul__" = some (some (.ref a_m_Ratio_mul)))
    (pmn_m_Ratio_mul : PySem.W.isFn K (.ref a_m_Ratio_mul) = true)
    (pmk_m_Ratio_mul : PySem.W.keepIn K (.ref a_m_Ratio_mul) = true)
    (pmt_m_Ratio_rmul : PySem.W.findIn K (.ref a_Ratio) "__rmul__" = some (some (.ref a_m_Ratio_rmul)))
    (pmn_m_Ratio_rmul : PySem.W.isFn K (.ref a_m_Ratio_rmul) = true)
    (pmk_m_Ratio_rmul : PySem.W.keepIn K (.ref a_m_Ratio_rmul) = true)
    (pmt_m_Ratio_neg : PySem.W.findIn K (.ref a_Ratio) "__neg__" = some (some (.ref a_m_Ratio_neg)))
    (pmn_m_Ratio_neg : PySem.W.isFn K (.ref a_m_Ratio_neg) = true)
    (pmk_m_Ratio_neg : PySem.W.keepIn K (.ref a_m_Ratio_neg) = true)
    (pmt_m_Ratio_abs : PySem.W.findIn K (.ref a_Ratio) "__abs__" = some (some (.ref a_m_Ratio_abs)))
    (pmn_m_Ratio_abs : PySem.W.isFn K (.ref a_m_Ratio_abs) = true)
    (pmk_m_Ratio_abs : PySem.W.keepIn K (.ref a_m_Ratio_abs) = true)
    (pmt_m_Ratio_over : PySem.W.findIn K (.ref a_Ratio) "over" = some (some (.ref a_m_Ratio_over)))
    (pmn_m_Ratio_over : PySem.W.isFn K (.ref a_m_Ratio_over) = true)
    (pmk_m_Ratio_over : PySem.W.keepIn K (.ref a_m_Ratio_over) = true)
    (ptc_Ratio : PySem.W.findIn K (.ref a_Ratio) "__class__" = some (some (.builtin "object.__class__")))
    (ptn_Ratio : PySem.W.specialIn K (.builtin "object.__class__") "__get__" = some (some (.builtin "getset_descriptor.__get__")))
    (ptk_Ratio : PySem.W.takesIn K (.builtin "object.__class__") = some true)
    (ptm_Ratio : PySem.W.mroIn K a_Ratio (.type "object") = some true)
    (pki_Ratio : PySem.W.kitOne K (.ref a_Ratio) (.type "int") = some false)
    (pa_f_common_divisor : PySem.W.nsIn K mainGlobals "common_divisor" = some (some (.ref a_f_common_divisor)))
    (pl_f_common_divisor : K.lookup a_f_common_divisor = some ⟨oc_f_common_divisor, od_f_common_divisor, .func (PySem.W.fnOf "common_divisor" "common_divisor" (defArgs s_f_common_divisor) (defBody s_f_common_divisor) (defScope s_f_common_divisor) .none kV_f_common_divisor dc_f_common_divisor pm_f_common_divisor an_f_common_divisor cd_f_common_divisor ct_f_common_divisor), sl_f_common_divisor⟩)
    (pc_f_common_divisor : PySem.W.codeIn K cd_f_common_divisor "common_divisor" = true)
    (pq_f_common_divisor : PySem.W.keepIn K (.ref a_f_common_divisor) = true)
    (pa_f_halves : PySem.W.nsIn K mainGlobals "halves" = some (some (.ref a_f_halves)))
    (pl_f_halves : K.lookup a_f_halves = some ⟨oc_f_halves, od_f_halves, .func (PySem.W.fnOf "halves" "halves" (defArgs s_f_halves) (defBody s_f_halves) (defScope s_f_halves) .none kV_f_halves dc_f_halves pm_f_halves an_f_halves cd_f_halves ct_f_halves), sl_f_halves⟩)
    (pc_f_halves : PySem.W.codeIn K cd_f_halves "halves" = true)
    (pq_f_halves : PySem.W.keepIn K (.ref a_f_halves) = true)
    (pl_m_Ratio_init : K.lookup a_m_Ratio_init = some ⟨oc_m_Ratio_init, od_m_Ratio_init, .func (PySem.W.fnOf "__init__" "Ratio.__init__" (defArgs s_m_Ratio_init) (defBody s_m_Ratio_init) (defScope s_m_Ratio_init) (.ref tp_m_Ratio_init) kV_m_Ratio_init dc_m_Ratio_init pm_m_Ratio_init an_m_Ratio_init cd_m_Ratio_init ct_m_Ratio_init), sl_m_Ratio_init⟩)
    (pt_m_Ratio_init : K.lookup tp_m_Ratio_init = some ⟨tc_m_Ratio_init, td_m_Ratio_init, .seq #[.int 1 tk0_m_Ratio_init] tn_m_Ratio_init, ts_m_Ratio_init⟩)
    (pc_m_Ratio_init : PySem.W.codeIn K cd_m_Ratio_init "Ratio.__init__" = true)
    (pq_m_Ratio_init : PySem.W.keepIn K (.ref a_m_Ratio_init) = true)
    (pl_m_Ratio_add : K.lookup a_m_Ratio_add = some ⟨oc_m_Ratio_add, od_m_Ratio_add, .func (PySem.W.fnOf "__add__" "Ratio.__add__" (defArgs s_m_Ratio_add) (defBody s_m_Ratio_add) (defScope s_m_Ratio_add) .none kV_m_Ratio_add dc_m_Ratio_add pm_m_Ratio_add an_m_Ratio_add cd_m_Ratio_add ct_m_Ratio_add), sl_m_Ratio_add⟩)
    (pc_m_Ratio_add : PySem.W.codeIn K cd_m_Ratio_add "Ratio.__add__" = true)
    (pq_m_Ratio_add : PySem.W.keepIn K (.ref a_m_Ratio_add) = true)
    (pl_m_Ratio_radd : K.lookup a_m_Ratio_radd = some ⟨oc_m_Ratio_radd, od_m_Ratio_radd, .func (PySem.W.fnOf "__radd__" "Ratio.__radd__" (defArgs s_m_Ratio_radd) (defBody s_m_Ratio_radd) (defScope s_m_Ratio_radd) .none kV_m_Ratio_radd dc_m_Ratio_radd pm_m_Ratio_radd an_m_Ratio_radd cd_m_Ratio_radd ct_m_Ratio_radd), sl_m_Ratio_radd⟩)
    (pc_m_Ratio_radd : PySem.W.codeIn K cd_m_Ratio_radd "Ratio.__radd__" = true)
    (pq_m_Ratio_radd : PySem.W.keepIn K (.ref a_m_Ratio_radd) = true)
    (pl_m_Ratio_sub : K.lookup a_m_Ratio_sub = some ⟨oc_m_Ratio_sub, od_m_Ratio_sub, .func (PySem.W.fnOf "__sub__" "Ratio.__sub__" (defArgs s_m_Ratio_sub) (defBody s_m_Ratio_sub) (defScope s_m_Ratio_sub) .none kV_m_Ratio_sub dc_m_Ratio_sub pm_m_Ratio_sub an_m_Ratio_sub cd_m_Ratio_sub ct_m_Ratio_sub), sl_m_Ratio_sub⟩)
    (pc_m_Ratio_sub : PySem.W.codeIn K cd_m_Ratio_sub "Ratio.__sub__" = true)
    (pq_m_Ratio_sub : PySem.W.keepIn K (.ref a_m_Ratio_sub) = true)
    (pl_m_Ratio_rsub : K.lookup a_m_Ratio_rsub = some ⟨oc_m_Ratio_rsub, od_m_Ratio_rsub, .func (PySem.W.fnOf "__rsub__" "Ratio.__rsub__" (defArgs s_m_Ratio_rsub) (defBody s_m_Ratio_rsub) (defScope s_m_Ratio_rsub) .none kV_m_Ratio_rsub dc_m_Ratio_rsub pm_m_Ratio_rsub an_m_Ratio_rsub cd_m_Ratio_rsub ct_m_Ratio_rsub), sl_m_Ratio_rsub⟩)
    (pc_m_Ratio_rsub : PySem.W.codeIn K cd_m_Ratio_rsub "Ratio.__rsub__" = true)
    (pq_m_Ratio_rsub : PySem.W.keepIn K (.ref a_m_Ratio_rsub) = true)
    (pl_m_Ratio_mul : K.lookup a_m_Ratio_mul = some ⟨oc_m_Ratio_mul, od_m_Ratio_mul, .func (PySem.W.fnOf "__mul__" "Ratio.__mul__" (defArgs s_m_Ratio_mul) (defBody s_m_Ratio_mul) (defScope s_m_Ratio_mul) .none kV_m_Ratio_mul dc_m_Ratio_mul pm_m_Ratio_mul an_m_Ratio_mul cd_m_Ratio_mul ct_m_Ratio_mul), sl_m_Ratio_mul⟩)
    (pc_m_Ratio_mul : PySem.W.codeIn K cd_m_Ratio_mul "Ratio.__mul__" = true)
    (pq_m_Ratio_mul : PySem.W.keepIn K (.ref a_m_Ratio_mul) = true)
    (pl_m_Ratio_rmul : K.lookup a_m_Ratio_rmul = some ⟨oc_m_Ratio_rmul, od_m_Ratio_rmul, .func (PySem.W.fnOf "__rmul__" "Ratio.__rmul__" (defArgs s_m_Ratio_rmul) (defBody s_m_Ratio_rmul) (defScope s_m_Ratio_rmul) .none kV_m_Ratio_rmul dc_m_Ratio_rmul pm_m_Ratio_rmul an_m_Ratio_rmul cd_m_Ratio_rmul ct_m_Ratio_rmul), sl_m_Ratio_rmul⟩)
    (pc_m_Ratio_rmul : PySem.W.codeIn K cd_m_Ratio_rmul "Ratio.__rmul__" = true)
    (pq_m_Ratio_rmul : PySem.W.keepIn K (.ref a_m_Ratio_rmul) = true)
    (pl_m_Ratio_neg : K.lookup a_m_Ratio_neg = some ⟨oc_m_Ratio_neg, od_m_Ratio_neg, .func (PySem.W.fnOf "__neg__" "Ratio.__neg__" (defArgs s_m_Ratio_neg) (defBody s_m_Ratio_neg) (defScope s_m_Ratio_neg) .none kV_m_Ratio_neg dc_m_Ratio_neg pm_m_Ratio_neg an_m_Ratio_neg cd_m_Ratio_neg ct_m_Ratio_neg), sl_m_Ratio_neg⟩)
    (pc_m_Ratio_neg : PySem.W.codeIn K cd_m_Ratio_neg "Ratio.__neg__" = true)
    (pq_m_Ratio_neg : PySem.W.keepIn K (.ref a_m_Ratio_neg) = true)
    (pl_m_Ratio_abs : K.lookup a_m_Ratio_abs = some ⟨oc_m_Ratio_abs, od_m_Ratio_abs, .func (PySem.W.fnOf "__abs__" "Ratio.__abs__" (defArgs s_m_Ratio_abs) (defBody s_m_Ratio_abs) (defScope s_m_Ratio_abs) .none kV_m_Ratio_abs dc_m_Ratio_abs pm_m_Ratio_abs an_m_Ratio_abs cd_m_Ratio_abs ct_m_Ratio_abs), sl_m_Ratio_abs⟩)
    (pc_m_Ratio_abs : PySem.W.codeIn K cd_m_Ratio_abs "Ratio.__abs__" = true)
    (pq_m_Ratio_abs : PySem.W.keepIn K (.ref a_m_Ratio_abs) = true)
    (pl_m_Ratio_over : K.lookup a_m_Ratio_over = some ⟨oc_m_Ratio_over, od_m_Ratio_over, .func (PySem.W.fnOf "over" "Ratio.over" (defArgs s_m_Ratio_over) (defBody s_m_Ratio_over) (defScope s_m_Ratio_over) .none kV_m_Ratio_over dc_m_Ratio_over pm_m_Ratio_over an_m_Ratio_over cd_m_Ratio_over ct_m_Ratio_over), sl_m_Ratio_over⟩)
    (pc_m_Ratio_over : PySem.W.codeIn K cd_m_Ratio_over "Ratio.over" = true)
    (pq_m_Ratio_over : PySem.W.keepIn K (.ref a_m_Ratio_over) = true)
    (pa_l_bag : PySem.W.nsIn K mainGlobals "_law_bag" = some (some (.ref a_l_bag)))
    (pl_l_bag : K.lookup a_l_bag = some ⟨oc_l_bag, od_l_bag, .func (PySem.W.fnOf "_law_bag" "_law_bag" (defArgs s_l_bag) (defBody s_l_bag) (defScope s_l_bag) .none kV_l_bag dc_l_bag pm_l_bag an_l_bag cd_l_bag ct_l_bag), sl_l_bag⟩)
    (pc_l_bag : PySem.W.codeIn K cd_l_bag "_law_bag" = true)
    (pq_l_bag : PySem.W.keepIn K (.ref a_l_bag) = true)
    (pa_l_draw : PySem.W.nsIn K mainGlobals "_law_draw" = some (some (.ref a_l_draw)))
    (pl_l_draw : K.lookup a_l_draw = some ⟨oc_l_draw, od_l_draw, .func (PySem.W.fnOf "_law_draw" "_law_draw" (defArgs s_l_draw) (defBody s_l_draw) (defScope s_l_draw) .none kV_l_draw dc_l_draw pm_l_draw an_l_draw cd_l_draw ct_l_draw), sl_l_draw⟩)
    (pc_l_draw : PySem.W.codeIn K cd_l_draw "_law_draw" = true)
    (pq_l_draw : PySem.W.keepIn K (.ref a_l_draw) = true)
    (pa_l_mixed : PySem.W.nsIn K mainGlobals "_law_mixed" = some (some (.ref a_l_mixed)))
    (pl_l_mixed : K.lookup a_l_mixed = some ⟨oc_l_mixed, od_l_mixed, .func (PySem.W.fnOf "_law_mixed" "_law_mixed" (defArgs s_l_mixed) (defBody s_l_mixed) (defScope s_l_mixed) .none kV_l_mixed dc_l_mixed pm_l_mixed an_l_mixed cd_l_mixed ct_l_mixed), sl_l_mixed⟩)
    (pc_l_mixed : PySem.W.codeIn K cd_l_mixed "_law_mixed" = true)
    (pq_l_mixed : PySem.W.keepIn K (.ref a_l_mixed) = true)
    (pa_l_integer : PySem.W.nsIn K mainGlobals "_law_integer" = some (some (.ref a_l_integer)))
    (pl_l_integer : K.lookup a_l_integer = some ⟨oc_l_integer, od_l_integer, .func (PySem.W.fnOf "_law_integer" "_law_integer" (defArgs s_l_integer) (defBody s_l_integer) (defScope s_l_integer) .none kV_l_integer dc_l_integer pm_l_integer an_l_integer cd_l_integer ct_l_integer), sl_l_integer⟩)
    (pc_l_integer : PySem.W.codeIn K cd_l_integer "_law_integer" = true)
    (pq_l_integer : PySem.W.keepIn K (.ref a_l_integer) = true)
    (pa_l_divisor : PySem.W.nsIn K mainGlobals "_law_divisor" = some (some (.ref a_l_divisor)))
    (pl_l_divisor : K.lookup a_l_divisor = some ⟨oc_l_divisor, od_l_divisor, .func (PySem.W.fnOf "_law_divisor" "_law_divisor" (defArgs s_l_divisor) (defBody s_l_divisor) (defScope s_l_divisor) .none kV_l_divisor dc_l_divisor pm_l_divisor an_l_divisor cd_l_divisor ct_l_divisor), sl_l_divisor⟩)
    (pc_l_divisor : PySem.W.codeIn K cd_l_divisor "_law_divisor" = true)
    (pq_l_divisor : PySem.W.keepIn K (.ref a_l_divisor) = true)
    (pa_l_lowest : PySem.W.nsIn K mainGlobals "_law_lowest" = some (some (.ref a_l_lowest)))
    (pl_l_lowest : K.lookup a_l_lowest = some ⟨oc_l_lowest, od_l_lowest, .func (PySem.W.fnOf "_law_lowest" "_law_lowest" (defArgs s_l_lowest) (defBody s_l_lowest) (defScope s_l_lowest) .none kV_l_lowest dc_l_lowest pm_l_lowest an_l_lowest cd_l_lowest ct_l_lowest), sl_l_lowest⟩)
    (pc_l_lowest : PySem.W.codeIn K cd_l_lowest "_law_lowest" = true)
    (pq_l_lowest : PySem.W.keepIn K (.ref a_l_lowest) = true)
    (pa_l_quotient : PySem.W.nsIn K mainGlobals "_law_quotient" = some (some (.ref a_l_quotient)))
    (pl_l_quotient : K.lookup a_l_quotient = some ⟨oc_l_quotient, od_l_quotient, .func (PySem.W.fnOf "_law_quotient" "_law_quotient" (defArgs s_l_quotient) (defBody s_l_quotient) (defScope s_l_quotient) .none kV_l_quotient dc_l_quotient pm_l_quotient an_l_quotient cd_l_quotient ct_l_quotient), sl_l_quotient⟩)
    (pc_l_quotient : PySem.W.codeIn K cd_l_quotient "_law_quotient" = true)
    (pq_l_quotient : PySem.W.keepIn K (.ref a_l_quotient) = true)
    (pa_l_due : PySem.W.nsIn K mainGlobals "_law_due" = some (some (.ref a_l_due)))
    (pl_l_due : K.lookup a_l_due = some ⟨oc_l_due, od_l_due, .func (PySem.W.fnOf "_law_due" "_law_due" (defArgs s_l_due) (defBody s_l_due) (defScope s_l_due) .none kV_l_due dc_l_due pm_l_due an_l_due cd_l_due ct_l_due), sl_l_due⟩)
    (pc_l_due : PySem.W.codeIn K cd_l_due "_law_due" = true)
    (pq_l_due : PySem.W.keepIn K (.ref a_l_due) = true)
    (pa_f_law : PySem.W.nsIn K mainGlobals "law" = some (some (.ref a_f_law)))
    (pl_f_law : K.lookup a_f_law = some ⟨oc_f_law, od_f_law, .func (PySem.W.fnOf "law" "law" (defArgs s_f_law) (defBody s_f_law) (defScope s_f_law) .none kV_f_law dc_f_law pm_f_law an_f_law cd_f_law ct_f_law), sl_f_law⟩)
    (pc_f_law : PySem.W.codeIn K cd_f_law "law" = true)
    (pq_f_law : PySem.W.keepIn K (.ref a_f_law) = true) :
    ∃ fd : FuncData, (∀ (s : Shared) (v : Value), BindsTo s fd ⟨[v], []⟩ [("_law_script", v)]) ∧ ∀ base : Heap, K.In base → base.Ns mainGlobals mg → FnOk l.prog w K mg base CX0 8 fa fd P_f_law (spLaw K) := by
  have e := hfa.symm.trans (PySem.W.mg_of X G pa_f_law)
  cases e
  have F_f_common_divisor := fun_mk (st := s_f_common_divisor) pl_f_common_divisor pc_f_common_divisor pq_f_common_divisor
  have b_f_common_divisor := F_f_common_divisor.binds (ps := P_f_common_divisor) fun _ _ _ _ _ _ us hl => match us, hl with | [_, _], _ => rfl
  have F_f_halves := fun_mk (st := s_f_halves) pl_f_halves pc_f_halves pq_f_halves
  have b_f_halves := F_f_halves.binds (ps := P_f_halves) fun _ _ _ _ _ _ us hl => match us, hl with | [_], _ => rfl
  have F_m_Ratio_init : FunD K "__init__" "Ratio.__init__" (defArgs s_m_Ratio_init) (defBody s_m_Ratio_init) (defScope s_m_Ratio_init) [.int 1] [] a_m_Ratio_init (PySem.W.fnOf "__init__" "Ratio.__init__" (defArgs s_m_Ratio_init) (defBody s_m_Ratio_init) (defScope s_m_Ratio_init) (.ref tp_m_Ratio_init) kV_m_Ratio_init dc_m_Ratio_init pm_m_Ratio_init an_m_Ratio_init cd_m_Ratio_init ct_m_Ratio_init) := ⟨⟨_, _, _, _, _, _, _, _, _, _, rfl, pl_m_Ratio_init, pc_m_Ratio_init, (.inr ⟨by simp, _, _, _, _, rfl, pt_m_Ratio_init, rfl, (.cons ⟨_, rfl⟩ .nil)⟩), (.inl rfl)⟩, pq_m_Ratio_init⟩
  obtain ⟨e_m_Ratio_init, ve_m_Ratio_init, b_m_Ratio_init⟩ := F_m_Ratio_init.binds1 (ps := P_m_Ratio_init) 3 1 (by simp) rfl fun T kV doc pm an cdv ct us its hu hi => ⟨_, rfl, by
      match us, hu, its, hi with
      | [_, _, _], _, [_], _ => rfl⟩
  cases ve_m_Ratio_init
  obtain ⟨ds_m_Ratio_init, dv_m_Ratio_init, bd_m_Ratio_init⟩ := F_m_Ratio_init.binds1 (ps := P_m_Ratio_init) 2 0 (by simp) rfl fun T kV doc pm an cdv ct us its hu hi => ⟨_, rfl, by
      match us, hu, its, hi with
      | [_, _], _, [_], _ => rfl⟩
  have F_m_Ratio_add := fun_mk (st := s_m_Ratio_add) pl_m_Ratio_add pc_m_Ratio_add pq_m_Ratio_add
  have b_m_Ratio_add := F_m_Ratio_add.binds (ps := P_m_Ratio_add) fun _ _ _ _ _ _ us hl => match us, hl with | [_, _], _ => rfl
  have F_m_Ratio_radd := fun_mk (st := s_m_Ratio_radd) pl_m_Ratio_radd pc_m_Ratio_radd pq_m_Ratio_radd
  have b_m_Ratio_radd := F_m_Ratio_radd.binds (ps := P_m_Ratio_radd) fun _ _ _ _ _ _ us hl => match us, hl with | [_, _], _ => rfl
  have F_m_Ratio_sub := fun_mk (st := s_m_Ratio_sub) pl_m_Ratio_sub pc_m_Ratio_sub pq_m_Ratio_sub
  have b_m_Ratio_sub := F_m_Ratio_sub.binds (ps := P_m_Ratio_sub) fun _ _ _ _ _ _ us hl => match us, hl with | [_, _], _ => rfl
  have F_m_Ratio_rsub := fun_mk (st := s_m_Ratio_rsub) pl_m_Ratio_rsub pc_m_Ratio_rsub pq_m_Ratio_rsub
  have b_m_Ratio_rsub := F_m_Ratio_rsub.binds (ps := P_m_Ratio_rsub) fun _ _ _ _ _ _ us hl => match us, hl with | [_, _], _ => rfl
  have F_m_Ratio_mul := fun_mk (st := s_m_Ratio_mul) pl_m_Ratio_mul pc_m_Ratio_mul pq_m_Ratio_mul
  have b_m_Ratio_mul := F_m_Ratio_mul.binds (ps := P_m_Ratio_mul) fun _ _ _ _ _ _ us hl => match us, hl with | [_, _], _ => rfl
  have F_m_Ratio_rmul := fun_mk (st := s_m_Ratio_rmul) pl_m_Ratio_rmul pc_m_Ratio_rmul pq_m_Ratio_rmul
  have b_m_Ratio_rmul := F_m_Ratio_rmul.binds (ps := P_m_Ratio_rmul) fun _ _ _ _ _ _ us hl => match us, hl with | [_, _], _ => rfl
  have F_m_Ratio_neg := fun_mk (st := s_m_Ratio_neg) pl_m_Ratio_neg pc_m_Ratio_neg pq_m_Ratio_neg
  have b_m_Ratio_neg := F_m_Ratio_neg.binds (ps := P_m_Ratio_neg) fun _ _ _ _ _ _ us hl => match us, hl with | [_], _ => rfl
  have F_m_Ratio_abs := fun_mk (st := s_m_Ratio_abs) pl_m_Ratio_abs pc_m_Ratio_abs pq_m_Ratio_abs
  have b_m_Ratio_abs := F_m_Ratio_abs.binds (ps := P_m_Ratio_abs) fun _ _ _ _ _ _ us hl => match us, hl with | [_], _ => rfl
  have F_m_Ratio_over := fun_mk (st := s_m_Ratio_over) pl_m_Ratio_over pc_m_Ratio_over pq_m_Ratio_over
  have b_m_Ratio_over := F_m_Ratio_over.binds (ps := P_m_Ratio_over) fun _ _ _ _ _ _ us hl => match us, hl with | [_, _], _ => rfl
  have F_l_bag := fun_mk (st := s_l_bag) pl_l_bag pc_l_bag pq_l_bag
  have b_l_bag := F_l_bag.binds (ps := P_l_bag) fun _ _ _ _ _ _ us hl => match us, hl with | [_], _ => rfl
  have F_l_draw := fun_mk (st := s_l_draw) pl_l_draw pc_l_draw pq_l_draw
  have b_l_draw := F_l_draw.binds (ps := P_l_draw) fun _ _ _ _ _ _ us hl => match us, hl with | [_, _], _ => rfl
  have F_l_mixed := fun_mk (st := s_l_mixed) pl_l_mixed pc_l_mixed pq_l_mixed
  have b_l_mixed := F_l_mixed.binds (ps := P_l_mixed) fun _ _ _ _ _ _ us hl => match us, hl with | [_, _], _ => rfl
  have F_l_integer := fun_mk (st := s_l_integer) pl_l_integer pc_l_integer pq_l_integer
  have b_l_integer := F_l_integer.binds (ps := P_l_integer) fun _ _ _ _ _ _ us hl => match us, hl with | [_], _ => rfl
  have F_l_divisor := fun_mk (st := s_l_divisor) pl_l_divisor pc_l_divisor pq_l_divisor
  have b_l_divisor := F_l_divisor.binds (ps := P_l_divisor) fun _ _ _ _ _ _ us hl => match us, hl with | [_, _], _ => rfl
  have F_l_lowest := fun_mk (st := s_l_lowest) pl_l_lowest pc_l_lowest pq_l_lowest
  have b_l_lowest := F_l_lowest.binds (ps := P_l_lowest) fun _ _ _ _ _ _ us hl => match us, hl with | [_, _], _ => rfl
  have F_l_quotient := fun_mk (st := s_l_quotient) pl_l_quotient pc_l_quotient pq_l_quotient
  have b_l_quotient := F_l_quotient.binds (ps := P_l_quotient) fun _ _ _ _ _ _ us hl => match us, hl with | [_, _, _], _ => rfl
  have F_l_due := fun_mk (st := s_l_due) pl_l_due pc_l_due pq_l_due
  have b_l_due := F_l_due.binds (ps := P_l_due) fun _ _ _ _ _ _ us hl => match us, hl with | [_, _, _], _ => rfl
  have F_f_law := fun_mk (st := s_f_law) pl_f_law pc_f_law pq_f_law
  have b_f_law := F_f_law.binds (ps := P_f_law) fun _ _ _ _ _ _ us hl => match us, hl with | [_], _ => rfl
  have T : Txt K mg ⟨a_CostError, a_NoRatio, a_Ratio, a_f_common_divisor, (PySem.W.fnOf "common_divisor" "common_divisor" (defArgs s_f_common_divisor) (defBody s_f_common_divisor) (defScope s_f_common_divisor) .none kV_f_common_divisor dc_f_common_divisor pm_f_common_divisor an_f_common_divisor cd_f_common_divisor ct_f_common_divisor), a_f_halves, (PySem.W.fnOf "halves" "halves" (defArgs s_f_halves) (defBody s_f_halves) (defScope s_f_halves) .none kV_f_halves dc_f_halves pm_f_halves an_f_halves cd_f_halves ct_f_halves), a_m_Ratio_init, (PySem.W.fnOf "__init__" "Ratio.__init__" (defArgs s_m_Ratio_init) (defBody s_m_Ratio_init) (defScope s_m_Ratio_init) (.ref tp_m_Ratio_init) kV_m_Ratio_init dc_m_Ratio_init pm_m_Ratio_init an_m_Ratio_init cd_m_Ratio_init ct_m_Ratio_init), a_m_Ratio_add, (PySem.W.fnOf "__add__" "Ratio.__add__" (defArgs s_m_Ratio_add) (defBody s_m_Ratio_add) (defScope s_m_Ratio_add) .none kV_m_Ratio_add dc_m_Ratio_add pm_m_Ratio_add an_m_Ratio_add cd_m_Ratio_add ct_m_Ratio_add), a_m_Ratio_radd, (PySem.W.fnOf "__radd__" "Ratio.__radd__" (defArgs s_m_Ratio_radd) (defBody s_m_Ratio_radd) (defScope s_m_Ratio_radd) .none kV_m_Ratio_radd dc_m_Ratio_radd pm_m_Ratio_radd an_m_Ratio_radd cd_m_Ratio_radd ct_m_Ratio_radd), a_m_Ratio_sub, (PySem.W.fnOf "__sub__" "Ratio.__sub__" (defArgs s_m_Ratio_sub) (defBody s_m_Ratio_sub) (defScope s_m_Ratio_sub) .none kV_m_Ratio_sub dc_m_Ratio_sub pm_m_Ratio_sub an_m_Ratio_sub cd_m_Ratio_sub ct_m_Ratio_sub), a_m_Ratio_rsub, (PySem.W.fnOf "__rsub__" "Ratio.__rsub__" (defArgs s_m_Ratio_rsub) (defBody s_m_Ratio_rsub) (defScope s_m_Ratio_rsub) .none kV_m_Ratio_rsub dc_m_Ratio_rsub pm_m_Ratio_rsub an_m_Ratio_rsub cd_m_Ratio_rsub ct_m_Ratio_rsub), a_m_Ratio_mul, (PySem.W.fnOf "__mul__" "Ratio.__mul__" (defArgs s_m_Ratio_mul) (defBody s_m_Ratio_mul) (defScope s_m_Ratio_mul) .none kV_m_Ratio_mul dc_m_Ratio_mul pm_m_Ratio_mul an_m_Ratio_mul cd_m_Ratio_mul ct_m_Ratio_mul), a_m_Ratio_rmul, (PySem.W.fnOf "__rmul__" "Ratio.__rmul__" (defArgs s_m_Ratio_rmul) (defBody s_m_Ratio_rmul) (defScope s_m_Ratio_rmul) .none kV_m_Ratio_rmul dc_m_Ratio_rmul pm_m_Ratio_rmul an_m_Ratio_rmul cd_m_Ratio_rmul ct_m_Ratio_rmul), a_m_Ratio_neg, (PySem.W.fnOf "__neg__" "Ratio.__neg__" (defArgs s_m_Ratio_neg) (defBody s_m_Ratio_neg) (defScope s_m_Ratio_neg) .none kV_m_Ratio_neg dc_m_Ratio_neg pm_m_Ratio_neg an_m_Ratio_neg cd_m_Ratio_neg ct_m_Ratio_neg), a_m_Ratio_abs, (PySem.W.fnOf "__abs__" "Ratio.__abs__" (defArgs s_m_Ratio_abs) (defBody s_m_Ratio_abs) (defScope s_m_Ratio_abs) .none kV_m_Ratio_abs dc_m_Ratio_abs pm_m_Ratio_abs an_m_Ratio_abs cd_m_Ratio_abs ct_m_Ratio_abs), a_m_Ratio_over, (PySem.W.fnOf "over" "Ratio.over" (defArgs s_m_Ratio_over) (defBody s_m_Ratio_over) (defScope s_m_Ratio_over) .none kV_m_Ratio_over dc_m_Ratio_over pm_m_Ratio_over an_m_Ratio_over cd_m_Ratio_over ct_m_Ratio_over), a_l_bag, (PySem.W.fnOf "_law_bag" "_law_bag" (defArgs s_l_bag) (defBody s_l_bag) (defScope s_l_bag) .none kV_l_bag dc_l_bag pm_l_bag an_l_bag cd_l_bag ct_l_bag), a_l_draw, (PySem.W.fnOf "_law_draw" "_law_draw" (defArgs s_l_draw) (defBody s_l_draw) (defScope s_l_draw) .none kV_l_draw dc_l_draw pm_l_draw an_l_draw cd_l_draw ct_l_draw), a_l_mixed, (PySem.W.fnOf "_law_mixed" "_law_mixed" (defArgs s_l_mixed) (defBody s_l_mixed) (defScope s_l_mixed) .none kV_l_mixed dc_l_mixed pm_l_mixed an_l_mixed cd_l_mixed ct_l_mixed), a_l_integer, (PySem.W.fnOf "_law_integer" "_law_integer" (defArgs s_l_integer) (defBody s_l_integer) (defScope s_l_integer) .none kV_l_integer dc_l_integer pm_l_integer an_l_integer cd_l_integer ct_l_integer), a_l_divisor, (PySem.W.fnOf "_law_divisor" "_law_divisor" (defArgs s_l_divisor) (defBody s_l_divisor) (defScope s_l_divisor) .none kV_l_divisor dc_l_divisor pm_l_divisor an_l_divisor cd_l_divisor ct_l_divisor), a_l_lowest, (PySem.W.fnOf "_law_lowest" "_law_lowest" (defArgs s_l_lowest) (defBody s_l_lowest) (defScope s_l_lowest) .none kV_l_lowest dc_l_lowest pm_l_lowest an_l_lowest cd_l_lowest ct_l_lowest), a_l_quotient, (PySem.W.fnOf "_law_quotient" "_law_quotient" (defArgs s_l_quotient) (defBody s_l_quotient) (defScope s_l_quotient) .none kV_l_quotient dc_l_quotient pm_l_quotient an_l_quotient cd_l_quotient ct_l_quotient), a_l_due, (PySem.W.fnOf "_law_due" "_law_due" (defArgs s_l_due) (defBody s_l_due) (defScope s_l_due) .none kV_l_due dc_l_due pm_l_due an_l_due cd_l_due ct_l_due), fa, (PySem.W.fnOf "law" "law" (defArgs s_f_law) (defBody s_f_law) (defScope s_f_law) .none kV_f_law dc_f_law pm_f_law an_f_law cd_f_law ct_f_law), ds_m_Ratio_init⟩ := {
    z_ValueError := PySem.W.mg_none_of X G pz_ValueError,
    z_abs := PySem.W.mg_none_of X G pz_abs,
    z_int := PySem.W.mg_none_of X G pz_int,
    z_isinstance := PySem.W.mg_none_of X G pz_isinstance,
    z_len := PySem.W.mg_none_of X G pz_len,
    z_list := PySem.W.mg_none_of X G pz_list,
    z_range := PySem.W.mg_none_of X G pz_range,
    g_CostError := PySem.W.mg_of X G pg_CostError,
    ek_CostError := pek_CostError,
    eb_CostError := peb_CostError,
    et_CostError := pet_CostError,
    eh_CostError := peh_CostError,
    eic_CostError := peic_CostError,
    es_CostError := pes_CostError,
    g_NoRatio := PySem.W.mg_of X G pg_NoRatio,
    ek_NoRatio := pek_NoRatio,
    eb_NoRatio := peb_NoRatio,
    et_NoRatio := pet_NoRatio,
    eh_NoRatio := peh_NoRatio,
    eic_NoRatio := peic_NoRatio,
    es_NoRatio := pes_NoRatio,
    ex_NoRatio := pex_NoRatio,
    xg_NoRatio := pxg_NoRatio,
    xk_NoRatio := pxk_NoRatio,
    xa_NoRatio := pxa_NoRatio,
    xn_NoRatio := pxn_NoRatio,
    xt_NoRatio := pxt_NoRatio,
    xm_NoRatio := pxm_NoRatio,
    xc_NoRatio := pxc_NoRatio,
    xv_NoRatio := pxv_NoRatio,
    g_Ratio := PySem.W.mg_of X G pg_Ratio,
    cl_Ratio := ⟨ppg_Ratio, phd_Ratio, ppo_Ratio, psa_Ratio⟩,
    n_Ratio_top := pn_Ratio_top,
    n_Ratio_bottom := pn_Ratio_bottom,
    mk_Ratio := ⟨pma_Ratio, pmi_Ratio, pmf_Ratio, pmc_Ratio⟩,
    m_Ratio___add__ := ⟨pmt_m_Ratio_add, pmn_m_Ratio_add, pmk_m_Ratio_add⟩,
    m_Ratio___radd__ := ⟨pmt_m_Ratio_radd, pmn_m_Ratio_radd, pmk_m_Ratio_radd⟩,
    m_Ratio___sub__ := ⟨pmt_m_Ratio_sub, pmn_m_Ratio_sub, pmk_m_Ratio_sub⟩,
    m_Ratio___rsub__ := ⟨pmt_m_Ratio_rsub, pmn_m_Ratio_rsub, pmk_m_Ratio_rsub⟩,
    m_Ratio___mul__ := ⟨pmt_m_Ratio_mul, pmn_m_Ratio_mul, pmk_m_Ratio_mul⟩,
    m_Ratio___rmul__ := ⟨pmt_m_Ratio_rmul, pmn_m_Ratio_rmul, pmk_m_Ratio_rmul⟩,
    m_Ratio___neg__ := ⟨pmt_m_Ratio_neg, pmn_m_Ratio_neg, pmk_m_Ratio_neg⟩,
    m_Ratio___abs__ := ⟨pmt_m_Ratio_abs, pmn_m_Ratio_abs, pmk_m_Ratio_abs⟩,
    m_Ratio_over := ⟨pmt_m_Ratio_over, pmn_m_Ratio_over, pmk_m_Ratio_over⟩,
    tc_Ratio := ptc_Ratio,
    tn_Ratio := ptn_Ratio,
    tk_Ratio := ptk_Ratio,
    tm_Ratio := ptm_Ratio,
    ki_Ratio := pki_Ratio,
    F_f_common_divisor := F_f_common_divisor,
    b_f_common_divisor := b_f_common_divisor,
    g_common_divisor := PySem.W.mg_of X G pa_f_common_divisor,
    F_f_halves := F_f_halves,
    b_f_halves := b_f_halves,
    g_halves := PySem.W.mg_of X G pa_f_halves,
    F_m_Ratio_init := F_m_Ratio_init,
    b_m_Ratio_init := b_m_Ratio_init,
    dv_m_Ratio_init := dv_m_Ratio_init,
    b_m_Ratio_init_d1 := bd_m_Ratio_init,
    F_m_Ratio_add := F_m_Ratio_add,
    b_m_Ratio_add := b_m_Ratio_add,
    F_m_Ratio_radd := F_m_Ratio_radd,
    b_m_Ratio_radd := b_m_Ratio_radd,
    F_m_Ratio_sub := F_m_Ratio_sub,
    b_m_Ratio_sub := b_m_Ratio_sub,
    F_m_Ratio_rsub := F_m_Ratio_rsub,
    b_m_Ratio_rsub := b_m_Ratio_rsub,
    F_m_Ratio_mul := F_m_Ratio_mul,
    b_m_Ratio_mul := b_m_Ratio_mul,
    F_m_Ratio_rmul := F_m_Ratio_rmul,
    b_m_Ratio_rmul := b_m_Ratio_rmul,
    F_m_Ratio_neg := F_m_Ratio_neg,
    b_m_Ratio_neg := b_m_Ratio_neg,
    F_m_Ratio_abs := F_m_Ratio_abs,
    b_m_Ratio_abs := b_m_Ratio_abs,
    F_m_Ratio_over := F_m_Ratio_over,
    b_m_Ratio_over := b_m_Ratio_over,
    F_l_bag := F_l_bag,
    b_l_bag := b_l_bag,
    g__law_bag := PySem.W.mg_of X G pa_l_bag,
    F_l_draw := F_l_draw,
    b_l_draw := b_l_draw,
    g__law_draw := PySem.W.mg_of X G pa_l_draw,
    F_l_mixed := F_l_mixed,
    b_l_mixed := b_l_mixed,
    g__law_mixed := PySem.W.mg_of X G pa_l_mixed,
    F_l_integer := F_l_integer,
    b_l_integer := b_l_integer,
    g__law_integer := PySem.W.mg_of X G pa_l_integer,
    F_l_divisor := F_l_divisor,
    b_l_divisor := b_l_divisor,
    g__law_divisor := PySem.W.mg_of X G pa_l_divisor,
    F_l_lowest := F_l_lowest,
    b_l_lowest := b_l_lowest,
    g__law_lowest := PySem.W.mg_of X G pa_l_lowest,
    F_l_quotient := F_l_quotient,
    b_l_quotient := b_l_quotient,
    g__law_quotient := PySem.W.mg_of X G pa_l_quotient,
    F_l_due := F_l_due,
    b_l_due := b_l_due,
    g__law_due := PySem.W.mg_of X G pa_l_due,
    F_f_law := F_f_law,
    b_f_law := b_f_law,
    g_law := PySem.W.mg_of X G pa_f_law }
  exact ⟨_, fun s v => .of_eq rfl, fun base _ _ => ok_f_law T⟩
theorem walk {l : PySem.W.OpenLaw} {q : Program} {loose : List Str} {XP : (Str → Option Value) → Heap → Prop} {YP : World → Heap → Prop} {d : DefRec} {K : Params → PySem.W.Frag} (hn : l.most = some 63) (hdf : d.params.defaults = [])
    (hY : ∀ (w : World) (h : Heap), YP w h → (K w.params).In h)
    (F : ∀ (w : World) (mg : Str → Option Value) (fa : Addr) (h : Heap), (K w.params).In h → h.Ns mainGlobals mg → mg d.name = some (.ref fa) →
      ∃ fd : FuncData, (∀ (s : Shared) (u : Value), BindsTo s fd ⟨[u], []⟩ [("_law_script", u)]) ∧ ∀ base : Heap, (K w.params).In base → base.Ns mainGlobals mg → FnOk l.prog w (K w.params) mg base CX0 8 fa fd ["_law_script"] (spLaw (K w.params))) :
    PySem.W.WalkO q loose XP YP l.row.toRowW d [] (fun f vs => PySem.call f vs) :=
  L2.walk_of (n := 63) (k := 8) (x := "_law_script") (CX := fun _ => CX0) (sp := fun w => spLaw (K w.params)) hn (by decide) hdf ⟨rfl, by decide, by decide⟩ hY F (fun _ _ a ns hl _ hS => ⟨a, ns, rfl, hS, hl, fun _ => rfl⟩) fun _ _ _ _ _ z => z
end Lot
open PySem PySem.W PyProof.Rows
set_option maxRecDepth 100000 in
set_option maxHeartbeats 0 in
theorem PySem.Challenge.cw_lotcosts_k13_division_by_zero_holds : PySem.Challenge.rw_lotcosts_k13_division_by_zero.Holds := by
  w_on; o_law; k_head; (case hw => w_witness2)
  k_fill
  refine Lot.walk (l := PySem.Challenge.rw_lotcosts_k13_division_by_zero) rfl rfl (fun w h Y => PySem.W.kIn_of Y) ?F
  case F =>
    intro w mg fa h KX G hmg
    refine' Lot.all_mk KX G hmg ?pz_ValueError ?pz_abs ?pz_int ?pz_isinstance ?pz_len ?pz_list ?pz_range ?pg_CostError ?pek_CostError ?peb_CostError ?pet_CostError ?peh_CostError ?peic_CostError ?pes_CostError ?pg_NoRatio ?pek_NoRatio ?peb_NoRatio ?pet_NoRatio ?peh_NoRatio ?peic_NoRatio ?pes_NoRatio ?pex_NoRatio ?pxg_NoRatio ?pxk_NoRatio ?pxa_NoRatio ?pxn_NoRatio ?pxt_NoRatio ?pxm_NoRatio ?pxc_NoRatio ?pxv_NoRatio ?pg_Ratio ?ppg_Ratio ?phd_Ratio ?ppo_Ratio ?psa_Ratio ?pn_Ratio_top ?pn_Ratio_bottom ?pma_Ratio ?pmi_Ratio ?pmf_Ratio ?pmc_Ratio ?pmt_m_Ratio_add ?pmn_m_Ratio_add ?pmk_m_Ratio_add ?pmt_m_Ratio_radd ?pmn_m_Ratio_radd ?pmk_m_Ratio_radd ?pmt_m_Ratio_sub ?pmn_m_Ratio_sub ?pmk_m_Ratio_sub ?pmt_m_Ratio_rsub ?pmn_m_Ratio_rsub ?pmk_m_Ratio_rsub ?pmt_m_Ratio_mul ?pmn_m_Ratio_mul ?pmk_m_Ratio_mul ?pmt_m_Ratio_rmul ?pmn_m_Ratio_rmul ?pmk_m_Ratio_rmul ?pmt_m_Ratio_neg ?pmn_m_Ratio_neg ?pmk_m_Ratio_neg ?pmt_m_Ratio_abs ?pmn_m_Ratio_abs ?pmk_m_Ratio_abs ?pmt_m_Ratio_over ?pmn_m_Ratio_over ?pmk_m_Ratio_over ?ptc_Ratio ?ptn_Ratio ?ptk_Ratio ?ptm_Ratio ?pki_Ratio ?pa_f_common_divisor ?pl_f_common_divisor ?pc_f_common_divisor ?pq_f_common_divisor ?pa_f_halves ?pl_f_halves ?pc_f_halves ?pq_f_halves ?pl_m_Ratio_init ?pt_m_Ratio_init ?pc_m_Ratio_init ?pq_m_Ratio_init ?pl_m_Ratio_add ?pc_m_Ratio_add ?pq_m_Ratio_add ?pl_m_Ratio_radd ?pc_m_Ratio_radd ?pq_m_Ratio_radd ?pl_m_Ratio_sub ?pc_m_Ratio_sub ?pq_m_Ratio_sub ?pl_m_Ratio_rsub ?pc_m_Ratio_rsub ?pq_m_Ratio_rsub ?pl_m_Ratio_mul ?pc_m_Ratio_mul ?pq_m_Ratio_mul ?pl_m_Ratio_rmul ?pc_m_Ratio_rmul ?pq_m_Ratio_rmul ?pl_m_Ratio_neg ?pc_m_Ratio_neg ?pq_m_Ratio_neg ?pl_m_Ratio_abs ?pc_m_Ratio_abs ?pq_m_Ratio_abs ?pl_m_Ratio_over ?pc_m_Ratio_over ?pq_m_Ratio_over ?pa_l_bag ?pl_l_bag ?pc_l_bag ?pq_l_bag ?pa_l_draw ?pl_l_draw ?pc_l_draw ?pq_l_draw ?pa_l_mixed ?pl_l_mixed ?pc_l_mixed ?pq_l_mixed ?pa_l_integer ?pl_l_integer ?pc_l_integer ?pq_l_integer ?pa_l_divisor ?pl_l_divisor ?pc_l_divisor ?pq_l_divisor ?pa_l_lowest ?pl_l_lowest ?pc_l_lowest ?pq_l_lowest ?pa_l_quotient ?pl_l_quotient ?pc_l_quotient ?pq_l_quotient ?pa_l_due ?pl_l_due ?pc_l_due ?pq_l_due ?pa_f_law ?pl_f_law ?pc_f_law ?pq_f_law
    (case pz_ValueError => first | k_is | rfl)
    (case pz_abs => first | k_is | rfl)
    (case pz_int => first | k_is | rfl)
    (case pz_isinstance => first | k_is | rfl)
    (case pz_len => first | k_is | rfl)
    (case pz_list => first | k_is | rfl)
    (case pz_range => first | k_is | rfl)
    (case pg_CostError => first | k_is | rfl)
    (case pek_CostError => first | k_is | rfl)
    (case peb_CostError => first | k_is | rfl)
    (case pet_CostError => first | k_is | rfl)
    (case peh_CostError => first | k_is | rfl)
    (case peic_CostError => first | k_is | rfl)
    (case pes_CostError => first | k_is | rfl)
    (case pg_NoRatio => first | k_is | rfl)
    (case pek_NoRatio => first | k_is | rfl)
    (case peb_NoRatio => first | k_is | rfl)
    (case pet_NoRatio => first | k_is | rfl)
    (case peh_NoRatio => first | k_is | rfl)
    (case peic_NoRatio => first | k_is | rfl)
    (case pes_NoRatio => first | k_is | rfl)
    (case pex_NoRatio => k_exc)
    (case pxg_NoRatio => first | k_is | rfl)
    (case pxk_NoRatio => first | k_is | rfl)
    (case pxa_NoRatio => first | k_is | rfl)
    (case pxn_NoRatio => first | k_is | rfl)
    (case pxt_NoRatio => first | k_is | rfl)
    (case pxm_NoRatio => first | k_is | rfl)
    (case pxc_NoRatio => first | k_is | rfl)
    (case pxv_NoRatio => first | k_is | rfl)
    (case pg_Ratio => first | k_is | rfl)
    (case ppg_Ratio => first | k_is | rfl)
    (case phd_Ratio => first | k_is | rfl)
    (case ppo_Ratio => first | k_is | rfl)
    (case psa_Ratio => first | k_is | rfl)
    (case pn_Ratio_top => first | k_is | rfl)
    (case pn_Ratio_bottom => first | k_is | rfl)
    (case pma_Ratio => first | k_is | rfl)
    (case pmi_Ratio => first | k_is | rfl)
    (case pmf_Ratio => first | k_is | rfl)
    (case pmc_Ratio => first | k_is | rfl)
    (case pmt_m_Ratio_add => first | k_is | rfl)
    (case pmn_m_Ratio_add => first | k_is | rfl)
    (case pmk_m_Ratio_add => first | k_is | rfl)
    (case pmt_m_Ratio_radd => first | k_is | rfl)
    (case pmn_m_Ratio_radd => first | k_is | rfl)
    (case pmk_m_Ratio_radd => first | k_is | rfl)
    (case pmt_m_Ratio_sub => first | k_is | rfl)
    (case pmn_m_Ratio_sub => first | k_is | rfl)
    (case pmk_m_Ratio_sub => first | k_is | rfl)
    (case pmt_m_Ratio_rsub => first | k_is | rfl)
    (case pmn_m_Ratio_rsub => first | k_is | rfl)
    (case pmk_m_Ratio_rsub => first | k_is | rfl)
    (case pmt_m_Ratio_mul => first | k_is | rfl)
    (case pmn_m_Ratio_mul => first | k_is | rfl)
    (case pmk_m_Ratio_mul => first | k_is | rfl)
    (case pmt_m_Ratio_rmul => first | k_is | rfl)
    (case pmn_m_Ratio_rmul => first | k_is | rfl)
    (case pmk_m_Ratio_rmul => first | k_is | rfl)
    (case pmt_m_Ratio_neg => first | k_is | rfl)
    (case pmn_m_Ratio_neg => first | k_is | rfl)
    (case pmk_m_Ratio_neg => first | k_is | rfl)
    (case pmt_m_Ratio_abs => first | k_is | rfl)
    (case pmn_m_Ratio_abs => first | k_is | rfl)
    (case pmk_m_Ratio_abs => first | k_is | rfl)
    (case pmt_m_Ratio_over => first | k_is | rfl)
    (case pmn_m_Ratio_over => first | k_is | rfl)
    (case pmk_m_Ratio_over => first | k_is | rfl)
    (case ptc_Ratio => first | k_is | rfl)
    (case ptn_Ratio => first | k_is | rfl)
    (case ptk_Ratio => first | k_is | rfl)
    (case ptm_Ratio => first | k_is | rfl)
    (case pki_Ratio => first | k_is | rfl)
    (case pa_f_common_divisor => first | k_is | rfl)
    (case pl_f_common_divisor => first | k_is | rfl)
    (case pc_f_common_divisor => first | k_is | rfl)
    (case pq_f_common_divisor => first | k_is | rfl)
    (case pa_f_halves => first | k_is | rfl)
    (case pl_f_halves => first | k_is | rfl)
    (case pc_f_halves => first | k_is | rfl)
    (case pq_f_halves => first | k_is | rfl)
    (case pl_m_Ratio_init => first | k_is | rfl)
    (case pt_m_Ratio_init => first | k_is | rfl)
    (case pc_m_Ratio_init => first | k_is | rfl)
    (case pq_m_Ratio_init => first | k_is | rfl)
    (case pl_m_Ratio_add => first | k_is | rfl)
    (case pc_m_Ratio_add => first | k_is | rfl)
    (case pq_m_Ratio_add => first | k_is | rfl)
    (case pl_m_Ratio_radd => first | k_is | rfl)
    (case pc_m_Ratio_radd => first | k_is | rfl)
    (case pq_m_Ratio_radd => first | k_is | rfl)
    (case pl_m_Ratio_sub => first | k_is | rfl)
    (case pc_m_Ratio_sub => first | k_is | rfl)
    (case pq_m_Ratio_sub => first | k_is | rfl)
    (case pl_m_Ratio_rsub => first | k_is | rfl)
    (case pc_m_Ratio_rsub => first | k_is | rfl)
    (case pq_m_Ratio_rsub => first | k_is | rfl)
    (case pl_m_Ratio_mul => first | k_is | rfl)
    (case pc_m_Ratio_mul => first | k_is | rfl)
    (case pq_m_Ratio_mul => first | k_is | rfl)
    (case pl_m_Ratio_rmul => first | k_is | rfl)
    (case pc_m_Ratio_rmul => first | k_is | rfl)
    (case pq_m_Ratio_rmul => first | k_is | rfl)
    (case pl_m_Ratio_neg => first | k_is | rfl)
    (case pc_m_Ratio_neg => first | k_is | rfl)
    (case pq_m_Ratio_neg => first | k_is | rfl)
    (case pl_m_Ratio_abs => first | k_is | rfl)
    (case pc_m_Ratio_abs => first | k_is | rfl)
    (case pq_m_Ratio_abs => first | k_is | rfl)
    (case pl_m_Ratio_over => first | k_is | rfl)
    (case pc_m_Ratio_over => first | k_is | rfl)
    (case pq_m_Ratio_over => first | k_is | rfl)
    (case pa_l_bag => first | k_is | rfl)
    (case pl_l_bag => first | k_is | rfl)
    (case pc_l_bag => first | k_is | rfl)
    (case pq_l_bag => first | k_is | rfl)
    (case pa_l_draw => first | k_is | rfl)
    (case pl_l_draw => first | k_is | rfl)
    (case pc_l_draw => first | k_is | rfl)
    (case pq_l_draw => first | k_is | rfl)
    (case pa_l_mixed => first | k_is | rfl)
    (case pl_l_mixed => first | k_is | rfl)
    (case pc_l_mixed => first | k_is | rfl)
    (case pq_l_mixed => first | k_is | rfl)
    (case pa_l_integer => first | k_is | rfl)
    (case pl_l_integer => first | k_is | rfl)
    (case pc_l_integer => first | k_is | rfl)
    (case pq_l_integer => first | k_is | rfl)
    (case pa_l_divisor => first | k_is | rfl)
    (case pl_l_divisor => first | k_is | rfl)
    (case pc_l_divisor => first | k_is | rfl)
    (case pq_l_divisor => first | k_is | rfl)
    (case pa_l_lowest => first | k_is | rfl)
    (case pl_l_lowest => first | k_is | rfl)
    (case pc_l_lowest => first | k_is | rfl)
    (case pq_l_lowest => first | k_is | rfl)
    (case pa_l_quotient => first | k_is | rfl)
    (case pl_l_quotient => first | k_is | rfl)
    (case pc_l_quotient => first | k_is | rfl)
    (case pq_l_quotient => first | k_is | rfl)
    (case pa_l_due => first | k_is | rfl)
    (case pl_l_due => first | k_is | rfl)
    (case pc_l_due => first | k_is | rfl)
    (case pq_l_due => first | k_is | rfl)
    (case pa_f_law => first | k_is | rfl)
    (case pl_f_law => first | k_is | rfl)
    (case pc_f_law => first | k_is | rfl)
    (case pq_f_law => first | k_is | rfl)
#print axioms PySem.Challenge.cw_lotcosts_k13_division_by_zero_holds

