import PyProof.Rows.All
import Wide.All
import OpenK.AllK
import Wide.FinOn
import HandS.ForMost
import HandS.ForExc
import HandS.Flow
import HandS.Evl
import HandS.Style
import HandS.IsInst
import HandS.ExcIs
import HandS.Wide
import HandS.Defaults
import PySem.Challenge.RW_lotcosts_k12_ratios_in_order
set_option Elab.async false
set_option linter.all false
set_option pp.maxSteps 400
set_option maxRecDepth 100000
set_option maxHeartbeats 4000000
namespace Lot
open PySem L2
/-! ### steps -/
local macro_rules | `(tactic| walk_at "ne") => `(tactic| first
  | assumption
  | (apply Ne.symm; assumption)
  | exact ne_of_none (by assumption) (by assumption)
  | exact (ne_of_none (by assumption) (by assumption)).symm)
local macro_rules | `(tactic| walk_at "at") => `(tactic| first
  | assumption
  | exact upd_same
  | (refine Eq.trans (upd_ne (by walk_at "ne")) ?_; walk_at "at"))
local macro_rules | `(tactic| walk_at "num") => `(tactic| first
  | decide
  | omega
  | (dsimp only; first | decide | omega))
local macro_rules | `(tactic| walk_at "fact") => `(tactic| first
  | exact rfl
  | assumption
  | walk_at "at"
  | exact SqL.of (by walk_at "at")
  | exact SqT.of (by walk_at "at")
  | exact .inl (SqL.of (by walk_at "at"))
  | exact .inr (SqT.of (by walk_at "at"))
  | exact .inl ⟨rfl, _, SqL.of (by walk_at "at")⟩
  | exact Or.inl ⟨by walk_at "num", by walk_at "num"⟩
  | exact Or.inr ⟨by walk_at "num", by walk_at "num"⟩
  | exact ⟨by walk_at "num", by walk_at "num"⟩
  | exact ⟨by walk_at "num", by walk_at "num", by walk_at "num"⟩
  | exact wide_div (b := 9000) (by omega) (by assumption) (by decide) (by decide)
  | exact Nat.le_of_ble_eq_true rfl
  | walk_at "num")
local macro_rules | `(tactic| walk_at "go") => `(tactic| repeat (first
  | apply Exists.intro
  | refine And.intro (by walk_at "fact") ?_
  | refine Or.inl ⟨_, rfl, ?_⟩
  | refine Or.inr ⟨_, rfl, ?_⟩
  | refine iteT ?_
  | refine iteF ?_))
def top (i : Nat) : Stmt := PySem.Challenge.pw_lotcosts_k12_ratios_in_order.main.body.getD i (.Pass ⟨0, 0, 0, 0⟩)
abbrev s_f_common_divisor : Stmt := top 5
abbrev N_f_common_divisor : List Str := ["one", "other"]
abbrev P_f_common_divisor : List Str := ["one", "other"]
theorem sc_f_common_divisor : FnScope N_f_common_divisor P_f_common_divisor (defScope s_f_common_divisor) := ⟨rfl, rfl, rfl, by decide +kernel, rfl, by decide +kernel, by decide +kernel⟩
abbrev s_f_halves : Stmt := top 6
abbrev N_f_halves : List Str := ["value"]
abbrev P_f_halves : List Str := ["value"]
theorem sc_f_halves : FnScope N_f_halves P_f_halves (defScope s_f_halves) := ⟨rfl, rfl, rfl, by decide +kernel, rfl, by decide +kernel, by decide +kernel⟩
abbrev s_m_Ratio_init : Stmt := inClass (top 7) 0
abbrev N_m_Ratio_init : List Str := ["self", "top", "bottom", "divisor"]
abbrev P_m_Ratio_init : List Str := ["self", "top", "bottom"]
theorem sc_m_Ratio_init : FnScope N_m_Ratio_init P_m_Ratio_init (defScope s_m_Ratio_init) := ⟨rfl, rfl, rfl, by decide +kernel, rfl, by decide +kernel, by decide +kernel⟩
abbrev s_m_Ratio_less : Stmt := inClass (top 7) 10
abbrev N_m_Ratio_less : List Str := ["self", "other", "top", "bottom"]
abbrev P_m_Ratio_less : List Str := ["self", "other"]
theorem sc_m_Ratio_less : FnScope N_m_Ratio_less P_m_Ratio_less (defScope s_m_Ratio_less) := ⟨rfl, rfl, rfl, by decide +kernel, rfl, by decide +kernel, by decide +kernel⟩
abbrev s_m_Ratio_at_most : Stmt := inClass (top 7) 11
abbrev N_m_Ratio_at_most : List Str := ["self", "other", "top", "bottom"]
abbrev P_m_Ratio_at_most : List Str := ["self", "other"]
theorem sc_m_Ratio_at_most : FnScope N_m_Ratio_at_most P_m_Ratio_at_most (defScope s_m_Ratio_at_most) := ⟨rfl, rfl, rfl, by decide +kernel, rfl, by decide +kernel, by decide +kernel⟩
abbrev s_m_Ratio_same : Stmt := inClass (top 7) 12
abbrev N_m_Ratio_same : List Str := ["self", "other"]
abbrev P_m_Ratio_same : List Str := ["self", "other"]
theorem sc_m_Ratio_same : FnScope N_m_Ratio_same P_m_Ratio_same (defScope s_m_Ratio_same) := ⟨rfl, rfl, rfl, by decide +kernel, rfl, by decide +kernel, by decide +kernel⟩
abbrev s_m_Ratio_floor : Stmt := inClass (top 7) 13
abbrev N_m_Ratio_floor : List Str := ["self"]
abbrev P_m_Ratio_floor : List Str := ["self"]
theorem sc_m_Ratio_floor : FnScope N_m_Ratio_floor P_m_Ratio_floor (defScope s_m_Ratio_floor) := ⟨rfl, rfl, rfl, by decide +kernel, rfl, by decide +kernel, by decide +kernel⟩
abbrev s_m_Ratio_nearest : Stmt := inClass (top 7) 14
abbrev N_m_Ratio_nearest : List Str := ["self"]
abbrev P_m_Ratio_nearest : List Str := ["self"]
theorem sc_m_Ratio_nearest : FnScope N_m_Ratio_nearest P_m_Ratio_nearest (defScope s_m_Ratio_nearest) := ⟨rfl, rfl, rfl, by decide +kernel, rfl, by decide +kernel, by decide +kernel⟩
abbrev s_l_bag : Stmt := top 9
abbrev N_l_bag : List Str := ["_law_script"]
abbrev P_l_bag : List Str := ["_law_script"]
theorem sc_l_bag : FnScope N_l_bag P_l_bag (defScope s_l_bag) := ⟨rfl, rfl, rfl, by decide +kernel, rfl, by decide +kernel, by decide +kernel⟩
abbrev s_l_draw : Stmt := top 10
abbrev N_l_draw : List Str := ["_law_bag_here", "_law_size", "_law_cell", "_law_digit", "_law_mixed"]
abbrev P_l_draw : List Str := ["_law_bag_here", "_law_size"]
theorem sc_l_draw : FnScope N_l_draw P_l_draw (defScope s_l_draw) := ⟨rfl, rfl, rfl, by decide +kernel, rfl, by decide +kernel, by decide +kernel⟩
abbrev s_l_number : Stmt := top 11
abbrev N_l_number : List Str := ["_law_value"]
abbrev P_l_number : List Str := ["_law_value"]
theorem sc_l_number : FnScope N_l_number P_l_number (defScope s_l_number) := ⟨rfl, rfl, rfl, by decide +kernel, rfl, by decide +kernel, by decide +kernel⟩
abbrev s_l_integer : Stmt := top 12
abbrev N_l_integer : List Str := ["_law_bag_here", "_law_choice", "_law_size", "_law_value"]
abbrev P_l_integer : List Str := ["_law_bag_here"]
theorem sc_l_integer : FnScope N_l_integer P_l_integer (defScope s_l_integer) := ⟨rfl, rfl, rfl, by decide +kernel, rfl, by decide +kernel, by decide +kernel⟩
abbrev s_l_divisor : Stmt := top 13
abbrev N_l_divisor : List Str := ["_law_one", "_law_other", "_law_rest"]
abbrev P_l_divisor : List Str := ["_law_one", "_law_other"]
theorem sc_l_divisor : FnScope N_l_divisor P_l_divisor (defScope s_l_divisor) := ⟨rfl, rfl, rfl, by decide +kernel, rfl, by decide +kernel, by decide +kernel⟩
abbrev s_l_lowest : Stmt := top 14
abbrev N_l_lowest : List Str := ["_law_top", "_law_bottom", "_law_divisor_here"]
abbrev P_l_lowest : List Str := ["_law_top", "_law_bottom"]
theorem sc_l_lowest : FnScope N_l_lowest P_l_lowest (defScope s_l_lowest) := ⟨rfl, rfl, rfl, by decide +kernel, rfl, by decide +kernel, by decide +kernel⟩
abbrev s_l_ordered : Stmt := top 15
abbrev N_l_ordered : List Str := ["_law_one", "_law_other", "_law_less", "_law_alike", "_law_told", "_law_answer"]
abbrev P_l_ordered : List Str := ["_law_one", "_law_other", "_law_less", "_law_alike"]
theorem sc_l_ordered : FnScope N_l_ordered P_l_ordered (defScope s_l_ordered) := ⟨rfl, rfl, rfl, by decide +kernel, rfl, by decide +kernel, by decide +kernel⟩
abbrev s_l_rounded_right : Stmt := top 16
abbrev N_l_rounded_right : List Str := ["_law_told", "_law_top", "_law_bottom", "_law_down", "_law_near"]
abbrev P_l_rounded_right : List Str := ["_law_told", "_law_top", "_law_bottom"]
theorem sc_l_rounded_right : FnScope N_l_rounded_right P_l_rounded_right (defScope s_l_rounded_right) := ⟨rfl, rfl, rfl, by decide +kernel, rfl, by decide +kernel, by decide +kernel⟩
abbrev s_f_law : Stmt := top 17
abbrev N_f_law : List Str := ["_law_script", "_law_bag_here", "_law_choice", "_law_a", "_law_b", "_law_whole", "_law_one", "_law_other", "_law_less", "_law_turn"]
abbrev P_f_law : List Str := ["_law_script"]
theorem sc_f_law : FnScope N_f_law P_f_law (defScope s_f_law) := ⟨rfl, rfl, rfl, by decide +kernel, rfl, by decide +kernel, by decide +kernel⟩
structure Ad where
  CostError : Addr
  NoRatio : Addr
  Ratio : Addr
  f_common_divisor : Addr
  fd_f_common_divisor : FuncData
  f_halves : Addr
  fd_f_halves : FuncData
  m_Ratio_init : Addr
  fd_m_Ratio_init : FuncData
  m_Ratio_less : Addr
  fd_m_Ratio_less : FuncData
  m_Ratio_at_most : Addr
  fd_m_Ratio_at_most : FuncData
  m_Ratio_same : Addr
  fd_m_Ratio_same : FuncData
  m_Ratio_floor : Addr
  fd_m_Ratio_floor : FuncData
  m_Ratio_nearest : Addr
  fd_m_Ratio_nearest : FuncData
  l_bag : Addr
  fd_l_bag : FuncData
  l_draw : Addr
  fd_l_draw : FuncData
  l_number : Addr
  fd_l_number : FuncData
  l_integer : Addr
  fd_l_integer : FuncData
  l_divisor : Addr
  fd_l_divisor : FuncData
  l_lowest : Addr
  fd_l_lowest : FuncData
  l_ordered : Addr
  fd_l_ordered : FuncData
  l_rounded_right : Addr
  fd_l_rounded_right : FuncData
  f_law : Addr
  fd_f_law : FuncData
  ds_m_Ratio_init : List Value
structure Txt (K : PySem.W.Frag) (mg : Str → Option Value) (A : Ad) : Prop where
  z_abs : mg "abs" = none
  z_all : mg "all" = none
  z_bool : mg "bool" = none
  z_int : mg "int" = none
  z_isinstance : mg "isinstance" = none
  z_len : mg "len" = none
  z_list : mg "list" = none
  z_range : mg "range" = none
  g_CostError : mg "CostError" = some (.ref A.CostError)
  ek_CostError : PySem.W.keepIn K (.ref A.CostError) = true
  eb_CostError : PySem.W.subIn K (.ref A.CostError) (.type "BaseException") = some true
  et_CostError : PySem.W.typeIn K (.ref A.CostError) = some (.type "type")
  eh_CostError : PySem.W.hasDictIn K A.CostError = true
  eic_CostError : PySem.W.isClsIn K A.CostError = true
  es_CostError : PySem.W.subIn K (.ref A.CostError) (.ref A.CostError) = some true
  g_NoRatio : mg "NoRatio" = some (.ref A.NoRatio)
  ek_NoRatio : PySem.W.keepIn K (.ref A.NoRatio) = true
  eb_NoRatio : PySem.W.subIn K (.ref A.NoRatio) (.type "BaseException") = some true
  et_NoRatio : PySem.W.typeIn K (.ref A.NoRatio) = some (.type "type")
  eh_NoRatio : PySem.W.hasDictIn K A.NoRatio = true
  eic_NoRatio : PySem.W.isClsIn K A.NoRatio = true
  es_NoRatio : PySem.W.subIn K (.ref A.NoRatio) (.ref A.NoRatio) = some true
  ex_NoRatio : PySem.W.excIn K A.NoRatio [.type "ValueError", .type "Exception", .type "BaseException", .type "object"] "ValueError.__new__" = true
  xg_NoRatio : PySem.W.findIn K (.ref A.NoRatio) "__getattribute__" = some (some (.builtin "BaseException.__getattribute__"))
  xk_NoRatio : PySem.W.findIn K (.ref A.NoRatio) "__getattr__" = some none
  xa_NoRatio : PySem.W.findIn K (.ref A.NoRatio) "__class__" = some (some (.builtin "object.__class__"))
  xn_NoRatio : PySem.W.specialIn K (.builtin "object.__class__") "__get__" = some (some (.builtin "getset_descriptor.__get__"))
  xt_NoRatio : PySem.W.takesIn K (.builtin "object.__class__") = some true
  xm_NoRatio : PySem.W.mroIn K A.NoRatio (.type "object") = some true
  g_Ratio : mg "Ratio" = some (.ref A.Ratio)
  cl_Ratio : Cls K A.Ratio
  n_Ratio_top : NoAttr K A.Ratio "top"
  n_Ratio_bottom : NoAttr K A.Ratio "bottom"
  mk_Ratio : Mk K A.Ratio A.m_Ratio_init
  m_Ratio_less : Meth K A.Ratio "less" A.m_Ratio_less
  m_Ratio_at_most : Meth K A.Ratio "at_most" A.m_Ratio_at_most
  m_Ratio_same : Meth K A.Ratio "same" A.m_Ratio_same
  m_Ratio_floor : Meth K A.Ratio "floor" A.m_Ratio_floor
  m_Ratio_nearest : Meth K A.Ratio "nearest" A.m_Ratio_nearest
  tc_Ratio : PySem.W.findIn K (.ref A.Ratio) "__class__" = some (some (.builtin "object.__class__"))
  tn_Ratio : PySem.W.specialIn K (.builtin "object.__class__") "__get__" = some (some (.builtin "getset_descriptor.__get__"))
  tk_Ratio : PySem.W.takesIn K (.builtin "object.__class__") = some true
  tm_Ratio : PySem.W.mroIn K A.Ratio (.type "object") = some true
  ki_Ratio : PySem.W.kitOne K (.ref A.Ratio) (.type "int") = some false
  F_f_common_divisor : Fun K "common_divisor" "common_divisor" s_f_common_divisor A.f_common_divisor A.fd_f_common_divisor
  b_f_common_divisor : Binds K A.fd_f_common_divisor P_f_common_divisor []
  g_common_divisor : mg "common_divisor" = some (.ref A.f_common_divisor)
  F_f_halves : Fun K "halves" "halves" s_f_halves A.f_halves A.fd_f_halves
  b_f_halves : Binds K A.fd_f_halves P_f_halves []
  g_halves : mg "halves" = some (.ref A.f_halves)
  F_m_Ratio_init : FunD K "__init__" "Ratio.__init__" (defArgs s_m_Ratio_init) (defBody s_m_Ratio_init) (defScope s_m_Ratio_init) [.int 1] [] A.m_Ratio_init A.fd_m_Ratio_init
  b_m_Ratio_init : Binds K A.fd_m_Ratio_init P_m_Ratio_init []
  dv_m_Ratio_init : Vals [.int 1] A.ds_m_Ratio_init
  b_m_Ratio_init_d1 : Binds K A.fd_m_Ratio_init P_m_Ratio_init A.ds_m_Ratio_init
  F_m_Ratio_less : Fun K "less" "Ratio.less" s_m_Ratio_less A.m_Ratio_less A.fd_m_Ratio_less
  b_m_Ratio_less : Binds K A.fd_m_Ratio_less P_m_Ratio_less []
  F_m_Ratio_at_most : Fun K "at_most" "Ratio.at_most" s_m_Ratio_at_most A.m_Ratio_at_most A.fd_m_Ratio_at_most
  b_m_Ratio_at_most : Binds K A.fd_m_Ratio_at_most P_m_Ratio_at_most []
  F_m_Ratio_same : Fun K "same" "Ratio.same" s_m_Ratio_same A.m_Ratio_same A.fd_m_Ratio_same
  b_m_Ratio_same : Binds K A.fd_m_Ratio_same P_m_Ratio_same []
  F_m_Ratio_floor : Fun K "floor" "Ratio.floor" s_m_Ratio_floor A.m_Ratio_floor A.fd_m_Ratio_floor
  b_m_Ratio_floor : Binds K A.fd_m_Ratio_floor P_m_Ratio_floor []
  F_m_Ratio_nearest : Fun K "nearest" "Ratio.nearest" s_m_Ratio_nearest A.m_Ratio_nearest A.fd_m_Ratio_nearest
  b_m_Ratio_nearest : Binds K A.fd_m_Ratio_nearest P_m_Ratio_nearest []
  F_l_bag : Fun K "_law_bag" "_law_bag" s_l_bag A.l_bag A.fd_l_bag
  b_l_bag : Binds K A.fd_l_bag P_l_bag []
  g__law_bag : mg "_law_bag" = some (.ref A.l_bag)
  F_l_draw : Fun K "_law_draw" "_law_draw" s_l_draw A.l_draw A.fd_l_draw
  b_l_draw : Binds K A.fd_l_draw P_l_draw []
  g__law_draw : mg "_law_draw" = some (.ref A.l_draw)
  F_l_number : Fun K "_law_number" "_law_number" s_l_number A.l_number A.fd_l_number
  b_l_number : Binds K A.fd_l_number P_l_number []
  g__law_number : mg "_law_number" = some (.ref A.l_number)
  F_l_integer : Fun K "_law_integer" "_law_integer" s_l_integer A.l_integer A.fd_l_integer
  b_l_integer : Binds K A.fd_l_integer P_l_integer []
  g__law_integer : mg "_law_integer" = some (.ref A.l_integer)
  F_l_divisor : Fun K "_law_divisor" "_law_divisor" s_l_divisor A.l_divisor A.fd_l_divisor
  b_l_divisor : Binds K A.fd_l_divisor P_l_divisor []
  g__law_divisor : mg "_law_divisor" = some (.ref A.l_divisor)
  F_l_lowest : Fun K "_law_lowest" "_law_lowest" s_l_lowest A.l_lowest A.fd_l_lowest
  b_l_lowest : Binds K A.fd_l_lowest P_l_lowest []
  g__law_lowest : mg "_law_lowest" = some (.ref A.l_lowest)
  F_l_ordered : Fun K "_law_ordered" "_law_ordered" s_l_ordered A.l_ordered A.fd_l_ordered
  b_l_ordered : Binds K A.fd_l_ordered P_l_ordered []
  g__law_ordered : mg "_law_ordered" = some (.ref A.l_ordered)
  F_l_rounded_right : Fun K "_law_rounded_right" "_law_rounded_right" s_l_rounded_right A.l_rounded_right A.fd_l_rounded_right
  b_l_rounded_right : Binds K A.fd_l_rounded_right P_l_rounded_right []
  g__law_rounded_right : mg "_law_rounded_right" = some (.ref A.l_rounded_right)
  F_f_law : Fun K "law" "law" s_f_law A.f_law A.fd_f_law
  b_f_law : Binds K A.fd_f_law P_f_law []
  g_law : mg "law" = some (.ref A.f_law)
/-- a word that the steps don't open -/
structure Wd (p : Prop) : Prop where
  ok : p
section
variable {X : Cx}
def tG (t : TS) : TS := fun D σ H => Wd (t D σ H)
def tGE (t : TE) : TE := fun σ H Q => Wd (t σ H Q)
theorem ps_g {st : Stmt} {t : TS} (h : PS X st t) : PS X st (tG t) := ⟨fun pins s σ H D I hw => h.run pins s σ H D I hw.ok⟩
theorem pss_g {st : List Stmt} {t : TS} (h : PSs X st t) : PSs X st (tG t) := ⟨fun pins s σ H D I hw => h.run pins s σ H D I hw.ok⟩
theorem pe_g {e : Expr} {t : TE} (h : PE X e t) : PE X e (tGE t) := ⟨fun pins s σ H Q I hw => h.run pins s σ H Q I hw.ok⟩
end
theorem if_int {i j : Int} {A B : Prop} (h1 : i = j → A) (h2 : i ≠ j → B) : if decide (V.int i = V.int j) = true then A else B := by
  by_cases e : i = j
  · rw [if_pos (decide_eq_true (congrArg V.int e))]
    exact h1 e
  · rw [if_neg fun z => e (V.int.inj (of_decide_eq_true z))]
    exact h2 e
theorem if_intN {i j : Int} {A B : Prop} (h1 : i ≠ j → A) (h2 : i = j → B) : if (!decide (V.int i = V.int j)) = true then A else B := by
  by_cases e : i = j
  · rw [decide_eq_true (congrArg V.int e)]
    exact iteF (h2 e)
  · rw [decide_eq_false fun z => e (V.int.inj z)]
    exact iteT (h1 e)
theorem if_dec {p A B : Prop} [Decidable p] (h1 : p → A) (h2 : ¬ p → B) : if decide p = true then A else B := by
  by_cases e : p
  · rw [if_pos (decide_eq_true e)]
    exact h1 e
  · rw [if_neg fun z => e (of_decide_eq_true z)]
    exact h2 e
theorem ifT {p A B : Prop} [Decidable p] (hp : p) (h : A) : if decide p = true then A else B := by
  rw [if_pos (decide_eq_true hp)]
  exact h
theorem ifF {p A B : Prop} [Decidable p] (hp : ¬ p) (h : B) : if decide p = true then A else B := by
  rw [if_neg fun z => hp (of_decide_eq_true z)]
  exact h
theorem ifNT {p A B : Prop} [Decidable p] (hp : p) (h : B) : if (!decide p) = true then A else B := by
  rw [decide_eq_true hp]
  exact iteF h
theorem ifNF {p A B : Prop} [Decidable p] (hp : ¬ p) (h : A) : if (!decide p) = true then A else B := by
  rw [decide_eq_false hp]
  exact iteT h
theorem if_bl {b : Bool} {A B : Prop} (h1 : b = true → A) (h2 : b = false → B) : if b = true then A else B := by
  cases b with
  | true => exact h1 rfl
  | false => exact iteF (h2 rfl)
/-- all but what stands at g is kept -/
def Kp (g : Addr) (H H' : Hp) : Prop := ∀ b o, H b = some o → b ≠ g → H' b = some o
theorem Kp.refl (g : Addr) (H : Hp) : Kp g H H := fun _ _ h _ => h
theorem Kp.trans {g : Addr} {H H1 H2 : Hp} (a : Kp g H H1) (b : Kp g H1 H2) : Kp g H H2 := fun c o h n => b c o (a c o h n) n
theorem Kp.up {g : Addr} {H H' : Hp} {o : HO} (k : Kp g H H') : Kp g H (upd H' g o) := fun b u e n => by
  rw [upd_ne n]
  exact k b u e n

/-! ### the bag of draws -/
structure Bag (H : Hp) (g l : Addr) : Prop where
  ex : ∃ (i r s c : Int) (ns : List Int), H g = some (.lst [.ref l, .int i, .int r, .int s, .int c]) ∧ H l = some (.lst (ns.map V.int)) ∧ 0 ≤ i
def spDraw : Sp := fun vs H Q _ => ∃ (g l : Addr) (z : Int), vs = [.ref g, .int z] ∧ Bag H g l ∧ 0 < z ∧ z.natAbs < 2 ^ 9000 ∧
  ∀ (n : Int) (H' : Hp), 0 ≤ n → n < z → Bag H' g l → Kp g H H' → Q (.int n) H'
theorem at_ints {ns : List Int} {i : Int} (h0 : 0 ≤ i) (h1 : i < (ns.length : Int)) : ∃ n, atI (ns.map V.int) i = some (.int n) := by
  obtain ⟨j, rfl⟩ := Int.eq_ofNat_of_zero_le h0
  have hj : j < ns.length := by omega
  exact ⟨ns[j], atI_nat (by rw [List.getElem?_map, List.getElem?_eq_getElem hj]; rfl)⟩
theorem cmul_r {i j : Int} (h : -(2 ^ 64) < j ∧ j < 2 ^ 64) : CMul i j := .inr h
theorem cmul_l {i j : Int} (h : -(2 ^ 64) < i ∧ i < 2 ^ 64) : CMul i j := .inl h
theorem cpow_of {i j : Int} (h1 : 0 ≤ j ∧ j ≤ 1000000) (h2 : -(2 ^ 63) < i ∧ i < 2 ^ 63) : CPow i j := ⟨h1.1, h1.2, by omega⟩
section
variable {P : Program} {w : World} {K : PySem.W.Frag} {mg : Str → Option Value} {base : Heap} {A : Ad}
theorem ok_l_draw (T : Txt K mg A) : FnOk P w K mg base CX0 1 A.l_draw A.fd_l_draw P_l_draw spDraw := by
  refine T.F_l_draw.ok sc_l_draw (fun vs H Q E h => ?_) (fun cdv Ar outer s H vs Q E hr h => ?_)
  · obtain ⟨g, l, z, rfl, _⟩ := h
    rfl
  · obtain ⟨g, l, z, rfl, ⟨i, r, sd, c, ns, hg, hl, hi⟩, hz, hz2, k⟩ := h
    have nlg : l ≠ g := ne_of hl hg (by intro q; cases ns <;> cases q)
    refine ⟨_, (pss_cons (ps_asg (pe_op op_add (pe_ix ix_list (pv 0) pe_int (fun _ _ => rfl)) pe_int) (pg_sub (pv 0) pe_int set_list))
      (pss_g (Evl.pss_cut (ps_if (PW.pt (pw_and (pt_cmpR op_eq (pe_ix ix_list (pv 0) pe_int (fun _ _ => rfl)) pe_int (nomark _)) (pw_and1 (pt_cmpR op_lt (pe_ix ix_list (pv 0) pe_int (fun _ _ => rfl)) (pe_callB call_len_seq (by rfl) T.z_len (by decide +kernel) (pa_cons (pe_ix ix_list (pv 0) pe_int (fun _ _ => rfl)) pa_nil)) (nomark _))))) (pss_cons (ps_set (i := 2) sc_l_draw.nd rfl (Or.inl rfl) (pe_ix ix_list (pe_ix ix_list (pv 0) pe_int (fun _ _ => rfl)) (pe_ix ix_list (pv 0) pe_int (fun _ _ => rfl)) (fun _ _ => rfl)))
      (pss_cons (ps_asg (pe_op op_add (pe_ix ix_list (pv 0) pe_int (fun _ _ => rfl)) pe_int) (pg_sub (pv 0) pe_int set_list))
      (pss_cons (ps_asg (pe_op op_mul (pe_op op_add (pe_op op_mul pe_int (pe_callB call_abs (by rfl) T.z_abs (by decide +kernel) (pa_cons (pv 2) pa_nil))) (pe_callTy call_int1 (by rfl) T.z_int (by decide +kernel) (pa_cons (pe_cmpR op_lt (pv 2) pe_int (nomark _)) pa_nil))) (pe_callTy call_int1 (by rfl) T.z_int (by decide +kernel) (pa_cons (pe_cmpR op_ge (pe_callB call_abs (by rfl) T.z_abs (by decide +kernel) (pa_cons (pv 2) pa_nil)) (pe_op op_pow pe_int pe_int) (nomark _)) pa_nil))) (pg_sub (pv 0) pe_int set_list))
      (pss_one (ps_asg (pe_op op_mod (pe_callTy call_int1 (by rfl) T.z_int (by decide +kernel) (pa_cons (pe_op op_add (pe_op op_add (pe_op op_mul (pe_ix ix_list (pv 0) pe_int (fun _ _ => rfl)) pe_int) (pe_op op_mul (pv 2) pe_int)) pe_int) pa_nil)) pe_int) (pg_sub (pv 0) pe_int set_list)))))) pss_nil)
      (pss_cons (ps_set (i := 3) sc_l_draw.nd rfl (Or.inl rfl) (pe_op op_mod (pe_callTy call_int1 (by rfl) T.z_int (by decide +kernel) (pa_cons (pe_ix ix_list (pv 0) pe_int (fun _ _ => rfl)) pa_nil)) (pv 1)))
      (pss_cons (ps_if (pt_cmpR op_gt (pe_ix ix_list (pv 0) pe_int (fun _ _ => rfl)) pe_int (nomark _)) (pss_cons (ps_asg (pe_op op_fdivW (pe_ix ix_list (pv 0) pe_int (fun _ _ => rfl)) (pv 1)) (pg_sub (pv 0) pe_int set_list))
      (pss_one (ps_ret (pv 3)))) pss_nil)
      (pss_cons (ps_set (i := 4) sc_l_draw.nd rfl (Or.inl rfl) (pe_op op_mod (pe_callTy call_int1 (by rfl) T.z_int (by decide +kernel) (pa_cons (pe_op op_add (pe_ix ix_list (pv 0) pe_int (fun _ _ => rfl)) (pe_op op_mul (pe_ix ix_list (pv 0) pe_int (fun _ _ => rfl)) pe_int)) pa_nil)) pe_int))
      (pss_cons (ps_set (i := 4) sc_l_draw.nd rfl (Or.inl rfl) (pe_op op_mod (pe_callTy call_int1 (by rfl) T.z_int (by decide +kernel) (pa_cons (pe_op op_add (pe_op op_add (pe_op op_pow (pv 4) pe_int) (pe_op op_mul (pe_ix ix_list (pv 0) pe_int (fun _ _ => rfl)) pe_int)) pe_int) pa_nil)) pe_int))
      (pss_one (ps_ret (pe_op op_mod (pe_op op_fdiv (pe_op op_mod (pe_callTy call_int1 (by rfl) T.z_int (by decide +kernel) (pa_cons (pe_op op_pow (pv 4) pe_int) pa_nil)) pe_int) pe_int) (pv 1))))))))))), ?_⟩
    refine ⟨_, rfl, g, _, _, _, rfl, rfl, SqL.of hg, rfl, _, _, rfl, rfl, _, rfl, g, _, _, _, rfl, rfl, hg, rfl, ?_⟩
    refine ⟨⟨fun σ' H' => Wd (∃ (i r s c : Int) (v : Option V), σ' = [some (.ref g), some (.int z), v, none, none] ∧ 0 ≤ i ∧ H' g = some (.lst [.ref l, .int i, .int r, .int s, .int c]) ∧ H' l = some (.lst (ns.map V.int)) ∧ Kp g H H'), ?_, ?_⟩⟩
    · walk_at "go"
      refine if_int (fun e0 => ?_) (fun e0 => ?_)
      · walk_at "go"
        refine if_dec (fun e1 => ?_) (fun e1 => ?_)
        · obtain ⟨n, hn⟩ := at_ints (ns := ns) hi (by simpa using e1)
          walk_at "go"
          exact ⟨i + 1, _, _, c + 1, _, rfl, by omega, upd_same, by walk_at "at", (((Kp.refl g H).up.up.up.up))⟩
        · exact ⟨i, r, sd, c + 1, none, rfl, hi, upd_same, by walk_at "at", (Kp.refl g H).up⟩
      · refine iteF ?_
        exact ⟨i, r, sd, c + 1, none, rfl, hi, upd_same, by walk_at "at", (Kp.refl g H).up⟩
    · rintro σ' H' ⟨i, r, s, c, v, rfl, hi, hg, hl, kp⟩
      walk_at "go"
      refine if_dec (fun e1 => ?_) (fun e1 => ?_)
      · walk_at "go"
        exact k _ _ (Int.emod_nonneg _ (by omega)) (Int.emod_lt_of_pos _ hz) ⟨i, _, s, c, ns, upd_same, by walk_at "at", hi⟩ kp.up
      · walk_at "go"
        exact k _ _ (Int.emod_nonneg _ (by omega)) (Int.emod_lt_of_pos _ hz) ⟨i, r, s, c, ns, hg, hl, hi⟩ kp
end

/-! ### calls in the body of a try: what they raise is wished for at the slots as they stand -/
section
open PySem.Spec PyProof.Rows
variable {X : Cx} {CX : CXT} {k : Nat} {f C : Addr} {fd : FuncData} {ps : List Str} {sp : Sp} {dvs : List V} {ds : List Value} {E : L2.St → XK} {x m : Str} {p pos apos : Pos} {e o : Expr} {es : List Expr} {ta : TE} {t : TA}
theorem run_mkS {pins : List (Addr × Obj)} {σ : L2.St} {H : Hp} {s : Shared} {Q : VK} {us : List Value} {vs : List V} (M : Mk X.K C f) (F : FnOk X.prog X.w X.K X.mg X.base CX k f fd ps sp)
    (hr : Room (k + 1) X.A) (hb : Binds X.K fd ps ds) (hd : Vals dvs ds) (hx : PassesAt CX X σ (E σ)) (I : Inv X pins σ H s) (r : Vals vs us)
    (h : ∀ x dx, H x = none → H dx = none → dx ≠ x → sp (.ref x :: (vs ++ dvs)) (upd (upd H dx (.own x)) x (.ins C dx [])) (fun v H2 => v = .non ∧ Q (.ref x) H2) (E σ)) :
    wpAny (model X.prog X.w) X.A (call (.ref C) us) (EP X pins σ Q) X.xe s := by
  have a1 := h (s.heap.objs.size + 1) s.heap.objs.size (I.hok.fresh (Nat.le_succ _)) (I.hok.fresh (Nat.le_refl _)) (Nat.ne_of_lt (Nat.lt_succ_self _))
  have J := Inv.made (C := C) I
  have a2 : Vals (V.ref (s.heap.objs.size + 1) :: (vs ++ dvs)) (Value.ref (s.heap.objs.size + 1) :: (us ++ ds)) := .cons rfl (r.append hd)
  have a3 : (Value.ref (s.heap.objs.size + 1) :: us ++ ds).length = ps.length := by
    have z := a2.length
    rw [F.len _ _ _ _ a1] at z
    exact z.symm
  refine wpAny_call (make_map (f := f) I.kIn M.makes M.init (beq_iff_eq.mp M.fn) (codeAny_mono (F.run _ X.stack _ _ ⟨Value.ref (s.heap.objs.size + 1) :: us, []⟩
    (Value.ref (s.heap.objs.size + 1) :: (us ++ ds)) _ _ (E σ) (hr.make C us []) (J.env0.make C us []) (hb _ (Value.ref (s.heap.objs.size + 1) :: us) J.kIn a3) a2 a1) fun r s' z => ?_))
  cases r with
  | error u => exact hx pins _ _ u s' J z
  | ok fl =>
    cases fl with
    | ret u =>
      obtain ⟨v, H', J3, rv, ev, q3⟩ := J.after z
      subst ev
      exact ⟨rv, V.ref (s.heap.objs.size + 1), H', J3, rfl, q3⟩
    | next => exact z.elim
    | brk => exact z.elim
    | cont => exact z.elim
def tMakeS (C : Addr) (sp : Sp) (dvs : List V) (E : L2.St → XK) (t : TA) : TE := fun σ H Q => t σ H fun vs H1 => ∀ x dx, H1 x = none → H1 dx = none → dx ≠ x →
  sp (.ref x :: (vs ++ dvs)) (upd (upd H1 dx (.own x)) x (.ins C dx [])) (fun v H2 => v = .non ∧ Q (.ref x) H2) (E σ)
theorem pe_makeS (M : Mk X.K C f) (F : FnOk X.prog X.w X.K X.mg X.base CX k f fd ps sp) (hr : Room (k + 1) X.A) (hg : Gl X x) (hm : X.mg x = some (.ref C)) (hb : Binds X.K fd ps ds) (hd : Vals dvs ds) (hx : ∀ σ, PassesAt CX X σ (E σ))
    (ha : PA X (e :: es) t) (hdb : (x == ("__debug__" : Str)) = false := by decide) (he : starEach (e :: es) X.env = (false, eval e X.env) :: starEach es X.env := by rfl)
    (hpl : (backTo pos (starEach es X.env)).any (·.1) = false := by rfl) : PE X (.Call (.Name x p) (e :: es) [] pos) (tMakeS C sp dvs E t) := ⟨fun pins s σ H Q I h =>
  wpAny_Call_Name_kw (ld_glob I hg hm (PySem.W.callWith_K (h₀ := X.base) I.ok.mod.kin M.kp (thn (ha.run pos pins s σ H _ I h) fun us s1 ⟨vs, H1, I1, r, q⟩ => ⟨I1.kIn, run_mkS M F hr hb hd (hx σ) I1 r q⟩) he hpl) hdb)⟩
def tMethS (C : Addr) (m : Str) (sp : Sp) (E : L2.St → XK) (ta : TE) (t : TA) : TE := fun σ H Q => ta σ H fun x H1 => ∃ a dx fs, x = .ref a ∧ H1 a = some (.ins C dx fs) ∧ fs.lookup m = none ∧
  t σ H1 fun vs H2 => sp (.ref a :: vs) H2 Q (E σ)
theorem pe_methA {pl : Sem Bool} (he : PE X o ta) (c : Cls X.K C) (hm : Meth X.K C m f) (F : FnOk X.prog X.w X.K X.mg X.base CX k f fd ps sp) (hr : Room k X.A) (hb : Binds X.K fd ps []) (hx : ∀ σ, PassesAt CX X σ (E σ)) (ha : PA X (e :: es) t)
    (hst : starEach (e :: es) X.env = (false, eval e X.env) :: starEach es X.env := by rfl) (hpl : (backTo pos (starEach es X.env)).any (·.1) = false := by rfl)
    (ht : eval (.Call (.Attribute o m apos) (e :: es) [] pos) X.env = (eval o X.env >>= fun ov => standAt apos.atName >>= fun _ => holding [ov] (getMethod ov m pl) >>= fun (f, first) =>
      callWith pos f first (backTo pos (starEach (e :: es) X.env)) (backToKw pos (keywordEach [] X.env))) := by rfl) :
    PE X (.Call (.Attribute o m apos) (e :: es) [] pos) (tMethS C m sp E ta t) := by
  refine ⟨fun pins s σ H Q I h => ?_⟩
  refine PySem.W.methodCall_KW (pl := pl) (thn (he.run pins s σ H _ I h) fun u s1 ⟨x, H1, I1, rx, a, dx, fs, ex, ea, l, q⟩ => ?_) ht
  cases ex
  obtain rfl : u = Value.ref a := rx
  exact getmeth_ok I1 ea c hm l (PySem.W.callWith_K (first := [.ref a]) (h₀ := X.base) I.ok.mod.kin hm.kp (thn (ha.run pos pins s1 σ H1 _ I1 q) fun us s2 ⟨vs, H2, I2, r, q2⟩ =>
    ⟨I2.kIn, run_fnS (E := E) (us := .ref a :: us) (vs := .ref a :: vs) F hr hb (hx σ) I2 (.cons rfl r) q2⟩) hst hpl)

def oe0 : Obj := { cls := .none, data := .fields #[] }
variable {n : Str} {c : Value} {i : Nat} {body suite : List Stmt} {b0 : Stmt} {np pos' : Pos} {Wout : WX}
  {tb : WX → List (Addr × Obj) → (Value → Shared → Prop) → TS} {ts : Addr → Obj → Value → Option Addr → List (Addr × Obj) → TS}
/-- try: .. except x as n: .., the readings of the body and of the suite free of what they can't hang on (both shown by rfl) -/
theorem ps_tryV (hs : X.stack = X.env :: X.outer) (hf : X.env.frame = some X.env.locals) (hN : X.N.Nodup) (hi : X.N[i]? = some n) (hln : X.env.kindOf n = some .local) (hc : Names X x c) (tk : Takes X Wout)
    (hb : ∀ (W : WX) (pn : List (Addr × Obj)) (xe : Value → Shared → Prop), Takes (X.tr pn xe) W → PassesOwn (model X.prog X.w) X.A X.env xe → PSs (X.tr pn xe) body (tb W pn xe))
    (hsu : ∀ (a : Addr) (oe : Obj) (cls : Value) (d : Option Addr) (pn : List (Addr × Obj)), Zc cls d oe → (∃ vs, oe.data = .fields vs) → PSs (X.suite a ((a, oe) :: pn)) (b0 :: suite) (ts a oe cls d pn))
    (e1 : ∀ W pn xe, tb W pn xe = tb W [] (fun _ _ => False)) (e2 : ∀ a oe cls d pn, ts a oe cls d pn = ts a oe0 cls d []) :
    PS X (.Try body [.ExceptHandler (some (.Name x np)) (some n) (b0 :: suite) pos'] [] [] pos) (fun D σ H => tb (wAs X.K c i (fun a cls d => ts a oe0 cls d []) Wout D) [] (fun _ _ => False) D σ H) :=
  ps_try_as (tb := fun W => tb W [] (fun _ _ => False)) (ts := fun a cls d => ts a oe0 cls d []) hs hf hN hi hln hc tk (fun W pn xe k po => by rw [← e1 W pn xe]; exact hb W pn xe k po)
    (fun a oe cls d pn z f => by rw [← e2 a oe cls d pn]; exact hsu a oe cls d pn z f)
/-- isinstance(e, C) of the error that the suite holds, one without a dict of its own -/
def rIsEV (K : PySem.W.Frag) (cls : Value) (d : Option Addr) (a : Addr) : List V → Hp → VK → Prop := fun xs H Q => ∃ (D : Addr) (c : V) (cv : Value) (b : Bool), cls = .ref D ∧ d = none ∧ ExcC K D ∧ xs = [.ref a, c] ∧ (∀ u, RelV c u → u = cv) ∧ PySem.W.kitOne K (.ref D) cv = some b ∧ Q (.bl b) H
theorem call_isEV {a : Addr} {oe : Obj} {cls : Value} {d : Option Addr} {pn : List (Addr × Obj)} (hz : Zc cls d oe) (hf : ∃ vs, oe.data = .fields vs) : CallR (X.suite a ((a, oe) :: pn)) (.builtin "isinstance") (rIsEV X.K cls d a) := by
  intro pins s σ H xs us Q I r h
  obtain ⟨D, c, cv, b, rfl, rfl, C, h⟩ := h
  exact call_isE C hz hf pins s σ H xs us Q I r ⟨c, cv, b, h⟩
end
/-! ### list comprehensions: the readings of their parts free of what they can't hang on -/
section
open PySem.Spec PyProof.Rows
variable {X : Cx} {elt tg iter : Expr} {ifs : List Expr} {scope : Scope} {own : List (Str × Nat)} {pos spos py : Pos} {wi : TI} {i : Nat} {y : Str}
abbrev Bk (α : Type) := Shared → Hp → Addr → List (Str × Addr) → List Addr → α
abbrev Bk.at0 {α : Type} (f : Bk α) (X : Cx) : α := f X.s_0 X.H_0 0 [] []
variable {g : Bk TG} {tt : Bk TT} {te : Bk TE}
theorem pe_lcV (hc : X.calm = true) (hN : X.N.Nodup) (hi : PI X tg iter wi) (ok : BlkOk X.N X.env.scope scope own)
    (hg : ∀ s H C cl fp, PG (X.blk s H scope (compEnvC scope cl C X.env) fp) tg (g s H C cl fp)) (ht : ∀ s H C cl fp, PTs (X.blk s H scope (compEnvC scope cl C X.env) fp) ifs (tt s H C cl fp))
    (he : ∀ s H C cl fp, PE (X.blk s H scope (compEnvC scope cl C X.env) fp) elt (te s H C cl fp)) (e1 : ∀ s H C cl fp, g s H C cl fp = g.at0 X) (e2 : ∀ s H C cl fp, tt s H C cl fp = tt.at0 X)
    (e3 : ∀ s H C cl fp, te s H C cl fp = te.at0 X) (hs : ∀ x, foldedSetIterable iter X.env x = pure x := by intro _; rfl) :
    PE X (.ListComp elt [⟨tg, iter, ifs, 0⟩] scope pos) (tLc wi (g.at0 X) (tt.at0 X) (te.at0 X) (own.map (·.2))) :=
  pe_lc hc hN hi ok (fun s H C cl fp => by rw [← e1 s H C cl fp]; exact hg s H C cl fp) (fun s H C cl fp => by rw [← e2 s H C cl fp]; exact ht s H C cl fp) (fun s H C cl fp => by rw [← e3 s H C cl fp]; exact he s H C cl fp) hs
theorem ps_setLcV (hc : X.calm = true) (hN : X.N.Nodup) (hy : X.N[i]? = some y) (hyl : X.env.scope.names.lookup y = some .local)
    (hsw : swapsWith (.ListComp elt [⟨tg, iter, ifs, 0⟩] scope pos) (some (.Name y py)) spos.line X.env = pure true) (hi : PI X tg iter wi) (ok : BlkOk X.N X.env.scope scope own)
    (hg : ∀ s H C cl fp, PG (X.blk s H scope (compEnvC scope cl C X.env) fp) tg (g s H C cl fp)) (ht : ∀ s H C cl fp, PTs (X.blk s H scope (compEnvC scope cl C X.env) fp) ifs (tt s H C cl fp))
    (he : ∀ s H C cl fp, PE (X.blk s H scope (compEnvC scope cl C X.env) fp) elt (te s H C cl fp)) (e1 : ∀ s H C cl fp, g s H C cl fp = g.at0 X) (e2 : ∀ s H C cl fp, tt s H C cl fp = tt.at0 X)
    (e3 : ∀ s H C cl fp, te s H C cl fp = te.at0 X) (hs : ∀ x, foldedSetIterable iter X.env x = pure x := by intro _; rfl) :
    PS X (.Assign [.Name y py] (.ListComp elt [⟨tg, iter, ifs, 0⟩] scope pos) spos) (tAsg (tLc wi (g.at0 X) (tt.at0 X) (te.at0 X) (own.map (·.2))) (gName i)) :=
  ps_setLc hc hN hy hyl hsw hi ok (fun s H C cl fp => by rw [← e1 s H C cl fp]; exact hg s H C cl fp) (fun s H C cl fp => by rw [← e2 s H C cl fp]; exact ht s H C cl fp) (fun s H C cl fp => by rw [← e3 s H C cl fp]; exact he s H C cl fp) hs
end

/-! ### ratios: plain mathematics -/
def iabs (n : Int) : Int := if n < 0 then -n else n
theorem iabs_eq (n : Int) : iabs n = (n.natAbs : Int) := by
  unfold iabs
  split <;> omega
theorem gcd_turn (a b : Nat) : Nat.gcd b (a % b) = Nat.gcd a b := by
  rw [Nat.gcd_comm b (a % b), ← Nat.gcd_rec, Nat.gcd_comm]
theorem low_num {t b s : Int} (hb : b ≠ 0) (hs : s = if b < 0 then -((Int.gcd t b : Nat) : Int) else ((Int.gcd t b : Nat) : Int)) :
    s ≠ 0 ∧ s.natAbs ≤ b.natAbs ∧ t.fdiv s = (Rat.divInt t b).num ∧ b.fdiv s = ((Rat.divInt t b).den : Int) := by
  have hg : 0 < Int.gcd t b := Int.gcd_pos_of_ne_zero_right _ hb
  obtain ⟨x, hx⟩ := Int.gcd_dvd_left (a := t) (b := b)
  obtain ⟨y, hy⟩ := Int.gcd_dvd_right (a := t) (b := b)
  have e1 : (Rat.divInt t b).num = b.sign * t / ((Int.gcd t b : Nat) : Int) := by rw [Rat.num_divInt, Int.gcd_comm]
  have e2 : ((Rat.divInt t b).den : Int) = (b.natAbs : Int) / ((Int.gcd t b : Nat) : Int) := by
    rw [Rat.den_divInt, if_neg hb, Int.gcd_comm b t]
    rfl
  have hle : (Int.gcd t b) ≤ b.natAbs := Nat.le_of_dvd (by omega) (Int.gcd_dvd_natAbs_right t b)
  generalize Int.gcd t b = g at *
  have hg' : ((g : Nat) : Int) ≠ 0 := by omega
  by_cases hneg : b < 0
  · rw [if_pos hneg] at hs
    subst hs
    refine ⟨by omega, by omega, ?_, ?_⟩
    · rw [e1, Int.sign_eq_neg_one_of_neg hneg]
      have h1 : t = -(g : Int) * (-x) := by rw [Int.neg_mul_neg]; exact hx
      have h2 : -1 * t = (g : Int) * (-x) := by rw [hx, Int.mul_neg]; omega
      rw [h2, Int.mul_ediv_cancel_left _ hg']
      conv => lhs; rw [h1]
      exact Int.mul_fdiv_cancel_left _ (by omega)
    · rw [e2]
      have h0 : (b.natAbs : Int) = (g : Int) * (-y) := by rw [Int.mul_neg, ← hy]; omega
      have h1 : b = -(g : Int) * (-y) := by rw [Int.neg_mul_neg]; exact hy
      rw [h0, Int.mul_ediv_cancel_left _ hg']
      conv => lhs; rw [h1]
      exact Int.mul_fdiv_cancel_left _ (by omega)
  · rw [if_neg hneg] at hs
    subst hs
    have hpos : 0 < b := by omega
    refine ⟨by omega, by omega, ?_, ?_⟩
    · rw [e1, Int.sign_eq_one_of_pos hpos, Int.one_mul]
      conv => rhs; rw [hx]
      rw [Int.mul_ediv_cancel_left _ hg']
      conv => lhs; rw [hx]
      exact Int.mul_fdiv_cancel_left _ (by omega)
    · rw [e2]
      have h0 : (b.natAbs : Int) = (g : Int) * y := by rw [← hy]; omega
      rw [h0, Int.mul_ediv_cancel_left _ hg']
      conv => lhs; rw [hy]
      exact Int.mul_fdiv_cancel_left _ (by omega)
theorem gcd_emod {x y : Int} (hx : 0 ≤ x) (hy : 0 ≤ y) : Int.gcd y (x % y) = Int.gcd x y := by
  obtain ⟨x', rfl⟩ := Int.eq_ofNat_of_zero_le hx
  obtain ⟨y', rfl⟩ := Int.eq_ofNat_of_zero_le hy
  exact gcd_turn _ _
theorem gcd_abs (t b : Int) : Int.gcd (if t < 0 then -t else t) (if b < 0 then -b else b) = Int.gcd t b := by
  unfold Int.gcd
  rw [show (if t < 0 then -t else t).natAbs = t.natAbs by split <;> omega, show (if b < 0 then -b else b).natAbs = b.natAbs by split <;> omega]

/-! ### rules that the layer lacks -/
section
variable {X : Cx} {pos p : Pos}
def CDivZ (_ j : Int) : Prop := j ≠ 0 ∧ j.natAbs.log2 < 9000
theorem op_fdivZ : OpR X (binaryOp .FloorDiv) (rI CDivZ fun i j => .int (i.fdiv j)) := opI fun _ _ _ _ _ _ _ hc q => PyProof.Rows.floordiv_int hc.1 q (.inl (PyProof.noPylong_of_log2 hc.2))
theorem cdivz {i j : Int} {b : Int} (h : j ≠ 0) (hj : j.natAbs ≤ b.natAbs) (hb : b.natAbs < 2 ^ 9000) : CDivZ i j := ⟨h, PySem.Flt.log2_lt_of (by decide) (Nat.lt_of_le_of_lt hj hb)⟩
/-- an own exception class without own __init__, made with nothing -/
theorem pmk_own0 {C : Addr} {bmB : List Value} {B newId initId : String} {x : Str} (F : ExcBaseFacts B newId initId bmB) (q : PySem.W.excIn X.K C bmB newId = true) (gC : X.mg x = some (.ref C))
    (kC : PySem.W.keepIn X.K (.ref C) = true) (r : Raises X (.ref C)) (hg : Gl X x) (hdb : (x == ("__debug__" : Str)) = false := by decide) : PMk X (.Call (.Name x p) [] [] pos) (fun _ H Q => Q (.ref C) none H) := by
  intro pins s σ H Q I h
  refine wpAny_Call_Name_kw (ld_glob I hg gC ?_ hdb)
  refine PySem.W.callWith_K0 I.kIn kC ?_
  obtain ⟨bm, N, nm, qn, bs, hdct, sn, sub, ab, col, dd, k0, k1, k2, k3, k5, mN, hC, hN, hni, T⟩ := exc_obj I.kIn q
  exact wpAny_call_exc_subT F T hC hN hni (fun h' e hm => mk_of I hm r h (I.hok.gone hm.new)) (Nat.zero_le _)
end
/-! ### ratios in the heap -/
def rf (a b : Int) : List (Str × V) := [("top", V.int a), ("bottom", V.int b)]
theorem rf_put (a b : Int) : putF "bottom" (V.int b) (putF "top" (V.int a) []) = rf a b := by
  show (if ("top" : Str) = "bottom" then [(("top" : Str), V.int b)] else (("top" : Str), V.int a) :: putF "bottom" (V.int b) []) = rf a b
  rw [if_neg (by decide +kernel)]
  all_goals rfl
theorem rf_top (a b : Int) : (rf a b).lookup ("top" : Str) = some (.int a) := by
  rw [← rf_put, lookup_putF, if_neg (by decide +kernel), lookup_putF, if_pos rfl]
theorem rf_bottom (a b : Int) : (rf a b).lookup ("bottom" : Str) = some (.int b) := by
  rw [← rf_put, lookup_putF, if_pos rfl]
theorem rf_no (a b : Int) {m : Str} (h1 : ¬ m = "top") (h2 : ¬ m = "bottom") : (rf a b).lookup m = none := by
  rw [← rf_put, lookup_putF, if_neg h2, lookup_putF, if_neg h1]
  all_goals rfl
/-- v is the ratio q -/
def IsR (C : Addr) (H : Hp) (v : V) (q : Rat) : Prop := ∃ p dx, v = .ref p ∧ H p = some (.ins C dx (rf q.num (q.den : Int)))
theorem IsR.mono {C : Addr} {H H' : Hp} {v : V} {q : Rat} (h : IsR C H v q) (s : ∀ p dx fs, H p = some (.ins C dx fs) → H' p = some (.ins C dx fs)) : IsR C H' v q := by
  obtain ⟨p, dx, e, h⟩ := h
  exact ⟨p, dx, e, s _ _ _ h⟩
theorem IsR.same {C : Addr} {H H' : Hp} {v : V} {q : Rat} (h : IsR C H v q) (s : Same H H') : IsR C H' v q := h.mono fun _ _ _ e => s _ _ e
theorem IsR.kp {C g : Addr} {H H' : Hp} {v : V} {q : Rat} {xs : List V} (h : IsR C H v q) (hg : H g = some (.lst xs)) (s : Kp g H H') : IsR C H' v q := h.mono fun _ _ _ e => s _ _ e (ne_of e hg (by intro z; cases z))
/-- v is the number q: a ratio or an int -/
def IsN (C : Addr) (H : Hp) (v : V) (q : Rat) : Prop := IsR C H v q ∨ ∃ n : Int, v = .int n ∧ q = (n : Rat)
/-! ### promises -/
def spGcd : Sp := fun vs H Q _ => ∃ a b : Int, vs = [.int a, .int b] ∧ 0 ≤ a ∧ 0 ≤ b ∧ Q (.int ((Int.gcd a b : Nat) : Int)) H
def spRatioInit (C CE : Addr) : Sp := fun vs H Q E => ∃ (p dx : Addr) (t b : Int), vs = [.ref p, .int t, .int b] ∧ H p = some (.ins C dx []) ∧ b.natAbs < 2 ^ 9000 ∧
  (b = 0 → E (.ref CE) none H) ∧ (b ≠ 0 → Q .non (upd H p (.ins C dx (rf (Rat.divInt t b).num ((Rat.divInt t b).den : Int)))))
section
variable {P : Program} {w : World} {K : PySem.W.Frag} {mg : Str → Option Value} {base : Heap} {A : Ad}
theorem ok_f_common_divisor (T : Txt K mg A) : FnOk P w K mg base CX0 1 A.f_common_divisor A.fd_f_common_divisor P_f_common_divisor spGcd := by
  refine T.F_f_common_divisor.ok sc_f_common_divisor (fun vs H Q E h => ?_) (fun cdv Ar outer s H vs Q E hr h => ?_)
  · obtain ⟨a, b, rfl, _⟩ := h
    rfl
  · obtain ⟨a, b, rfl, ha, hb, k⟩ := h
    refine ⟨_, (pss_cons (ps_g (ps_while PassesOwn.never (pt_cmpR op_ne (pv 1) pe_int (nomark _)) (pss_one (ps_par (i := 0) (j := 1) rfl sc_f_common_divisor.nd rfl rfl (by decide) rfl rfl (pa_cons (pv 1) (pa_cons (pe_op op_mod (pv 0) (pv 1)) pa_nil)) (by rfl)))))
      (pss_one (ps_ret (pv 0)))), ?_⟩
    refine ⟨⟨fun m σ' H' => Wd (∃ x y : Int, σ' = [some (.int x), some (.int y)] ∧ 0 ≤ x ∧ 0 ≤ y ∧ y.toNat = m ∧ Int.gcd x y = Int.gcd a b ∧ H' = H), ⟨_, ⟨a, b, rfl, ha, hb, rfl, rfl, rfl⟩⟩, ?_⟩⟩
    rintro m σ' H' ⟨x, y, rfl, hx, hy, hm, hg, rfl⟩
    walk_at "go"
    refine if_intN (fun e => ?_) (fun e => ?_)
    · refine ⟨fun σ2 H2 => Wd (σ2 = [some (.int y), some (.int (x % y))] ∧ H2 = H'), ?_, ?_⟩
      · rintro σ2 H2 ⟨rfl, rfl⟩
        have h1 : 0 ≤ x % y := Int.emod_nonneg _ e
        have h2 : x % y < y := Int.emod_lt_of_pos _ (by omega)
        refine ⟨(x % y).toNat, by omega, ⟨y, x % y, rfl, hy, h1, rfl, ?_, rfl⟩⟩
        rw [← hg]
        exact gcd_emod hx hy
      · walk_at "go"
        exact ⟨rfl, rfl⟩
    · subst e
      walk_at "go"
      have e : ((Int.gcd a b : Nat) : Int) = x := by
        rw [← hg, Int.gcd_zero_right]
        omega
      rw [e] at k
      exact k
theorem ok_m_Ratio_init (T : Txt K mg A) : FnOk P w K mg base (L2.CX P w) 4 A.m_Ratio_init A.fd_m_Ratio_init P_m_Ratio_init (spRatioInit A.Ratio A.NoRatio) := by
  refine T.F_m_Ratio_init.ok sc_m_Ratio_init (fun vs H Q E h => ?_) (fun cdv Ar outer s H vs Q E hr h => ?_)
  · obtain ⟨p, dx, t, b, rfl, _⟩ := h
    rfl
  · obtain ⟨p, dx, t, b, rfl, hp, hb, kE, kQ⟩ := h
    refine ⟨_, (pss_cons (ps_if (pt_cmpR op_eq (pv 2) pe_int (nomark _)) (pss_one (ps_raise rfl (takes_of rfl rfl rfl rfl) (pmk_own0 PySem.F.excBase_ValueError T.ex_NoRatio T.g_NoRatio T.ek_NoRatio (raises_own T.eb_NoRatio T.et_NoRatio) (by rfl)))) pss_nil)
      (pss_cons (ps_set (i := 3) sc_m_Ratio_init.nd rfl (Or.inl rfl) (pe_call (ok_f_common_divisor T) (hr.mono (by decide)) (by rfl) T.g_common_divisor T.F_f_common_divisor.kp T.b_f_common_divisor .nil pass0 (pa_cons (pe_callB call_abs (by rfl) T.z_abs (by decide +kernel) (pa_cons (pv 1) pa_nil)) (pa_cons (pe_callB call_abs (by rfl) T.z_abs (by decide +kernel) (pa_cons (pv 2) pa_nil)) pa_nil))))
      (pss_g (Evl.pss_cut (ps_if (pt_cmpR op_lt (pv 2) pe_int (nomark _)) (pss_one (ps_set (i := 3) sc_m_Ratio_init.nd rfl (Or.inl rfl) (pe_un un_neg (pv 3)))) pss_nil)
      (pss_cons (ps_fld (pv 0) (pe_op op_fdivZ (pv 1) (pv 3)) rfl)
      (pss_one (ps_fld (pv 0) (pe_op op_fdivZ (pv 2) (pv 3)) rfl))))))), ?_⟩
    walk_at "go"
    refine if_int (fun e => ?_) (fun e => ?_)
    · exact kE e
    · walk_at "go"
      refine ⟨⟨fun σ' H' => Wd (σ' = [some (.ref p), some (.int t), some (.int b), some (.int (if b < 0 then -((Int.gcd t b : Nat) : Int) else ((Int.gcd t b : Nat) : Int)))] ∧ H' = H), ?_, ?_⟩⟩
      · have eg := gcd_abs t b
        walk_at "go"
        refine if_dec (fun e1 => ?_) (fun e1 => ?_)
        · walk_at "go"
          refine ⟨?_, rfl⟩
          rw [eg, if_pos e1]
          rfl
        · refine ⟨?_, rfl⟩
          rw [eg, if_neg e1]
          rfl
      · rintro σ' H' ⟨rfl, rfl⟩
        obtain ⟨h0, h1, h2, h3⟩ := low_num (t := t) e rfl
        generalize (if b < 0 then -((Int.gcd t b : Nat) : Int) else ((Int.gcd t b : Nat) : Int)) = s at *
        have hz : ∀ i, CDivZ i s := fun i => cdivz h0 h1 hb
        have n1 := T.n_Ratio_top
        have n2 := T.n_Ratio_bottom
        have n3 := T.cl_Ratio
        refine ⟨_, rfl, _, rfl, _, _, rfl, rfl, hz _, _, rfl, p, A.Ratio, dx, [], rfl, hp, n3, n1, (by show 0 < 1000; decide), ?_⟩
        refine ⟨_, rfl, _, rfl, _, _, rfl, rfl, hz _, _, rfl, p, A.Ratio, dx, _, rfl, upd_same, n3, n2, (by show 1 < 1000; decide), ?_⟩
        dsimp only
        rw [upd_upd, h2, h3, rf_put]
        exact kQ e
end

/-! ### the law's own helpers: bag, integer, divisor, lowest -/
def spBag (K : PySem.W.Frag) : Sp := fun vs H Q _ => ∃ (a : Addr) (ns : List Int), vs = [.ref a] ∧ SqL K H a (ns.map V.int) ∧ ∀ (g l : Addr) (H' : Hp), Same H H' → H g = none → H l = none → Bag H' g l → Q (.ref g) H'
def spInteger : Sp := fun vs H Q _ => ∃ g l : Addr, vs = [.ref g] ∧ Bag H g l ∧ ∀ (n : Int) (H' : Hp), n.natAbs ≤ 10 ^ 49 → Bag H' g l → Kp g H H' → Q (.int n) H'
def spLowest : Sp := fun vs H Q _ => ∃ t b : Int, vs = [.int t, .int b] ∧ b ≠ 0 ∧ b.natAbs < 2 ^ 9000 ∧ ∀ p, H p = none → Q (.ref p) (upd H p (.tup [.int (Rat.divInt t b).num, .int ((Rat.divInt t b).den : Int)]))
theorem Bag.keep {H H' : Hp} {g l : Addr} (b : Bag H g l) (s : Same H H') : Bag H' g l := by
  obtain ⟨i, r, sd, c, ns, hg, hl, hi⟩ := b
  exact ⟨i, r, sd, c, ns, s _ _ hg, s _ _ hl, hi⟩
theorem Bag.lst {H : Hp} {g l : Addr} (b : Bag H g l) : ∃ xs, H g = some (.lst xs) := by
  obtain ⟨i, r, sd, c, ns, hg, hl, hi⟩ := b
  exact ⟨_, hg⟩
theorem Bag.ne {H : Hp} {g l p : Addr} (b : Bag H g l) (hp : H p = none) : p ≠ g ∧ p ≠ l := by
  obtain ⟨i, r, sd, c, ns, hg, hl, hi⟩ := b
  exact ⟨(ne_of_none hg hp).symm, (ne_of_none hl hp).symm⟩
/-- a bag stands where nothing of it is written -/
theorem Bag.put {H : Hp} {g l p : Addr} {o : HO} (b : Bag H g l) (n : p ≠ g ∧ p ≠ l) : Bag (upd H p o) g l := by
  obtain ⟨i, r, sd, c, ns, hg, hl, hi⟩ := b
  exact ⟨i, r, sd, c, ns, by rw [upd_ne n.1.symm]; exact hg, by rw [upd_ne n.2.symm]; exact hl, hi⟩
theorem Bag.new {H : Hp} {g l p : Addr} {o : HO} (b : Bag H g l) (hp : H p = none) : Bag (upd H p o) g l := b.keep fun c u e => by
  rw [upd_ne (ne_of_none e hp)]
  exact e
theorem Kp.new {g p : Addr} {H H' : Hp} {o : HO} (k : Kp g H H') (hp : H' p = none) : Kp g H (upd H' p o) := fun b u e n => by
  have e1 := k b u e n
  rw [upd_ne (ne_of_none e1 hp)]
  exact e1
theorem Kp.same {g : Addr} {H H' : Hp} (s : Same H H') : Kp g H H' := fun b u e _ => s b u e
theorem Same.new {H : Hp} {p : Addr} {o : HO} (hp : H p = none) : Same H (upd H p o) := fun b u e => by
  rw [upd_ne (ne_of_none e hp)]
  exact e
theorem size_at {c : Int} (h0 : 0 ≤ c) (h6 : c < 6) (hc : c ≠ 0) : ∃ z : Int, atI [V.int 1, V.int 2, V.int 3, V.int 12, V.int 1000, V.int (10 ^ (49 : Int).toNat)] c = some (.int z) ∧ 0 < z ∧ z ≤ 10 ^ 49 := by
  have : c = 1 ∨ c = 2 ∨ c = 3 ∨ c = 4 ∨ c = 5 := by omega
  rcases this with rfl | rfl | rfl | rfl | rfl
  · exact ⟨2, rfl, by decide, by decide⟩
  · exact ⟨3, rfl, by decide, by decide⟩
  · exact ⟨12, rfl, by decide, by decide⟩
  · exact ⟨1000, rfl, by decide, by decide⟩
  · exact ⟨10 ^ 49, rfl, by decide, by decide⟩
theorem big49 : (10 : Nat) ^ 49 < 2 ^ 200 := by decide
theorem pow_mono {a b : Nat} (h : a ≤ b) : (2 : Nat) ^ a ≤ 2 ^ b := Nat.pow_le_pow_right (by decide) h
theorem lt_pow {n a b : Nat} (h : n < 2 ^ a) (hab : a ≤ b) : n < 2 ^ b := Nat.lt_of_lt_of_le h (pow_mono hab)
theorem lt200 {n : Nat} (h : n ≤ 10 ^ 49) : n < 2 ^ 200 := Nat.lt_of_le_of_lt h big49
theorem lt9000 {n : Nat} (h : n ≤ 10 ^ 49) : n < 2 ^ 9000 := lt_pow (lt200 h) (by decide)
def spLaw (K : PySem.W.Frag) : Sp := fun vs H Q _ => ∃ (a : Addr) (ns : List Int), vs = [.ref a] ∧ SqL K H a (ns.map V.int) ∧ ns.length ≤ 63 ∧ ∀ H', Q (.bl true) H'
theorem neD_same {K : PySem.W.Frag} {H : Hp} {p q : Addr} {a b : Int} {Q : VK} (hp : H p = some (.tup [.int a, .int b])) (hq : H q = some (.tup [.int a, .int b])) (h : Q (.bl false) H) : rNeD K (.ref p) (.ref q) H Q := by
  refine ⟨.tuple [.int a, .int b], .tuple [.int a, .int b], .tup (SqT.of hp) (.cons (.int a) (.cons (.int b) .nil)), .tup (SqT.of hq) (.cons (.int a) (.cons (.int b) .nil)), rfl, rfl, ?_⟩
  have e : PyData.eqv (.tuple [.int a, .int b]) (.tuple [.int a, .int b]) = true := by simp [PyData.eqv, PyData.eqvAll]
  rw [e]
  exact h
theorem or_go {K : PySem.W.Frag} {H : Hp} {σ : L2.St} {Q : VK} {n d : Int} (hd : d ≠ 0) (h : ∀ m : Int, m ≠ 0 → (m = n ∨ m = d) → Q (.int m) H) : ∃ k, TruV K (.int n) H k ∧ if k = true then Q (.int n) H else tC (.int d) σ H Q := by
  by_cases e : n = 0
  · exact ⟨false, by rw [e]; rfl, iteF (h d hd (.inr rfl))⟩
  · exact ⟨true, (show true = (n != 0) by simp [e]), iteT (h n e (.inl rfl))⟩
theorem kit_self {K : PySem.W.Frag} {C : Addr} : PySem.W.kitOne K (.ref C) (.ref C) = some true := by simp [PySem.W.kitOne]
section
variable {P : Program} {w : World} {K : PySem.W.Frag} {mg : Str → Option Value} {base : Heap} {A : Ad}
theorem ok_l_bag (T : Txt K mg A) : FnOk P w K mg base CX0 1 A.l_bag A.fd_l_bag P_l_bag (spBag K) := by
  refine T.F_l_bag.ok sc_l_bag (fun vs H Q E h => ?_) (fun cdv Ar outer s H vs Q E hr h => ?_)
  · obtain ⟨a, ns, rfl, _⟩ := h
    rfl
  · obtain ⟨a, ns, rfl, hS, k⟩ := h
    refine ⟨_, (pss_one (ps_ret (pe_lst (pa_cons (pe_callTy call_list_of (by rfl) T.z_list (by decide +kernel) (pa_cons (pv 0) pa_nil)) (pa_cons pe_int (pa_cons pe_int (pa_cons pe_int (pa_cons pe_int pa_nil)))))))), ?_⟩
    refine ⟨_, rfl, a, _, rfl, .inl hS, fun l hl => ⟨by walk_at "fact", fun g hg => ?_⟩⟩
    have nlg : l ≠ g := fun z => by
      rw [z, upd_same] at hg
      cases hg
    have hg0 : H g = none := by
      rw [upd_ne nlg.symm] at hg
      exact hg
    exact k g l _ ((Same.new hl).trans (Same.new hg)) hg0 hl ⟨0, 0, 17, 0, ns, upd_same, by rw [upd_ne nlg]; exact upd_same, by decide⟩
theorem ok_l_integer (T : Txt K mg A) : FnOk P w K mg base CX0 2 A.l_integer A.fd_l_integer P_l_integer spInteger := by
  refine T.F_l_integer.ok sc_l_integer (fun vs H Q E h => ?_) (fun cdv Ar outer s H vs Q E hr h => ?_)
  · obtain ⟨g, l, rfl, _⟩ := h
    rfl
  · obtain ⟨g, l, rfl, hB, k⟩ := h
    refine ⟨_, (pss_cons (ps_set (i := 1) sc_l_integer.nd rfl (Or.inl rfl) (pe_call (ok_l_draw T) (hr.mono (by decide)) (by rfl) T.g__law_draw T.F_l_draw.kp T.b_l_draw .nil pass0 (pa_cons (pv 0) (pa_cons pe_int pa_nil))))
      (pss_cons (ps_if (pt_cmpR op_eq (pv 1) pe_int (nomark _)) (pss_one (ps_ret pe_int)) pss_nil)
      (pss_cons (ps_set (i := 2) sc_l_integer.nd rfl (Or.inl rfl) (pe_ix ix_list (pe_lst (pa_cons pe_int (pa_cons pe_int (pa_cons pe_int (pa_cons pe_int (pa_cons pe_int (pa_cons (pe_op op_pow pe_int pe_int) pa_nil))))))) (pv 1) (fun _ _ => rfl)))
      (pss_cons (ps_set (i := 3) sc_l_integer.nd rfl (Or.inl rfl) (pe_op op_add pe_int (pe_call (ok_l_draw T) (hr.mono (by decide)) (by rfl) T.g__law_draw T.F_l_draw.kp T.b_l_draw .nil pass0 (pa_cons (pv 0) (pa_cons (pv 2) pa_nil)))))
      (pss_cons (ps_if (pt_cmpR op_eq (pe_call (ok_l_draw T) (hr.mono (by decide)) (by rfl) T.g__law_draw T.F_l_draw.kp T.b_l_draw .nil pass0 (pa_cons (pv 0) (pa_cons pe_int pa_nil))) pe_int (nomark _)) (pss_one (ps_ret (pe_un un_neg (pv 3)))) pss_nil)
      (pss_one (ps_ret (pv 3)))))))), ?_⟩
    walk_at "go"
    intro c H1 c0 c6 B1 K1
    walk_at "go"
    refine if_int (fun e => ?_) (fun e => ?_)
    · exact k 0 H1 (by decide) B1 K1
    · obtain ⟨z, hz, z0, z1⟩ := size_at c0 c6 e
      have hz9 : z.natAbs < 2 ^ 9000 := lt9000 (by omega)
      walk_at "go"
      intro p hp
      have B2 := B1.new (o := .lst [V.int 1, V.int 2, V.int 3, V.int 12, V.int 1000, V.int (10 ^ (49 : Int).toNat)]) hp
      walk_at "go"
      intro n H2 n0 n1 B3 K3
      walk_at "go"
      intro b H4 b0 b2 B4 K4
      have K5 : Kp g H H4 := (K1.new (o := .lst _) hp).trans (K3.trans K4)
      walk_at "go"
      refine if_int (fun e => ?_) (fun e => ?_)
      · walk_at "go"
        exact k _ _ (by omega) B4 K5
      · walk_at "go"
        exact k _ _ (by omega) B4 K5
theorem ok_l_divisor (T : Txt K mg A) : FnOk P w K mg base CX0 1 A.l_divisor A.fd_l_divisor P_l_divisor spGcd := by
  refine T.F_l_divisor.ok sc_l_divisor (fun vs H Q E h => ?_) (fun cdv Ar outer s H vs Q E hr h => ?_)
  · obtain ⟨a, b, rfl, _⟩ := h
    rfl
  · obtain ⟨a, b, rfl, ha, hb, k⟩ := h
    refine ⟨_, (pss_cons (ps_g (ps_while PassesOwn.never (pt_cmpR op_ne (pv 1) pe_int (nomark _)) (pss_cons (ps_set (i := 2) sc_l_divisor.nd rfl (Or.inl rfl) (pe_op op_mod (pe_callTy call_int1 (by rfl) T.z_int (by decide +kernel) (pa_cons (pv 0) pa_nil)) (pv 1)))
      (pss_cons (ps_set (i := 0) sc_l_divisor.nd rfl (Or.inl rfl) (pv 1))
      (pss_one (ps_set (i := 1) sc_l_divisor.nd rfl (Or.inl rfl) (pv 2)))))))
      (pss_one (ps_ret (pv 0)))), ?_⟩
    refine ⟨⟨fun m σ' H' => Wd (∃ (x y : Int) (v : Option V), σ' = [some (.int x), some (.int y), v] ∧ 0 ≤ x ∧ 0 ≤ y ∧ y.toNat = m ∧ Int.gcd x y = Int.gcd a b ∧ H' = H), ⟨_, ⟨a, b, none, rfl, ha, hb, rfl, rfl, rfl⟩⟩, ?_⟩⟩
    rintro m σ' H' ⟨x, y, v, rfl, hx, hy, hm, hg, rfl⟩
    walk_at "go"
    refine if_intN (fun e => ?_) (fun e => ?_)
    · refine ⟨fun σ2 H2 => Wd (σ2 = [some (.int y), some (.int (x % y)), some (.int (x % y))] ∧ H2 = H'), ?_, ?_⟩
      · rintro σ2 H2 ⟨rfl, rfl⟩
        have h1 : 0 ≤ x % y := Int.emod_nonneg _ e
        have h2 : x % y < y := Int.emod_lt_of_pos _ (by omega)
        refine ⟨(x % y).toNat, by omega, ⟨y, x % y, _, rfl, hy, h1, rfl, ?_, rfl⟩⟩
        rw [← hg]
        exact gcd_emod hx hy
      · walk_at "go"
        exact ⟨rfl, rfl⟩
    · subst e
      walk_at "go"
      have e : ((Int.gcd a b : Nat) : Int) = x := by
        rw [← hg, Int.gcd_zero_right]
        omega
      rw [e] at k
      exact k
theorem ok_l_lowest (T : Txt K mg A) : FnOk P w K mg base CX0 2 A.l_lowest A.fd_l_lowest P_l_lowest spLowest := by
  refine T.F_l_lowest.ok sc_l_lowest (fun vs H Q E h => ?_) (fun cdv Ar outer s H vs Q E hr h => ?_)
  · obtain ⟨t, b, rfl, _⟩ := h
    rfl
  · obtain ⟨t, b, rfl, hb0, hb, k⟩ := h
    refine ⟨_, (pss_cons (ps_set (i := 2) sc_l_lowest.nd rfl (Or.inl rfl) (pe_call (ok_l_divisor T) (hr.mono (by decide)) (by rfl) T.g__law_divisor T.F_l_divisor.kp T.b_l_divisor .nil pass0 (pa_cons (pe_callB call_abs (by rfl) T.z_abs (by decide +kernel) (pa_cons (pv 0) pa_nil)) (pa_cons (pe_callB call_abs (by rfl) T.z_abs (by decide +kernel) (pa_cons (pv 1) pa_nil)) pa_nil))))
      (pss_g (Evl.pss_cut (ps_if (pt_cmpR op_lt (pv 1) pe_int (nomark _)) (pss_one (ps_set (i := 2) sc_l_lowest.nd rfl (Or.inl rfl) (pe_un un_neg (pv 2)))) pss_nil)
      (pss_one (ps_ret (pe_tup (pa_cons (pe_op op_fdivZ (pv 0) (pv 2)) (pa_cons (pe_op op_fdivZ (pv 1) (pv 2)) pa_nil)))))))), ?_⟩
    walk_at "go"
    refine ⟨⟨fun σ' H' => Wd (σ' = [some (.int t), some (.int b), some (.int (if b < 0 then -((Int.gcd t b : Nat) : Int) else ((Int.gcd t b : Nat) : Int)))] ∧ H' = H), ?_, ?_⟩⟩
    · have eg := gcd_abs t b
      walk_at "go"
      refine if_dec (fun e1 => ?_) (fun e1 => ?_)
      · walk_at "go"
        refine ⟨?_, rfl⟩
        rw [eg, if_pos e1]
        rfl
      · refine ⟨?_, rfl⟩
        rw [eg, if_neg e1]
        rfl
    · rintro σ' H' ⟨rfl, rfl⟩
      obtain ⟨h0, h1, h2, h3⟩ := low_num (t := t) hb0 rfl
      generalize (if b < 0 then -((Int.gcd t b : Nat) : Int) else ((Int.gcd t b : Nat) : Int)) = s at *
      have hz : ∀ i, CDivZ i s := fun i => cdivz h0 h1 hb
      refine ⟨_, rfl, _, rfl, _, _, rfl, rfl, hz _, _, rfl, _, rfl, _, _, rfl, rfl, hz _, by walk_at "fact", fun p hp => ?_⟩
      dsimp only
      rw [h2, h3]
      exact k p hp
end

/-! ### ratios: halves, over -/
def Sz (n : Nat) (q : Rat) : Prop := q.num.natAbs < 2 ^ n ∧ q.den < 2 ^ n
theorem Sz.mono {a b : Nat} {q : Rat} (h : Sz a q) (hab : a ≤ b) : Sz b q := ⟨lt_pow h.1 hab, lt_pow h.2 hab⟩
theorem Sz.int {n : Nat} {i : Int} (h : i.natAbs < 2 ^ n) (hn : 0 < n) : Sz n (i : Rat) := ⟨h, by
  show 1 < 2 ^ n
  exact Nat.lt_of_lt_of_le (by decide) (pow_mono (a := 1) hn)⟩
theorem num_le {t b : Int} : (Rat.divInt t b).num.natAbs ≤ t.natAbs := by
  rw [Rat.num_divInt]
  by_cases hb : b = 0
  · subst hb
    simp
  · have h1 : (b.sign * t / ((b.gcd t : Nat) : Int)).natAbs ≤ (b.sign * t).natAbs := Int.natAbs_ediv_le_natAbs _ _
    rw [Int.natAbs_mul, Int.natAbs_sign_of_ne_zero hb, Nat.one_mul] at h1
    exact h1
theorem den_le {t b : Int} (hb : b ≠ 0) : (Rat.divInt t b).den ≤ b.natAbs := by
  rw [Rat.den_divInt, if_neg hb]
  exact Nat.div_le_self _ _
theorem Sz.div {n : Nat} {t b : Int} (ht : t.natAbs < 2 ^ n) (hb : b.natAbs < 2 ^ n) (h0 : b ≠ 0) : Sz n (Rat.divInt t b) := ⟨Nat.lt_of_le_of_lt num_le ht, Nat.lt_of_le_of_lt (den_le h0) hb⟩
theorem mulw {i j : Int} {a b : Nat} (hi : i.natAbs < 2 ^ a) (hj : j.natAbs < 2 ^ b) (h : a + b ≤ 900000) : CMulW i j :=
  wide_mul (a := a + 1) (b := b + 1) (lt_pow hi (by omega)) (lt_pow hj (by omega)) (by omega) (by omega) (by omega)
theorem mul_lt {i j : Int} {a b : Nat} (hi : i.natAbs < 2 ^ a) (hj : j.natAbs < 2 ^ b) : (i * j).natAbs < 2 ^ (a + b) := wide_lt hi hj
theorem quot_eq {q r : Rat} : Rat.divInt (q.num * (r.den : Int)) ((q.den : Int) * r.num) = q / r := by
  rw [Rat.div_def, Rat.inv_def, ← Rat.divInt_mul_divInt, Rat.num_divInt_den]
theorem same_make {H : Hp} {x dx C : Addr} {fs fs' : List (Str × V)} (hx : H x = none) (hd : H dx = none) : Same H (upd (upd (upd H dx (.own x)) x (.ins C dx fs)) x (.ins C dx fs')) := fun b o e => by
  rw [upd_ne (ne_of_none e hx), upd_ne (ne_of_none e hx), upd_ne (ne_of_none e hd)]
  exact e
theorem same_make1 {H : Hp} {x dx C : Addr} {fs : List (Str × V)} (hx : H x = none) (hd : H dx = none) : Same H (upd (upd H dx (.own x)) x (.ins C dx fs)) := fun b o e => by
  rw [upd_ne (ne_of_none e hx), upd_ne (ne_of_none e hd)]
  exact e
theorem mk_ratio {C CE x dx : Addr} {H : Hp} {t b : Int} {R : VK} {E : XK} (hx : H x = none) (hd : H dx = none) (hb : b.natAbs < 2 ^ 9000) (h0 : b = 0 → ∀ H', Same H H' → E (.ref CE) none H')
    (h1 : b ≠ 0 → ∀ H', Same H H' → IsR C H' (.ref x) (Rat.divInt t b) → R .non H') : spRatioInit C CE [.ref x, .int t, .int b] (upd (upd H dx (.own x)) x (.ins C dx [])) R E :=
  ⟨x, dx, t, b, rfl, upd_same, hb, fun e => h0 e _ (same_make1 hx hd), fun e => h1 e _ (same_make hx hd) ⟨x, dx, rfl, upd_same⟩⟩
def spHalves (C : Addr) : Sp := fun vs H Q _ => ∃ (v : V) (q : Rat), vs = [v] ∧ IsN C H v q ∧ ∀ p, H p = none → Q (.ref p) (upd H p (.tup [.int q.num, .int (q.den : Int)]))
def spOver (C CE : Addr) : Sp := fun vs H Q E => ∃ (v u : V) (q r : Rat) (a b : Nat), vs = [v, u] ∧ IsR C H v q ∧ IsN C H u r ∧ Sz a q ∧ Sz b r ∧ a + b ≤ 9000 ∧
  (r = 0 → ∀ H', Same H H' → E (.ref CE) none H') ∧ (r ≠ 0 → ∀ v' H', Same H H' → IsR C H' v' (q / r) → Q v' H')
section
variable {P : Program} {w : World} {K : PySem.W.Frag} {mg : Str → Option Value} {base : Heap} {A : Ad}
theorem ty_ratio (T : Txt K mg A) {H : Hp} {p dx : Addr} {fs : List (Str × V)} (h : H p = some (.ins A.Ratio dx fs)) : TyX K H (.ref p) (.ref A.Ratio) := .base (.ins h T.cl_Ratio T.tc_Ratio T.tn_Ratio T.tk_Ratio T.tm_Ratio)
theorem ok_f_halves (T : Txt K mg A) : FnOk P w K mg base CX0 1 A.f_halves A.fd_f_halves P_f_halves (spHalves A.Ratio) := by
  refine T.F_f_halves.ok sc_f_halves (fun vs H Q E h => ?_) (fun cdv Ar outer s H vs Q E hr h => ?_)
  · obtain ⟨v, q, rfl, _⟩ := h
    rfl
  · obtain ⟨v, q, rfl, hN, k⟩ := h
    refine ⟨_, (pss_cons (ps_if (pt_val (pe_callB call_isi (by rfl) T.z_isinstance (by decide +kernel) (pa_cons (pv 0) (pa_cons (pe_bltn (v := .ty "int") (by rfl) T.z_int (by decide +kernel) rfl) pa_nil)))) (pss_one (ps_ret (pe_tup (pa_cons (pv 0) (pa_cons pe_int pa_nil))))) pss_nil)
      (pss_one (ps_ret (pe_tup (pa_cons (pe_fld (pv 0) rfl) (pa_cons (pe_fld (pv 0) rfl) pa_nil)))))), ?_⟩
    rcases hN with ⟨p, dx, rfl, hp⟩ | ⟨n, rfl, rfl⟩
    · have n1 := T.n_Ratio_top
      have n2 := T.n_Ratio_bottom
      have n3 := T.cl_Ratio
      refine ⟨_, rfl, _, _, _, _, _, rfl, .ty "int", ty_ratio T hp, T.ki_Ratio, _, rfl, iteF ?_⟩
      exact ⟨_, rfl, p, _, dx, _, _, rfl, hp, n3, n1, rf_top _ _, _, rfl, p, _, dx, _, _, rfl, hp, n3, n2, rf_bottom _ _, by walk_at "fact", k⟩
    · refine ⟨_, rfl, _, _, _, _, _, rfl, .ty "int", .base (.int n), kit_ty (by decide +kernel), _, rfl, iteT ?_⟩
      exact ⟨_, rfl, by walk_at "fact", k⟩
end

/-! ### ratios: less, at_most, same, floor, nearest -/
def PairAt (H : Hp) (p : Addr) (q : Rat) : Prop := H p = some (.tup [.int q.num, .int (q.den : Int)])
theorem eqv_pair (q r : Rat) : PyData.eqv (.tuple [.int q.num, .int (q.den : Int)]) (.tuple [.int r.num, .int (r.den : Int)]) = decide (q = r) := by
  have e : (decide (q = r)) = ((q.num == r.num) && ((q.den : Int) == (r.den : Int))) := by
    by_cases h : q = r
    · subst h
      simp
    · rw [decide_eq_false h]
      symm
      rw [Bool.and_eq_false_iff]
      by_cases h1 : q.num = r.num
      · right
        rw [beq_eq_false_iff_ne]
        intro h2
        exact h (Rat.ext h1 (by omega))
      · left
        rw [beq_eq_false_iff_ne]
        exact h1
  simp [PyData.eqv, PyData.eqvAll, e]
theorem dp_pair {K : PySem.W.Frag} {H : Hp} {p : Addr} {q : Rat} (h : PairAt H p q) : Dp K H (.ref p) (.tuple [.int q.num, .int (q.den : Int)]) := .tup (SqT.of h) (.cons (.int _) (.cons (.int _) .nil))
theorem eqD_pair {K : PySem.W.Frag} {H : Hp} {p p' : Addr} {q r : Rat} {Q : VK} (hp : PairAt H p q) (hq : PairAt H p' r) (h : Q (.bl (decide (q = r))) H) : rEqD K (.ref p) (.ref p') H Q :=
  ⟨_, _, dp_pair hp, dp_pair hq, rfl, rfl, by rw [eqv_pair]; exact h⟩
theorem neD_pair {K : PySem.W.Frag} {H : Hp} {p p' : Addr} {q r : Rat} {Q : VK} (hp : PairAt H p q) (hq : PairAt H p' r) (h : Q (.bl (!decide (q = r))) H) : rNeD K (.ref p) (.ref p') H Q :=
  ⟨_, _, dp_pair hp, dp_pair hq, rfl, rfl, by rw [eqv_pair]; exact h⟩
def spCmp (C : Addr) (f : Rat → Rat → Bool) : Sp := fun vs H Q _ => ∃ (v u : V) (q r : Rat) (a b : Nat), vs = [v, u] ∧ IsR C H v q ∧ IsN C H u r ∧ Sz a q ∧ Sz b r ∧ a + b ≤ 9000 ∧ ∀ H', Same H H' → Q (.bl (f q r)) H'
def spFl (C : Addr) (f : Rat → Int) : Sp := fun vs H Q _ => ∃ (v : V) (q : Rat) (a : Nat), vs = [v] ∧ IsR C H v q ∧ Sz a q ∧ a ≤ 8000 ∧ Q (.int (f q)) H
def rfloor (q : Rat) : Int := q.num / (q.den : Int)
def rnear (q : Rat) : Int := (2 * q.num + (q.den : Int)) / (2 * (q.den : Int))
theorem and_to {A : Prop} {Q : VK} {H : Hp} {b b2 : Bool} (h : Q (.bl (b && b2)) H) (hA : Q (.bl b2) H → A) : ∃ c, V.bl b = .bl c ∧ if c = true then A else Q (.bl false) H := by
  cases b with
  | true => exact ⟨true, rfl, iteT (hA h)⟩
  | false => exact ⟨false, rfl, iteF h⟩
section
variable {P : Program} {w : World} {K : PySem.W.Frag} {mg : Str → Option Value} {base : Heap} {A : Ad}
theorem ok_m_Ratio_less (T : Txt K mg A) : FnOk P w K mg base CX0 2 A.m_Ratio_less A.fd_m_Ratio_less P_m_Ratio_less (spCmp A.Ratio fun q r => decide (q < r)) := by
  refine T.F_m_Ratio_less.ok sc_m_Ratio_less (fun vs H Q E h => ?_) (fun cdv Ar outer s H vs Q E hr h => ?_)
  · obtain ⟨v, u, q, r, a, b, rfl, _⟩ := h
    rfl
  · obtain ⟨v, u, q, r, a, b, rfl, ⟨p, dx, rfl, hp⟩, hu, sq, sr, hab, kQ⟩ := h
    refine ⟨_, (pss_cons (ps_asg (pe_call (ok_f_halves T) (hr.mono (by decide)) (by rfl) T.g_halves T.F_f_halves.kp T.b_f_halves .nil pass0 (pa_cons (pv 1) pa_nil)) (pg_tup rfl (pgs_cons (pg_name (i := 2) sc_m_Ratio_less.nd rfl (Or.inl rfl)) (pgs_cons (pg_name (i := 3) sc_m_Ratio_less.nd rfl (Or.inl rfl)) pgs_nil))))
      (pss_one (ps_ret (pe_cmpR op_lt (pe_op op_mulW (pe_fld (pv 0) rfl) (pv 3)) (pe_op op_mulW (pv 2) (pe_fld (pv 0) rfl)) (nomark _))))), ?_⟩
    refine ⟨_, rfl, u, r, rfl, hu, fun t ht => ?_⟩
    have hp' := Same.new (o := .tup [.int r.num, .int (r.den : Int)]) ht _ _ hp
    refine ⟨t, _, rfl, SqT.of upd_same, rfl, _, _, rfl, _, _, rfl, rfl, ?_⟩
    refine ⟨_, rfl, p, _, dx, _, _, rfl, hp', T.cl_Ratio, T.n_Ratio_top, rf_top _ _, _, rfl, _, _, rfl, rfl, mulw sq.1 sr.2 (by omega), _, rfl, _, rfl, p, _, dx, _, _, rfl, hp', T.cl_Ratio, T.n_Ratio_bottom, rf_bottom _ _, _, _, rfl, rfl, mulw sr.1 sq.2 (by omega), _, _, rfl, rfl, ?_⟩
    have e : decide (q < r) = decide (q.num * (r.den : Int) < r.num * (q.den : Int)) := by
      rw [decide_eq_decide]
      exact Rat.lt_iff q r
    dsimp only
    rw [← e]
    exact kQ _ (Same.new ht)
theorem ok_m_Ratio_at_most (T : Txt K mg A) : FnOk P w K mg base CX0 2 A.m_Ratio_at_most A.fd_m_Ratio_at_most P_m_Ratio_at_most (spCmp A.Ratio fun q r => decide (q ≤ r)) := by
  refine T.F_m_Ratio_at_most.ok sc_m_Ratio_at_most (fun vs H Q E h => ?_) (fun cdv Ar outer s H vs Q E hr h => ?_)
  · obtain ⟨v, u, q, r, a, b, rfl, _⟩ := h
    rfl
  · obtain ⟨v, u, q, r, a, b, rfl, ⟨p, dx, rfl, hp⟩, hu, sq, sr, hab, kQ⟩ := h
    refine ⟨_, (pss_cons (ps_asg (pe_call (ok_f_halves T) (hr.mono (by decide)) (by rfl) T.g_halves T.F_f_halves.kp T.b_f_halves .nil pass0 (pa_cons (pv 1) pa_nil)) (pg_tup rfl (pgs_cons (pg_name (i := 2) sc_m_Ratio_at_most.nd rfl (Or.inl rfl)) (pgs_cons (pg_name (i := 3) sc_m_Ratio_at_most.nd rfl (Or.inl rfl)) pgs_nil))))
      (pss_one (ps_ret (pe_cmpR op_le (pe_op op_mulW (pe_fld (pv 0) rfl) (pv 3)) (pe_op op_mulW (pv 2) (pe_fld (pv 0) rfl)) (nomark _))))), ?_⟩
    refine ⟨_, rfl, u, r, rfl, hu, fun t ht => ?_⟩
    have hp' := Same.new (o := .tup [.int r.num, .int (r.den : Int)]) ht _ _ hp
    refine ⟨t, _, rfl, SqT.of upd_same, rfl, _, _, rfl, _, _, rfl, rfl, ?_⟩
    refine ⟨_, rfl, p, _, dx, _, _, rfl, hp', T.cl_Ratio, T.n_Ratio_top, rf_top _ _, _, rfl, _, _, rfl, rfl, mulw sq.1 sr.2 (by omega), _, rfl, _, rfl, p, _, dx, _, _, rfl, hp', T.cl_Ratio, T.n_Ratio_bottom, rf_bottom _ _, _, _, rfl, rfl, mulw sr.1 sq.2 (by omega), _, _, rfl, rfl, ?_⟩
    have e : decide (q ≤ r) = decide (q.num * (r.den : Int) ≤ r.num * (q.den : Int)) := by
      rw [decide_eq_decide]
      exact Rat.le_iff q r
    dsimp only
    rw [← e]
    exact kQ _ (Same.new ht)
theorem ok_m_Ratio_same (T : Txt K mg A) : FnOk P w K mg base CX0 2 A.m_Ratio_same A.fd_m_Ratio_same P_m_Ratio_same (spCmp A.Ratio fun q r => decide (q = r)) := by
  refine T.F_m_Ratio_same.ok sc_m_Ratio_same (fun vs H Q E h => ?_) (fun cdv Ar outer s H vs Q E hr h => ?_)
  · obtain ⟨v, u, q, r, a, b, rfl, _⟩ := h
    rfl
  · obtain ⟨v, u, q, r, a, b, rfl, ⟨p, dx, rfl, hp⟩, hu, sq, sr, hab, kQ⟩ := h
    refine ⟨_, (pss_one (ps_ret (pe_cmpR (op_eqD hr.units) (pe_call (ok_f_halves T) (hr.mono (by decide)) (by rfl) T.g_halves T.F_f_halves.kp T.b_f_halves .nil pass0 (pa_cons (pv 1) pa_nil)) (pe_tup (pa_cons (pe_fld (pv 0) rfl) (pa_cons (pe_fld (pv 0) rfl) pa_nil))) (nomark _)))), ?_⟩
    refine ⟨_, rfl, u, r, rfl, hu, fun t ht => ?_⟩
    have hp' := Same.new (o := .tup [.int r.num, .int (r.den : Int)]) ht _ _ hp
    refine ⟨_, rfl, p, _, dx, _, _, rfl, hp', T.cl_Ratio, T.n_Ratio_top, rf_top _ _, _, rfl, p, _, dx, _, _, rfl, hp', T.cl_Ratio, T.n_Ratio_bottom, rf_bottom _ _, by walk_at "fact", fun t2 ht2 => ?_⟩
    refine eqD_pair (q := r) (r := q) (Same.new ht2 _ _ upd_same) upd_same ?_
    have e : decide (q = r) = decide (r = q) := by
      rw [decide_eq_decide]
      exact eq_comm
    rw [← e]
    exact kQ _ ((Same.new ht).trans (Same.new ht2))
theorem ok_m_Ratio_floor (T : Txt K mg A) : FnOk P w K mg base CX0 1 A.m_Ratio_floor A.fd_m_Ratio_floor P_m_Ratio_floor (spFl A.Ratio rfloor) := by
  refine T.F_m_Ratio_floor.ok sc_m_Ratio_floor (fun vs H Q E h => ?_) (fun cdv Ar outer s H vs Q E hr h => ?_)
  · obtain ⟨v, q, a, rfl, _⟩ := h
    rfl
  · obtain ⟨v, q, a, rfl, ⟨p, dx, rfl, hp⟩, sq, ha, kQ⟩ := h
    refine ⟨_, (pss_one (ps_ret (pe_op op_fdivW (pe_fld (pv 0) rfl) (pe_fld (pv 0) rfl)))), ?_⟩
    have hd := q.den_pos
    exact ⟨_, rfl, p, _, dx, _, _, rfl, hp, T.cl_Ratio, T.n_Ratio_top, rf_top _ _, _, rfl, p, _, dx, _, _, rfl, hp, T.cl_Ratio, T.n_Ratio_bottom, rf_bottom _ _, _, _, rfl, rfl, wide_div (by omega) (lt_pow sq.2 (by omega)) (by decide) (Nat.le_refl 9000), kQ⟩
theorem ok_m_Ratio_nearest (T : Txt K mg A) : FnOk P w K mg base CX0 1 A.m_Ratio_nearest A.fd_m_Ratio_nearest P_m_Ratio_nearest (spFl A.Ratio rnear) := by
  refine T.F_m_Ratio_nearest.ok sc_m_Ratio_nearest (fun vs H Q E h => ?_) (fun cdv Ar outer s H vs Q E hr h => ?_)
  · obtain ⟨v, q, a, rfl, _⟩ := h
    rfl
  · obtain ⟨v, q, a, rfl, ⟨p, dx, rfl, hp⟩, sq, ha, kQ⟩ := h
    refine ⟨_, (pss_one (ps_ret (pe_op op_fdivW (pe_op op_add (pe_op op_mul pe_int (pe_fld (pv 0) rfl)) (pe_fld (pv 0) rfl)) (pe_op op_mul pe_int (pe_fld (pv 0) rfl))))), ?_⟩
    have hd := q.den_pos
    have h2 : (2 * (q.den : Int)).natAbs < 2 ^ 9000 := by
      have h3 : q.den < 2 ^ 8999 := lt_pow sq.2 (by omega)
      have h4 : (2 : Nat) ^ 9000 = 2 * 2 ^ 8999 := by rw [Nat.pow_succ, Nat.mul_comm]
      rw [h4]
      omega
    exact ⟨_, rfl, p, _, dx, _, _, rfl, hp, T.cl_Ratio, T.n_Ratio_top, rf_top _ _, _, _, rfl, rfl, .inl ⟨by decide, by decide⟩, _, rfl, p, _, dx, _, _, rfl, hp, T.cl_Ratio, T.n_Ratio_bottom, rf_bottom _ _, _, _, rfl, rfl,
      _, rfl, p, _, dx, _, _, rfl, hp, T.cl_Ratio, T.n_Ratio_bottom, rf_bottom _ _, _, _, rfl, rfl, .inl ⟨by decide, by decide⟩, _, _, rfl, rfl, wide_div (by omega) h2 (by decide) (Nat.le_refl 9000), kQ⟩
end

/-! ### the law -/
def spNumber : Sp := fun vs H Q _ => ∃ n : Int, vs = [.int n] ∧ Q (.bl true) H
def spOrdered (C : Addr) : Sp := fun vs H Q _ => ∃ (v u : V) (b1 b2 : Bool) (q r : Rat), vs = [v, u, .bl b1, .bl b2] ∧ b1 = decide (q < r) ∧ b2 = decide (q = r) ∧ IsR C H v q ∧ IsN C H u r ∧ Sz 400 q ∧ Sz 400 r ∧ ∀ H', Same H H' → Q (.bl true) H'
def spRounded (C : Addr) : Sp := fun vs H Q _ => ∃ (v : V) (q : Rat), vs = [v, .int q.num, .int (q.den : Int)] ∧ IsR C H v q ∧ Sz 400 q ∧ ∀ H', Same H H' → Q (.bl true) H'
theorem floor_ok (q : Rat) : rfloor q * (q.den : Int) ≤ q.num ∧ q.num < (rfloor q + 1) * (q.den : Int) := by
  have hd : (0 : Int) < (q.den : Int) := by have := q.den_pos; omega
  unfold rfloor
  exact ⟨Int.ediv_mul_le _ (by omega), Int.lt_ediv_add_one_mul_self _ hd⟩
theorem near_ok (q : Rat) : (2 * rnear q - 1) * (q.den : Int) ≤ 2 * q.num ∧ 2 * q.num < (2 * rnear q + 1) * (q.den : Int) := by
  have hd : (0 : Int) < (q.den : Int) := by have := q.den_pos; omega
  have h1 : rnear q * (2 * (q.den : Int)) ≤ 2 * q.num + (q.den : Int) := Int.ediv_mul_le _ (by omega)
  have h2 : 2 * q.num + (q.den : Int) < (rnear q + 1) * (2 * (q.den : Int)) := Int.lt_ediv_add_one_mul_self _ (by omega)
  generalize rnear q = n at *
  generalize (q.den : Int) = d at *
  have e1 : n * (2 * d) = 2 * (n * d) := by rw [Int.mul_left_comm]
  have e2 : (n + 1) * (2 * d) = 2 * (n * d) + 2 * d := by rw [Int.add_mul, e1, Int.one_mul]
  have e3 : (2 * n - 1) * d = 2 * (n * d) - d := by rw [Int.sub_mul, Int.mul_assoc, Int.one_mul]
  have e4 : (2 * n + 1) * d = 2 * (n * d) + d := by rw [Int.add_mul, Int.mul_assoc, Int.one_mul]
  omega
theorem floor_lt {q : Rat} {n : Nat} (h : Sz n q) : (rfloor q).natAbs < 2 ^ n := Nat.lt_of_le_of_lt (Int.natAbs_ediv_le_natAbs _ _) h.1
theorem near_lt {q : Rat} {n : Nat} (h : Sz n q) : (rnear q).natAbs < 2 ^ (n + 2) := by
  have h1 : (rnear q).natAbs ≤ (2 * q.num + (q.den : Int)).natAbs := Int.natAbs_ediv_le_natAbs _ _
  have h2 := h.1
  have h3 := h.2
  have h4 : (2 : Nat) ^ (n + 2) = 4 * 2 ^ n := by rw [Nat.pow_add, Nat.mul_comm]
  rw [h4]
  omega
theorem PairAt.kp {H H' : Hp} {p g l : Addr} {q : Rat} (h : PairAt H p q) (b : Bag H g l) (k : Kp g H H') : PairAt H' p q := by
  obtain ⟨xs, hg⟩ := b.lst
  exact k _ _ h (ne_of h hg (by intro z; cases z))
theorem half_pair (n : Int) : (Rat.divInt (2 * n + 1) 2).num = 2 * n + 1 ∧ (Rat.divInt (2 * n + 1) 2).den = 2 := by
  have hg : Int.gcd 2 (2 * n + 1) = 1 := by
    rw [Int.add_comm, Int.gcd_add_mul_left_right]
    rfl
  rw [Rat.num_divInt, Rat.den_divInt, hg]
  constructor
  · show (1 * (2 * n + 1)) / 1 = 2 * n + 1
    omega
  · rfl
section
variable {P : Program} {w : World} {K : PySem.W.Frag} {mg : Str → Option Value} {base : Heap} {A : Ad}
theorem ok_l_number (T : Txt K mg A) : FnOk P w K mg base CX0 1 A.l_number A.fd_l_number P_l_number spNumber := by
  refine T.F_l_number.ok sc_l_number (fun vs H Q E h => ?_) (fun cdv Ar outer s H vs Q E hr h => ?_)
  · obtain ⟨n, rfl, _⟩ := h
    rfl
  · obtain ⟨n, rfl, k⟩ := h
    refine ⟨_, (pss_one (ps_ret (pe_and (pe_callB call_isi (by rfl) T.z_isinstance (by decide +kernel) (pa_cons (pv 0) (pa_cons (pe_bltn (v := .ty "int") (by rfl) T.z_int (by decide +kernel) rfl) pa_nil))) (pe_one (pe_not (pe_callB call_isi (by rfl) T.z_isinstance (by decide +kernel) (pa_cons (pv 0) (pa_cons (pe_bltn (v := .ty "bool") (by rfl) T.z_bool (by decide +kernel) rfl) pa_nil)))))))), ?_⟩
    refine ⟨_, rfl, _, _, _, _, _, rfl, .ty "int", .base (.int n), kit_ty (by decide +kernel), true, rfl, iteT ?_⟩
    exact ⟨_, rfl, _, _, _, _, _, rfl, .ty "bool", .base (.int n), kit_ty (b := "bool") (r := false) (by decide +kernel), false, rfl, k⟩
theorem ok_l_ordered (T : Txt K mg A) : FnOk P w K mg base CX0 3 A.l_ordered A.fd_l_ordered P_l_ordered (spOrdered A.Ratio) := by
  refine T.F_l_ordered.ok sc_l_ordered (fun vs H Q E h => ?_) (fun cdv Ar outer s H vs Q E hr h => ?_)
  · obtain ⟨v, u, b1, b2, q, r, rfl, _⟩ := h
    rfl
  · obtain ⟨v, u, b1, b2, q, r, rfl, rfl, rfl, hv, hu, sq, sr, k⟩ := h
    refine ⟨_, (pss_cons (ps_set (i := 4) sc_l_ordered.nd rfl (Or.inl rfl) (pe_lst (pa_cons (pe_meth (pv 0) T.cl_Ratio T.m_Ratio_less (ok_m_Ratio_less T) (hr.mono (by decide)) T.b_m_Ratio_less .nil pass0 (pa_cons (pv 1) pa_nil)) (pa_cons (pe_meth (pv 0) T.cl_Ratio T.m_Ratio_at_most (ok_m_Ratio_at_most T) (hr.mono (by decide)) T.b_m_Ratio_at_most .nil pass0 (pa_cons (pv 1) pa_nil)) (pa_cons (pe_meth (pv 0) T.cl_Ratio T.m_Ratio_same (ok_m_Ratio_same T) (hr.mono (by decide)) T.b_m_Ratio_same .nil pass0 (pa_cons (pv 1) pa_nil)) pa_nil)))))
      (pss_one (ps_ret (pe_and (pe_callB (cr_all rfl) (by rfl) T.z_all (by decide +kernel) (pa_cons (pe_g (pe_lcV (own := [("_law_answer", 5)]) rfl sc_l_ordered.nd (pi_list (pv 4)) (blkOk_by (own := [("_law_answer", 5)]) (N := N_l_ordered) (sc := defScope s_l_ordered) (by decide +kernel)) (fun _ _ _ _ _ => (pg_name (i := 5) sc_l_ordered.nd rfl (Or.inl rfl))) (fun _ _ _ _ _ => pts_nil) (fun _ _ _ _ _ => (pe_callB call_isi (by rfl) T.z_isinstance (by decide +kernel) (pa_cons (pv 5) (pa_cons (pe_bltn (v := .ty "bool") (by rfl) T.z_bool (by decide +kernel) rfl) pa_nil)))) (fun _ _ _ _ _ => rfl) (fun _ _ _ _ _ => rfl) (fun _ _ _ _ _ => rfl))) pa_nil)) (pe_one (pe_cmpR (op_eqD hr.units) (pv 4) (pe_lst (pa_cons (pv 2) (pa_cons (pe_or (pv 2) (pe_one (pv 3))) (pa_cons (pv 3) pa_nil)))) (nomark _))))))), ?_⟩
    obtain ⟨p, dx, rfl, hp⟩ := id hv
    have hN : ∀ {H'}, Same H H' → IsN A.Ratio H' u r := fun s => hu.elim (fun z => .inl (z.same s)) .inr
    refine ⟨_, rfl, p, dx, _, rfl, hp, rf_no _ _ (by decide +kernel) (by decide +kernel), _, rfl, _, _, q, r, 400, 400, rfl, hv, hu, sq, sr, by decide, fun H1 s1 => ?_⟩
    refine ⟨_, rfl, p, dx, _, rfl, s1 _ _ hp, rf_no _ _ (by decide +kernel) (by decide +kernel), _, rfl, _, _, q, r, 400, 400, rfl, hv.same s1, hN s1, sq, sr, by decide, fun H2 s2 => ?_⟩
    refine ⟨_, rfl, p, dx, _, rfl, (s1.trans s2) _ _ hp, rf_no _ _ (by decide +kernel) (by decide +kernel), _, rfl, _, _, q, r, 400, 400, rfl, hv.same (s1.trans s2), hN (s1.trans s2), sq, sr, by decide, fun H3 s3 => ?_⟩
    refine ⟨by walk_at "fact", fun t ht => ?_⟩
    refine ⟨⟨_, rfl, t, rfl, ⟨_, SqL.of upd_same⟩, fun D hD => ?_⟩⟩
    have ntD : t ≠ D := fun z => by
      rw [← z, upd_same] at hD
      cases hD
    refine lc_list (K := K) (a := t) (xs := [.bl (decide (q < r)), .bl (decide (q ≤ r)), .bl (decide (q = r))])
      (fun i H' => Wd (H' D = some (.lst (List.replicate i (.bl true))) ∧ Same (upd H3 t (.lst [.bl (decide (q < r)), .bl (decide (q ≤ r)), .bl (decide (q = r))])) H')) ?_ ?_ ?_ ?_
    · exact ⟨upd_same, Same.new hD⟩
    · rintro i H' _ ⟨_, s⟩
      exact SqL.of (s _ _ upd_same)
    · rintro i x H' hx ⟨hd, s⟩
      have hb : ∃ b, x = V.bl b := by
        have hm := List.mem_of_getElem? hx
        simp only [List.mem_cons, List.not_mem_nil, or_false] at hm
        rcases hm with e | e | e
        all_goals exact ⟨_, e⟩
      obtain ⟨b, rfl⟩ := hb
      have hi : i < 3 := (List.getElem?_eq_some_iff.mp hx).1
      refine ⟨rfl, _, rfl, _, _, _, _, _, rfl, .ty "bool", .base (.bl b), kit_ty (b := "bool") (r := true) (by decide +kernel), _, hd, ?_, ?_⟩
      · rw [List.length_replicate]
        exact Nat.lt_of_lt_of_le hi (by decide)
      · refine ⟨?_, fun b o e => ?_⟩
        · rw [upd_same, List.replicate_succ']
        · have := s _ _ e
          rw [upd_ne]
          · exact this
          · intro z
            rw [z, upd_ne ntD.symm] at e
            rw [upd_ne ntD.symm] at hD
            rw [hD] at e
            cases e
    · rintro H' ⟨hd, s⟩
      refine ⟨D, [true, true, true], rfl, SqL.of hd, _, rfl, iteT ?_⟩
      have hor : (decide (q < r) || decide (q = r)) = decide (q ≤ r) := by
        have e : (q ≤ r) ↔ (q < r ∨ q = r) := Rat.le_iff_lt_or_eq
        rw [← Bool.decide_or, decide_eq_decide]
        exact e.symm
      have s4 := s1.trans (s2.trans (s3.trans ((Same.new ht).trans s)))
      refine ⟨_, rfl, _, rfl, _, rfl, _, rfl, ?_⟩
      have fin : ∀ b : Bool, b = decide (q ≤ r) → ∀ l, H' l = none → rEqD K (.ref t) (.ref l) (upd H' l (.lst [.bl (decide (q < r)), .bl b, .bl (decide (q = r))])) Q := fun b eb l hl => by
        subst eb
        refine ⟨.list [.bool (decide (q < r)), .bool (decide (q ≤ r)), .bool (decide (q = r))], .list [.bool (decide (q < r)), .bool (decide (q ≤ r)), .bool (decide (q = r))], .lst (SqL.of (Same.new hl _ _ (s _ _ upd_same))) (.cons (.bl _) (.cons (.bl _) (.cons (.bl _) .nil))), .lst (SqL.of upd_same) (.cons (.bl _) (.cons (.bl _) (.cons (.bl _) .nil))), rfl, rfl, ?_⟩
        have e : PyData.eqv (.list [.bool (decide (q < r)), .bool (decide (q ≤ r)), .bool (decide (q = r))]) (.list [.bool (decide (q < r)), .bool (decide (q ≤ r)), .bool (decide (q = r))]) = true := by simp [PyData.eqv, PyData.eqvAll]
        rw [e]
        exact k _ (s4.trans (Same.new hl))
      refine if_bl (fun e => ?_) (fun e => ?_)
      · refine ⟨_, rfl, by walk_at "fact", fun l hl => ?_⟩
        exact fin true (by rw [← hor, e]; rfl) l hl
      · refine ⟨_, rfl, _, rfl, by walk_at "fact", fun l hl => ?_⟩
        exact fin _ (by rw [← hor, e]; rfl) l hl
theorem ok_l_rounded_right (T : Txt K mg A) : FnOk P w K mg base CX0 2 A.l_rounded_right A.fd_l_rounded_right P_l_rounded_right (spRounded A.Ratio) := by
  refine T.F_l_rounded_right.ok sc_l_rounded_right (fun vs H Q E h => ?_) (fun cdv Ar outer s H vs Q E hr h => ?_)
  · obtain ⟨v, q, rfl, _⟩ := h
    rfl
  · obtain ⟨v, q, rfl, hv, sq, k⟩ := h
    obtain ⟨p, dx, rfl, hp⟩ := id hv
    refine ⟨_, (pss_cons (ps_set (i := 3) sc_l_rounded_right.nd rfl (Or.inl rfl) (pe_meth0 (pv 0) T.cl_Ratio T.m_Ratio_floor (ok_m_Ratio_floor T) (hr.mono (by decide)) T.b_m_Ratio_floor .nil pass0))
      (pss_cons (ps_set (i := 4) sc_l_rounded_right.nd rfl (Or.inl rfl) (pe_meth0 (pv 0) T.cl_Ratio T.m_Ratio_nearest (ok_m_Ratio_nearest T) (hr.mono (by decide)) T.b_m_Ratio_nearest .nil pass0))
      (pss_cons (ps_if (PW.pt (pw_or (pt_not (pt_val (pe_call (ok_l_number T) (hr.mono (by decide)) (by rfl) T.g__law_number T.F_l_number.kp T.b_l_number .nil pass0 (pa_cons (pv 3) pa_nil)))) (pw_or1 (pt_not (pt_val (pe_call (ok_l_number T) (hr.mono (by decide)) (by rfl) T.g__law_number T.F_l_number.kp T.b_l_number .nil pass0 (pa_cons (pv 4) pa_nil))))))) (pss_one (ps_ret pe_bl)) pss_nil)
      (pss_cons (ps_if (pt_not (pt_chain op_le op_lt (pe_op op_mulW (pv 3) (pv 2)) (pv 1) (pe_op op_mulW (pe_op op_add (pv 3) pe_int) (pv 2)))) (pss_one (ps_ret pe_bl)) pss_nil)
      (pss_one (ps_ret (pe_chain op_le op_lt (pe_op op_mulW (pe_op op_sub (pe_op op_mul pe_int (pv 4)) pe_int) (pv 2)) (pe_op op_mul pe_int (pv 1)) (pe_op op_mulW (pe_op op_add (pe_op op_mul pe_int (pv 4)) pe_int) (pv 2))))))))), ?_⟩
    have f1 := floor_ok q
    have f2 := near_ok q
    have b1 := floor_lt sq
    have b2 := near_lt sq
    have bd : ((q.den : Int)).natAbs < 2 ^ 400 := sq.2
    have pw : (2 : Nat) ^ 410 = 1024 * 2 ^ 400 := by rw [Nat.pow_add 2 10 400]
    have c1 : (rfloor q + 1).natAbs < 2 ^ 410 := by
      rw [pw]
      omega
    have c2 : (2 * rnear q - 1).natAbs < 2 ^ 410 := by
      have pw2 : (2 : Nat) ^ (400 + 2) = 4 * 2 ^ 400 := by rw [Nat.pow_add 2 400 2, Nat.mul_comm]
      rw [pw]
      rw [pw2] at b2
      omega
    have c3 : (2 * rnear q + 1).natAbs < 2 ^ 410 := by
      have pw2 : (2 : Nat) ^ (400 + 2) = 4 * 2 ^ 400 := by rw [Nat.pow_add 2 400 2, Nat.mul_comm]
      rw [pw]
      rw [pw2] at b2
      omega
    refine ⟨_, rfl, p, dx, _, rfl, hp, rf_no _ _ (by decide +kernel) (by decide +kernel), _, q, 400, rfl, hv, sq, by decide, ?_⟩
    refine ⟨_, rfl, p, dx, _, rfl, hp, rf_no _ _ (by decide +kernel) (by decide +kernel), _, q, 400, rfl, hv, sq, by decide, ?_⟩
    -- both are numbers
    refine ⟨_, rfl, _, rfl, _, rfl, iteF ?_⟩
    refine ⟨_, rfl, _, rfl, _, rfl, iteF ?_⟩
    have m1 := mulw b1 bd (by decide)
    have m2 := mulw c1 bd (by decide)
    have m3 := mulw c2 bd (by decide)
    have m4 := mulw c3 bd (by decide)
    walk_at "go"
    refine ifT f1.1 ?_
    walk_at "go"
    refine ifNT f1.2 ?_
    walk_at "go"
    refine ifT f2.1 ?_
    walk_at "go"
    show Q (.bl (decide (2 * q.num < (2 * rnear q + 1) * (q.den : Int)))) H
    rw [decide_eq_true f2.2]
    exact k _ (Same.refl _)
theorem ok_f_law (T : Txt K mg A) : FnOk P w K mg base CX0 6 A.f_law A.fd_f_law P_f_law (spLaw K) := by
  refine T.F_f_law.ok sc_f_law (fun vs H Q E h => ?_) (fun cdv Ar outer s H vs Q E hr h => ?_)
  · obtain ⟨a, ns, rfl, _⟩ := h
    rfl
  · obtain ⟨a, ns, rfl, hS, hlen, k⟩ := h
    refine ⟨_, (pss_cons (ps_set (i := 1) sc_f_law.nd rfl (Or.inl rfl) (pe_call (ok_l_bag T) (hr.mono (by decide)) (by rfl) T.g__law_bag T.F_l_bag.kp T.b_l_bag .nil pass0 (pa_cons (pv 0) pa_nil)))
      (pss_cons (ps_set (i := 2) sc_f_law.nd rfl (Or.inl rfl) (pe_call (ok_l_draw T) (hr.mono (by decide)) (by rfl) T.g__law_draw T.F_l_draw.kp T.b_l_draw .nil pass0 (pa_cons (pv 1) (pa_cons pe_int pa_nil))))
      (pss_cons (ps_set (i := 3) sc_f_law.nd rfl (Or.inl rfl) (pe_call (ok_l_lowest T) (hr.mono (by decide)) (by rfl) T.g__law_lowest T.F_l_lowest.kp T.b_l_lowest .nil pass0 (pa_cons (pe_call (ok_l_integer T) (hr.mono (by decide)) (by rfl) T.g__law_integer T.F_l_integer.kp T.b_l_integer .nil pass0 (pa_cons (pv 1) pa_nil)) (pa_cons (pe_orT (pe_call (ok_l_integer T) (hr.mono (by decide)) (by rfl) T.g__law_integer T.F_l_integer.kp T.b_l_integer .nil pass0 (pa_cons (pv 1) pa_nil)) (pe_one pe_int)) pa_nil))))
      (pss_cons (ps_set (i := 4) sc_f_law.nd rfl (Or.inl rfl) (pe_call (ok_l_lowest T) (hr.mono (by decide)) (by rfl) T.g__law_lowest T.F_l_lowest.kp T.b_l_lowest .nil pass0 (pa_cons (pe_call (ok_l_integer T) (hr.mono (by decide)) (by rfl) T.g__law_integer T.F_l_integer.kp T.b_l_integer .nil pass0 (pa_cons (pv 1) pa_nil)) (pa_cons (pe_orT (pe_call (ok_l_integer T) (hr.mono (by decide)) (by rfl) T.g__law_integer T.F_l_integer.kp T.b_l_integer .nil pass0 (pa_cons (pv 1) pa_nil)) (pe_one pe_int)) pa_nil))))
      (pss_g (Evl.pss_cut (ps_if (pt_cmpR op_eq (pv 2) pe_int (nomark _)) (pss_one (ps_set (i := 4) sc_f_law.nd rfl (Or.inl rfl) (pv 3))) pss_nil)
      (pss_cons (ps_set (i := 5) sc_f_law.nd rfl (Or.inl rfl) (pe_call (ok_l_integer T) (hr.mono (by decide)) (by rfl) T.g__law_integer T.F_l_integer.kp T.b_l_integer .nil pass0 (pa_cons (pv 1) pa_nil)))
      (pss_g (Evl.pss_cut (ps_if (pt_cmpR op_gt (pv 2) pe_int (nomark _)) (pss_one (ps_set (i := 5) sc_f_law.nd rfl (Or.inl rfl) (pe_op op_add (pe_op op_fdivW (pe_ix ix_tup (pv 3) pe_int (fun _ _ => rfl)) (pe_ix ix_tup (pv 3) pe_int (fun _ _ => rfl))) (pe_call (ok_l_draw T) (hr.mono (by decide)) (by rfl) T.g__law_draw T.F_l_draw.kp T.b_l_draw .nil pass0 (pa_cons (pv 1) (pa_cons pe_int pa_nil)))))) pss_nil)
      (pss_g (Evl.pss_cut (ps_if (pt_cmpR op_eq (pv 2) pe_int (nomark _)) (pss_one (ps_set (i := 3) sc_f_law.nd rfl (Or.inl rfl) (pe_tup (pa_cons (pe_op op_add (pe_op op_mul pe_int (pv 5)) pe_int) (pa_cons pe_int pa_nil))))) pss_nil)
      (pss_cons (ps_set (i := 6) sc_f_law.nd rfl (Or.inl rfl) (pe_make T.mk_Ratio (ok_m_Ratio_init T) (hr.mono (by decide)) (by rfl) T.g_Ratio T.b_m_Ratio_init .nil passL (pa_cons (pe_ix ix_tup (pv 3) pe_int (fun _ _ => rfl)) (pa_cons (pe_ix ix_tup (pv 3) pe_int (fun _ _ => rfl)) pa_nil))))
      (pss_cons (ps_set (i := 7) sc_f_law.nd rfl (Or.inl rfl) (pe_make T.mk_Ratio (ok_m_Ratio_init T) (hr.mono (by decide)) (by rfl) T.g_Ratio T.b_m_Ratio_init .nil passL (pa_cons (pe_ix ix_tup (pv 4) pe_int (fun _ _ => rfl)) (pa_cons (pe_ix ix_tup (pv 4) pe_int (fun _ _ => rfl)) pa_nil))))
      (pss_cons (ps_set (i := 8) sc_f_law.nd rfl (Or.inl rfl) (pe_cmpR op_lt (pe_op op_mulW (pe_ix ix_tup (pv 3) pe_int (fun _ _ => rfl)) (pe_ix ix_tup (pv 4) pe_int (fun _ _ => rfl))) (pe_op op_mulW (pe_ix ix_tup (pv 4) pe_int (fun _ _ => rfl)) (pe_ix ix_tup (pv 3) pe_int (fun _ _ => rfl))) (nomark _)))
      (pss_cons (ps_g (ps_for PassesOwn.never rfl (pi_range1 rfl T.z_range (pa_cons pe_int pa_nil)) (pg_name (i := 9) sc_f_law.nd rfl (Or.inl rfl)) (pss_g (Evl.pss_cut (ps_if (PW.pt (pw_or (pt_not (pt_val (pe_call (ok_l_ordered T) (hr.mono (by decide)) (by rfl) T.g__law_ordered T.F_l_ordered.kp T.b_l_ordered .nil pass0 (pa_cons (pv 6) (pa_cons (pv 7) (pa_cons (pv 8) (pa_cons (pe_cmpR (op_eqD hr.units) (pv 3) (pv 4) (nomark _)) pa_nil))))))) (pw_or1 (pt_not (pt_val (pe_call (ok_l_ordered T) (hr.mono (by decide)) (by rfl) T.g__law_ordered T.F_l_ordered.kp T.b_l_ordered .nil pass0 (pa_cons (pv 7) (pa_cons (pv 6) (pa_cons (pe_and (pe_not (pv 8)) (pe_one (pe_cmpR (op_neD hr.units) (pv 3) (pv 4) (nomark _)))) (pa_cons (pe_cmpR (op_eqD hr.units) (pv 3) (pv 4) (nomark _)) pa_nil)))))))))) (pss_one (ps_ret pe_bl)) pss_nil)
      (pss_cons (ps_if (PW.pt (pw_or (pt_cmpR op_ne (pe_meth (pv 6) T.cl_Ratio T.m_Ratio_same (ok_m_Ratio_same T) (hr.mono (by decide)) T.b_m_Ratio_same .nil pass0 (pa_cons (pv 7) pa_nil)) (pe_cmpR (op_eqD hr.units) (pv 3) (pv 4) (nomark _)) (nomark _)) (pw_or (pt_cmpR op_ne (pe_meth (pv 7) T.cl_Ratio T.m_Ratio_same (ok_m_Ratio_same T) (hr.mono (by decide)) T.b_m_Ratio_same .nil pass0 (pa_cons (pv 6) pa_nil)) (pe_cmpR (op_eqD hr.units) (pv 3) (pv 4) (nomark _)) (nomark _)) (pw_or1 (pt_cmpR op_ne (pe_meth (pv 6) T.cl_Ratio T.m_Ratio_same (ok_m_Ratio_same T) (hr.mono (by decide)) T.b_m_Ratio_same .nil pass0 (pa_cons (pv 5) pa_nil)) (pe_cmpR (op_eqD hr.units) (pv 3) (pe_tup (pa_cons (pv 5) (pa_cons pe_int pa_nil))) (nomark _)) (nomark _)))))) (pss_one (ps_ret pe_bl)) pss_nil)
      (pss_cons (ps_if (pt_not (pt_val (pe_call (ok_l_ordered T) (hr.mono (by decide)) (by rfl) T.g__law_ordered T.F_l_ordered.kp T.b_l_ordered .nil pass0 (pa_cons (pv 6) (pa_cons (pv 5) (pa_cons (pe_cmpR op_lt (pe_ix ix_tup (pv 3) pe_int (fun _ _ => rfl)) (pe_op op_mulW (pv 5) (pe_ix ix_tup (pv 3) pe_int (fun _ _ => rfl))) (nomark _)) (pa_cons (pe_cmpR (op_eqD hr.units) (pv 3) (pe_tup (pa_cons (pv 5) (pa_cons pe_int pa_nil))) (nomark _)) pa_nil))))))) (pss_one (ps_ret pe_bl)) pss_nil)
      (pss_cons (ps_if (pt_not (pt_val (pe_call (ok_l_ordered T) (hr.mono (by decide)) (by rfl) T.g__law_ordered T.F_l_ordered.kp T.b_l_ordered .nil pass0 (pa_cons (pe_make T.mk_Ratio (ok_m_Ratio_init T) (hr.mono (by decide)) (by rfl) T.g_Ratio T.b_m_Ratio_init_d1 T.dv_m_Ratio_init passL (pa_cons (pv 5) pa_nil)) (pa_cons (pv 6) (pa_cons (pe_cmpR op_lt (pe_op op_mulW (pv 5) (pe_ix ix_tup (pv 3) pe_int (fun _ _ => rfl))) (pe_ix ix_tup (pv 3) pe_int (fun _ _ => rfl)) (nomark _)) (pa_cons (pe_cmpR (op_eqD hr.units) (pv 3) (pe_tup (pa_cons (pv 5) (pa_cons pe_int pa_nil))) (nomark _)) pa_nil))))))) (pss_one (ps_ret pe_bl)) pss_nil)
      (pss_one (ps_if (PW.pt (pw_or (pt_not (pt_val (pe_call (ok_l_rounded_right T) (hr.mono (by decide)) (by rfl) T.g__law_rounded_right T.F_l_rounded_right.kp T.b_l_rounded_right .nil pass0 (pa_cons (pv 6) (pa_cons (pe_ix ix_tup (pv 3) pe_int (fun _ _ => rfl)) (pa_cons (pe_ix ix_tup (pv 3) pe_int (fun _ _ => rfl)) pa_nil)))))) (pw_or1 (pt_not (pt_val (pe_call (ok_l_rounded_right T) (hr.mono (by decide)) (by rfl) T.g__law_rounded_right T.F_l_rounded_right.kp T.b_l_rounded_right .nil pass0 (pa_cons (pv 7) (pa_cons (pe_ix ix_tup (pv 4) pe_int (fun _ _ => rfl)) (pa_cons (pe_ix ix_tup (pv 4) pe_int (fun _ _ => rfl)) pa_nil))))))))) (pss_one (ps_ret pe_bl)) pss_nil)))))))))
      (pss_one (ps_ret pe_bl))))))))))))))))), ?_⟩
    walk_at "go"
    intro g l H1 s1 hg hl B1
    walk_at "go"
    intro z H2 z0 z2 B2 K2
    walk_at "go"
    intro a0 H3 za0 B3 K3
    walk_at "go"
    intro n1 H4 zn1 B4 K4
    refine or_go (by decide) fun a1 a10 ea1 => ?_
    have la : a1.natAbs ≤ 10 ^ 49 := by
      rcases ea1 with e | e
      · rw [e]
        exact zn1
      · rw [e]
        decide
    have la9 : a1.natAbs < 2 ^ 9000 := lt9000 la
    walk_at "go"
    intro pa hpa
    have hA0 : PairAt (upd H4 pa (.tup [.int (Rat.divInt a0 a1).num, .int ((Rat.divInt a0 a1).den : Int)])) pa (Rat.divInt a0 a1) := upd_same
    have B5 := B4.new (o := .tup [.int (Rat.divInt a0 a1).num, .int ((Rat.divInt a0 a1).den : Int)]) hpa
    have sA : Sz 200 (Rat.divInt a0 a1) := Sz.div (lt200 za0) (lt200 la) a10
    generalize Rat.divInt a0 a1 = qa at *
    generalize (upd H4 pa (.tup [.int qa.num, .int (qa.den : Int)])) = H5 at *
    walk_at "go"
    intro b0 H6 zb0 B6 K6
    walk_at "go"
    intro m1 H7 zm1 B7 K7
    refine or_go (by decide) fun b1 b10 eb1 => ?_
    have lb : b1.natAbs ≤ 10 ^ 49 := by
      rcases eb1 with e | e
      · rw [e]
        exact zm1
      · rw [e]
        decide
    have lb9 : b1.natAbs < 2 ^ 9000 := lt9000 lb
    walk_at "go"
    intro pb hpb
    have hA1 := (hA0.kp B5 K6).kp B6 K7
    have hA2 : PairAt (upd H7 pb (.tup [.int (Rat.divInt b0 b1).num, .int ((Rat.divInt b0 b1).den : Int)])) pa qa := Same.new hpb _ _ hA1
    have hB2 : PairAt (upd H7 pb (.tup [.int (Rat.divInt b0 b1).num, .int ((Rat.divInt b0 b1).den : Int)])) pb (Rat.divInt b0 b1) := upd_same
    have B8 := B7.new (o := .tup [.int (Rat.divInt b0 b1).num, .int ((Rat.divInt b0 b1).den : Int)]) hpb
    have sB : Sz 200 (Rat.divInt b0 b1) := Sz.div (lt200 zb0) (lt200 lb) b10
    refine ⟨⟨fun σ' H' => Wd (∃ (pb : Addr) (qb : Rat), σ' = [some (.ref a), some (.ref g), some (.int z), some (.ref pa), some (.ref pb), none, none, none, none, none] ∧ PairAt H' pa qa ∧ PairAt H' pb qb ∧ Sz 200 qb ∧ Bag H' g l), ?_, ?_⟩⟩
    · walk_at "go"
      refine if_int (fun e => ?_) (fun e => ?_)
      · walk_at "go"
        exact ⟨pa, qa, rfl, hA2, hA2, sA, B8⟩
      · exact ⟨pb, _, rfl, hA2, hB2, sB, B8⟩
    rintro σ1 H8 ⟨pb, qb, rfl, hA3, hB3, sB, B9⟩
    walk_at "go"
    intro w0 H9 zw0 B10 K9
    have hA4 := hA3.kp B9 K9
    have hB4 := hB3.kp B9 K9
    refine ⟨⟨fun σ' H' => Wd (∃ w : Int, σ' = [some (.ref a), some (.ref g), some (.int z), some (.ref pa), some (.ref pb), some (.int w), none, none, none, none] ∧ w.natAbs < 2 ^ 202 ∧ PairAt H' pa qa ∧ PairAt H' pb qb ∧ Bag H' g l), ?_, ?_⟩⟩
    · walk_at "go"
      refine if_dec (fun e => ?_) (fun e => ?_)
      · have hd := qa.den_pos
        have hw : CDivW qa.num (qa.den : Int) := wide_div (by omega) (lt_pow (a := 200) sA.2 (by decide)) (by decide) (Nat.le_refl 9000)
        refine ⟨_, rfl, pa, _, _, _, rfl, rfl, SqT.of hA4, rfl, _, rfl, pa, _, _, _, rfl, rfl, SqT.of hA4, rfl, _, _, rfl, rfl, hw, ?_⟩
        walk_at "go"
        intro n H10 n0 n2 B11 K10
        walk_at "go"
        refine ⟨_, rfl, ?_, hA4.kp B10 K10, hB4.kp B10 K10, B11⟩
        have h1 : (qa.num / (qa.den : Int)).natAbs < 2 ^ 200 := floor_lt sA
        have pw : (2 : Nat) ^ 202 = 4 * 2 ^ 200 := by rw [Nat.pow_add 2 2 200]
        rw [pw]
        have h0 : 0 < (2 : Nat) ^ 200 := Nat.pow_pos (by decide)
        omega
      · exact ⟨w0, rfl, lt_pow (lt200 zw0) (by decide), hA4, hB4, B10⟩
    rintro σ2 H10 ⟨wh, rfl, lw, hA5, hB5, B11⟩
    refine ⟨⟨fun σ' H' => Wd (∃ (pa : Addr) (qa : Rat), σ' = [some (.ref a), some (.ref g), some (.int z), some (.ref pa), some (.ref pb), some (.int wh), none, none, none, none] ∧ PairAt H' pa qa ∧ PairAt H' pb qb ∧ Sz 210 qa), ?_, ?_⟩⟩
    · walk_at "go"
      refine if_int (fun e => ?_) (fun e => ?_)
      · walk_at "go"
        intro p hp
        have hq := half_pair wh
        refine ⟨p, Rat.divInt (2 * wh + 1) 2, rfl, ?_, Same.new hp _ _ hB5, ?_⟩
        · unfold PairAt
          rw [hq.1, hq.2]
          exact upd_same
        · refine Sz.div ?_ (lt_pow (a := 2) (by decide) (by decide)) (by decide)
          have pw : (2 : Nat) ^ 210 = 256 * 2 ^ 202 := by rw [Nat.pow_add 2 8 202]
          rw [pw]
          have h0 : 0 < (2 : Nat) ^ 202 := Nat.pow_pos (by decide)
          omega
      · exact ⟨pa, qa, rfl, hA5, hB5, sA.mono (by decide)⟩
    rintro σ3 H11 ⟨pa, qa, rfl, hA6, hB6, sA⟩
    refine ⟨_, rfl, pa, _, _, _, rfl, rfl, SqT.of hA6, rfl, _, rfl, pa, _, _, _, rfl, rfl, SqT.of hA6, rfl, fun x dx hx hd _ => ?_⟩
    have dnz : ∀ q : Rat, (q.den : Int) ≠ 0 := fun q => by
      have := q.den_nz
      omega
    have sB : Sz 210 qb := sB.mono (by decide)
    refine mk_ratio hx hd (lt_pow (a := 210) sA.2 (by decide)) (fun e => absurd e (dnz qa)) (fun _ H12 s12 i1 => ⟨rfl, ?_⟩)
    rw [Rat.num_divInt_den] at i1
    have hA7 : PairAt H12 pa qa := s12 _ _ hA6
    have hB7 : PairAt H12 pb qb := s12 _ _ hB6
    refine ⟨_, rfl, pb, _, _, _, rfl, rfl, SqT.of hB7, rfl, _, rfl, pb, _, _, _, rfl, rfl, SqT.of hB7, rfl, fun y dy hy hdy _ => ?_⟩
    refine mk_ratio hy hdy (lt_pow (a := 210) sB.2 (by decide)) (fun e => absurd e (dnz qb)) (fun _ H13 s13 i2 => ⟨rfl, ?_⟩)
    rw [Rat.num_divInt_den] at i2
    have hA8 : PairAt H13 pa qa := s13 _ _ hA7
    have hB8 : PairAt H13 pb qb := s13 _ _ hB7
    have i3 := i1.same s13
    have m1 : CMulW qa.num (qb.den : Int) := mulw sA.1 sB.2 (by decide)
    have m2 : CMulW qb.num (qa.den : Int) := mulw sB.1 sA.2 (by decide)
    have m3 : CMulW wh (qa.den : Int) := mulw lw sA.2 (by decide)
    have hlt : decide (qa.num * (qb.den : Int) < qb.num * (qa.den : Int)) = decide (qa < qb) := by
      rw [decide_eq_decide]
      exact (Rat.lt_iff qa qb).symm
    refine ⟨_, rfl, pa, _, _, _, rfl, rfl, SqT.of hA8, rfl, _, rfl, pb, _, _, _, rfl, rfl, SqT.of hB8, rfl, _, _, rfl, rfl, m1, _, rfl, pb, _, _, _, rfl, rfl, SqT.of hB8, rfl, _, rfl, pa, _, _, _, rfl, rfl, SqT.of hA8, rfl, _, _, rfl, rfl, m2, _, _, rfl, rfl, ?_⟩
    have swl : Sz 210 (wh : Rat) := .int (lt_pow lw (by decide)) (by decide)
    have s4A : Sz 400 qa := sA.mono (by decide)
    have s4B : Sz 400 qb := sB.mono (by decide)
    have s4W : Sz 400 (wh : Rat) := swl.mono (by decide)
    have hwl : decide (qa.num < wh * (qa.den : Int)) = decide (qa < (wh : Rat)) := by
      rw [decide_eq_decide, Rat.lt_iff]
      show _ ↔ qa.num * 1 < wh * (qa.den : Int)
      rw [Int.mul_one]
    have hwg : decide (wh * (qa.den : Int) < qa.num) = decide ((wh : Rat) < qa) := by
      rw [decide_eq_decide, Rat.lt_iff]
      show _ ↔ wh * (qa.den : Int) < qa.num * 1
      rw [Int.mul_one]
    have ecomm : ∀ q r : Rat, decide (q = r) = decide (r = q) := fun q r => by
      rw [decide_eq_decide]
      exact eq_comm
    have ew : Rat.divInt wh 1 = (wh : Rat) := Rat.num_divInt_den (wh : Rat)
    refine ⟨⟨2, rfl, by decide, by decide, for_range (lo := 0) (n := 2) (fun i σ' H' => Wd (∃ v : Option V, σ' = [some (.ref a), some (.ref g), some (.int z), some (.ref pa), some (.ref pb), some (.int wh), some (.ref x), some (.ref y), some (.bl (decide (qa < qb))), v] ∧ Same H13 H'))
      ⟨none, by rw [← hlt]; rfl, Same.refl _⟩ ?_ ?_⟩⟩
    · rintro i σ' H' _ ⟨v, rfl, s14⟩
      have pA : PairAt H' pa qa := s14 _ _ hA8
      have pB : PairAt H' pb qb := s14 _ _ hB8
      have r1 := i3.same s14
      have r2 := i2.same s14
      -- not ordered(one, other, less, a == b) or not ordered(other, one, not less and a != b, a == b)
      refine ⟨⟨fun σ' H2 => Wd (σ' = [some (.ref a), some (.ref g), some (.int z), some (.ref pa), some (.ref pb), some (.int wh), some (.ref x), some (.ref y), some (.bl (decide (qa < qb))), some (.int (0 + (i : Int)))] ∧ Same H' H2), ?_, ?_⟩⟩
      rotate_left
      · rintro σ2 H2' ⟨rfl, u2⟩
        -- the sames
        obtain ⟨x', dx1, ex, hx1⟩ := id (r1.same u2)
        cases ex
        obtain ⟨y', dy1, ey, hy1⟩ := id (r2.same u2)
        cases ey
        refine ⟨_, rfl, x, dx1, _, rfl, hx1, rf_no _ _ (by decide +kernel) (by decide +kernel), _, rfl, _, _, qa, qb, 400, 400, rfl, r1.same u2, .inl (r2.same u2), s4A, s4B, by decide, fun H3' t3 => ?_⟩
        refine ⟨_, rfl, _, rfl, eqD_pair ((u2.trans t3) _ _ pA) ((u2.trans t3) _ _ pB) ⟨rfl, _, rfl, ifNT rfl ?_⟩⟩
        have u3 := u2.trans t3
        refine ⟨_, rfl, y, dy1, _, rfl, t3 _ _ hy1, rf_no _ _ (by decide +kernel) (by decide +kernel), _, rfl, _, _, qb, qa, 400, 400, rfl, r2.same u3, .inl (r1.same u3), s4B, s4A, by decide, fun H4' t4 => ?_⟩
        refine ⟨_, rfl, _, rfl, eqD_pair ((u3.trans t4) _ _ pA) ((u3.trans t4) _ _ pB) ⟨rfl, _, rfl, ifNT (congrArg V.bl (ecomm qb qa)) ?_⟩⟩
        have u4 := u3.trans t4
        refine ⟨_, rfl, x, dx1, _, rfl, (t3.trans t4) _ _ hx1, rf_no _ _ (by decide +kernel) (by decide +kernel), _, rfl, _, _, qa, (wh : Rat), 400, 400, rfl, r1.same u4, .inr ⟨wh, rfl, rfl⟩, s4A, s4W, by decide, fun H5' t5 => ?_⟩
        have u5 := u4.trans t5
        refine ⟨_, rfl, _, rfl, by walk_at "fact", fun q5 hq5 => eqD_pair (r := (wh : Rat)) (Same.new hq5 _ _ (u5 _ _ pA)) upd_same ⟨rfl, _, rfl, ifNT rfl ?_⟩⟩
        have u6 := u5.trans (Same.new (o := .tup [.int wh, .int 1]) hq5)
        -- beside the whole number
        refine ⟨_, rfl, _, rfl, _, rfl, pa, _, _, _, rfl, rfl, SqT.of (u6 _ _ pA), rfl, _, rfl, _, rfl, pa, _, _, _, rfl, rfl, SqT.of (u6 _ _ pA), rfl, _, _, rfl, rfl, m3, _, _, rfl, rfl, ?_⟩
        refine ⟨_, rfl, _, rfl, by walk_at "fact", fun q6 hq6 => eqD_pair (r := (wh : Rat)) (Same.new hq6 _ _ (u6 _ _ pA)) upd_same ?_⟩
        have u7 := u6.trans (Same.new (o := .tup [.int wh, .int 1]) hq6)
        refine ⟨_, _, _, _, qa, (wh : Rat), rfl, hwl, rfl, r1.same u7, .inr ⟨wh, rfl, rfl⟩, s4A, s4W, fun H7' t7 => ⟨_, rfl, iteF ?_⟩⟩
        have u8 := u7.trans t7
        refine ⟨_, rfl, fun x9 dx9 hx9 hd9 _ => mk_ratio hx9 hd9 (lt_pow (a := 1) (by decide) (by decide)) (fun e => by cases e) (fun _ H8' t8 i8 => ⟨rfl, ?_⟩)⟩
        rw [ew] at i8
        have u9 := u8.trans t8
        refine ⟨_, rfl, _, rfl, _, rfl, pa, _, _, _, rfl, rfl, SqT.of (u9 _ _ pA), rfl, _, _, rfl, rfl, m3, _, rfl, pa, _, _, _, rfl, rfl, SqT.of (u9 _ _ pA), rfl, _, _, rfl, rfl, ?_⟩
        refine ⟨_, rfl, _, rfl, by walk_at "fact", fun q9 hq9 => eqD_pair (r := (wh : Rat)) (Same.new hq9 _ _ (u9 _ _ pA)) upd_same ?_⟩
        have u10 := u9.trans (Same.new (o := .tup [.int wh, .int 1]) hq9)
        refine ⟨_, _, _, _, (wh : Rat), qa, rfl, hwg, ecomm _ _, i8.same (Same.new hq9), .inl (r1.same u10), s4W, s4A, fun H10' t10 => ⟨_, rfl, iteF ?_⟩⟩
        have u11 := u10.trans t10
        -- rounded
        refine ⟨_, rfl, _, rfl, pa, _, _, _, rfl, rfl, SqT.of (u11 _ _ pA), rfl, _, rfl, pa, _, _, _, rfl, rfl, SqT.of (u11 _ _ pA), rfl, ?_⟩
        refine ⟨_, qa, rfl, r1.same u11, s4A, fun H11' t11 => ⟨_, rfl, iteF ?_⟩⟩
        have u12 := u11.trans t11
        refine ⟨_, rfl, _, rfl, pb, _, _, _, rfl, rfl, SqT.of (u12 _ _ pB), rfl, _, rfl, pb, _, _, _, rfl, rfl, SqT.of (u12 _ _ pB), rfl, ?_⟩
        refine ⟨_, qb, rfl, r2.same u12, s4B, fun H12' t12 => ⟨_, rfl, iteF ?_⟩⟩
        exact ⟨_, rfl, s14.trans (u12.trans t12)⟩
      refine ⟨_, rfl, _, rfl, _, rfl, _, rfl, _, rfl, eqD_pair pA pB ?_⟩
      refine ⟨_, _, _, _, qa, qb, rfl, rfl, rfl, r1, .inl r2, s4A, s4B, fun H1' t1 => ⟨_, rfl, iteF ?_⟩⟩
      have pA1 : PairAt H1' pa qa := t1 _ _ pA
      have pB1 : PairAt H1' pb qb := t1 _ _ pB
      have hb1 : (!decide (qa < qb) && !decide (qa = qb)) = decide (qb < qa) := by
        by_cases h1 : qa < qb
        · rw [decide_eq_true h1, decide_eq_false (Rat.not_lt.mpr (Rat.le_of_lt h1))]
          rfl
        · rw [decide_eq_false h1]
          by_cases h2 : qa = qb
          · rw [decide_eq_true h2, h2, decide_eq_false Rat.lt_irrefl]
            rfl
          · rw [decide_eq_false h2, decide_eq_true (Rat.lt_of_le_of_ne (Rat.not_lt.mp h1) (fun z => h2 z.symm))]
            rfl
      refine ⟨_, rfl, _, rfl, _, rfl, _, rfl, !decide (qa < qb), rfl, if_bl (fun e => ?_) (fun e => ?_)⟩
      · refine ⟨_, rfl, _, rfl, neD_pair pA1 pB1 ?_⟩
        refine ⟨_, rfl, _, rfl, eqD_pair pA1 pB1 ?_⟩
        rw [e, Bool.true_and] at hb1
        exact ⟨_, _, _, _, qb, qa, rfl, hb1, ecomm qa qb, r2.same t1, .inl (r1.same t1), s4B, s4A, fun H2' t2 => ⟨_, rfl, iteF ⟨rfl, t1.trans t2⟩⟩⟩
      · refine ⟨_, rfl, _, rfl, eqD_pair pA1 pB1 ?_⟩
        rw [e, Bool.false_and] at hb1
        exact ⟨_, _, _, _, qb, qa, rfl, hb1, ecomm qa qb, r2.same t1, .inl (r1.same t1), s4B, s4A, fun H2' t2 => ⟨_, rfl, iteF ⟨rfl, t1.trans t2⟩⟩⟩
    · rintro σ' H' ⟨v, rfl, s14⟩
      exact k _
end

theorem all_mk {l : PySem.W.OpenLaw} {w : World} {K : PySem.W.Frag} {h : Heap} {mg : Str → Option Value} {fa a_CostError a_NoRatio a_Ratio a_f_common_divisor a_f_halves a_m_Ratio_init a_m_Ratio_less a_m_Ratio_at_most a_m_Ratio_same a_m_Ratio_floor a_m_Ratio_nearest a_l_bag a_l_draw a_l_number a_l_integer a_l_divisor a_l_lowest a_l_ordered a_l_rounded_right a_f_law : Addr} (X : K.In h) (G : h.Ns mainGlobals mg) (hfa : mg "law" = some (.ref fa))
    {od_f_common_divisor : Option Addr} {an_f_common_divisor : Option Addr} {sl_f_common_divisor : Array (Option Value)} {oc_f_common_divisor : Value} {kV_f_common_divisor : Value} {dc_f_common_divisor : Value} {pm_f_common_divisor : Value} {cd_f_common_divisor : Value} {ct_f_common_divisor : Value} {od_f_halves : Option Addr} {an_f_halves : Option Addr} {sl_f_halves : Array (Option Value)} {oc_f_halves : Value} {kV_f_halves : Value} {dc_f_halves : Value} {pm_f_halves : Value} {cd_f_halves : Value} {ct_f_halves : Value} {od_m_Ratio_init : Option Addr} {an_m_Ratio_init : Option Addr} {sl_m_Ratio_init : Array (Option Value)} {oc_m_Ratio_init : Value} {kV_m_Ratio_init : Value} {dc_m_Ratio_init : Value} {pm_m_Ratio_init : Value} {cd_m_Ratio_init : Value} {ct_m_Ratio_init : Value} {tp_m_Ratio_init : Addr} {tn_m_Ratio_init : Nat} {tc_m_Ratio_init : Value} {td_m_Ratio_init : Option Addr} {ts_m_Ratio_init : Array (Option Value)} {tk0_m_Ratio_init : Tok} {od_m_Ratio_less : Option Addr} {an_m_Ratio_less : Option Addr} {sl_m_Ratio_less : Array (Option Value)} {oc_m_Ratio_less : Value} {kV_m_Ratio_less : Value} {dc_m_Ratio_less : Value} {pm_m_Ratio_less : Value} {cd_m_Ratio_less : Value} {ct_m_Ratio_less : Value} {od_m_Ratio_at_most : Option Addr} {an_m_Ratio_at_most : Option Addr} {sl_m_Ratio_at_most : Array (Option Value)} {oc_m_Ratio_at_most : Value} {kV_m_Ratio_at_most : Value} {dc_m_Ratio_at_most : Value} {pm_m_Ratio_at_most : Value} {cd_m_Ratio_at_most : Value} {ct_m_Ratio_at_most : Value} {od_m_Ratio_same : Option Addr} {an_m_Ratio_same : Option Addr} {sl_m_Ratio_same : Array (Option Value)} {oc_m_Ratio_same : Value} {kV_m_Ratio_same : Value} {dc_m_Ratio_same : Value} {pm_m_Ratio_same : Value} {cd_m_Ratio_same : Value} {ct_m_Ratio_same : Value} {od_m_Ratio_floor : Option Addr} {an_m_Ratio_floor : Option Addr} {sl_m_Ratio_floor : Array (Option Value)} {oc_m_Ratio_floor : Value} {kV_m_Ratio_floor : Value} {dc_m_Ratio_floor : Value} {pm_m_Ratio_floor : Value} {cd_m_Ratio_floor : Value} {ct_m_Ratio_floor : Value} {od_m_Ratio_nearest : Option Addr} {an_m_Ratio_nearest : Option Addr} {sl_m_Ratio_nearest : Array (Option Value)} {oc_m_Ratio_nearest : Value} {kV_m_Ratio_nearest : Value} {dc_m_Ratio_nearest : Value} {pm_m_Ratio_nearest : Value} {cd_m_Ratio_nearest : Value} {ct_m_Ratio_nearest : Value} {od_l_bag : Option Addr} {an_l_bag : Option Addr} {sl_l_bag : Array (Option Value)} {oc_l_bag : Value} {kV_l_bag : Value} {dc_l_bag : Value} {pm_l_bag : Value} {cd_l_bag : Value} {ct_l_bag : Value} {od_l_draw : Option Addr} {an_l_draw : Option Addr} {sl_l_draw : Array (Option Value)} {oc_l_draw : Value} {kV_l_draw : Value} {dc_l_draw : Value} {pm_l_draw : Value} {cd_l_draw : Value} {ct_l_draw : Value} {od_l_number : Option Addr} {an_l_number : Option Addr} {sl_l_number : Array (Option Value)} {oc_l_number : Value} {kV_l_number : Value} {dc_l_number : Value} {pm_l_number : Value} {cd_l_number : Value} {ct_l_number : Value} {od_l_integer : Option Addr} {an_l_integer : Option Addr} {sl_l_integer : Array (Option Value)} {oc_l_integer : Value} {kV_l_integer : Value} {dc_l_integer : Value} {pm_l_integer : Value} {cd_l_integer : Value} {ct_l_integer : Value} {od_l_divisor : Option Addr} {an_l_divisor : Option Addr} {sl_l_divisor : Array (Option Value)} {oc_l_divisor : Value} {kV_l_divisor : Value} {dc_l_divisor : Value} {pm_l_divisor : Value} {cd_l_divisor : Value} {ct_l_divisor : Value} {od_l_lowest : Option Addr} {an_l_lowest : Option Addr} {sl_l_lowest : Array (Option Value)} {oc_l_lowest : Value} {kV_l_lowest : Value} {dc_l_lowest : Value} {pm_l_lowest : Value} {cd_l_lowest : Value} {ct_l_lowest : Value} {od_l_ordered : Option Addr} {an_l_ordered : Option Addr} {sl_l_ordered : Array (Option Value)} {oc_l_ordered : Value} {kV_l_ordered : Value} {dc_l_ordered : Value} {pm_l_ordered : Value} {cd_l_ordered : Value} {ct_l_ordered : Value} {od_l_rounded_right : Option Addr} {an_l_rounded_right : Option Addr} {sl_l_rounded_right : Array (Option Value)} {oc_l_rounded_right : Value} {kV_l_rounded_right : Value} {dc_l_rounded_right : Value} {pm_l_rounded_right : Value} {cd_l_rounded_right : Value} {ct_l_rounded_right : Value} {od_f_law : Option Addr} {an_f_law : Option Addr} {sl_f_law : Array (Option Value)} {oc_f_law : Value} {kV_f_law : Value} {dc_f_law : Value} {pm_f_law : Value} {cd_f_law : Value} {ct_f_law : Value}
    (pz_abs : PySem.W.nsIn K mainGlobals "abs" = some none)
    (pz_all : PySem.W.nsIn K mainGlobals "all" = some none)
    (pz_bool : PySem.W.nsIn K mainGlobals "bool" = some none)
    (pz_int : PySem.W.nsIn K mainGlobals "int" = some none)
    (pz_isinstance : PySem.W.nsIn K mainGlobals "isinstance" = some none)
    (pz_len : PySem.W.nsIn K mainGlobals "len" = some none)
    (pz_list : PySem.W.nsIn K mainGlobals "list" = some none)
    (pz_range : PySem.W.nsIn K mainGlobals "range" = some none)
    (pg_CostError : PySem.W.nsIn K mainGlobals "CostError" = some (some (.ref a_CostError)))
    (pek_CostError : PySem.W.keepIn K (.ref a_CostError) = true)
    (peb_CostError : PySem.W.subIn K (.ref a_CostError) (.type "BaseException") = some true)
    (pet_CostError : PySem.W.typeIn K (.ref a_CostError) = some (.type "type"))
    (peh_CostError : PySem.W.hasDictIn K a_CostError = true)
    (peic_CostError : PySem.W.isClsIn K a_CostError = true)
    (pes_CostError : PySem.W.subIn K (.ref a_CostError) (.ref a_CostError) = some true)
    (pg_NoRatio : PySem.W.nsIn K mainGlobals "NoRatio" = some (some (.ref a_NoRatio)))
    (pek_NoRatio : PySem.W.keepIn K (.ref a_NoRatio) = true)
    (peb_NoRatio : PySem.W.subIn K (.ref a_NoRatio) (.type "BaseException") = some true)
    (pet_NoRatio : PySem.W.typeIn K (.ref a_NoRatio) = some (.type "type"))
    (peh_NoRatio : PySem.W.hasDictIn K a_NoRatio = true)
    (peic_NoRatio : PySem.W.isClsIn K a_NoRatio = true)
    (pes_NoRatio : PySem.W.subIn K (.ref a_NoRatio) (.ref a_NoRatio) = some true)
    (pex_NoRatio : PySem.W.excIn K a_NoRatio [.type "ValueError", .type "Exception", .type "BaseException", .type "object"] "ValueError.__new__" = true)
    (pxg_NoRatio : PySem.W.findIn K (.ref a_NoRatio) "__getattribute__" = some (some (.builtin "BaseException.__getattribute__")))
    (pxk_NoRatio : PySem.W.findIn K (.ref a_NoRatio) "__getattr__" = some none)
    (pxa_NoRatio : PySem.W.findIn K (.ref a_NoRatio) "__class__" = some (some (.builtin "object.__class__")))
    (pxn_NoRatio : PySem.W.specialIn K (.builtin "object.__class__") "__get__" = some (some (.builtin "getset_descriptor.__get__")))
    (pxt_NoRatio : PySem.W.takesIn K (.builtin "object.__class__") = some true)
    (pxm_NoRatio : PySem.W.mroIn K a_NoRatio (.type "object") = some true)
    (pg_Ratio : PySem.W.nsIn K mainGlobals "Ratio" = some (some (.ref a_Ratio)))
    (ppg_Ratio : PySem.W.plainGet K a_Ratio Str.empty = true)
    (phd_Ratio : PySem.W.hasDictIn K a_Ratio = true)
    (ppo_Ratio : PySem.W.plainOver K a_Ratio = true)
    (psa_Ratio : PySem.W.findIn K (.ref a_Ratio) "__setattr__" = some (some (.builtin "object.__setattr__")))
    (pn_Ratio_top : NoAttr K a_Ratio "top")
    (pn_Ratio_bottom : NoAttr K a_Ratio "bottom")
    (pma_Ratio : PySem.W.makesIn K a_Ratio = true)
    (pmi_Ratio : PySem.W.findIn K (.ref a_Ratio) "__init__" = some (some (.ref a_m_Ratio_init)))
    (pmf_Ratio : PySem.W.isFn K (.ref a_m_Ratio_init) = true)
    (pmc_Ratio : PySem.W.keepIn K (.ref a_Ratio) = true)
    (pmt_m_Ratio_less : PySem.W.findIn K (.ref a_Ratio) "less" = some (some (.ref a_m_Ratio_less)))
    (pmn_m_Ratio_less : PySem.W.isFn K (.ref a_m_Ratio_less) = true)
    (pmk_m_Ratio_less : PySem.W.keepIn K (.ref a_m_Ratio_less) = true)
    (pmt_m_Ratio_at_most : PySem.W.findIn K (.ref a_Ratio) "at_most" = some (some (.ref a_m_Ratio_at_most)))
    (pmn_m_Ratio_at_most : PySem.W.isFn K (.ref a_m_Ratio_at_most) = true)
    (pmk_m_Ratio_at_most : PySem.W.keepIn K (.ref a_m_Ratio_at_most) = true)
    (pmt_m_Ratio_same : PySem.W.findIn K (.ref a_Ratio) "same" = some (some (.ref a_m_Ratio_same)))
    (pmn_m_Ratio_same : PySem.W.isFn K (.ref a_m_Ratio_same) = true)
    (pmk_m_Ratio_same : PySem.W.keepIn K (.ref a_m_Ratio_same) = true)
    (pmt_m_Ratio_floor : PySem.W.findIn K (.ref a_Ratio) "floor" = some (some (.ref a_m_Ratio_floor)))
    (pmn_m_Ratio_floor : PySem.W.isFn K (.ref a_m_Ratio_floor) = true)
    (pmk_m_Ratio_floor : PySem.W.keepIn K (.ref a_m_Ratio_floor) = true)
    (pmt_m_Ratio_nearest : PySem.W.findIn K (.ref a_Ratio) "nearest" = some (some (.ref a_m_Ratio_nearest)))
    (pmn_m_Ratio_nearest : PySem.W.isFn K (.ref a_m_Ratio_nearest) = true)
    (pmk_m_Ratio_nearest : PySem.W.keepIn K (.ref a_m_Ratio_nearest) = true)
    (ptc_Ratio : PySem.W.findIn K (.ref a_Ratio) "__class__" = some (some (.builtin "object.__class__")))
    (ptn_Ratio : PySem.W.specialIn K (.builtin "object.__class__") "__get__" = some (some (.builtin "getset_descriptor.__get__")))
    (ptk_Ratio : PySem.W.takesIn K (.builtin "object.__class__") = some true)
    (ptm_Ratio : PySem.W.mroIn K a_Ratio (.type "object") = some true)
    (pki_Ratio : PySem.W.kitOne K (.ref a_Ratio) (.type "int") = some false)
    (pa_f_common_divisor : PySem.W.nsIn K mainGlobals "common_divisor" = some (some (.ref a_f_common_divisor)))
    (pl_f_common_divisor : K.lookup a_f_common_divisor = some ⟨oc_f_common_divisor, od_f_common_divisor, .func (PySem.W.fnOf "common_divisor" "common_divisor" (defArgs s_f_common_divisor) (defBody s_f_common_divisor) (defScope s_f_common_divisor) .none kV_f_common_divisor dc_f_common_divisor pm_f_common_divisor an_f_common_divisor cd_f_common_divisor ct_f_common_divisor), sl_f_common_divisor⟩)
    (pc_f_common_divisor : PySem.W.codeIn K cd_f_common_divisor "common_divisor" = true)
    (pq_f_common_divisor : PySem.W.keepIn K (.ref a_f_common_divisor) = true)
    (pa_f_halves : PySem.W.nsIn K mainGlobals "halves" = some (some (.ref a_f_halves)))
    (pl_f_halves : K.lookup a_f_halves = some ⟨oc_f_halves, od_f_halves, .func (PySem.W.fnOf "halves" "halves" (defArgs s_f_halves) (defBody s_f_halves) (defScope s_f_halves) .none kV_f_halves dc_f_halves pm_f_halves an_f_halves cd_f_halves ct_f_halves), sl_f_halves⟩)
    (pc_f_halves : PySem.W.codeIn K cd_f_halves "halves" = true)
    (pq_f_halves : PySem.W.keepIn K (.ref a_f_halves) = true)
    (pl_m_Ratio_init : K.lookup a_m_Ratio_init = some ⟨oc_m_Ratio_init, od_m_Ratio_init, .func (PySem.W.fnOf "__init__" "Ratio.__init__" (defArgs s_m_Ratio_init) (defBody s_m_Ratio_init) (defScope s_m_Ratio_init) (.ref tp_m_Ratio_init) kV_m_Ratio_init dc_m_Ratio_init pm_m_Ratio_init an_m_Ratio_init cd_m_Ratio_init ct_m_Ratio_init), sl_m_Ratio_init⟩)
    (pt_m_Ratio_init : K.lookup tp_m_Ratio_init = some ⟨tc_m_Ratio_init, td_m_Ratio_init, .seq #[.int 1 tk0_m_Ratio_init] tn_m_Ratio_init, ts_m_Ratio_init⟩)
    (pc_m_Ratio_init : PySem.W.codeIn K cd_m_Ratio_init "Ratio.__init__" = true)
    (pq_m_Ratio_init : PySem.W.keepIn K (.ref a_m_Ratio_init) = true)
    (pl_m_Ratio_less : K.lookup a_m_Ratio_less = some ⟨oc_m_Ratio_less, od_m_Ratio_less, .func (PySem.W.fnOf "less" "Ratio.less" (defArgs s_m_Ratio_less) (defBody s_m_Ratio_less) (defScope s_m_Ratio_less) .none kV_m_Ratio_less dc_m_Ratio_less pm_m_Ratio_less an_m_Ratio_less cd_m_Ratio_less ct_m_Ratio_less), sl_m_Ratio_less⟩)
    (pc_m_Ratio_less : PySem.W.codeIn K cd_m_Ratio_less "Ratio.less" = true)
    (pq_m_Ratio_less : PySem.W.keepIn K (.ref a_m_Ratio_less) = true)
    (pl_m_Ratio_at_most : K.lookup a_m_Ratio_at_most = some ⟨oc_m_Ratio_at_most, od_m_Ratio_at_most, .func (PySem.W.fnOf "at_most" "Ratio.at_most" (defArgs s_m_Ratio_at_most) (defBody s_m_Ratio_at_most) (defScope s_m_Ratio_at_most) .none kV_m_Ratio_at_most dc_m_Ratio_at_most pm_m_Ratio_at_most an_m_Ratio_at_most cd_m_Ratio_at_most ct_m_Ratio_at_most), sl_m_Ratio_at_most⟩)
    (pc_m_Ratio_at_most : PySem.W.codeIn K cd_m_Ratio_at_most "Ratio.at_most" = true)
    (pq_m_Ratio_at_most : PySem.W.keepIn K (.ref a_m_Ratio_at_most) = true)
    (pl_m_Ratio_same : K.lookup a_m_Ratio_same = some ⟨oc_m_Ratio_same, od_m_Ratio_same, .func (PySem.W.fnOf "same" "Ratio.same" (defArgs s_m_Ratio_same) (defBody s_m_Ratio_same) (defScope s_m_Ratio_same) .none kV_m_Ratio_same dc_m_Ratio_same pm_m_Ratio_same an_m_Ratio_same cd_m_Ratio_same ct_m_Ratio_same), sl_m_Ratio_same⟩)
    (pc_m_Ratio_same : PySem.W.codeIn K cd_m_Ratio_same "Ratio.same" = true)
    (pq_m_Ratio_same : PySem.W.keepIn K (.ref a_m_Ratio_same) = true)
    (pl_m_Ratio_floor : K.lookup a_m_Ratio_floor = some ⟨oc_m_Ratio_floor, od_m_Ratio_floor, .func (PySem.W.fnOf "floor" "Ratio.floor" (defArgs s_m_Ratio_floor) (defBody s_m_Ratio_floor) (defScope s_m_Ratio_floor) .none kV_m_Ratio_floor dc_m_Ratio_floor pm_m_Ratio_floor an_m_Ratio_floor cd_m_Ratio_floor ct_m_Ratio_floor), sl_m_Ratio_floor⟩)
    (pc_m_Ratio_floor : PySem.W.codeIn K cd_m_Ratio_floor "Ratio.floor" = true)
    (pq_m_Ratio_floor : PySem.W.keepIn K (.ref a_m_Ratio_floor) = true)
    (pl_m_Ratio_nearest : K.lookup a_m_Ratio_nearest = some ⟨oc_m_Ratio_nearest, od_m_Ratio_nearest, .func (PySem.W.fnOf "nearest" "Ratio.nearest" (defArgs s_m_Ratio_nearest) (defBody s_m_Ratio_nearest) (defScope s_m_Ratio_nearest) .none kV_m_Ratio_nearest dc_m_Ratio_nearest pm_m_Ratio_nearest an_m_Ratio_nearest cd_m_Ratio_nearest ct_m_Ratio_nearest), sl_m_Ratio_nearest⟩)
    (pc_m_Ratio_nearest : PySem.W.codeIn K cd_m_Ratio_nearest "Ratio.nearest" = true)
    (pq_m_Ratio_nearest : PySem.W.keepIn K (.ref a_m_Ratio_nearest) = true)
    (pa_l_bag : PySem.W.nsIn K mainGlobals "_law_bag" = some (some (.ref a_l_bag)))
    (pl_l_bag : K.lookup a_l_bag = some ⟨oc_l_bag, od_l_bag, .func (PySem.W.fnOf "_law_bag" "_law_bag" (defArgs s_l_bag) (defBody s_l_bag) (defScope s_l_bag) .none kV_l_bag dc_l_bag pm_l_bag an_l_bag cd_l_bag ct_l_bag), sl_l_bag⟩)
    (pc_l_bag : PySem.W.codeIn K cd_l_bag "_law_bag" = true)
    (pq_l_bag : PySem.W.keepIn K (.ref a_l_bag) = true)
    (pa_l_draw : PySem.W.nsIn K mainGlobals "_law_draw" = some (some (.ref a_l_draw)))
    (pl_l_draw : K.lookup a_l_draw = some ⟨oc_l_draw, od_l_draw, .func (PySem.W.fnOf "_law_draw" "_law_draw" (defArgs s_l_draw) (defBody s_l_draw) (defScope s_l_draw) .none kV_l_draw dc_l_draw pm_l_draw an_l_draw cd_l_draw ct_l_draw), sl_l_draw⟩)
    (pc_l_draw : PySem.W.codeIn K cd_l_draw "_law_draw" = true)
    (pq_l_draw : PySem.W.keepIn K (.ref a_l_draw) = true)
    (pa_l_number : PySem.W.nsIn K mainGlobals "_law_number" = some (some (.ref a_l_number)))
    (pl_l_number : K.lookup a_l_number = some ⟨oc_l_number, od_l_number, .func (PySem.W.fnOf "_law_number" "_law_number" (defArgs s_l_number) (defBody s_l_number) (defScope s_l_number) .none kV_l_number dc_l_number pm_l_number an_l_number cd_l_number ct_l_number), sl_l_number⟩)
    (pc_l_number : PySem.W.codeIn K cd_l_number "_law_number" = true)
    (pq_l_number : PySem.W.keepIn K (.ref a_l_number) = true)
    (pa_l_integer : PySem.W.nsIn K mainGlobals "_law_integer" = some (some (.ref a_l_integer)))
    (pl_l_integer : K.lookup a_l_integer = some ⟨oc_l_integer, od_l_integer, .func (PySem.W.fnOf "_law_integer" "_law_integer" (defArgs s_l_integer) (defBody s_l_integer) (defScope s_l_integer) .none kV_l_integer dc_l_integer pm_l_integer an_l_integer cd_l_integer ct_l_integer), sl_l_integer⟩)
    (pc_l_integer : PySem.W.codeIn K cd_l_integer "_law_integer" = true)
    (pq_l_integer : PySem.W.keepIn K (.ref a_l_integer) = true)
    (pa_l_divisor : PySem.W.nsIn K mainGlobals "_law_divisor" = some (some (.ref a_l_divisor)))
    (pl_l_divisor : K.lookup a_l_divisor = some ⟨oc_l_divisor, od_l_divisor, .func (PySem.W.fnOf "_law_divisor" "_law_divisor" (defArgs s_l_divisor) (defBody s_l_divisor) (defScope s_l_divisor) .none kV_l_divisor dc_l_divisor pm_l_divisor an_l_divisor cd_l_divisor ct_l_divisor), sl_l_divisor⟩)
    (pc_l_divisor : PySem.W.codeIn K cd_l_divisor "_law_divisor" = true)
    (pq_l_divisor : PySem.W.keepIn K (.ref a_l_divisor) = true)
    (pa_l_lowest : PySem.W.nsIn K mainGlobals "_law_lowest" = some (some (.ref a_l_lowest)))
    (pl_l_lowest : K.lookup a_l_lowest = some ⟨oc_l_lowest, od_l_lowest, .func (PySem.W.fnOf "_law_lowest" "_law_lowest" (defArgs s_l_lowest) (defBody s_l_lowest) (defScope s_l_lowest) .none kV_l_lowest dc_l_lowest pm_l_lowest an_l_lowest cd_l_lowest ct_l_lowest), sl_l_lowest⟩)
    (pc_l_lowest : PySem.W.codeIn K cd_l_lowest "_law_lowest" = true)
    (pq_l_lowest : PySem.W.keepIn K (.ref a_l_lowest) = true)
    (pa_l_ordered : PySem.W.nsIn K mainGlobals "_law_ordered" = some (some (.ref a_l_ordered)))
    (pl_l_ordered : K.lookup a_l_ordered = some ⟨oc_l_ordered, od_l_ordered, .func (PySem.W.fnOf "_law_ordered" "_law_ordered" (defArgs s_l_ordered) (defBody s_l_ordered) (defScope s_l_ordered) .none kV_l_ordered dc_l_ordered pm_l_ordered an_l_ordered cd_l_ordered ct_l_ordered), sl_l_ordered⟩)
    (pc_l_ordered : PySem.W.codeIn K cd_l_ordered "_law_ordered" = true)
    (pq_l_ordered : PySem.W.keepIn K (.ref a_l_ordered) = true)
    (pa_l_rounded_right : PySem.W.nsIn K mainGlobals "_law_rounded_right" = some (some (.ref a_l_rounded_right)))
    (pl_l_rounded_right : K.lookup a_l_rounded_right = some ⟨oc_l_rounded_right, od_l_rounded_right, .func (PySem.W.fnOf "_law_rounded_right" "_law_rounded_right" (defArgs s_l_rounded_right) (defBody s_l_rounded_right) (defScope s_l_rounded_right) .none kV_l_rounded_right dc_l_rounded_right pm_l_rounded_right an_l_rounded_right cd_l_rounded_right ct_l_rounded_right), sl_l_rounded_right⟩)
    (pc_l_rounded_right : PySem.W.codeIn K cd_l_rounded_right "_law_rounded_right" = true)
    (pq_l_rounded_right : PySem.W.keepIn K (.ref a_l_rounded_right) = true)
    (pa_f_law : PySem.W.nsIn K mainGlobals "law" = some (some (.ref a_f_law)))
    (pl_f_law : K.lookup a_f_law = some ⟨oc_f_law, od_f_law, .func (PySem.W.fnOf "law" "law" (defArgs s_f_law) (defBody s_f_law) (defScope s_f_law) .none kV_f_law dc_f_law pm_f_law an_f_law cd_f_law ct_f_law), sl_f_law⟩)
    (pc_f_law : PySem.W.codeIn K cd_f_law "law" = true)
    (pq_f_law : PySem.W.keepIn K (.ref a_f_law) = true) :
    ∃ fd : FuncData, (∀ (s : Shared) (v : Value), BindsTo s fd ⟨[v], []⟩ [("_law_script", v)]) ∧ ∀ base : Heap, K.In base → base.Ns mainGlobals mg → FnOk l.prog w K mg base CX0 6 fa fd P_f_law (spLaw K) := by
  have e := hfa.symm.trans (PySem.W.mg_of X G pa_f_law)
  cases e
  have F_f_common_divisor := fun_mk (st := s_f_common_divisor) pl_f_common_divisor pc_f_common_divisor pq_f_common_divisor
  have b_f_common_divisor := F_f_common_divisor.binds (ps := P_f_common_divisor) fun _ _ _ _ _ _ us hl => match us, hl with | [_, _], _ => rfl
  have F_f_halves := fun_mk (st := s_f_halves) pl_f_halves pc_f_halves pq_f_halves
  have b_f_halves := F_f_halves.binds (ps := P_f_halves) fun _ _ _ _ _ _ us hl => match us, hl with | [_], _ => rfl
  have F_m_Ratio_init : FunD K "__init__" "Ratio.__init__" (defArgs s_m_Ratio_init) (defBody s_m_Ratio_init) (defScope s_m_Ratio_init) [.int 1] [] a_m_Ratio_init (PySem.W.fnOf "__init__" "Ratio.__init__" (defArgs s_m_Ratio_init) (defBody s_m_Ratio_init) (defScope s_m_Ratio_init) (.ref tp_m_Ratio_init) kV_m_Ratio_init dc_m_Ratio_init pm_m_Ratio_init an_m_Ratio_init cd_m_Ratio_init ct_m_Ratio_init) := ⟨⟨_, _, _, _, _, _, _, _, _, _, rfl, pl_m_Ratio_init, pc_m_Ratio_init, (.inr ⟨by simp, _, _, _, _, rfl, pt_m_Ratio_init, rfl, (.cons ⟨_, rfl⟩ .nil)⟩), (.inl rfl)⟩, pq_m_Ratio_init⟩
  obtain ⟨e_m_Ratio_init, ve_m_Ratio_init, b_m_Ratio_init⟩ := F_m_Ratio_init.binds1 (ps := P_m_Ratio_init) 3 1 (by simp) rfl fun T kV doc pm an cdv ct us its hu hi => ⟨_, rfl, by
      match us, hu, its, hi with
      | [_, _, _], _, [_], _ => rfl⟩
  cases ve_m_Ratio_init
  obtain ⟨ds_m_Ratio_init, dv_m_Ratio_init, bd_m_Ratio_init⟩ := F_m_Ratio_init.binds1 (ps := P_m_Ratio_init) 2 0 (by simp) rfl fun T kV doc pm an cdv ct us its hu hi => ⟨_, rfl, by
      match us, hu, its, hi with
      | [_, _], _, [_], _ => rfl⟩
  have F_m_Ratio_less := fun_mk (st := s_m_Ratio_less) pl_m_Ratio_less pc_m_Ratio_less pq_m_Ratio_less
  have b_m_Ratio_less := F_m_Ratio_less.binds (ps := P_m_Ratio_less) fun _ _ _ _ _ _ us hl => match us, hl with | [_, _], _ => rfl
  have F_m_Ratio_at_most := fun_mk (st := s_m_Ratio_at_most) pl_m_Ratio_at_most pc_m_Ratio_at_most pq_m_Ratio_at_most
  have b_m_Ratio_at_most := F_m_Ratio_at_most.binds (ps := P_m_Ratio_at_most) fun _ _ _ _ _ _ us hl => match us, hl with | [_, _], _ => rfl
  have F_m_Ratio_same := fun_mk (st := s_m_Ratio_same) pl_m_Ratio_same pc_m_Ratio_same pq_m_Ratio_same
  have b_m_Ratio_same := F_m_Ratio_same.binds (ps := P_m_Ratio_same) fun _ _ _ _ _ _ us hl => match us, hl with | [_, _], _ => rfl
  have F_m_Ratio_floor := fun_mk (st := s_m_Ratio_floor) pl_m_Ratio_floor pc_m_Ratio_floor pq_m_Ratio_floor
  have b_m_Ratio_floor := F_m_Ratio_floor.binds (ps := P_m_Ratio_floor) fun _ _ _ _ _ _ us hl => match us, hl with | [_], _ => rfl
  have F_m_Ratio_nearest := fun_mk (st := s_m_Ratio_nearest) pl_m_Ratio_nearest pc_m_Ratio_nearest pq_m_Ratio_nearest
  have b_m_Ratio_nearest := F_m_Ratio_nearest.binds (ps := P_m_Ratio_nearest) fun _ _ _ _ _ _ us hl => match us, hl with | [_], _ => rfl
  have F_l_bag := fun_mk (st := s_l_bag) pl_l_bag pc_l_bag pq_l_bag
  have b_l_bag := F_l_bag.binds (ps := P_l_bag) fun _ _ _ _ _ _ us hl => match us, hl with | [_], _ => rfl
  have F_l_draw := fun_mk (st := s_l_draw) pl_l_draw pc_l_draw pq_l_draw
  have b_l_draw := F_l_draw.binds (ps := P_l_draw) fun _ _ _ _ _ _ us hl => match us, hl with | [_, _], _ => rfl
  have F_l_number := fun_mk (st := s_l_number) pl_l_number pc_l_number pq_l_number
  have b_l_number := F_l_number.binds (ps := P_l_number) fun _ _ _ _ _ _ us hl => match us, hl with | [_], _ => rfl
  have F_l_integer := fun_mk (st := s_l_integer) pl_l_integer pc_l_integer pq_l_integer
  have b_l_integer := F_l_integer.binds (ps := P_l_integer) fun _ _ _ _ _ _ us hl => match us, hl with | [_], _ => rfl
  have F_l_divisor := fun_mk (st := s_l_divisor) pl_l_divisor pc_l_divisor pq_l_divisor
  have b_l_divisor := F_l_divisor.binds (ps := P_l_divisor) fun _ _ _ _ _ _ us hl => match us, hl with | [_, _], _ => rfl
  have F_l_lowest := fun_mk (st := s_l_lowest) pl_l_lowest pc_l_lowest pq_l_lowest
  have b_l_lowest := F_l_lowest.binds (ps := P_l_lowest) fun _ _ _ _ _ _ us hl => match us, hl with | [_, _], _ => rfl
  have F_l_ordered := fun_mk (st := s_l_ordered) pl_l_ordered pc_l_ordered pq_l_ordered
  have b_l_ordered := F_l_ordered.binds (ps := P_l_ordered) fun _ _ _ _ _ _ us hl => match us, hl with | [_, _, _, _], _ => rfl
  have F_l_rounded_right := fun_mk (st := s_l_rounded_right) pl_l_rounded_right pc_l_rounded_right pq_l_rounded_right
  have b_l_rounded_right := F_l_rounded_right.binds (ps := P_l_rounded_right) fun _ _ _ _ _ _ us hl => match us, hl with | [_, _, _], _ => rfl
  have F_f_law := fun_mk (st := s_f_law) pl_f_law pc_f_law pq_f_law
  have b_f_law := F_f_law.binds (ps := P_f_law) fun _ _ _ _ _ _ us hl => match us, hl with | [_], _ => rfl
  have T : Txt K mg ⟨a_CostError, a_NoRatio, a_Ratio, a_f_common_divisor, (PySem.W.fnOf "common_divisor" "common_divisor" (defArgs s_f_common_divisor) (defBody s_f_common_divisor) (defScope s_f_common_divisor) .none kV_f_common_divisor dc_f_common_divisor pm_f_common_divisor an_f_common_divisor cd_f_common_divisor ct_f_common_divisor), a_f_halves, (PySem.W.fnOf "halves" "halves" (defArgs s_f_halves) (defBody s_f_halves) (defScope s_f_halves) .none kV_f_halves dc_f_halves pm_f_halves an_f_halves cd_f_halves ct_f_halves), a_m_Ratio_init, (PySem.W.fnOf "__init__" "Ratio.__init__" (defArgs s_m_Ratio_init) (defBody s_m_Ratio_init) (defScope s_m_Ratio_init) (.ref tp_m_Ratio_init) kV_m_Ratio_init dc_m_Ratio_init pm_m_Ratio_init an_m_Ratio_init cd_m_Ratio_init ct_m_Ratio_init), a_m_Ratio_less, (PySem.W.fnOf "less" "Ratio.less" (defArgs s_m_Ratio_less) (defBody s_m_Ratio_less) (defScope s_m_Ratio_less) .none kV_m_Ratio_less dc_m_Ratio_less pm_m_Ratio_less an_m_Ratio_less cd_m_Ratio_less ct_m_Ratio_less), a_m_Ratio_at_most, (PySem.W.fnOf "at_most" "Ratio.at_most" (defArgs s_m_Ratio_at_most) (defBody s_m_Ratio_at_most) (defScope s_m_Ratio_at_most) .none kV_m_Ratio_at_most dc_m_Ratio_at_most pm_m_Ratio_at_most an_m_Ratio_at_most cd_m_Ratio_at_most ct_m_Ratio_at_most), a_m_Ratio_same, (PySem.W.fnOf "same" "Ratio.same" (defArgs s_m_Ratio_same) (defBody s_m_Ratio_same) (defScope s_m_Ratio_same) .none kV_m_Ratio_same dc_m_Ratio_same pm_m_Ratio_same an_m_Ratio_same cd_m_Ratio_same ct_m_Ratio_same), a_m_Ratio_floor, (PySem.W.fnOf "floor" "Ratio.floor" (defArgs s_m_Ratio_floor) (defBody s_m_Ratio_floor) (defScope s_m_Ratio_floor) .none kV_m_Ratio_floor dc_m_Ratio_floor pm_m_Ratio_floor an_m_Ratio_floor cd_m_Ratio_floor ct_m_Ratio_floor), a_m_Ratio_nearest, (PySem.W.fnOf "nearest" "Ratio.nearest" (defArgs s_m_Ratio_nearest) (defBody s_m_Ratio_nearest) (defScope s_m_Ratio_nearest) .none kV_m_Ratio_nearest dc_m_Ratio_nearest pm_m_Ratio_nearest an_m_Ratio_nearest cd_m_Ratio_nearest ct_m_Ratio_nearest), a_l_bag, (PySem.W.fnOf "_law_bag" "_law_bag" (defArgs s_l_bag) (defBody s_l_bag) (defScope s_l_bag) .none kV_l_bag dc_l_bag pm_l_bag an_l_bag cd_l_bag ct_l_bag), a_l_draw, (PySem.W.fnOf "_law_draw" "_law_draw" (defArgs s_l_draw) (defBody s_l_draw) (defScope s_l_draw) .none kV_l_draw dc_l_draw pm_l_draw an_l_draw cd_l_draw ct_l_draw), a_l_number, (PySem.W.fnOf "_law_number" "_law_number" (defArgs s_l_number) (defBody s_l_number) (defScope s_l_number) .none kV_l_number dc_l_number pm_l_number an_l_number cd_l_number ct_l_number), a_l_integer, (PySem.W.fnOf "_law_integer" "_law_integer" (defArgs s_l_integer) (defBody s_l_integer) (defScope s_l_integer) .none kV_l_integer dc_l_integer pm_l_integer an_l_integer cd_l_integer ct_l_integer), a_l_divisor, (PySem.W.fnOf "_law_divisor" "_law_divisor" (defArgs s_l_divisor) (defBody s_l_divisor) (defScope s_l_divisor) .none kV_l_divisor dc_l_divisor pm_l_divisor an_l_divisor cd_l_divisor ct_l_divisor), a_l_lowest, (PySem.W.fnOf "_law_lowest" "_law_lowest" (defArgs s_l_lowest) (defBody s_l_lowest) (defScope s_l_lowest) .none kV_l_lowest dc_l_lowest pm_l_lowest an_l_lowest cd_l_lowest ct_l_lowest), a_l_ordered, (PySem.W.fnOf "_law_ordered" "_law_ordered" (defArgs s_l_ordered) (defBody s_l_ordered) (defScope s_l_ordered) .none kV_l_ordered dc_l_ordered pm_l_ordered an_l_ordered cd_l_ordered ct_l_ordered), a_l_rounded_right, (PySem.W.fnOf "_law_rounded_right" "_law_rounded_right" (defArgs s_l_rounded_right) (defBody s_l_rounded_right) (defScope s_l_rounded_right) .none kV_l_rounded_right dc_l_rounded_right pm_l_rounded_right an_l_rounded_right cd_l_rounded_right ct_l_rounded_right), fa, (PySem.W.fnOf "law" "law" (defArgs s_f_law) (defBody s_f_law) (defScope s_f_law) .none kV_f_law dc_f_law pm_f_law an_f_law cd_f_law ct_f_law), ds_m_Ratio_init⟩ := {
    z_abs := PySem.W.mg_none_of X G pz_abs,
    z_all := PySem.W.mg_none_of X G pz_all,
    z_bool := PySem.W.mg_none_of X G pz_bool,
    z_int := PySem.W.mg_none_of X G pz_int,
    z_isinstance := PySem.W.mg_none_of X G pz_isinstance,
    z_len := PySem.W.mg_none_of X G pz_len,
    z_list := PySem.W.mg_none_of X G pz_list,
    z_range := PySem.W.mg_none_of X G pz_range,
    g_CostError := PySem.W.mg_of X G pg_CostError,
    ek_CostError := pek_CostError,
    eb_CostError := peb_CostError,
    et_CostError := pet_CostError,
    eh_CostError := peh_CostError,
    eic_CostError := peic_CostError,
    es_CostError := pes_CostError,
    g_NoRatio := PySem.W.mg_of X G pg_NoRatio,
    ek_NoRatio := pek_NoRatio,
    eb_NoRatio := peb_NoRatio,
    et_NoRatio := pet_NoRatio,
    eh_NoRatio := peh_NoRatio,
    eic_NoRatio := peic_NoRatio,
    es_NoRatio := pes_NoRatio,
    ex_NoRatio := pex_NoRatio,
    xg_NoRatio := pxg_NoRatio,
    xk_NoRatio := pxk_NoRatio,
    xa_NoRatio := pxa_NoRatio,
    xn_NoRatio := pxn_NoRatio,
    xt_NoRatio := pxt_NoRatio,
    xm_NoRatio := pxm_NoRatio,
    g_Ratio := PySem.W.mg_of X G pg_Ratio,
    cl_Ratio := ⟨ppg_Ratio, phd_Ratio, ppo_Ratio, psa_Ratio⟩,
    n_Ratio_top := pn_Ratio_top,
    n_Ratio_bottom := pn_Ratio_bottom,
    mk_Ratio := ⟨pma_Ratio, pmi_Ratio, pmf_Ratio, pmc_Ratio⟩,
    m_Ratio_less := ⟨pmt_m_Ratio_less, pmn_m_Ratio_less, pmk_m_Ratio_less⟩,
    m_Ratio_at_most := ⟨pmt_m_Ratio_at_most, pmn_m_Ratio_at_most, pmk_m_Ratio_at_most⟩,
    m_Ratio_same := ⟨pmt_m_Ratio_same, pmn_m_Ratio_same, pmk_m_Ratio_same⟩,
    m_Ratio_floor := ⟨pmt_m_Ratio_floor, pmn_m_Ratio_floor, pmk_m_Ratio_floor⟩,
    m_Ratio_nearest := ⟨pmt_m_Ratio_nearest, pmn_m_Ratio_nearest, pmk_m_Ratio_nearest⟩,
    tc_Ratio := ptc_Ratio,
    tn_Ratio := ptn_Ratio,
    tk_Ratio := ptk_Ratio,
    tm_Ratio := ptm_Ratio,
    ki_Ratio := pki_Ratio,
    F_f_common_divisor := F_f_common_divisor,
    b_f_common_divisor := b_f_common_divisor,
    g_common_divisor := PySem.W.mg_of X G pa_f_common_divisor,
    F_f_halves := F_f_halves,
    b_f_halves := b_f_halves,
    g_halves := PySem.W.mg_of X G pa_f_halves,
    F_m_Ratio_init := F_m_Ratio_init,
    b_m_Ratio_init := b_m_Ratio_init,
    dv_m_Ratio_init := dv_m_Ratio_init,
    b_m_Ratio_init_d1 := bd_m_Ratio_init,
    F_m_Ratio_less := F_m_Ratio_less,
    b_m_Ratio_less := b_m_Ratio_less,
    F_m_Ratio_at_most := F_m_Ratio_at_most,
    b_m_Ratio_at_most := b_m_Ratio_at_most,
    F_m_Ratio_same := F_m_Ratio_same,
    b_m_Ratio_same := b_m_Ratio_same,
    F_m_Ratio_floor := F_m_Ratio_floor,
    b_m_Ratio_floor := b_m_Ratio_floor,
    F_m_Ratio_nearest := F_m_Ratio_nearest,
    b_m_Ratio_nearest := b_m_Ratio_nearest,
    F_l_bag := F_l_bag,
    b_l_bag := b_l_bag,
    g__law_bag := PySem.W.mg_of X G pa_l_bag,
    F_l_draw := F_l_draw,
    b_l_draw := b_l_draw,
    g__law_draw := PySem.W.mg_of X G pa_l_draw,
    F_l_number := F_l_number,
    b_l_number := b_l_number,
    g__law_number := PySem.W.mg_of X G pa_l_number,
    F_l_integer := F_l_integer,
    b_l_integer := b_l_integer,
    g__law_integer := PySem.W.mg_of X G pa_l_integer,
    F_l_divisor := F_l_divisor,
    b_l_divisor := b_l_divisor,
    g__law_divisor := PySem.W.mg_of X G pa_l_divisor,
    F_l_lowest := F_l_lowest,
    b_l_lowest := b_l_lowest,
    g__law_lowest := PySem.W.mg_of X G pa_l_lowest,
    F_l_ordered := F_l_ordered,
    b_l_ordered := b_l_ordered,
    g__law_ordered := PySem.W.mg_of X G pa_l_ordered,
    F_l_rounded_right := F_l_rounded_right,
    b_l_rounded_right := b_l_rounded_right,
    g__law_rounded_right := PySem.W.mg_of X G pa_l_rounded_right,
    F_f_law := F_f_law,
    b_f_law := b_f_law,
    g_law := PySem.W.mg_of X G pa_f_law }
  exact ⟨_, fun s v => .of_eq rfl, fun base _ _ => ok_f_law T⟩
theorem walk {l : PySem.W.OpenLaw} {q : Program} {loose : List Str} {XP : (Str → Option Value) → Heap → Prop} {YP : World → Heap → Prop} {d : DefRec} {K : Params → PySem.W.Frag} (hn : l.most = some 63) (hdf : d.params.defaults = [])
    (hY : ∀ (w : World) (h : Heap), YP w h → (K w.params).In h)
    (F : ∀ (w : World) (mg : Str → Option Value) (fa : Addr) (h : Heap), (K w.params).In h → h.Ns mainGlobals mg → mg d.name = some (.ref fa) →
      ∃ fd : FuncData, (∀ (s : Shared) (u : Value), BindsTo s fd ⟨[u], []⟩ [("_law_script", u)]) ∧ ∀ base : Heap, (K w.params).In base → base.Ns mainGlobals mg → FnOk l.prog w (K w.params) mg base CX0 6 fa fd ["_law_script"] (spLaw (K w.params))) :
    PySem.W.WalkO q loose XP YP l.row.toRowW d [] (fun f vs => PySem.call f vs) :=
  L2.walk_of (n := 63) (k := 6) (x := "_law_script") (CX := fun _ => CX0) (sp := fun w => spLaw (K w.params)) hn (by decide) hdf ⟨rfl, by decide, by decide⟩ hY F (fun _ _ a ns hl _ hS => ⟨a, ns, rfl, hS, hl, fun _ => rfl⟩) fun _ _ _ _ _ z => z
end Lot
open PySem PySem.W PyProof.Rows
set_option maxRecDepth 100000 in
set_option maxHeartbeats 0 in
theorem PySem.Challenge.cw_lotcosts_k12_ratios_in_order_holds : PySem.Challenge.rw_lotcosts_k12_ratios_in_order.Holds := by
  w_on; o_law; k_head; (case hw => w_witness2)
  k_fill
  refine Lot.walk (l := PySem.Challenge.rw_lotcosts_k12_ratios_in_order) rfl rfl (fun w h Y => PySem.W.kIn_of Y) ?F
  case F =>
    intro w mg fa h KX G hmg
    refine' Lot.all_mk KX G hmg ?pz_abs ?pz_all ?pz_bool ?pz_int ?pz_isinstance ?pz_len ?pz_list ?pz_range ?pg_CostError ?pek_CostError ?peb_CostError ?pet_CostError ?peh_CostError ?peic_CostError ?pes_CostError ?pg_NoRatio ?pek_NoRatio ?peb_NoRatio ?pet_NoRatio ?peh_NoRatio ?peic_NoRatio ?pes_NoRatio ?pex_NoRatio ?pxg_NoRatio ?pxk_NoRatio ?pxa_NoRatio ?pxn_NoRatio ?pxt_NoRatio ?pxm_NoRatio ?pg_Ratio ?ppg_Ratio ?phd_Ratio ?ppo_Ratio ?psa_Ratio ?pn_Ratio_top ?pn_Ratio_bottom ?pma_Ratio ?pmi_Ratio ?pmf_Ratio ?pmc_Ratio ?pmt_m_Ratio_less ?pmn_m_Ratio_less ?pmk_m_Ratio_less ?pmt_m_Ratio_at_most ?pmn_m_Ratio_at_most ?pmk_m_Ratio_at_most ?pmt_m_Ratio_same ?pmn_m_Ratio_same ?pmk_m_Ratio_same ?pmt_m_Ratio_floor ?pmn_m_Ratio_floor ?pmk_m_Ratio_floor ?pmt_m_Ratio_nearest ?pmn_m_Ratio_nearest ?pmk_m_Ratio_nearest ?ptc_Ratio ?ptn_Ratio ?ptk_Ratio ?ptm_Ratio ?pki_Ratio ?pa_f_common_divisor ?pl_f_common_divisor ?pc_f_common_divisor ?pq_f_common_divisor ?pa_f_halves ?pl_f_halves ?pc_f_halves ?pq_f_halves ?pl_m_Ratio_init ?pt_m_Ratio_init ?pc_m_Ratio_init ?pq_m_Ratio_init ?pl_m_Ratio_less ?pc_m_Ratio_less ?pq_m_Ratio_less ?pl_m_Ratio_at_most ?pc_m_Ratio_at_most ?pq_m_Ratio_at_most ?pl_m_Ratio_same ?pc_m_Ratio_same ?pq_m_Ratio_same ?pl_m_Ratio_floor ?pc_m_Ratio_floor ?pq_m_Ratio_floor ?pl_m_Ratio_nearest ?pc_m_Ratio_nearest ?pq_m_Ratio_nearest ?pa_l_bag ?pl_l_bag ?pc_l_bag ?pq_l_bag ?pa_l_draw ?pl_l_draw ?pc_l_draw ?pq_l_draw ?pa_l_number ?pl_l_number ?pc_l_number ?pq_l_number ?pa_l_integer ?pl_l_integer ?pc_l_integer ?pq_l_integer ?pa_l_divisor ?pl_l_divisor ?pc_l_divisor ?pq_l_divisor ?pa_l_lowest ?pl_l_lowest ?pc_l_lowest ?pq_l_lowest ?pa_l_ordered ?pl_l_ordered ?pc_l_ordered ?pq_l_ordered ?pa_l_rounded_right ?pl_l_rounded_right ?pc_l_rounded_right ?pq_l_rounded_right ?pa_f_law ?pl_f_law ?pc_f_law ?pq_f_law
    (case pz_abs => first | k_is | rfl)
    (case pz_all => first | k_is | rfl)
    (case pz_bool => first | k_is | rfl)
    (case pz_int => first | k_is | rfl)
    (case pz_isinstance => first | k_is | rfl)
    (case pz_len => first | k_is | rfl)
    (case pz_list => first | k_is | rfl)
    (case pz_range => first | k_is | rfl)
    (case pg_CostError => first | k_is | rfl)
    (case pek_CostError => first | k_is | rfl)
    (case peb_CostError => first | k_is | rfl)
    (case pet_CostError => first | k_is | rfl)
    (case peh_CostError => first | k_is | rfl)
    (case peic_CostError => first | k_is | rfl)
    (case pes_CostError => first | k_is | rfl)
    (case pg_NoRatio => first | k_is | rfl)
    (case pek_NoRatio => first | k_is | rfl)
    (case peb_NoRatio => first | k_is | rfl)
    (case pet_NoRatio => first | k_is | rfl)
    (case peh_NoRatio => first | k_is | rfl)
    (case peic_NoRatio => first | k_is | rfl)
    (case pes_NoRatio => first | k_is | rfl)
    (case pex_NoRatio => k_exc)
    (case pxg_NoRatio => first | k_is | rfl)
    (case pxk_NoRatio => first | k_is | rfl)
    (case pxa_NoRatio => first | k_is | rfl)
    (case pxn_NoRatio => first | k_is | rfl)
    (case pxt_NoRatio => first | k_is | rfl)
    (case pxm_NoRatio => first | k_is | rfl)
    (case pg_Ratio => first | k_is | rfl)
    (case ppg_Ratio => first | k_is | rfl)
    (case phd_Ratio => first | k_is | rfl)
    (case ppo_Ratio => first | k_is | rfl)
    (case psa_Ratio => first | k_is | rfl)
    (case pn_Ratio_top => first | k_is | rfl)
    (case pn_Ratio_bottom => first | k_is | rfl)
    (case pma_Ratio => first | k_is | rfl)
    (case pmi_Ratio => first | k_is | rfl)
    (case pmf_Ratio => first | k_is | rfl)
    (case pmc_Ratio => first | k_is | rfl)
    (case pmt_m_Ratio_less => first | k_is | rfl)
    (case pmn_m_Ratio_less => first | k_is | rfl)
    (case pmk_m_Ratio_less => first | k_is | rfl)
    (case pmt_m_Ratio_at_most => first | k_is | rfl)
    (case pmn_m_Ratio_at_most => first | k_is | rfl)
    (case pmk_m_Ratio_at_most => first | k_is | rfl)
    (case pmt_m_Ratio_same => first | k_is | rfl)
    (case pmn_m_Ratio_same => first | k_is | rfl)
    (case pmk_m_Ratio_same => first | k_is | rfl)
    (case pmt_m_Ratio_floor => first | k_is | rfl)
    (case pmn_m_Ratio_floor => first | k_is | rfl)
    (case pmk_m_Ratio_floor => first | k_is | rfl)
    (case pmt_m_Ratio_nearest => first | k_is | rfl)
    (case pmn_m_Ratio_nearest => first | k_is | rfl)
    (case pmk_m_Ratio_nearest => first | k_is | rfl)
    (case ptc_Ratio => first | k_is | rfl)
    (case ptn_Ratio => first | k_is | rfl)
    (case ptk_Ratio => first | k_is | rfl)
    (case ptm_Ratio => first | k_is | rfl)
    (case pki_Ratio => first | k_is | rfl)
    (case pa_f_common_divisor => first | k_is | rfl)
    (case pl_f_common_divisor => first | k_is | rfl)
    (case pc_f_common_divisor => first | k_is | rfl)
    (case pq_f_common_divisor => first | k_is | rfl)
    (case pa_f_halves => first | k_is | rfl)
    (case pl_f_halves => first | k_is | rfl)
    (case pc_f_halves => first | k_is | rfl)
    (case pq_f_halves => first | k_is | rfl)
    (case pl_m_Ratio_init => first | k_is | rfl)
    (case pt_m_Ratio_init => first | k_is | rfl)
    (case pc_m_Ratio_init => first | k_is | rfl)
    (case pq_m_Ratio_init => first | k_is | rfl)
    (case pl_m_Ratio_less => first | k_is | rfl)
    (case pc_m_Ratio_less => first | k_is | rfl)
    (case pq_m_Ratio_less => first | k_is | rfl)
    (case pl_m_Ratio_at_most => first | k_is | rfl)
    (case pc_m_Ratio_at_most => first | k_is | rfl)
    (case pq_m_Ratio_at_most => first | k_is | rfl)
    (case pl_m_Ratio_same => first | k_is | rfl)
    (case pc_m_Ratio_same => first | k_is | rfl)
    (case pq_m_Ratio_same => first | k_is | rfl)
    (case pl_m_Ratio_floor => first | k_is | rfl)
    (case pc_m_Ratio_floor => first | k_is | rfl)
    (case pq_m_Ratio_floor => first | k_is | rfl)
    (case pl_m_Ratio_nearest => first | k_is | rfl)
    (case pc_m_Ratio_nearest => first | k_is | rfl)
    (case pq_m_Ratio_nearest => first | k_is | rfl)
    (case pa_l_bag => first | k_is | rfl)
    (case pl_l_bag => first | k_is | rfl)
    (case pc_l_bag => first | k_is | rfl)
    (case pq_l_bag => first | k_is | rfl)
    (case pa_l_draw => first | k_is | rfl)
    (case pl_l_draw => first | k_is | rfl)
    (case pc_l_draw => first | k_is | rfl)
    (case pq_l_draw => first | k_is | rfl)
    (case pa_l_number => first | k_is | rfl)
    (case pl_l_number => first | k_is | rfl)
    (case pc_l_number => first | k_is | rfl)
    (case pq_l_number => first | k_is | rfl)
    (case pa_l_integer => first | k_is | rfl)
    (case pl_l_integer => first | k_is | rfl)
    (case pc_l_integer => first | k_is | rfl)
    (case pq_l_integer => first | k_is | rfl)
    (case pa_l_divisor => first | k_is | rfl)
    (case pl_l_divisor => first | k_is | rfl)
    (case pc_l_divisor => first | k_is | rfl)
    (case pq_l_divisor => first | k_is | rfl)
    (case pa_l_lowest => first | k_is | rfl)
    (case pl_l_lowest => first | k_is | rfl)
    (case pc_l_lowest => first | k_is | rfl)
    (case pq_l_lowest => first | k_is | rfl)
    (case pa_l_ordered => first | k_is | rfl)
    (case pl_l_ordered => first | k_is | rfl)
    (case pc_l_ordered => first | k_is | rfl)
    (case pq_l_ordered => first | k_is | rfl)
    (case pa_l_rounded_right => first | k_is | rfl)
    (case pl_l_rounded_right => first | k_is | rfl)
    (case pc_l_rounded_right => first | k_is | rfl)
    (case pq_l_rounded_right => first | k_is | rfl)
    (case pa_f_law => first | k_is | rfl)
    (case pl_f_law => first | k_is | rfl)
    (case pc_f_law => first | k_is | rfl)
    (case pq_f_law => first | k_is | rfl)
#print axioms PySem.Challenge.cw_lotcosts_k12_ratios_in_order_holds

