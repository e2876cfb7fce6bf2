import PyProof.Rows.All
import Wide.All
import OpenK.AllK
import Wide.FinOn
import HandS.ForMost
import HandS.ForExc
import HandS.Flow
import HandS.Evl
import HandS.Style
import KE.KOpsOwn
import HandS.ClsMeth
import HandS.OwnEq
import HandS.IsInst
import HandS.ExcIs
import HandS.ExcInit
import HandS.ExcField
import HandS.ExcValue
import HandS.MakeKwOnly
import KE.KExcIs
import HandS.Wide
import HandS.Defaults
import PySem.Challenge.RW_lotcosts_k44_refused_rules
set_option Elab.async false
set_option linter.all false
set_option pp.maxSteps 400
set_option maxRecDepth 100000
set_option maxHeartbeats 4000000
namespace Lot
open PySem L2
/-! ### steps -/
local macro_rules | `(tactic| walk_at "ne") => `(tactic| first
  | with_reducible assumption
  | (apply Ne.symm; with_reducible assumption)
  | exact ne_of_none (by with_reducible assumption) (by with_reducible assumption)
  | exact (ne_of_none (by with_reducible assumption) (by with_reducible assumption)).symm)
local macro_rules | `(tactic| walk_at "at") => `(tactic| first
  | with_reducible assumption
  | exact upd_same
  | (refine Eq.trans (upd_ne (by walk_at "ne")) ?_; walk_at "at"))
local macro_rules | `(tactic| walk_at "num") => `(tactic| first
  | decide
  | omega
  | (dsimp only; first | decide | omega))
local macro_rules | `(tactic| walk_at "fact") => `(tactic| first
  | with_reducible assumption
  | exact rfl
  | walk_at "at"
  | exact SqL.of (by walk_at "at")
  | exact SqT.of (by walk_at "at")
  | exact .inl (SqL.of (by walk_at "at"))
  | exact .inr (SqT.of (by walk_at "at"))
  | exact .inl ⟨rfl, _, SqL.of (by walk_at "at")⟩
  | exact Or.inl ⟨by walk_at "num", by walk_at "num"⟩
  | exact Or.inr ⟨by walk_at "num", by walk_at "num"⟩
  | exact ⟨by walk_at "num", by walk_at "num"⟩
  | exact ⟨by walk_at "num", by walk_at "num", by walk_at "num"⟩
  | exact wide_div (b := 9000) (by omega) (by assumption) (by decide) (by decide)
  | exact Nat.le_of_ble_eq_true rfl
  | assumption
  | walk_at "num")
local macro_rules | `(tactic| walk_at "go") => `(tactic| repeat (first
  | apply Exists.intro
  | refine And.intro (by walk_at "fact") ?_
  | refine Or.inl ⟨_, rfl, ?_⟩
  | refine Or.inr ⟨_, rfl, ?_⟩
  | refine iteT ?_
  | refine iteF ?_))
def top (i : Nat) : Stmt := PySem.Challenge.pw_lotcosts_k44_refused_rules.main.body.getD i (.Pass ⟨0, 0, 0, 0⟩)
abbrev s_m_BadRule_init : Stmt := inClass (top 4) 0
abbrev N_m_BadRule_init : List Str := ["self", "word"]
abbrev P_m_BadRule_init : List Str := ["self", "word"]
theorem sc_m_BadRule_init : FnScope N_m_BadRule_init P_m_BadRule_init (defScope s_m_BadRule_init) := ⟨rfl, rfl, rfl, by decide +kernel, rfl, by decide +kernel, by decide +kernel⟩
abbrev s_f_is_number : Stmt := top 8
abbrev N_f_is_number : List Str := ["value", "least"]
abbrev P_f_is_number : List Str := ["value", "least"]
theorem sc_f_is_number : FnScope N_f_is_number P_f_is_number (defScope s_f_is_number) := ⟨rfl, rfl, rfl, by decide +kernel, rfl, by decide +kernel, by decide +kernel⟩
abbrev s_m_Rule_init : Stmt := inClass (top 21) 0
abbrev N_m_Rule_init : List Str := ["self", "take", "place", "period"]
abbrev P_m_Rule_init : List Str := ["self", "take", "place", "period"]
theorem sc_m_Rule_init : FnScope N_m_Rule_init P_m_Rule_init (defScope s_m_Rule_init) := ⟨rfl, rfl, rfl, by decide +kernel, rfl, by decide +kernel, by decide +kernel⟩
abbrev s_l_bag : Stmt := top 23
abbrev N_l_bag : List Str := ["_law_script"]
abbrev P_l_bag : List Str := ["_law_script"]
theorem sc_l_bag : FnScope N_l_bag P_l_bag (defScope s_l_bag) := ⟨rfl, rfl, rfl, by decide +kernel, rfl, by decide +kernel, by decide +kernel⟩
abbrev s_l_draw : Stmt := top 24
abbrev N_l_draw : List Str := ["_law_bag_here", "_law_size", "_law_cell", "_law_digit", "_law_mixed"]
abbrev P_l_draw : List Str := ["_law_bag_here", "_law_size"]
theorem sc_l_draw : FnScope N_l_draw P_l_draw (defScope s_l_draw) := ⟨rfl, rfl, rfl, by decide +kernel, rfl, by decide +kernel, by decide +kernel⟩
abbrev s_l_told : Stmt := top 25
abbrev N_l_told : List Str := ["_law_take", "_law_laid", "_law_span", "_law_way", "_law_made", "e"]
abbrev P_l_told : List Str := ["_law_take", "_law_laid", "_law_span", "_law_way"]
theorem sc_l_told : FnScope N_l_told P_l_told (defScope s_l_told) := ⟨rfl, rfl, rfl, by decide +kernel, rfl, by decide +kernel, by decide +kernel⟩
abbrev s_f_law : Stmt := top 26
abbrev N_f_law : List Str := ["_law_script", "_law_bag_here", "_law_turn", "_law_wrong", "_law_take", "_law_laid", "_law_span", "_law_way", "_law_due"]
abbrev P_f_law : List Str := ["_law_script"]
theorem sc_f_law : FnScope N_f_law P_f_law (defScope s_f_law) := ⟨rfl, rfl, rfl, by decide +kernel, rfl, by decide +kernel, by decide +kernel⟩
/-- no __iop__ in the class's chain -/
def noI (K : PySem.W.Frag) (C : Addr) (nm : String) : Bool := (PySem.W.clsIn K C).any fun cd => cd.mro.all fun c => PySem.W.findIn K c (dunderI nm) == some none
/-- C.m is a staticmethod: its record at p, its def at g -/
structure SMet (K : PySem.W.Frag) (C : Addr) (m : Str) (p g : Addr) : Prop where
  rd : PySem.W.readsIn K C (.type "type") = true
  ga : PySem.W.specialIn K (.ref C) "__getattribute__" = some (some (.builtin "type.__getattribute__"))
  at_ : PySem.W.findCls K (.ref C) (.type "type") m = some (.get (.builtin "staticmethod.__get__") (.ref p) .none (.ref C))
  rc : ∃ rest, PySem.W.recIn K p "staticmethod" = some (.ref g :: rest)
  kp : PySem.W.keepIn K (.ref g) = true
structure Ad where
  CostError : Addr
  NoRatio : Addr
  BadRule : Addr
  Short : Addr
  Ratio : Addr
  Rule : Addr
  m_BadRule_init : Addr
  fd_m_BadRule_init : FuncData
  f_is_number : Addr
  fd_f_is_number : FuncData
  m_Rule_init : Addr
  fd_m_Rule_init : FuncData
  l_bag : Addr
  fd_l_bag : FuncData
  l_draw : Addr
  fd_l_draw : FuncData
  l_told : Addr
  fd_l_told : FuncData
  f_law : Addr
  fd_f_law : FuncData
  TAKES : Addr
  SPOTS : Addr
  dk_m_Rule_init : List Value
structure Txt (K : PySem.W.Frag) (mg : Str → Option Value) (A : Ad) : Prop where
  z_abs : mg "abs" = none
  z_bool : mg "bool" = none
  z_int : mg "int" = none
  z_isinstance : mg "isinstance" = none
  z_len : mg "len" = none
  z_list : mg "list" = none
  z_range : mg "range" = none
  g_CostError : mg "CostError" = some (.ref A.CostError)
  ek_CostError : PySem.W.keepIn K (.ref A.CostError) = true
  eb_CostError : PySem.W.subIn K (.ref A.CostError) (.type "BaseException") = some true
  et_CostError : PySem.W.typeIn K (.ref A.CostError) = some (.type "type")
  eh_CostError : PySem.W.hasDictIn K A.CostError = true
  eic_CostError : PySem.W.isClsIn K A.CostError = true
  es_CostError : PySem.W.subIn K (.ref A.CostError) (.ref A.CostError) = some true
  xg_CostError : PySem.W.findIn K (.ref A.CostError) "__getattribute__" = some (some (.builtin "BaseException.__getattribute__"))
  xk_CostError : PySem.W.findIn K (.ref A.CostError) "__getattr__" = some none
  xa_CostError : PySem.W.findIn K (.ref A.CostError) "__class__" = some (some (.builtin "object.__class__"))
  xn_CostError : PySem.W.specialIn K (.builtin "object.__class__") "__get__" = some (some (.builtin "getset_descriptor.__get__"))
  xt_CostError : PySem.W.takesIn K (.builtin "object.__class__") = some true
  xm_CostError : PySem.W.mroIn K A.CostError (.type "object") = some true
  rd_CostError : PySem.W.readsIn K A.CostError (.type "type") = true
  cg_CostError : PySem.W.specialIn K (.ref A.CostError) "__getattribute__" = some (some (.builtin "type.__getattribute__"))
  vi_CostError : PySem.W.findCls K (.ref A.CostError) (.type "type") "__init__" = some (.val (.builtin "ValueError.__init__"))
  g_NoRatio : mg "NoRatio" = some (.ref A.NoRatio)
  ek_NoRatio : PySem.W.keepIn K (.ref A.NoRatio) = true
  eb_NoRatio : PySem.W.subIn K (.ref A.NoRatio) (.type "BaseException") = some true
  et_NoRatio : PySem.W.typeIn K (.ref A.NoRatio) = some (.type "type")
  eh_NoRatio : PySem.W.hasDictIn K A.NoRatio = true
  eic_NoRatio : PySem.W.isClsIn K A.NoRatio = true
  es_NoRatio : PySem.W.subIn K (.ref A.NoRatio) (.ref A.NoRatio) = some true
  xg_NoRatio : PySem.W.findIn K (.ref A.NoRatio) "__getattribute__" = some (some (.builtin "BaseException.__getattribute__"))
  xk_NoRatio : PySem.W.findIn K (.ref A.NoRatio) "__getattr__" = some none
  xa_NoRatio : PySem.W.findIn K (.ref A.NoRatio) "__class__" = some (some (.builtin "object.__class__"))
  xn_NoRatio : PySem.W.specialIn K (.builtin "object.__class__") "__get__" = some (some (.builtin "getset_descriptor.__get__"))
  xt_NoRatio : PySem.W.takesIn K (.builtin "object.__class__") = some true
  xm_NoRatio : PySem.W.mroIn K A.NoRatio (.type "object") = some true
  g_BadRule : mg "BadRule" = some (.ref A.BadRule)
  ek_BadRule : PySem.W.keepIn K (.ref A.BadRule) = true
  eb_BadRule : PySem.W.subIn K (.ref A.BadRule) (.type "BaseException") = some true
  et_BadRule : PySem.W.typeIn K (.ref A.BadRule) = some (.type "type")
  eh_BadRule : PySem.W.hasDictIn K A.BadRule = true
  eic_BadRule : PySem.W.isClsIn K A.BadRule = true
  es_BadRule : PySem.W.subIn K (.ref A.BadRule) (.ref A.BadRule) = some true
  xg_BadRule : PySem.W.findIn K (.ref A.BadRule) "__getattribute__" = some (some (.builtin "BaseException.__getattribute__"))
  xk_BadRule : PySem.W.findIn K (.ref A.BadRule) "__getattr__" = some none
  xa_BadRule : PySem.W.findIn K (.ref A.BadRule) "__class__" = some (some (.builtin "object.__class__"))
  xn_BadRule : PySem.W.specialIn K (.builtin "object.__class__") "__get__" = some (some (.builtin "getset_descriptor.__get__"))
  xt_BadRule : PySem.W.takesIn K (.builtin "object.__class__") = some true
  xm_BadRule : PySem.W.mroIn K A.BadRule (.type "object") = some true
  xc_BadRule : PySem.W.kitOne K (.ref A.BadRule) (.ref A.CostError) = some true
  n_BadRule_word : PySem.W.findIn K (.ref A.BadRule) "word" = some none
  oi_BadRule : PySem.W.findIn K (.ref A.BadRule) "__init__" = some (some (.ref A.m_BadRule_init))
  ot_BadRule : PySem.W.typeIn K (.ref A.m_BadRule_init) = some (.type "function")
  ox_BadRule : OexC K A.BadRule
  g_Short : mg "Short" = some (.ref A.Short)
  ek_Short : PySem.W.keepIn K (.ref A.Short) = true
  eb_Short : PySem.W.subIn K (.ref A.Short) (.type "BaseException") = some true
  et_Short : PySem.W.typeIn K (.ref A.Short) = some (.type "type")
  eh_Short : PySem.W.hasDictIn K A.Short = true
  eic_Short : PySem.W.isClsIn K A.Short = true
  es_Short : PySem.W.subIn K (.ref A.Short) (.ref A.Short) = some true
  xg_Short : PySem.W.findIn K (.ref A.Short) "__getattribute__" = some (some (.builtin "BaseException.__getattribute__"))
  xk_Short : PySem.W.findIn K (.ref A.Short) "__getattr__" = some none
  xa_Short : PySem.W.findIn K (.ref A.Short) "__class__" = some (some (.builtin "object.__class__"))
  xn_Short : PySem.W.specialIn K (.builtin "object.__class__") "__get__" = some (some (.builtin "getset_descriptor.__get__"))
  xt_Short : PySem.W.takesIn K (.builtin "object.__class__") = some true
  xm_Short : PySem.W.mroIn K A.Short (.type "object") = some true
  n_Short_missing : PySem.W.findIn K (.ref A.Short) "missing" = some none
  g_Ratio : mg "Ratio" = some (.ref A.Ratio)
  cl_Ratio : Cls K A.Ratio
  n_Ratio_top : NoAttr K A.Ratio "top"
  n_Ratio_bottom : NoAttr K A.Ratio "bottom"
  g_Rule : mg "Rule" = some (.ref A.Rule)
  cl_Rule : Cls K A.Rule
  n_Rule_take : NoAttr K A.Rule "take"
  n_Rule_place : NoAttr K A.Rule "place"
  n_Rule_period : NoAttr K A.Rule "period"
  mk_Rule : Mk K A.Rule A.m_Rule_init
  g_MOST : ∃ t, mg "MOST" = some (.int 1000000 t)
  g_TAKES : mg "TAKES" = some (.ref A.TAKES)
  tq_TAKES : ∃ (o : Obj) (its : Array Value) (n : Nat), K.lookup A.TAKES = some o ∧ o.cls = .type "tuple" ∧ o.data = .seq its n ∧ its.size ≤ sizeLine ∧ Vals [.str "oldest", .str "newest", .str "even"] its.toList
  g_SPOTS : mg "SPOTS" = some (.ref A.SPOTS)
  tq_SPOTS : ∃ (o : Obj) (its : Array Value) (n : Nat), K.lookup A.SPOTS = some o ∧ o.cls = .type "tuple" ∧ o.data = .seq its n ∧ its.size ≤ sizeLine ∧ Vals [.str "own", .str "top", .str "bottom"] its.toList
  F_m_BadRule_init : Fun K "__init__" "BadRule.__init__" s_m_BadRule_init A.m_BadRule_init A.fd_m_BadRule_init
  b_m_BadRule_init : Binds K A.fd_m_BadRule_init P_m_BadRule_init []
  F_f_is_number : Fun K "is_number" "is_number" s_f_is_number A.f_is_number A.fd_f_is_number
  b_f_is_number : Binds K A.fd_f_is_number P_f_is_number []
  g_is_number : mg "is_number" = some (.ref A.f_is_number)
  F_m_Rule_init : FunD K "__init__" "Rule.__init__" (defArgs s_m_Rule_init) (defBody s_m_Rule_init) (defScope s_m_Rule_init) [] [("place", .str "own"), ("period", .int 0)] A.m_Rule_init A.fd_m_Rule_init
  F_l_bag : Fun K "_law_bag" "_law_bag" s_l_bag A.l_bag A.fd_l_bag
  b_l_bag : Binds K A.fd_l_bag P_l_bag []
  g__law_bag : mg "_law_bag" = some (.ref A.l_bag)
  F_l_draw : Fun K "_law_draw" "_law_draw" s_l_draw A.l_draw A.fd_l_draw
  b_l_draw : Binds K A.fd_l_draw P_l_draw []
  g__law_draw : mg "_law_draw" = some (.ref A.l_draw)
  F_l_told : Fun K "_law_told" "_law_told" s_l_told A.l_told A.fd_l_told
  b_l_told : Binds K A.fd_l_told P_l_told []
  g__law_told : mg "_law_told" = some (.ref A.l_told)
  F_f_law : Fun K "law" "law" s_f_law A.f_law A.fd_f_law
  b_f_law : Binds K A.fd_f_law P_f_law []
  g_law : mg "law" = some (.ref A.f_law)
/-- a word that the steps don't open -/
structure Wd (p : Prop) : Prop where
  ok : p
section
variable {X : Cx}
def tG (t : TS) : TS := fun D σ H => Wd (t D σ H)
def tGE (t : TE) : TE := fun σ H Q => Wd (t σ H Q)
theorem ps_g {st : Stmt} {t : TS} (h : PS X st t) : PS X st (tG t) := ⟨fun pins s σ H D I hw => h.run pins s σ H D I hw.ok⟩
theorem pss_g {st : List Stmt} {t : TS} (h : PSs X st t) : PSs X st (tG t) := ⟨fun pins s σ H D I hw => h.run pins s σ H D I hw.ok⟩
theorem pe_g {e : Expr} {t : TE} (h : PE X e t) : PE X e (tGE t) := ⟨fun pins s σ H Q I hw => h.run pins s σ H Q I hw.ok⟩
end
theorem if_int {i j : Int} {A B : Prop} (h1 : i = j → A) (h2 : i ≠ j → B) : if decide (V.int i = V.int j) = true then A else B := by
  by_cases e : i = j
  · rw [if_pos (decide_eq_true (congrArg V.int e))]
    exact h1 e
  · rw [if_neg fun z => e (V.int.inj (of_decide_eq_true z))]
    exact h2 e
theorem if_intN {i j : Int} {A B : Prop} (h1 : i ≠ j → A) (h2 : i = j → B) : if (!decide (V.int i = V.int j)) = true then A else B := by
  by_cases e : i = j
  · rw [decide_eq_true (congrArg V.int e)]
    exact iteF (h2 e)
  · rw [decide_eq_false fun z => e (V.int.inj z)]
    exact iteT (h1 e)
theorem if_dec {p A B : Prop} [Decidable p] (h1 : p → A) (h2 : ¬ p → B) : if decide p = true then A else B := by
  by_cases e : p
  · rw [if_pos (decide_eq_true e)]
    exact h1 e
  · rw [if_neg fun z => e (of_decide_eq_true z)]
    exact h2 e
theorem ifT {p A B : Prop} [Decidable p] (hp : p) (h : A) : if decide p = true then A else B := by
  rw [if_pos (decide_eq_true hp)]
  exact h
theorem ifF {p A B : Prop} [Decidable p] (hp : ¬ p) (h : B) : if decide p = true then A else B := by
  rw [if_neg fun z => hp (of_decide_eq_true z)]
  exact h
theorem ifNT {p A B : Prop} [Decidable p] (hp : p) (h : B) : if (!decide p) = true then A else B := by
  rw [decide_eq_true hp]
  exact iteF h
theorem ifNF {p A B : Prop} [Decidable p] (hp : ¬ p) (h : A) : if (!decide p) = true then A else B := by
  rw [decide_eq_false hp]
  exact iteT h
theorem if_bl {b : Bool} {A B : Prop} (h1 : b = true → A) (h2 : b = false → B) : if b = true then A else B := by
  cases b with
  | true => exact h1 rfl
  | false => exact iteF (h2 rfl)
/-- all but what stands at g is kept -/
def Kp (g : Addr) (H H' : Hp) : Prop := ∀ b o, H b = some o → b ≠ g → H' b = some o
theorem Kp.refl (g : Addr) (H : Hp) : Kp g H H := fun _ _ h _ => h
theorem Kp.trans {g : Addr} {H H1 H2 : Hp} (a : Kp g H H1) (b : Kp g H1 H2) : Kp g H H2 := fun c o h n => b c o (a c o h n) n
theorem Kp.up {g : Addr} {H H' : Hp} {o : HO} (k : Kp g H H') : Kp g H (upd H' g o) := fun b u e n => by
  rw [upd_ne n]
  exact k b u e n

/-! ### the bag of draws -/
structure Bag (H : Hp) (g l : Addr) : Prop where
  ex : ∃ (i r s c : Int) (ns : List Int), H g = some (.lst [.ref l, .int i, .int r, .int s, .int c]) ∧ H l = some (.lst (ns.map V.int)) ∧ 0 ≤ i
def spDraw : Sp := fun vs H Q _ => ∃ (g l : Addr) (z : Int), vs = [.ref g, .int z] ∧ Bag H g l ∧ 0 < z ∧ z.natAbs < 2 ^ 9000 ∧
  ∀ (n : Int) (H' : Hp), 0 ≤ n → n < z → Bag H' g l → Kp g H H' → Q (.int n) H'
theorem at_ints {ns : List Int} {i : Int} (h0 : 0 ≤ i) (h1 : i < (ns.length : Int)) : ∃ n, atI (ns.map V.int) i = some (.int n) := by
  obtain ⟨j, rfl⟩ := Int.eq_ofNat_of_zero_le h0
  have hj : j < ns.length := by omega
  exact ⟨ns[j], atI_nat (by rw [List.getElem?_map, List.getElem?_eq_getElem hj]; rfl)⟩
theorem cmul_r {i j : Int} (h : -(2 ^ 64) < j ∧ j < 2 ^ 64) : CMul i j := .inr h
theorem cmul_l {i j : Int} (h : -(2 ^ 64) < i ∧ i < 2 ^ 64) : CMul i j := .inl h
theorem cpow_of {i j : Int} (h1 : 0 ≤ j ∧ j ≤ 1000000) (h2 : -(2 ^ 63) < i ∧ i < 2 ^ 63) : CPow i j := ⟨h1.1, h1.2, by omega⟩
section
variable {P : Program} {w : World} {K : PySem.W.Frag} {mg : Str → Option Value} {base : Heap} {A : Ad}
theorem ok_l_draw (T : Txt K mg A) : FnOk P w K mg base CX0 1 A.l_draw A.fd_l_draw P_l_draw spDraw := by
  refine T.F_l_draw.ok sc_l_draw (fun vs H Q E h => ?_) (fun cdv Ar outer s H vs Q E hr h => ?_)
  · obtain ⟨g, l, z, rfl, _⟩ := h
    rfl
  · obtain ⟨g, l, z, rfl, ⟨i, r, sd, c, ns, hg, hl, hi⟩, hz, hz2, k⟩ := h
    have nlg : l ≠ g := ne_of hl hg (by intro q; cases ns <;> cases q)
    refine ⟨_, (pss_cons (ps_asg (pe_op op_add (pe_ix ix_list (pv 0) pe_int (fun _ _ => rfl)) pe_int) (pg_sub (pv 0) pe_int set_list))
      (pss_g (Evl.pss_cut (ps_if (PW.pt (pw_and (pt_cmpR op_eq (pe_ix ix_list (pv 0) pe_int (fun _ _ => rfl)) pe_int (nomark _)) (pw_and1 (pt_cmpR op_lt (pe_ix ix_list (pv 0) pe_int (fun _ _ => rfl)) (pe_callB call_len_seq (by rfl) T.z_len (by decide +kernel) (pa_cons (pe_ix ix_list (pv 0) pe_int (fun _ _ => rfl)) pa_nil)) (nomark _))))) (pss_cons (ps_set (i := 2) sc_l_draw.nd rfl (Or.inl rfl) (pe_ix ix_list (pe_ix ix_list (pv 0) pe_int (fun _ _ => rfl)) (pe_ix ix_list (pv 0) pe_int (fun _ _ => rfl)) (fun _ _ => rfl)))
      (pss_cons (ps_asg (pe_op op_add (pe_ix ix_list (pv 0) pe_int (fun _ _ => rfl)) pe_int) (pg_sub (pv 0) pe_int set_list))
      (pss_cons (ps_asg (pe_op op_mul (pe_op op_add (pe_op op_mul pe_int (pe_callB call_abs (by rfl) T.z_abs (by decide +kernel) (pa_cons (pv 2) pa_nil))) (pe_callTy call_int1 (by rfl) T.z_int (by decide +kernel) (pa_cons (pe_cmpR op_lt (pv 2) pe_int (nomark _)) pa_nil))) (pe_callTy call_int1 (by rfl) T.z_int (by decide +kernel) (pa_cons (pe_cmpR op_ge (pe_callB call_abs (by rfl) T.z_abs (by decide +kernel) (pa_cons (pv 2) pa_nil)) (pe_op op_pow pe_int pe_int) (nomark _)) pa_nil))) (pg_sub (pv 0) pe_int set_list))
      (pss_one (ps_asg (pe_op op_mod (pe_callTy call_int1 (by rfl) T.z_int (by decide +kernel) (pa_cons (pe_op op_add (pe_op op_add (pe_op op_mul (pe_ix ix_list (pv 0) pe_int (fun _ _ => rfl)) pe_int) (pe_op op_mul (pv 2) pe_int)) pe_int) pa_nil)) pe_int) (pg_sub (pv 0) pe_int set_list)))))) pss_nil)
      (pss_cons (ps_set (i := 3) sc_l_draw.nd rfl (Or.inl rfl) (pe_op op_mod (pe_callTy call_int1 (by rfl) T.z_int (by decide +kernel) (pa_cons (pe_ix ix_list (pv 0) pe_int (fun _ _ => rfl)) pa_nil)) (pv 1)))
      (pss_cons (ps_if (pt_cmpR op_gt (pe_ix ix_list (pv 0) pe_int (fun _ _ => rfl)) pe_int (nomark _)) (pss_cons (ps_asg (pe_op op_fdivW (pe_ix ix_list (pv 0) pe_int (fun _ _ => rfl)) (pv 1)) (pg_sub (pv 0) pe_int set_list))
      (pss_one (ps_ret (pv 3)))) pss_nil)
      (pss_cons (ps_set (i := 4) sc_l_draw.nd rfl (Or.inl rfl) (pe_op op_mod (pe_callTy call_int1 (by rfl) T.z_int (by decide +kernel) (pa_cons (pe_op op_add (pe_ix ix_list (pv 0) pe_int (fun _ _ => rfl)) (pe_op op_mul (pe_ix ix_list (pv 0) pe_int (fun _ _ => rfl)) pe_int)) pa_nil)) pe_int))
      (pss_cons (ps_set (i := 4) sc_l_draw.nd rfl (Or.inl rfl) (pe_op op_mod (pe_callTy call_int1 (by rfl) T.z_int (by decide +kernel) (pa_cons (pe_op op_add (pe_op op_add (pe_op op_pow (pv 4) pe_int) (pe_op op_mul (pe_ix ix_list (pv 0) pe_int (fun _ _ => rfl)) pe_int)) pe_int) pa_nil)) pe_int))
      (pss_one (ps_ret (pe_op op_mod (pe_op op_fdiv (pe_op op_mod (pe_callTy call_int1 (by rfl) T.z_int (by decide +kernel) (pa_cons (pe_op op_pow (pv 4) pe_int) pa_nil)) pe_int) pe_int) (pv 1))))))))))), ?_⟩
    refine ⟨_, rfl, g, _, _, _, rfl, rfl, SqL.of hg, rfl, _, _, rfl, rfl, _, rfl, g, _, _, _, rfl, rfl, hg, rfl, ?_⟩
    refine ⟨⟨fun σ' H' => Wd (∃ (i r s c : Int) (v : Option V), σ' = [some (.ref g), some (.int z), v, none, none] ∧ 0 ≤ i ∧ H' g = some (.lst [.ref l, .int i, .int r, .int s, .int c]) ∧ H' l = some (.lst (ns.map V.int)) ∧ Kp g H H'), ?_, ?_⟩⟩
    · walk_at "go"
      refine if_int (fun e0 => ?_) (fun e0 => ?_)
      · walk_at "go"
        refine if_dec (fun e1 => ?_) (fun e1 => ?_)
        · obtain ⟨n, hn⟩ := at_ints (ns := ns) hi (by simpa using e1)
          walk_at "go"
          exact ⟨i + 1, _, _, c + 1, _, rfl, by omega, upd_same, by walk_at "at", (((Kp.refl g H).up.up.up.up))⟩
        · exact ⟨i, r, sd, c + 1, none, rfl, hi, upd_same, by walk_at "at", (Kp.refl g H).up⟩
      · refine iteF ?_
        exact ⟨i, r, sd, c + 1, none, rfl, hi, upd_same, by walk_at "at", (Kp.refl g H).up⟩
    · rintro σ' H' ⟨i, r, s, c, v, rfl, hi, hg, hl, kp⟩
      walk_at "go"
      refine if_dec (fun e1 => ?_) (fun e1 => ?_)
      · walk_at "go"
        exact k _ _ (Int.emod_nonneg _ (by omega)) (Int.emod_lt_of_pos _ hz) ⟨i, _, s, c, ns, upd_same, by walk_at "at", hi⟩ kp.up
      · walk_at "go"
        exact k _ _ (Int.emod_nonneg _ (by omega)) (Int.emod_lt_of_pos _ hz) ⟨i, r, s, c, ns, hg, hl, hi⟩ kp
end

/-! ### calls in the body of a try: what they raise is wished for at the slots as they stand -/
section
open PySem.Spec PyProof.Rows
variable {X : Cx} {CX : CXT} {k : Nat} {f C : Addr} {fd : FuncData} {ps : List Str} {sp : Sp} {dvs : List V} {ds : List Value} {E : L2.St → XK} {x m : Str} {p pos apos : Pos} {e o : Expr} {es : List Expr} {ta : TE} {t : TA}
theorem run_mkS {pins : List (Addr × Obj)} {σ : L2.St} {H : Hp} {s : Shared} {Q : VK} {us : List Value} {vs : List V} (M : Mk X.K C f) (F : FnOk X.prog X.w X.K X.mg X.base CX k f fd ps sp)
    (hr : Room (k + 1) X.A) (hb : Binds X.K fd ps ds) (hd : Vals dvs ds) (hx : PassesAt CX X σ (E σ)) (I : Inv X pins σ H s) (r : Vals vs us)
    (h : ∀ x dx, H x = none → H dx = none → dx ≠ x → sp (.ref x :: (vs ++ dvs)) (upd (upd H dx (.own x)) x (.ins C dx [])) (fun v H2 => v = .non ∧ Q (.ref x) H2) (E σ)) :
    wpAny (model X.prog X.w) X.A (call (.ref C) us) (EP X pins σ Q) X.xe s := by
  have a1 := h (s.heap.objs.size + 1) s.heap.objs.size (I.hok.fresh (Nat.le_succ _)) (I.hok.fresh (Nat.le_refl _)) (Nat.ne_of_lt (Nat.lt_succ_self _))
  have J := Inv.made (C := C) I
  have a2 : Vals (V.ref (s.heap.objs.size + 1) :: (vs ++ dvs)) (Value.ref (s.heap.objs.size + 1) :: (us ++ ds)) := .cons rfl (r.append hd)
  have a3 : (Value.ref (s.heap.objs.size + 1) :: us ++ ds).length = ps.length := by
    have z := a2.length
    rw [F.len _ _ _ _ a1] at z
    exact z.symm
  refine wpAny_call (make_map (f := f) I.kIn M.makes M.init (beq_iff_eq.mp M.fn) (codeAny_mono (F.run _ X.stack _ _ ⟨Value.ref (s.heap.objs.size + 1) :: us, []⟩
    (Value.ref (s.heap.objs.size + 1) :: (us ++ ds)) _ _ (E σ) (hr.make C us []) (J.env0.make C us []) (hb _ (Value.ref (s.heap.objs.size + 1) :: us) J.kIn a3) a2 a1) fun r s' z => ?_))
  cases r with
  | error u => exact hx pins _ _ u s' J z
  | ok fl =>
    cases fl with
    | ret u =>
      obtain ⟨v, H', J3, rv, ev, q3⟩ := J.after z
      subst ev
      exact ⟨rv, V.ref (s.heap.objs.size + 1), H', J3, rfl, q3⟩
    | next => exact z.elim
    | brk => exact z.elim
    | cont => exact z.elim
def tMakeS (C : Addr) (sp : Sp) (dvs : List V) (E : L2.St → XK) (t : TA) : TE := fun σ H Q => t σ H fun vs H1 => ∀ x dx, H1 x = none → H1 dx = none → dx ≠ x →
  sp (.ref x :: (vs ++ dvs)) (upd (upd H1 dx (.own x)) x (.ins C dx [])) (fun v H2 => v = .non ∧ Q (.ref x) H2) (E σ)
theorem pe_makeS (M : Mk X.K C f) (F : FnOk X.prog X.w X.K X.mg X.base CX k f fd ps sp) (hr : Room (k + 1) X.A) (hg : Gl X x) (hm : X.mg x = some (.ref C)) (hb : Binds X.K fd ps ds) (hd : Vals dvs ds) (hx : ∀ σ, PassesAt CX X σ (E σ))
    (ha : PA X (e :: es) t) (hdb : (x == ("__debug__" : Str)) = false := by decide) (he : starEach (e :: es) X.env = (false, eval e X.env) :: starEach es X.env := by rfl)
    (hpl : (backTo pos (starEach es X.env)).any (·.1) = false := by rfl) : PE X (.Call (.Name x p) (e :: es) [] pos) (tMakeS C sp dvs E t) := ⟨fun pins s σ H Q I h =>
  wpAny_Call_Name_kw (ld_glob I hg hm (PySem.W.callWith_K (h₀ := X.base) I.ok.mod.kin M.kp (thn (ha.run pos pins s σ H _ I h) fun us s1 ⟨vs, H1, I1, r, q⟩ => ⟨I1.kIn, run_mkS M F hr hb hd (hx σ) I1 r q⟩) he hpl) hdb)⟩
def tMethS (C : Addr) (m : Str) (sp : Sp) (E : L2.St → XK) (ta : TE) (t : TA) : TE := fun σ H Q => ta σ H fun x H1 => ∃ a dx fs, x = .ref a ∧ H1 a = some (.ins C dx fs) ∧ fs.lookup m = none ∧
  t σ H1 fun vs H2 => sp (.ref a :: vs) H2 Q (E σ)
theorem pe_methA {pl : Sem Bool} (he : PE X o ta) (c : Cls X.K C) (hm : Meth X.K C m f) (F : FnOk X.prog X.w X.K X.mg X.base CX k f fd ps sp) (hr : Room k X.A) (hb : Binds X.K fd ps []) (hx : ∀ σ, PassesAt CX X σ (E σ)) (ha : PA X (e :: es) t)
    (hst : starEach (e :: es) X.env = (false, eval e X.env) :: starEach es X.env := by rfl) (hpl : (backTo pos (starEach es X.env)).any (·.1) = false := by rfl)
    (ht : eval (.Call (.Attribute o m apos) (e :: es) [] pos) X.env = (eval o X.env >>= fun ov => standAt apos.atName >>= fun _ => holding [ov] (getMethod ov m pl) >>= fun (f, first) =>
      callWith pos f first (backTo pos (starEach (e :: es) X.env)) (backToKw pos (keywordEach [] X.env))) := by rfl) :
    PE X (.Call (.Attribute o m apos) (e :: es) [] pos) (tMethS C m sp E ta t) := by
  refine ⟨fun pins s σ H Q I h => ?_⟩
  refine PySem.W.methodCall_KW (pl := pl) (thn (he.run pins s σ H _ I h) fun u s1 ⟨x, H1, I1, rx, a, dx, fs, ex, ea, l, q⟩ => ?_) ht
  cases ex
  obtain rfl : u = Value.ref a := rx
  exact getmeth_ok I1 ea c hm l (PySem.W.callWith_K (first := [.ref a]) (h₀ := X.base) I.ok.mod.kin hm.kp (thn (ha.run pos pins s1 σ H1 _ I1 q) fun us s2 ⟨vs, H2, I2, r, q2⟩ =>
    ⟨I2.kIn, run_fnS (E := E) (us := .ref a :: us) (vs := .ref a :: vs) F hr hb (hx σ) I2 (.cons rfl r) q2⟩) hst hpl)

def oe0 : Obj := { cls := .none, data := .fields #[] }
variable {n : Str} {c : Value} {i : Nat} {body suite : List Stmt} {b0 : Stmt} {np pos' : Pos} {Wout : WX}
  {tb : WX → List (Addr × Obj) → (Value → Shared → Prop) → TS} {ts : Addr → Obj → Value → Option Addr → List (Addr × Obj) → TS}
/-- try: .. except x as n: .., the readings of the body and of the suite free of what they can't hang on (both shown by rfl) -/
theorem ps_tryV (hs : X.stack = X.env :: X.outer) (hf : X.env.frame = some X.env.locals) (hN : X.N.Nodup) (hi : X.N[i]? = some n) (hln : X.env.kindOf n = some .local) (hc : Names X x c) (tk : Takes X Wout)
    (hb : ∀ (W : WX) (pn : List (Addr × Obj)) (xe : Value → Shared → Prop), Takes (X.tr pn xe) W → PassesOwn (model X.prog X.w) X.A X.env xe → PSs (X.tr pn xe) body (tb W pn xe))
    (hsu : ∀ (a : Addr) (oe : Obj) (cls : Value) (d : Option Addr) (pn : List (Addr × Obj)), Zc cls d oe → (∃ vs, oe.data = .fields vs) → PSs (X.suite a ((a, oe) :: pn)) (b0 :: suite) (ts a oe cls d pn))
    (e1 : ∀ W pn xe, tb W pn xe = tb W [] (fun _ _ => False)) (e2 : ∀ a oe cls d pn, ts a oe cls d pn = ts a oe0 cls d []) :
    PS X (.Try body [.ExceptHandler (some (.Name x np)) (some n) (b0 :: suite) pos'] [] [] pos) (fun D σ H => tb (wAs X.K c i (fun a cls d => ts a oe0 cls d []) Wout D) [] (fun _ _ => False) D σ H) :=
  ps_try_as (tb := fun W => tb W [] (fun _ _ => False)) (ts := fun a cls d => ts a oe0 cls d []) hs hf hN hi hln hc tk (fun W pn xe k po => by rw [← e1 W pn xe]; exact hb W pn xe k po)
    (fun a oe cls d pn z f => by rw [← e2 a oe cls d pn]; exact hsu a oe cls d pn z f)
/-- isinstance(e, C) of the error that the suite holds, one without a dict of its own -/
def rIsEV (K : PySem.W.Frag) (cls : Value) (d : Option Addr) (a : Addr) : List V → Hp → VK → Prop := fun xs H Q => ∃ (D : Addr) (c : V) (cv : Value) (b : Bool), cls = .ref D ∧ d = none ∧ ExcC K D ∧ xs = [.ref a, c] ∧ (∀ u, RelV c u → u = cv) ∧ PySem.W.kitOne K (.ref D) cv = some b ∧ Q (.bl b) H
theorem call_isEV {a : Addr} {oe : Obj} {cls : Value} {d : Option Addr} {pn : List (Addr × Obj)} (hz : Zc cls d oe) (hf : ∃ vs, oe.data = .fields vs) : CallR (X.suite a ((a, oe) :: pn)) (.builtin "isinstance") (rIsEV X.K cls d a) := by
  intro pins s σ H xs us Q I r h
  obtain ⟨D, c, cv, b, rfl, rfl, C, h⟩ := h
  exact call_isE C hz hf pins s σ H xs us Q I r ⟨c, cv, b, h⟩
end
/-! ### list comprehensions: the readings of their parts free of what they can't hang on -/
section
open PySem.Spec PyProof.Rows
variable {X : Cx} {elt tg iter : Expr} {ifs : List Expr} {scope : Scope} {own : List (Str × Nat)} {pos spos py : Pos} {wi : TI} {i : Nat} {y : Str}
abbrev Bk (α : Type) := Shared → Hp → Addr → List (Str × Addr) → List Addr → α
abbrev Bk.at0 {α : Type} (f : Bk α) (X : Cx) : α := f X.s_0 X.H_0 0 [] []
variable {g : Bk TG} {tt : Bk TT} {te : Bk TE}
theorem pe_lcV (hc : X.calm = true) (hN : X.N.Nodup) (hi : PI X tg iter wi) (ok : BlkOk X.N X.env.scope scope own)
    (hg : ∀ s H C cl fp, PG (X.blk s H scope (compEnvC scope cl C X.env) fp) tg (g s H C cl fp)) (ht : ∀ s H C cl fp, PTs (X.blk s H scope (compEnvC scope cl C X.env) fp) ifs (tt s H C cl fp))
    (he : ∀ s H C cl fp, PE (X.blk s H scope (compEnvC scope cl C X.env) fp) elt (te s H C cl fp)) (e1 : ∀ s H C cl fp, g s H C cl fp = g.at0 X) (e2 : ∀ s H C cl fp, tt s H C cl fp = tt.at0 X)
    (e3 : ∀ s H C cl fp, te s H C cl fp = te.at0 X) (hs : ∀ x, foldedSetIterable iter X.env x = pure x := by intro _; rfl) :
    PE X (.ListComp elt [⟨tg, iter, ifs, 0⟩] scope pos) (tLc wi (g.at0 X) (tt.at0 X) (te.at0 X) (own.map (·.2))) :=
  pe_lc hc hN hi ok (fun s H C cl fp => by rw [← e1 s H C cl fp]; exact hg s H C cl fp) (fun s H C cl fp => by rw [← e2 s H C cl fp]; exact ht s H C cl fp) (fun s H C cl fp => by rw [← e3 s H C cl fp]; exact he s H C cl fp) hs
theorem ps_setLcV (hc : X.calm = true) (hN : X.N.Nodup) (hy : X.N[i]? = some y) (hyl : X.env.scope.names.lookup y = some .local)
    (hsw : swapsWith (.ListComp elt [⟨tg, iter, ifs, 0⟩] scope pos) (some (.Name y py)) spos.line X.env = pure true) (hi : PI X tg iter wi) (ok : BlkOk X.N X.env.scope scope own)
    (hg : ∀ s H C cl fp, PG (X.blk s H scope (compEnvC scope cl C X.env) fp) tg (g s H C cl fp)) (ht : ∀ s H C cl fp, PTs (X.blk s H scope (compEnvC scope cl C X.env) fp) ifs (tt s H C cl fp))
    (he : ∀ s H C cl fp, PE (X.blk s H scope (compEnvC scope cl C X.env) fp) elt (te s H C cl fp)) (e1 : ∀ s H C cl fp, g s H C cl fp = g.at0 X) (e2 : ∀ s H C cl fp, tt s H C cl fp = tt.at0 X)
    (e3 : ∀ s H C cl fp, te s H C cl fp = te.at0 X) (hs : ∀ x, foldedSetIterable iter X.env x = pure x := by intro _; rfl) :
    PS X (.Assign [.Name y py] (.ListComp elt [⟨tg, iter, ifs, 0⟩] scope pos) spos) (tAsg (tLc wi (g.at0 X) (tt.at0 X) (te.at0 X) (own.map (·.2))) (gName i)) :=
  ps_setLc hc hN hy hyl hsw hi ok (fun s H C cl fp => by rw [← e1 s H C cl fp]; exact hg s H C cl fp) (fun s H C cl fp => by rw [← e2 s H C cl fp]; exact ht s H C cl fp) (fun s H C cl fp => by rw [← e3 s H C cl fp]; exact he s H C cl fp) hs
end

/-! ### errors of own classes with fields -/
section
open PySem.Spec PyProof.Rows
variable {X : Cx} {CX : CXT} {k n : Nat} {f C CE : Addr} {fd : FuncData} {ps ks : List Str} {sp : Sp} {ds : List Value} {dvs : List V} {x : Str} {p p1 p2 pos : Pos} {e : Expr} {es : List Expr} {kws : List Keyword} {ta t tk : TA} {te : TE}
/-- B.__init__(self, ..), B an own class that has it from ValueError -/
theorem pe_ceinit {pl : Sem Bool} (hg : Gl X x) (hm : X.mg x = some (.ref CE)) (rd : PySem.W.readsIn X.K CE (.type "type") = true) (ga : PySem.W.specialIn X.K (.ref CE) "__getattribute__" = some (some (.builtin "type.__getattribute__")))
    (vV : PySem.W.findCls X.K (.ref CE) (.type "type") "__init__" = some (.val (.builtin "ValueError.__init__"))) (ha : PA X (e :: es) ta) (hdb : (x == ("__debug__" : Str)) = false := by decide)
    (hc : eval (.Call (.Attribute (.Name x p1) "__init__" p2) (e :: es) [] pos) X.env = (eval (.Name x p1) X.env >>= fun ov => standAt p2.atName >>= fun _ => holding [ov] (getMethod ov "__init__" pl) >>= fun (f, first) =>
      callWith pos f first (backTo pos (starEach (e :: es) X.env)) (backToKw pos (keywordEach [] X.env))) := by rfl)
    (he : starEach (e :: es) X.env = (false, eval e X.env) :: starEach es X.env := by rfl) (hpl : (backTo pos (starEach es X.env)).any (·.1) = false := by rfl) :
    PE X (.Call (.Attribute (.Name x p1) "__init__" p2) (e :: es) [] pos) (tVeI X.K ta) := by
  refine ⟨fun pins s σ H Q I h => ?_⟩
  refine PySem.W.methodCall_KW (ld_glob I hg hm ?_ hdb) hc
  refine PySem.W.method_cls I.kIn ga (PySem.W.cls_value I.kIn rd vV (by decide +kernel) ?_)
  refine callWith_method1 (first := []) (id := "ValueError.__init__") (thn (ha.run pos pins _ σ H _ (I.tok _) h) fun us s1 z => ?_) he hpl
  obtain ⟨vs, H1, J, r1, a, C, ws, rfl, hl, T, ea, q⟩ := z
  obtain ⟨u0, ur, rfl, ra, rr⟩ : ∃ u0 ur, us = u0 :: ur ∧ RelV (.ref a) u0 ∧ Vals ws ur := by
    cases r1 with
    | cons a1 b1 => exact ⟨_, _, rfl, a1, b1⟩
  obtain rfl : u0 = Value.ref a := ra
  exact oinit_ok T J ea (by rw [← rr.length, sizeLine_eq]; omega) fun s' J' => ⟨.non, H1, J', rfl, q⟩
/-- isinstance(e, C) of the error that the suite holds, one with a dict of its own -/
def rIsEW (K : PySem.W.Frag) (cls : Value) (d : Option Addr) (a : Addr) : List V → Hp → VK → Prop := fun xs H Q => ∃ (D dd : Addr) (fs : List (Str × V)) (c : V) (cv : Value) (b : Bool), cls = .ref D ∧ d = some dd ∧ H dd = some (.xd fs) ∧ ExcC K D ∧ xs = [.ref a, c] ∧
  (∀ u, RelV c u → u = cv) ∧ PySem.W.kitOne K (.ref D) cv = some b ∧ Q (.bl b) H
theorem call_isEW {a : Addr} {oe : Obj} {cls : Value} {d : Option Addr} {pn : List (Addr × Obj)} (hz : Zc cls d oe) (hf : ∃ vs, oe.data = .fields vs) : CallR (X.suite a ((a, oe) :: pn)) (.builtin "isinstance") (rIsEW X.K cls d a) := by
  intro pins s σ H xs us Q I r h
  obtain ⟨D, dd, fs, c, cv, b, rfl, rfl, hd, Z, rfl, hcv, hk, q⟩ := h
  obtain ⟨u1, u2, rfl, r1, r2⟩ : ∃ u1 u2, us = [u1, u2] ∧ RelV (.ref a) u1 ∧ RelV c u2 := by
    cases r with
    | cons a1 b1 =>
      cases b1 with
      | cons a2 b2 =>
        cases b2
        exact ⟨_, _, rfl, a1, a2⟩
  obtain rfl : u1 = Value.ref a := r1
  obtain rfl := hcv _ r2
  obtain ⟨hget, _⟩ := I.pin (a, oe) (List.mem_append_left _ List.mem_cons_self)
  obtain ⟨vs, hv⟩ := hf
  obtain ⟨mA, hns, _⟩ := (show ObjOk X.prog X.w H s.heap dd (.xd fs) from I.hok dd _ hd)
  obtain ⟨od, ho, _⟩ := lookIn_ns hns
  have J : PySem.W.InstAt s.heap a oe D (some od) := ⟨hget, hz.1, by unfold PySem.W.notCls; rw [hv] <;> rfl, by rw [hz.2]; exact ho⟩
  obtain ⟨cd, hcd, _⟩ := PySem.W.any_some Z.hd
  exact PySem.W.kia_one (PySem.W.kitx_exc (by rw [hcd]; rfl) Z.hg Z.hk Z.hs Z.ha Z.hn Z.ht Z.hm) I.kIn J hk (fun z => nomatch z) fun tk => ⟨.bl b, H, I.kept (t' := tk) fun _ _ z => z, rfl, q⟩
/-- C(.., k = v, ..) in the body of a try -/
def tMakeKS (C : Addr) (n m : Nat) (sp : Sp) (gV : List V → List V → List V) (E : L2.St → XK) (t tk : TA) : TE := fun σ H Q => t σ H fun vs H1 => tk σ H1 fun zs H2 => vs.length = n ∧ zs.length = m ∧ ∀ x dx, H2 x = none → H2 dx = none → dx ≠ x →
  sp (gV (.ref x :: vs) zs) (upd (upd H2 dx (.own x)) x (.ins C dx [])) (fun v H3 => v = .non ∧ Q (.ref x) H3) (E σ)
theorem pe_makeKS {g : List Value → List Value → List Value} {gV : List V → List V → List V} {E : L2.St → XK} (M : Mk X.K C f) (F : FnOk X.prog X.w X.K X.mg X.base CX k f fd ps sp) (hr : Room (k + 1) X.A) (hg : Gl X x) (hm : X.mg x = some (.ref C)) (hb : KBn X.K fd ps (n + 1) ks g gV)
    (hx : ∀ σ, PassesAt CX X σ (E σ)) (ha : PA X (e :: es) t) (hkw : PK X kws tk)
    (hall : (backToKw pos (keywordEach kws X.env)).all (·.1.isSome) = true := by rfl) (hks : (backToKw pos (keywordEach kws X.env)).filterMap (·.1) = ks := by rfl) (hdb : (x == ("__debug__" : Str)) = false := by decide)
    (he : starEach (e :: es) X.env = (false, eval e X.env) :: starEach es X.env := by rfl) (hpl : ((backTo pos (starEach (e :: es) X.env)).any (·.1) || (backToKw pos (keywordEach kws X.env)).any (·.1.isNone)) = false := by rfl) :
    PE X (.Call (.Name x p) (e :: es) kws pos) (tMakeKS C n ks.length sp gV E t tk) := by
  refine ⟨fun pins s σ H Q I h => wpAny_Call_Name_kw (ld_glob I hg hm (PySem.W.callWith_KW (h₀ := X.base) I.ok.mod.kin M.kp hall (thn (ha.run pos pins s σ H _ I h) fun us s1 z => ?_) hpl he) hdb)⟩
  obtain ⟨vs, H1, I1, r, q⟩ := z
  refine thn (hkw.run pos pins s1 σ H1 _ I1 q) fun ws s2 z => ?_
  obtain ⟨zs, H2, I2, rz, l1, l2, q2⟩ := z
  refine ⟨I2.kIn, ?_⟩
  rw [hks]
  have a1 := q2 (s2.heap.objs.size + 1) s2.heap.objs.size (I2.hok.fresh (Nat.le_succ _)) (I2.hok.fresh (Nat.le_refl _)) (Nat.ne_of_lt (Nat.lt_succ_self _))
  have J := Inv.made (C := C) I2
  have r1 : Vals (V.ref (s2.heap.objs.size + 1) :: vs) (Value.ref (s2.heap.objs.size + 1) :: us) := .cons rfl r
  refine wpAny_call (make_map (f := f) I2.kIn M.makes M.init (beq_iff_eq.mp M.fn) (codeAny_mono (F.run _ X.stack _ _ ⟨Value.ref (s2.heap.objs.size + 1) :: us, ks.zip ws⟩ (g (Value.ref (s2.heap.objs.size + 1) :: us) ws) _ _ (E σ) (hr.make C us (ks.zip ws))
    (J.env0.make C us (ks.zip ws)) (hb.to _ (Value.ref (s2.heap.objs.size + 1) :: us) ws J.kIn (by rw [List.length_cons, ← r.length, l1]) (rz.length.symm.trans l2)) (hb.rel r1 rz) a1) fun o s' z => ?_))
  cases o with
  | error u => exact hx σ pins _ _ u s' J z
  | ok fl =>
    cases fl with
    | ret u =>
      obtain ⟨v, H', J3, rv, ev, q3⟩ := J.after z
      subst ev
      exact ⟨rv, V.ref (s2.heap.objs.size + 1), H', J3, rfl, q3⟩
    | next => exact z.elim
    | brk => exact z.elim
    | cont => exact z.elim
end
/-- C.__init__(self, v): the error gets its dict with one field -/
def spExc1 (C : Addr) (f : Str) : Sp := fun vs H Q _ => ∃ (a : Addr) (v : V), vs = [.ref a, v] ∧ H a = some (exo a C none) ∧ ∀ d, H d = none → d ≠ a → Q .non (upd (upd H d (exd d [(f, v)])) a (exo a C (some d)))

/-! ### lists side by side -/
section
variable {α β : Type} {R S : α → β → Prop} {xs us : List α} {ys vs : List β} {x : α} {y : β} {i : Nat}
def All2 (R : α → β → Prop) (xs : List α) (ys : List β) : Prop := xs.length = ys.length ∧ ∀ (i : Nat) x y, xs[i]? = some x → ys[i]? = some y → R x y
theorem All2.nil : All2 R [] [] := ⟨rfl, fun i x y h => by simp at h⟩
theorem All2.mono (h : All2 R xs ys) (k : ∀ x y, R x y → S x y) : All2 S xs ys := ⟨h.1, fun i x y a b => k _ _ (h.2 i x y a b)⟩
theorem All2.cons (h : R x y) (k : All2 R xs ys) : All2 R (x :: xs) (y :: ys) := ⟨by rw [List.length_cons, List.length_cons, k.1], fun i a b ha hb => by
  cases i with
  | zero => simp at ha hb; subst ha; subst hb; exact h
  | succ i => simp at ha hb; exact k.2 i a b ha hb⟩
theorem All2.one (h : R x y) : All2 R [x] [y] := .cons h .nil
theorem All2.app (h : All2 R xs ys) (k : All2 R us vs) : All2 R (xs ++ us) (ys ++ vs) := ⟨by rw [List.length_append, List.length_append, h.1, k.1], fun i a b ha hb => by
  by_cases hi : i < xs.length
  · rw [List.getElem?_append_left hi] at ha
    rw [List.getElem?_append_left (by rw [← h.1]; exact hi)] at hb
    exact h.2 i a b ha hb
  · rw [List.getElem?_append_right (by omega)] at ha
    rw [List.getElem?_append_right (by rw [← h.1]; omega), ← h.1] at hb
    exact k.2 _ a b ha hb⟩
theorem All2.take (h : All2 R xs ys) (n : Nat) : All2 R (xs.take n) (ys.take n) := ⟨by rw [List.length_take, List.length_take, h.1], fun i a b ha hb => by
  rw [List.getElem?_take] at ha hb
  by_cases hi : i < n
  · rw [if_pos hi] at ha hb
    exact h.2 i a b ha hb
  · rw [if_neg hi] at ha
    cases ha⟩
theorem All2.drop (h : All2 R xs ys) (n : Nat) : All2 R (xs.drop n) (ys.drop n) := ⟨by rw [List.length_drop, List.length_drop, h.1], fun i a b ha hb => by
  rw [List.getElem?_drop] at ha hb
  exact h.2 _ a b ha hb⟩
theorem All2.get (h : All2 R xs ys) (hi : xs[i]? = some x) : ∃ y, ys[i]? = some y ∧ R x y := by
  have hl : i < ys.length := by
    rw [← h.1]
    exact (List.getElem?_eq_some_iff.mp hi).1
  have e : ys[i]? = some ys[i] := List.getElem?_eq_getElem hl
  exact ⟨_, e, h.2 i _ _ hi e⟩
theorem take_more {α : Type} {ys : List α} {y : α} {i : Nat} (h : ys[i]? = some y) : ys.take (i + 1) = ys.take i ++ [y] := by
  rw [List.take_add_one, h]
  rfl
end
section
open PySem.Spec PyProof.Rows
variable {X : Cx}
/-- one operator, two ways to read it -/
theorem op_mix {f : Value → Value → Sem Value} {r1 r2 : R2} (h1 : OpR X f r1) (h2 : OpR X f r2) : OpR X f (fun x y H Q => Wd (r1 x y H Q ∨ r2 x y H Q)) := by
  intro pins s σ H x y v u Q I rx ry h
  rcases h.ok with h | h
  · exact h1 pins s σ H x y v u Q I rx ry h
  · exact h2 pins s σ H x y v u Q I rx ry h
theorem vals_same {A : Around} {s : Shared} {xs : List V} (hx : ∀ x ∈ xs, flatB x = true ∨ ∃ a, x = .ref a) : ∀ {us ws : List Value}, Vals xs us → Vals xs ws → ∀ j (h1 : j < us.length) (h2 : j < ws.length), SeqAt.EqAt A s us[j] ws[j] true := by
  induction xs with
  | nil =>
    intro us ws r1 r2 j h1 h2
    cases r1
    exact absurd h1 (Nat.not_lt_zero j)
  | cons x xs ih =>
    intro us ws r1 r2 j h1 h2
    cases r1 with
    | cons a1 b1 =>
      cases r2 with
      | cons a2 b2 =>
        cases j with
        | zero =>
          rcases hx x List.mem_cons_self with f | ⟨a, rfl⟩
          · exact eqAt_same a1 a2 f
          · cases a1
            cases a2
            exact SeqAt.EqAt.same _
        | succ j => exact ih (fun y hy => hx y (List.mem_cons_of_mem _ hy)) b1 b2 j (Nat.lt_of_succ_lt_succ h1) (Nat.lt_of_succ_lt_succ h2)
/-- a != b, two lists of the same items -/
theorem op_neL (hu : X.A.units + 64 < cLine) : OpR X (compareOp .NotEq) (fun x y H Q => Wd (∃ (a b : Addr) (xs : List V), x = .ref a ∧ y = .ref b ∧ SqL X.K H a xs ∧ SqL X.K H b xs ∧ (∀ x ∈ xs, flatB x = true ∨ ∃ a, x = .ref a) ∧ Q (.bl false) H)) := by
  intro pins s σ H x y v u Q I rx ry h
  obtain ⟨a, b, xs, rfl, rfl, ha, hb, hx, q⟩ := h.ok
  cases rx
  cases ry
  obtain ⟨us, r1, p1, _⟩ := I.list ha
  obtain ⟨ws, r2, p2, _⟩ := I.list hb
  have hsz : us.toArray.size = ws.toArray.size := by
    rw [List.size_toArray, List.size_toArray, ← r1.length, ← r2.length]
  have k := SeqAt.RcNeAt.lists (A := X.A) (e := fun _ => true) p1.isList p2.isList hsz (by omega) (fun j h1 h2 => by
    have k := vals_same (A := X.A.in1) (s := s) hx r1 r2 j (by simpa using h1) (by simpa using h2)
    simpa using k)
  refine k X.prog X.w _ _ ?_
  rw [show ((List.range us.toArray.size).all fun _ => true) = true from List.all_eq_true.mpr fun _ _ => rfl]
  exact ⟨.bl false, H, I, rfl, q⟩
/-- a != b, two tuples of the same items -/
theorem op_neT (hu : X.A.units + 64 < cLine) : OpR X (compareOp .NotEq) (fun x y H Q => Wd (∃ (a b : Addr) (xs : List V), x = .ref a ∧ y = .ref b ∧ SqT X.K H a xs ∧ SqT X.K H b xs ∧ (∀ x ∈ xs, flatB x = true ∨ ∃ a, x = .ref a) ∧ Q (.bl false) H)) := by
  intro pins s σ H x y v u Q I rx ry h
  obtain ⟨a, b, xs, rfl, rfl, ha, hb, hx, q⟩ := h.ok
  cases rx
  cases ry
  obtain ⟨us, r1, p1, _⟩ := I.tuple ha
  obtain ⟨ws, r2, p2, _⟩ := I.tuple hb
  have hsz : us.toArray.size = ws.toArray.size := by
    rw [List.size_toArray, List.size_toArray, ← r1.length, ← r2.length]
  have k := SeqAt.RcNeAt.tuples (A := X.A) (e := fun _ => true) p1 p2 (by omega) (fun j h1 h2 => by
    have k := vals_same (A := X.A.in1) (s := s) hx r1 r2 j (by simpa using h1) (by simpa using h2)
    simpa using k)
  refine k X.prog X.w _ _ ?_
  refine ⟨.bl false, H, I, ?_, q⟩
  show Value.bool _ = Value.bool false
  simp [hsz]
end

/-! ### the law's own helpers: bag, integer, divisor, lowest -/
def spBag (K : PySem.W.Frag) : Sp := fun vs H Q _ => ∃ (a : Addr) (ns : List Int), vs = [.ref a] ∧ SqL K H a (ns.map V.int) ∧ ∀ (g l : Addr) (H' : Hp), Same H H' → H g = none → H l = none → Bag H' g l → Q (.ref g) H'
def spInteger : Sp := fun vs H Q _ => ∃ g l : Addr, vs = [.ref g] ∧ Bag H g l ∧ ∀ (n : Int) (H' : Hp), n.natAbs ≤ 10 ^ 49 → Bag H' g l → Kp g H H' → Q (.int n) H'
def spLowest : Sp := fun vs H Q _ => ∃ t b : Int, vs = [.int t, .int b] ∧ b ≠ 0 ∧ b.natAbs < 2 ^ 9000 ∧ ∀ p, H p = none → Q (.ref p) (upd H p (.tup [.int (Rat.divInt t b).num, .int ((Rat.divInt t b).den : Int)]))
theorem Bag.keep {H H' : Hp} {g l : Addr} (b : Bag H g l) (s : Same H H') : Bag H' g l := by
  obtain ⟨i, r, sd, c, ns, hg, hl, hi⟩ := b
  exact ⟨i, r, sd, c, ns, s _ _ hg, s _ _ hl, hi⟩
theorem Bag.lst {H : Hp} {g l : Addr} (b : Bag H g l) : ∃ xs, H g = some (.lst xs) := by
  obtain ⟨i, r, sd, c, ns, hg, hl, hi⟩ := b
  exact ⟨_, hg⟩
theorem Bag.ne {H : Hp} {g l p : Addr} (b : Bag H g l) (hp : H p = none) : p ≠ g ∧ p ≠ l := by
  obtain ⟨i, r, sd, c, ns, hg, hl, hi⟩ := b
  exact ⟨(ne_of_none hg hp).symm, (ne_of_none hl hp).symm⟩
/-- a bag stands where nothing of it is written -/
theorem Bag.put {H : Hp} {g l p : Addr} {o : HO} (b : Bag H g l) (n : p ≠ g ∧ p ≠ l) : Bag (upd H p o) g l := by
  obtain ⟨i, r, sd, c, ns, hg, hl, hi⟩ := b
  exact ⟨i, r, sd, c, ns, by rw [upd_ne n.1.symm]; exact hg, by rw [upd_ne n.2.symm]; exact hl, hi⟩
theorem Bag.new {H : Hp} {g l p : Addr} {o : HO} (b : Bag H g l) (hp : H p = none) : Bag (upd H p o) g l := b.keep fun c u e => by
  rw [upd_ne (ne_of_none e hp)]
  exact e
theorem Kp.new {g p : Addr} {H H' : Hp} {o : HO} (k : Kp g H H') (hp : H' p = none) : Kp g H (upd H' p o) := fun b u e n => by
  have e1 := k b u e n
  rw [upd_ne (ne_of_none e1 hp)]
  exact e1
theorem Kp.put {g p : Addr} {H H' : Hp} {o : HO} (k : Kp g H H') (hp : H p = none) : Kp g H (upd H' p o) := fun b u e n => by
  rw [upd_ne (ne_of_none e hp)]
  exact k b u e n
theorem Kp.same {g : Addr} {H H' : Hp} (s : Same H H') : Kp g H H' := fun b u e _ => s b u e
theorem Same.new {H : Hp} {p : Addr} {o : HO} (hp : H p = none) : Same H (upd H p o) := fun b u e => by
  rw [upd_ne (ne_of_none e hp)]
  exact e
theorem size_at {c : Int} (h0 : 0 ≤ c) (h6 : c < 6) (hc : c ≠ 0) : ∃ z : Int, atI [V.int 1, V.int 2, V.int 3, V.int 12, V.int 1000, V.int (10 ^ (49 : Int).toNat)] c = some (.int z) ∧ 0 < z ∧ z ≤ 10 ^ 49 := by
  have : c = 1 ∨ c = 2 ∨ c = 3 ∨ c = 4 ∨ c = 5 := by omega
  rcases this with rfl | rfl | rfl | rfl | rfl
  · exact ⟨2, rfl, by decide, by decide⟩
  · exact ⟨3, rfl, by decide, by decide⟩
  · exact ⟨12, rfl, by decide, by decide⟩
  · exact ⟨1000, rfl, by decide, by decide⟩
  · exact ⟨10 ^ 49, rfl, by decide, by decide⟩
theorem big49 : (10 : Nat) ^ 49 < 2 ^ 200 := by decide
theorem pow_mono {a b : Nat} (h : a ≤ b) : (2 : Nat) ^ a ≤ 2 ^ b := Nat.pow_le_pow_right (by decide) h
theorem lt_pow {n a b : Nat} (h : n < 2 ^ a) (hab : a ≤ b) : n < 2 ^ b := Nat.lt_of_lt_of_le h (pow_mono hab)
theorem lt200 {n : Nat} (h : n ≤ 10 ^ 49) : n < 2 ^ 200 := Nat.lt_of_le_of_lt h big49
theorem lt9000 {n : Nat} (h : n ≤ 10 ^ 49) : n < 2 ^ 9000 := lt_pow (lt200 h) (by decide)
def spLaw (K : PySem.W.Frag) : Sp := fun vs H Q _ => ∃ (a : Addr) (ns : List Int), vs = [.ref a] ∧ SqL K H a (ns.map V.int) ∧ ns.length ≤ 63 ∧ ∀ H', Q (.bl true) H'
theorem neD_same {K : PySem.W.Frag} {H : Hp} {p q : Addr} {a b : Int} {Q : VK} (hp : H p = some (.tup [.int a, .int b])) (hq : H q = some (.tup [.int a, .int b])) (h : Q (.bl false) H) : rNeD K (.ref p) (.ref q) H Q := by
  refine ⟨.tuple [.int a, .int b], .tuple [.int a, .int b], .tup (SqT.of hp) (.cons (.int a) (.cons (.int b) .nil)), .tup (SqT.of hq) (.cons (.int a) (.cons (.int b) .nil)), rfl, rfl, ?_⟩
  have e : PyData.eqv (.tuple [.int a, .int b]) (.tuple [.int a, .int b]) = true := by simp [PyData.eqv, PyData.eqvAll]
  rw [e]
  exact h
theorem or_go {K : PySem.W.Frag} {H : Hp} {σ : L2.St} {Q : VK} {n d : Int} (hd : d ≠ 0) (h : ∀ m : Int, m ≠ 0 → (m = n ∨ m = d) → Q (.int m) H) : ∃ k, TruV K (.int n) H k ∧ if k = true then Q (.int n) H else tC (.int d) σ H Q := by
  by_cases e : n = 0
  · exact ⟨false, by rw [e]; rfl, iteF (h d hd (.inr rfl))⟩
  · exact ⟨true, (show true = (n != 0) by simp [e]), iteT (h n e (.inl rfl))⟩
theorem kit_self {K : PySem.W.Frag} {C : Addr} : PySem.W.kitOne K (.ref C) (.ref C) = some true := by simp [PySem.W.kitOne]
def spNumber : Sp := fun vs H Q _ => ∃ n : Int, vs = [.int n] ∧ Q (.bl true) H
section
variable {P : Program} {w : World} {K : PySem.W.Frag} {mg : Str → Option Value} {base : Heap} {A : Ad}
theorem ok_l_bag (T : Txt K mg A) : FnOk P w K mg base CX0 1 A.l_bag A.fd_l_bag P_l_bag (spBag K) := by
  refine T.F_l_bag.ok sc_l_bag (fun vs H Q E h => ?_) (fun cdv Ar outer s H vs Q E hr h => ?_)
  · obtain ⟨a, ns, rfl, _⟩ := h
    rfl
  · obtain ⟨a, ns, rfl, hS, k⟩ := h
    refine ⟨_, (pss_one (ps_ret (pe_lst (pa_cons (pe_callTy call_list_of (by rfl) T.z_list (by decide +kernel) (pa_cons (pv 0) pa_nil)) (pa_cons pe_int (pa_cons pe_int (pa_cons pe_int (pa_cons pe_int pa_nil)))))))), ?_⟩
    refine ⟨_, rfl, a, _, rfl, .inl hS, fun l hl => ⟨by walk_at "fact", fun g hg => ?_⟩⟩
    have nlg : l ≠ g := fun z => by
      rw [z, upd_same] at hg
      cases hg
    have hg0 : H g = none := by
      rw [upd_ne nlg.symm] at hg
      exact hg
    exact k g l _ ((Same.new hl).trans (Same.new hg)) hg0 hl ⟨0, 0, 17, 0, ns, upd_same, by rw [upd_ne nlg]; exact upd_same, by decide⟩
end

def inT (v : V) : Bool := inV v [.str "oldest", .str "newest", .str "even"]
def inS (v : V) : Bool := inV v [.str "own", .str "top", .str "bottom"]
def numV : V → Bool
  | .int n => decide (0 ≤ n) && decide (n ≤ 1000000)
  | _ => false
/-- the first wrong one -/
def badW (t p n : V) : Option Str := if inT t then (if inS p then (if numV n then none else some "period") else some "place") else some "take"
/-- a plain value: an int, a text or nothing -/
inductive Pl : V → Prop
  | int (i : Int) : Pl (.int i)
  | str (s : Str) : Pl (.str s)
  | non : Pl .non
theorem Pl.flat {v : V} (h : Pl v) : flatV v = true := by cases h <;> rfl
def spNum : Sp := fun vs H Q _ => ∃ v : V, vs = [v, .int 0] ∧ Pl v ∧ Q (.bl (numV v)) H
def rlF (t p n : V) : List (Str × V) := putF "period" n (putF "place" p (putF "take" t []))
theorem rl_take (t p n : V) : (rlF t p n).lookup ("take" : Str) = some t := by
  unfold rlF
  rw [lookup_putF, if_neg (by decide +kernel), lookup_putF, if_neg (by decide +kernel), lookup_putF, if_pos rfl]
theorem rl_place (t p n : V) : (rlF t p n).lookup ("place" : Str) = some p := by
  unfold rlF
  rw [lookup_putF, if_neg (by decide +kernel), lookup_putF, if_pos rfl]
theorem rl_period (t p n : V) : (rlF t p n).lookup ("period" : Str) = some n := by
  unfold rlF
  rw [lookup_putF, if_pos rfl]
def spRule (C CE : Addr) : Sp := fun vs H Q E => ∃ (x dx : Addr) (t p n : V), vs = [.ref x, t, p, n] ∧ H x = some (.ins C dx []) ∧ Pl t ∧ Pl p ∧ Pl n ∧
  (∀ w, badW t p n = some w → ∀ d H', Same H H' → H' d = some (.xd [("word", .str w)]) → E (.ref CE) (some d) H') ∧ (badW t p n = none → Q .non (upd H x (.ins C dx (rlF t p n))))
theorem same_raise {H : Hp} {a d : Addr} {C : Addr} {fs : List (Str × V)} (ha : H a = none) (hd : H d = none) : Same H (upd (del (upd (upd (upd H a (exo a C none)) d (exd d fs)) a (exo a C (some d))) a) d (.xd fs)) := fun b o e => by
  have n1 := ne_of_none e ha
  have n2 := ne_of_none e hd
  rw [upd_ne n2, del_ne n1, upd_ne n1, upd_ne n2, upd_ne n1]
  exact e
/-- raise C(v) -/
theorem mk_exc1 {C : Addr} {f : Str} {v : V} {H : Hp} {Q : XK} (h : ∀ d H', Same H H' → H' d = some (.xd [(f, v)]) → Q (.ref C) (some d) H') {a : Addr} (ha : H a = none) :
    spExc1 C f [.ref a, v] (upd H a (exo a C none)) (fun v H2 => v = .non ∧ ∃ (d : Addr) (fs : List (Str × V)), H2 a = some (exo a C (some d)) ∧ H2 d = some (exd d fs) ∧ H d = none ∧ Q (.ref C) (some d) (upd (del H2 a) d (.xd fs))) (fun _ _ _ => False) := by
  refine ⟨a, v, rfl, upd_same, fun d hd nd => ?_⟩
  have hd0 : H d = none := by
    rw [upd_ne nd] at hd
    exact hd
  exact ⟨rfl, d, _, upd_same, by rw [upd_ne nd, upd_same], hd0, h d _ (same_raise ha hd0) upd_same⟩
section
variable {P : Program} {w : World} {K : PySem.W.Frag} {mg : Str → Option Value} {base : Heap} {A : Ad}
theorem ok_m_BadRule_init (T : Txt K mg A) : FnOk P w K mg base CX0 3 A.m_BadRule_init A.fd_m_BadRule_init P_m_BadRule_init (spExc1 A.BadRule "word") := by
  refine T.F_m_BadRule_init.ok sc_m_BadRule_init (fun vs H Q E h => ?_) (fun cdv Ar outer s H vs Q E hr h => ?_)
  · obtain ⟨a, v, rfl, _⟩ := h
    rfl
  · obtain ⟨a, v, rfl, ha, k⟩ := h
    refine ⟨_, (pss_cons (ps_expr (pe_ceinit (by rfl) T.g_CostError T.rd_CostError T.cg_CostError T.vi_CostError (pa_cons (pv 0) (pa_cons pe_str pa_nil))))
      (pss_one (ps_ost (pv 0) (pv 1)))), ?_⟩
    refine ⟨_, rfl, a, A.BadRule, _, rfl, by show 1 ≤ 1000; decide, T.ox_BadRule, ha, ?_⟩
    exact ⟨_, rfl, _, rfl, a, A.BadRule, rfl, T.ox_BadRule, T.n_BadRule_word, .inl ⟨ha, k⟩⟩
theorem ok_f_is_number (T : Txt K mg A) : FnOk P w K mg base CX0 1 A.f_is_number A.fd_f_is_number P_f_is_number spNum := by
  refine T.F_f_is_number.ok sc_f_is_number (fun vs H Q E h => ?_) (fun cdv Ar outer s H vs Q E hr h => ?_)
  · obtain ⟨v, rfl, _⟩ := h
    rfl
  · obtain ⟨v, rfl, hv, k⟩ := h
    refine ⟨_, (pss_one (ps_ret (pe_and (pe_callB call_isi (by rfl) T.z_isinstance (by decide +kernel) (pa_cons (pv 0) (pa_cons (pe_bltn (v := .ty "int") (by rfl) T.z_int (by decide +kernel) rfl) pa_nil))) (pe_and (pe_not (pe_callB call_isi (by rfl) T.z_isinstance (by decide +kernel) (pa_cons (pv 0) (pa_cons (pe_bltn (v := .ty "bool") (by rfl) T.z_bool (by decide +kernel) rfl) pa_nil)))) (pe_one (pe_chain op_le op_le (pv 1) (pv 0) (pe_glob (v := .int 1000000) (by rfl) T.g_MOST.choose_spec ⟨_, rfl⟩))))))), ?_⟩
    cases hv with
    | int i =>
      refine ⟨_, rfl, _, _, _, _, _, rfl, .ty "int", .base (.int i), kit_ty (b := "int") (r := true) (by decide +kernel), true, rfl, iteT ?_⟩
      refine ⟨_, rfl, _, _, _, _, _, rfl, .ty "bool", .base (.int i), kit_ty (b := "bool") (r := false) (by decide +kernel), ?_⟩
      refine ⟨_, rfl, true, rfl, iteT ?_⟩
      by_cases h0 : 0 ≤ i
      · refine ⟨_, rfl, _, rfl, _, _, rfl, rfl, true, congrArg V.bl (decide_eq_true h0), iteT ?_⟩
        have e : numV (.int i) = decide (i ≤ 1000000) := by
          show (decide (0 ≤ i) && decide (i ≤ 1000000)) = _
          rw [decide_eq_true h0, Bool.true_and]
        rw [e] at k
        exact ⟨_, _, rfl, rfl, k⟩
      · refine ⟨_, rfl, _, rfl, _, _, rfl, rfl, false, congrArg V.bl (decide_eq_false h0), iteF ?_⟩
        have e : numV (.int i) = false := by
          show (decide (0 ≤ i) && decide (i ≤ 1000000)) = _
          rw [decide_eq_false h0, Bool.false_and]
        rw [e] at k
        exact k
    | str z => exact ⟨_, rfl, _, _, _, _, _, rfl, .ty "int", .base (.str z), kit_ty (b := "int") (r := false) (by decide +kernel), false, rfl, iteF k⟩
    | non => exact ⟨_, rfl, _, _, _, _, _, rfl, .ty "int", .base .non, kit_ty (b := "int") (r := false) (by decide +kernel), false, rfl, iteF k⟩
theorem ok_m_Rule_init (T : Txt K mg A) : FnOk P w K mg base (L2.CX P w) 5 A.m_Rule_init A.fd_m_Rule_init P_m_Rule_init (spRule A.Rule A.BadRule) := by
  refine T.F_m_Rule_init.ok sc_m_Rule_init (fun vs H Q E h => ?_) (fun cdv Ar outer s H vs Q E hr h => ?_)
  · obtain ⟨x, dx, t, p, n, rfl, _⟩ := h
    rfl
  · obtain ⟨x, dx, t, p, n, rfl, hx, ht, hp, hn, kE, kQ⟩ := h
    refine ⟨_, (pss_cons (ps_if (pt_cmpR op_notIn_seq (pv 1) (pe_glob (v := .ref A.TAKES) (by rfl) T.g_TAKES rfl) (by rfl)) (pss_one (ps_raise rfl (takes_of rfl rfl rfl rfl) (pmk_oex T.ox_BadRule T.oi_BadRule T.ot_BadRule (ok_m_BadRule_init T) (hr.mono (by decide)) T.b_m_BadRule_init .nil pass0 (by rfl) T.g_BadRule (pa_cons pe_str pa_nil)))) pss_nil)
      (pss_cons (ps_if (pt_cmpR op_notIn_seq (pv 2) (pe_glob (v := .ref A.SPOTS) (by rfl) T.g_SPOTS rfl) (by rfl)) (pss_one (ps_raise rfl (takes_of rfl rfl rfl rfl) (pmk_oex T.ox_BadRule T.oi_BadRule T.ot_BadRule (ok_m_BadRule_init T) (hr.mono (by decide)) T.b_m_BadRule_init .nil pass0 (by rfl) T.g_BadRule (pa_cons pe_str pa_nil)))) pss_nil)
      (pss_cons (ps_if (pt_not (pt_val (pe_call (ok_f_is_number T) (hr.mono (by decide)) (by rfl) T.g_is_number T.F_f_is_number.kp T.b_f_is_number .nil pass0 (pa_cons (pv 3) (pa_cons pe_int pa_nil))))) (pss_one (ps_raise rfl (takes_of rfl rfl rfl rfl) (pmk_oex T.ox_BadRule T.oi_BadRule T.ot_BadRule (ok_m_BadRule_init T) (hr.mono (by decide)) T.b_m_BadRule_init .nil pass0 (by rfl) T.g_BadRule (pa_cons pe_str pa_nil)))) pss_nil)
      (pss_cons (ps_fld (pv 0) (pv 1) rfl)
      (pss_cons (ps_fld (pv 0) (pv 2) rfl)
      (pss_one (ps_fld (pv 0) (pv 3) rfl))))))), ?_⟩
    refine ⟨_, rfl, A.TAKES, _, rfl, .inr (.inr T.tq_TAKES), ht.flat, rfl, _, rfl, ?_⟩
    show if (!inT t) = true then _ else _
    cases e1 : inT t with
    | false =>
      refine iteT ⟨by show 1 ≤ 1000; decide, fun a ha => mk_exc1 (fun d H' s h => kE "take" ?_ d H' s h) ha⟩
      unfold badW
      rw [e1]
      rfl
    | true =>
      refine iteF ⟨_, rfl, A.SPOTS, _, rfl, .inr (.inr T.tq_SPOTS), hp.flat, rfl, _, rfl, ?_⟩
      show if (!inS p) = true then _ else _
      cases e2 : inS p with
      | false =>
        refine iteT ⟨by show 1 ≤ 1000; decide, fun a ha => mk_exc1 (fun d H' s h => kE "place" ?_ d H' s h) ha⟩
        unfold badW
        rw [e1, e2]
        rfl
      | true =>
        refine iteF ⟨_, rfl, n, rfl, hn, _, rfl, ?_⟩
        cases e3 : numV n with
        | false =>
          refine iteT ⟨by show 1 ≤ 1000; decide, fun a ha => mk_exc1 (fun d H' s h => kE "period" ?_ d H' s h) ha⟩
          unfold badW
          rw [e1, e2, e3]
          rfl
        | true =>
          have kq := kQ (by unfold badW; rw [e1, e2, e3]; rfl)
          refine iteF ⟨_, rfl, _, rfl, x, A.Rule, dx, [], rfl, hx, T.cl_Rule, T.n_Rule_take, (by show 0 < 1000; decide), ?_⟩
          refine ⟨_, rfl, _, rfl, x, A.Rule, dx, _, rfl, upd_same, T.cl_Rule, T.n_Rule_place, (by show 1 < 1000; decide), ?_⟩
          refine ⟨_, rfl, _, rfl, x, A.Rule, dx, _, rfl, upd_same, T.cl_Rule, T.n_Rule_period, (by show 2 < 1000; decide), ?_⟩
          rw [upd_upd, upd_upd]
          exact kq
end

def ownP (y : Int) (p : V) : V := if y = 1 ∨ y = 3 then p else .str "own"
def ownN (y : Int) (n : V) : V := if y = 2 ∨ y = 3 then n else .int 0
def toldL (t p n : V) : List V := match badW t p n with
  | none => [t, p, n]
  | some w => [.str w, .bl true]
def spTold : Sp := fun vs H Q _ => ∃ (t p n : V) (y : Int), vs = [t, p, n, .int y] ∧ Pl t ∧ Pl p ∧ Pl n ∧ 0 ≤ y ∧ y < 4 ∧ ∀ q H', Same H H' → H' q = some (.tup (toldL t (ownP y p) (ownN y n))) → Q (.ref q) H'
theorem same_mk1 {H : Hp} {x dx C : Addr} {fs : List (Str × V)} (hx : H x = none) (hd : H dx = none) : Same H (upd (upd H dx (.own x)) x (.ins C dx fs)) := fun b o e => by
  rw [upd_ne (ne_of_none e hx), upd_ne (ne_of_none e hd)]
  exact e
theorem mk_rule {C CE x dx : Addr} {H : Hp} {t p n : V} {R : VK} {E : XK} (hx : H x = none) (hd : H dx = none) (ht : Pl t) (hp : Pl p) (hn : Pl n)
    (hE : ∀ w, badW t p n = some w → ∀ d H', Same H H' → H' d = some (.xd [("word", .str w)]) → E (.ref CE) (some d) H') (hQ : badW t p n = none → ∀ H', Same H H' → H' x = some (.ins C dx (rlF t p n)) → R .non H') :
    spRule C CE [.ref x, t, p, n] (upd (upd H dx (.own x)) x (.ins C dx [])) R E := by
  refine ⟨x, dx, t, p, n, rfl, upd_same, ht, hp, hn, fun w hw d H' s h => hE w hw d H' ((same_mk1 hx hd).trans s) h, fun hb => hQ hb _ ?_ upd_same⟩
  rw [upd_upd]
  exact same_mk1 hx hd
section
variable {P : Program} {w : World} {K : PySem.W.Frag} {mg : Str → Option Value} {base : Heap} {A : Ad}
theorem bd_rule (T : Txt K mg A) : ∃ ds, Vals [.str "own", .int 0] ds ∧ Binds K A.fd_m_Rule_init P_m_Rule_init ds :=
  T.F_m_Rule_init.binds0 (ps := P_m_Rule_init) 2 (by simp) rfl fun D doc pm an cdv ct us ks h1 h2 => by
    match us, h1, ks, h2 with
    | [_, _], _, [_, _], _ => exact ⟨_, _, _, _, _, _, rfl, rfl, _, _, _, _, _, _, rfl, rfl, rfl⟩
theorem kb_place (T : Txt K mg A) : ∃ g, KBn K A.fd_m_Rule_init P_m_Rule_init 2 ["place"] g (fun vs zs => vs ++ (zs ++ [.int 0])) := by
  obtain ⟨mv, h⟩ := T.F_m_Rule_init.kbinds0 (ps := P_m_Rule_init) 2 ["place"] [("period", .int 0)] (fun us mz ws => us ++ (ws ++ mz)) (by simp) (by simp) (fun r1 r2 r3 => r1.append (r3.append r2)) (fun D doc pm an cdv ct us mv ws h1 h2 h3 => by
    match us, h1, mv, h2, ws, h3 with
    | [_, _], _, [_], _, [_], _ => exact ⟨_, _, _, _, _, _, rfl, rfl, rfl⟩)
  exact ⟨_, h⟩
theorem kb_period (T : Txt K mg A) : ∃ g, KBn K A.fd_m_Rule_init P_m_Rule_init 2 ["period"] g (fun vs zs => vs ++ ([.str "own"] ++ zs)) := by
  obtain ⟨mv, h⟩ := T.F_m_Rule_init.kbinds0 (ps := P_m_Rule_init) 2 ["period"] [("place", .str "own")] (fun us mz ws => us ++ (mz ++ ws)) (by simp) (by simp) (fun r1 r2 r3 => r1.append (r2.append r3)) (fun D doc pm an cdv ct us mv ws h1 h2 h3 => by
    match us, h1, mv, h2, ws, h3 with
    | [_, _], _, [_], _, [_], _ => exact ⟨_, _, _, _, _, _, rfl, rfl, rfl⟩)
  exact ⟨_, h⟩
theorem kb_both (T : Txt K mg A) : ∃ g, KBn K A.fd_m_Rule_init P_m_Rule_init 2 ["period", "place"] g (fun vs zs => vs ++ (zs.drop 1 ++ zs.take 1)) := by
  obtain ⟨mv, h⟩ := T.F_m_Rule_init.kbinds0 (ps := P_m_Rule_init) 2 ["period", "place"] [] (fun us mz ws => us ++ (ws.drop 1 ++ ws.take 1)) (by simp) (by simp) (fun r1 r2 r3 => r1.append ((r3.drop 1).append (r3.take 1))) (fun D doc pm an cdv ct us mv ws h1 h2 h3 => by
    match us, h1, mv, h2, ws, h3 with
    | [_, _], _, [], _, [_, _], _ => exact rfl)
  exact ⟨_, h⟩
theorem xf_BadRule (T : Txt K mg A) : XfC K A.BadRule := ⟨T.xg_BadRule, T.xk_BadRule, T.eb_BadRule, T.eh_BadRule⟩
theorem excC_BadRule (T : Txt K mg A) : ExcC K A.BadRule := ⟨T.xg_BadRule, T.xk_BadRule, T.eb_BadRule, T.eh_BadRule, T.xa_BadRule, T.xn_BadRule, T.xt_BadRule, T.xm_BadRule⟩
theorem exm_BadRule (T : Txt K mg A) : PySem.W.exmOne K (.ref A.BadRule) (.ref A.BadRule) = some true := PySem.W.exm_ref T.eb_BadRule T.eh_BadRule T.et_BadRule T.es_BadRule
theorem w44 (T : Txt K mg A) {D : Ends} {σ : L2.St} {H : Hp} {Wout : WX} {dd : Addr} {w' : Str} (hσ : 5 < σ.length) (hd : H dd = some (.xd [("word", .str w')])) (h : ∀ q, H q = none → D.rt (.ref q) (upd H q (.tup [.str w', .bl true]))) :
    wAs K (.ref A.BadRule) 5 (fun a cls d => tRet (tTup (tCons (tXf a cls d A.BadRule "word" (tVar 5)) (tCons (tCB (rIsEW K cls d a) (tCons (tVar 5) (tCons (tC (.ref A.CostError)) tNil))) tNil)))) Wout D (.ref A.BadRule) (some dd) σ H := by
  refine ⟨true, exm_BadRule T, fun _ a _ => ?_, fun q => nomatch q⟩
  have e := List.getElem?_set_self (l := σ) (a := some (V.ref a)) hσ
  exact ⟨_, e, rfl, rfl, dd, _, _, rfl, hd, (by rw [L2.lookup_put, if_pos rfl]), _, e, A.BadRule, dd, _, _, _, _, rfl, rfl, hd, excC_BadRule T, rfl, fun _ r => r, T.xc_BadRule, by walk_at "fact", h⟩
theorem ok_l_told (T : Txt K mg A) : FnOk P w K mg base CX0 7 A.l_told A.fd_l_told P_l_told spTold := by
  refine T.F_l_told.ok sc_l_told (fun vs H Q E h => ?_) (fun cdv Ar outer s H vs Q E hr h => ?_)
  · obtain ⟨t, p, n, y, rfl, _⟩ := h
    rfl
  · obtain ⟨t, p, n, y, rfl, ht, hp, hn, y0, y4, k⟩ := h
    refine ⟨_, (pss_one (ps_tryV (i := 5) rfl rfl sc_l_told.nd rfl rfl ⟨by rfl, by decide, .inl T.g_BadRule⟩ takes0 (fun W pn xe tk _ => (pss_g (Evl.pss_cut (ps_if (pt_cmpR op_eq (pv 3) pe_int (nomark _)) (pss_one (ps_set (i := 4) sc_l_told.nd rfl (Or.inl rfl) (pe_makeS T.mk_Rule (ok_m_Rule_init T) (hr.mono (by decide)) (by rfl) T.g_Rule (bd_rule T).choose_spec.2 (bd_rule T).choose_spec.1 (fun σ => passAt tk σ) (pa_cons (pv 0) pa_nil)))) (pss_one (ps_if (pt_cmpR op_eq (pv 3) pe_int (nomark _)) (pss_one (ps_set (i := 4) sc_l_told.nd rfl (Or.inl rfl) (pe_makeKS T.mk_Rule (ok_m_Rule_init T) (hr.mono (by decide)) (by rfl) T.g_Rule (kb_place T).choose_spec (fun σ => passAt tk σ) (pa_cons (pv 0) pa_nil) (pk_cons (pv 1) pk_nil)))) (pss_one (ps_if (pt_cmpR op_eq (pv 3) pe_int (nomark _)) (pss_one (ps_set (i := 4) sc_l_told.nd rfl (Or.inl rfl) (pe_makeKS T.mk_Rule (ok_m_Rule_init T) (hr.mono (by decide)) (by rfl) T.g_Rule (kb_period T).choose_spec (fun σ => passAt tk σ) (pa_cons (pv 0) pa_nil) (pk_cons (pv 2) pk_nil)))) (pss_one (ps_set (i := 4) sc_l_told.nd rfl (Or.inl rfl) (pe_makeKS T.mk_Rule (ok_m_Rule_init T) (hr.mono (by decide)) (by rfl) T.g_Rule (kb_both T).choose_spec (fun σ => passAt tk σ) (pa_cons (pv 0) pa_nil) (pk_cons (pv 2) (pk_cons (pv 1) pk_nil))))))))))
      (pss_one (ps_ret (pe_tup (pa_cons (pe_fld (pv 4) rfl) (pa_cons (pe_fld (pv 4) rfl) (pa_cons (pe_fld (pv 4) rfl) pa_nil))))))))) (fun a oe cls d pn hz hf => (pss_one (ps_ret (pe_tup (pa_cons (pe_xf (xf_BadRule T) T.n_BadRule_word hz hf (pv 5)) (pa_cons (pe_callB (call_isEW hz hf) (by rfl) T.z_isinstance (by decide +kernel) (pa_cons (pv 5) (pa_cons (pe_glob (v := .ref A.CostError) (by rfl) T.g_CostError rfl) pa_nil))) pa_nil)))))) (fun _ _ _ => rfl) (fun _ _ _ _ _ => rfl))), ?_⟩
    have pO : Pl (.str "own") := .str _
    have pZ : Pl (.int 0) := .int 0
    refine ⟨⟨fun σ' H' => Wd (∃ x dx : Addr, σ' = [some t, some p, some n, some (.int y), some (.ref x), none] ∧ badW t (ownP y p) (ownN y n) = none ∧ Same H H' ∧ H' x = some (.ins A.Rule dx (rlF t (ownP y p) (ownN y n)))), ?_, ?_⟩⟩
    · have kE : ∀ w', badW t (ownP y p) (ownN y n) = some w' → ∀ d H', Same H H' → H' d = some (.xd [("word", .str w')]) → ∀ q, H' q = none → Q (.ref q) (upd H' q (.tup [.str w', .bl true])) := fun w' hw d H' s h q hq => by
        refine k q _ (s.trans (Same.new hq)) ?_
        rw [upd_same]
        unfold toldL
        rw [hw]
      walk_at "go"
      refine if_int (fun e => ?_) (fun e0 => ?_)
      · subst e
        refine ⟨_, rfl, fun x dx hx hd _ => mk_rule hx hd ht pO pZ (fun w' hw d H' s h => w44 T (Nat.le_of_ble_eq_true rfl) h (kE w' hw d H' s h)) (fun hb H' s h => ⟨rfl, x, dx, rfl, hb, s, h⟩)⟩
      walk_at "go"
      refine if_int (fun e => ?_) (fun e1 => ?_)
      · subst e
        refine ⟨_, rfl, _, rfl, rfl, rfl, fun x dx hx hd _ => mk_rule hx hd ht hp pZ (fun w' hw d H' s h => w44 T (Nat.le_of_ble_eq_true rfl) h (kE w' hw d H' s h)) (fun hb H' s h => ⟨rfl, x, dx, rfl, hb, s, h⟩)⟩
      walk_at "go"
      refine if_int (fun e => ?_) (fun e2 => ?_)
      · subst e
        refine ⟨_, rfl, _, rfl, rfl, rfl, fun x dx hx hd _ => mk_rule hx hd ht pO hn (fun w' hw d H' s h => w44 T (Nat.le_of_ble_eq_true rfl) h (kE w' hw d H' s h)) (fun hb H' s h => ⟨rfl, x, dx, rfl, hb, s, h⟩)⟩
      have e : y = 3 := by omega
      subst e
      refine ⟨_, rfl, _, rfl, _, rfl, rfl, rfl, fun x dx hx hd _ => mk_rule hx hd ht hp hn (fun w' hw d H' s h => w44 T (Nat.le_of_ble_eq_true rfl) h (kE w' hw d H' s h)) (fun hb H' s h => ⟨rfl, x, dx, rfl, hb, s, h⟩)⟩
    · rintro σ' H' ⟨x, dx, rfl, hb, s', hx⟩
      refine ⟨_, rfl, x, _, dx, _, _, rfl, hx, T.cl_Rule, T.n_Rule_take, rl_take _ _ _, _, rfl, x, _, dx, _, _, rfl, hx, T.cl_Rule, T.n_Rule_place, rl_place _ _ _, _, rfl, x, _, dx, _, _, rfl, hx, T.cl_Rule, T.n_Rule_period, rl_period _ _ _, by walk_at "fact", fun q hq => ?_⟩
      refine k q _ (s'.trans (Same.new hq)) ?_
      rw [upd_same]
      unfold toldL
      rw [hb]
end

theorem pick {xs : List V} {Pr : V → Prop} (h : ∀ x ∈ xs, Pr x) {c : Int} (h0 : 0 ≤ c) (h1 : c < xs.length) : ∃ v, atI xs c = some v ∧ Pr v := by
  have hc : c.toNat < xs.length := by omega
  refine ⟨xs[c.toNat], ?_, h _ (List.getElem_mem hc)⟩
  unfold atI ixN
  rw [if_pos h0, if_pos h1]
  exact List.getElem?_eq_getElem hc
theorem all_take : ∀ x ∈ [V.str "oldest", .str "newest", .str "even"], Pl x ∧ inT x = true := by
  intro x hx
  simp only [List.mem_cons, List.not_mem_nil, or_false] at hx
  rcases hx with rfl | rfl | rfl <;> exact ⟨.str _, by decide +kernel⟩
theorem all_spot : ∀ x ∈ [V.str "own", .str "top", .str "bottom"], Pl x ∧ inS x = true := by
  intro x hx
  simp only [List.mem_cons, List.not_mem_nil, or_false] at hx
  rcases hx with rfl | rfl | rfl <;> exact ⟨.str _, by decide +kernel⟩
theorem all_span {m : Int} (h0 : 0 ≤ m) (h1 : m < 1000001) : ∀ x ∈ [V.int 0, .int 1, .int 1000000, .int m], Pl x ∧ numV x = true := by
  intro x hx
  simp only [List.mem_cons, List.not_mem_nil, or_false] at hx
  rcases hx with rfl | rfl | rfl | rfl
  · exact ⟨.int _, by decide⟩
  · exact ⟨.int _, by decide⟩
  · exact ⟨.int _, by decide⟩
  · refine ⟨.int _, ?_⟩
    show (decide (0 ≤ m) && decide (m ≤ 1000000)) = true
    rw [decide_eq_true h0, decide_eq_true (by omega)]
    rfl
theorem no_take : ∀ x ∈ [V.str "own", .str "top", .str "", .str "Oldest", .str "average", .str "old", .non, .int 3], Pl x ∧ inT x = false := by
  intro x hx
  simp only [List.mem_cons, List.not_mem_nil, or_false] at hx
  rcases hx with rfl | rfl | rfl | rfl | rfl | rfl | rfl | rfl <;> exact ⟨by constructor, by decide +kernel⟩
theorem no_spot : ∀ x ∈ [V.str "oldest", .str "even", .str "", .str "Top", .str "middle", .str "ow", .non, .int 3], Pl x ∧ inS x = false := by
  intro x hx
  simp only [List.mem_cons, List.not_mem_nil, or_false] at hx
  rcases hx with rfl | rfl | rfl | rfl | rfl | rfl | rfl | rfl <;> exact ⟨by constructor, by decide +kernel⟩
theorem no_span : ∀ x ∈ [V.int (-1), .int 1000001, .int (-1000000), .int (10 ^ (29 : Int).toNat), .non, .str "3"], Pl x ∧ numV x = false := by
  intro x hx
  simp only [List.mem_cons, List.not_mem_nil, or_false] at hx
  rcases hx with rfl | rfl | rfl | rfl | rfl | rfl <;> exact ⟨by constructor, by decide +kernel⟩
def due1 (b2 : Bool) (y : Int) (L : List V) : List V := if b2 = true ∧ 1 < y then [.str "period", .bl true] else L
def due2 (b1 : Bool) (y : Int) (L : List V) : List V := if b1 = true ∧ (y = 1 ∨ y = 3) then [.str "place", .bl true] else L
def due3 (b0 : Bool) (L : List V) : List V := if b0 = true then [.str "take", .bl true] else L
theorem due_told {t p n : V} {b0 b1 b2 : Bool} {y : Int} (ht : inT t = !b0) (hp : inS p = !b1) (hn : numV n = !b2) (h0 : 0 ≤ y) (h4 : y < 4) : due3 b0 (due2 b1 y (due1 b2 y [t, ownP y p, ownN y n])) = toldL t (ownP y p) (ownN y n) := by
  have eo : inS (.str "own") = true := by decide +kernel
  have ez : numV (.int 0) = true := by decide
  have : y = 0 ∨ y = 1 ∨ y = 2 ∨ y = 3 := by omega
  unfold toldL badW due3 due2 due1 ownP ownN
  cases b0 <;> cases b1 <;> cases b2 <;> rcases this with rfl | rfl | rfl | rfl <;> simp [ht, hp, hn, eo, ez]
theorem told_flat {t p n : V} (ht : Pl t) (hp : Pl p) (hn : Pl n) : ∀ x ∈ toldL t p n, flatB x = true ∨ ∃ a, x = .ref a := fun x hx => by
  have f : ∀ {v}, Pl v → flatB v = true := fun h => by cases h <;> rfl
  unfold toldL at hx
  split at hx
  · simp only [List.mem_cons, List.not_mem_nil, or_false] at hx
    rcases hx with rfl | rfl | rfl
    · exact .inl (f ht)
    · exact .inl (f hp)
    · exact .inl (f hn)
  · simp only [List.mem_cons, List.not_mem_nil, or_false] at hx
    rcases hx with rfl | rfl <;> exact .inl rfl
section
variable {P : Program} {w : World} {K : PySem.W.Frag} {mg : Str → Option Value} {base : Heap} {A : Ad}
theorem ok_f_law (T : Txt K mg A) : FnOk P w K mg base CX0 8 A.f_law A.fd_f_law P_f_law (spLaw K) := by
  refine T.F_f_law.ok sc_f_law (fun vs H Q E h => ?_) (fun cdv Ar outer s H vs Q E hr h => ?_)
  · obtain ⟨a, ns, rfl, _⟩ := h
    rfl
  · obtain ⟨a, ns, rfl, hS, hlen, k⟩ := h
    refine ⟨_, (pss_cons (ps_set (i := 1) sc_f_law.nd rfl (Or.inl rfl) (pe_call (ok_l_bag T) (hr.mono (by decide)) (by rfl) T.g__law_bag T.F_l_bag.kp T.b_l_bag .nil pass0 (pa_cons (pv 0) pa_nil)))
      (pss_cons (ps_g (ps_for PassesOwn.never rfl (pi_range1 rfl T.z_range (pa_cons pe_int pa_nil)) (pg_name (i := 2) sc_f_law.nd rfl (Or.inl rfl)) (pss_cons (ps_set (i := 3) sc_f_law.nd rfl (Or.inl rfl) (pe_lst (pa_cons (pe_cmpR op_eq (pe_call (ok_l_draw T) (hr.mono (by decide)) (by rfl) T.g__law_draw T.F_l_draw.kp T.b_l_draw .nil pass0 (pa_cons (pv 1) (pa_cons pe_int pa_nil))) pe_int (nomark _)) (pa_cons (pe_cmpR op_eq (pe_call (ok_l_draw T) (hr.mono (by decide)) (by rfl) T.g__law_draw T.F_l_draw.kp T.b_l_draw .nil pass0 (pa_cons (pv 1) (pa_cons pe_int pa_nil))) pe_int (nomark _)) (pa_cons (pe_cmpR op_eq (pe_call (ok_l_draw T) (hr.mono (by decide)) (by rfl) T.g__law_draw T.F_l_draw.kp T.b_l_draw .nil pass0 (pa_cons (pv 1) (pa_cons pe_int pa_nil))) pe_int (nomark _)) pa_nil)))))
      (pss_cons (ps_set (i := 4) sc_f_law.nd rfl (Or.inl rfl) (pe_ix ix_list (pe_lst (pa_cons pe_str (pa_cons pe_str (pa_cons pe_str pa_nil)))) (pe_call (ok_l_draw T) (hr.mono (by decide)) (by rfl) T.g__law_draw T.F_l_draw.kp T.b_l_draw .nil pass0 (pa_cons (pv 1) (pa_cons pe_int pa_nil))) (fun _ _ => rfl)))
      (pss_cons (ps_set (i := 5) sc_f_law.nd rfl (Or.inl rfl) (pe_ix ix_list (pe_lst (pa_cons pe_str (pa_cons pe_str (pa_cons pe_str pa_nil)))) (pe_call (ok_l_draw T) (hr.mono (by decide)) (by rfl) T.g__law_draw T.F_l_draw.kp T.b_l_draw .nil pass0 (pa_cons (pv 1) (pa_cons pe_int pa_nil))) (fun _ _ => rfl)))
      (pss_cons (ps_set (i := 6) sc_f_law.nd rfl (Or.inl rfl) (pe_ix ix_list (pe_lst (pa_cons pe_int (pa_cons pe_int (pa_cons pe_int (pa_cons (pe_call (ok_l_draw T) (hr.mono (by decide)) (by rfl) T.g__law_draw T.F_l_draw.kp T.b_l_draw .nil pass0 (pa_cons (pv 1) (pa_cons pe_int pa_nil))) pa_nil))))) (pe_call (ok_l_draw T) (hr.mono (by decide)) (by rfl) T.g__law_draw T.F_l_draw.kp T.b_l_draw .nil pass0 (pa_cons (pv 1) (pa_cons pe_int pa_nil))) (fun _ _ => rfl)))
      (pss_g (Evl.pss_cut (ps_if (pt_val (pe_ix ix_list (pv 3) pe_int (fun _ _ => rfl))) (pss_one (ps_set (i := 4) sc_f_law.nd rfl (Or.inl rfl) (pe_ix ix_list (pe_lst (pa_cons pe_str (pa_cons pe_str (pa_cons pe_str (pa_cons pe_str (pa_cons pe_str (pa_cons pe_str (pa_cons pe_non (pa_cons pe_int pa_nil))))))))) (pe_call (ok_l_draw T) (hr.mono (by decide)) (by rfl) T.g__law_draw T.F_l_draw.kp T.b_l_draw .nil pass0 (pa_cons (pv 1) (pa_cons pe_int pa_nil))) (fun _ _ => rfl)))) pss_nil)
      (pss_g (Evl.pss_cut (ps_if (pt_val (pe_ix ix_list (pv 3) pe_int (fun _ _ => rfl))) (pss_one (ps_set (i := 5) sc_f_law.nd rfl (Or.inl rfl) (pe_ix ix_list (pe_lst (pa_cons pe_str (pa_cons pe_str (pa_cons pe_str (pa_cons pe_str (pa_cons pe_str (pa_cons pe_str (pa_cons pe_non (pa_cons pe_int pa_nil))))))))) (pe_call (ok_l_draw T) (hr.mono (by decide)) (by rfl) T.g__law_draw T.F_l_draw.kp T.b_l_draw .nil pass0 (pa_cons (pv 1) (pa_cons pe_int pa_nil))) (fun _ _ => rfl)))) pss_nil)
      (pss_g (Evl.pss_cut (ps_if (pt_val (pe_ix ix_list (pv 3) pe_int (fun _ _ => rfl))) (pss_one (ps_set (i := 6) sc_f_law.nd rfl (Or.inl rfl) (pe_ix ix_list (pe_lst (pa_cons (pe_un un_neg pe_int) (pa_cons pe_int (pa_cons (pe_un un_neg pe_int) (pa_cons (pe_op op_pow pe_int pe_int) (pa_cons pe_non (pa_cons pe_str pa_nil))))))) (pe_call (ok_l_draw T) (hr.mono (by decide)) (by rfl) T.g__law_draw T.F_l_draw.kp T.b_l_draw .nil pass0 (pa_cons (pv 1) (pa_cons pe_int pa_nil))) (fun _ _ => rfl)))) pss_nil)
      (pss_one (ps_g (ps_for PassesOwn.never rfl (pi_range1 rfl T.z_range (pa_cons pe_int pa_nil)) (pg_name (i := 7) sc_f_law.nd rfl (Or.inl rfl)) (pss_cons (ps_set (i := 8) sc_f_law.nd rfl (Or.inl rfl) (pe_tup (pa_cons (pv 4) (pa_cons (pe_ix ix_list (pe_lst (pa_cons pe_str (pa_cons (pv 5) pa_nil))) (pe_op op_mod (pe_callTy call_int1 (by rfl) T.z_int (by decide +kernel) (pa_cons (pv 7) pa_nil)) pe_int) (fun _ _ => rfl)) (pa_cons (pe_ix ix_list (pe_lst (pa_cons pe_int (pa_cons (pv 6) pa_nil))) (pe_op op_fdiv (pv 7) pe_int) (fun _ _ => rfl)) pa_nil)))))
      (pss_g (Evl.pss_cut (ps_if (PW.pt (pw_and (pt_val (pe_ix ix_list (pv 3) pe_int (fun _ _ => rfl))) (pw_and1 (pt_cmpR op_gt (pv 7) pe_int (nomark _))))) (pss_one (ps_set (i := 8) sc_f_law.nd rfl (Or.inl rfl) (pe_tup (pa_cons pe_str (pa_cons pe_bl pa_nil))))) pss_nil)
      (pss_g (Evl.pss_cut (ps_if (PW.pt (pw_and (pt_val (pe_ix ix_list (pv 3) pe_int (fun _ _ => rfl))) (pw_and1 (pt_cmpR op_in_seq (pv 7) (pe_lst (pa_cons pe_int (pa_cons pe_int pa_nil))) (by rfl))))) (pss_one (ps_set (i := 8) sc_f_law.nd rfl (Or.inl rfl) (pe_tup (pa_cons pe_str (pa_cons pe_bl pa_nil))))) pss_nil)
      (pss_g (Evl.pss_cut (ps_if (pt_val (pe_ix ix_list (pv 3) pe_int (fun _ _ => rfl))) (pss_one (ps_set (i := 8) sc_f_law.nd rfl (Or.inl rfl) (pe_tup (pa_cons pe_str (pa_cons pe_bl pa_nil))))) pss_nil)
      (pss_one (ps_if (pt_cmpR (op_neT hr.units) (pe_call (ok_l_told T) (hr.mono (by decide)) (by rfl) T.g__law_told T.F_l_told.kp T.b_l_told .nil pass0 (pa_cons (pv 4) (pa_cons (pv 5) (pa_cons (pv 6) (pa_cons (pv 7) pa_nil))))) (pv 8) (nomark _)) (pss_one (ps_ret pe_bl)) pss_nil))))))))))))))))))))))))
      (pss_one (ps_ret pe_bl)))), ?_⟩
    walk_at "go"
    intro g l H1 s1 hg hl B1
    refine ⟨⟨_, rfl, by omega, by omega, for_range (lo := 0) (n := 3) (fun i σ' H' => Wd (∃ o2 o3 o4 o5 o6 o7 o8 : Option V, σ' = [some (.ref a), some (.ref g), o2, o3, o4, o5, o6, o7, o8] ∧ Bag H' g l))
      ⟨none, none, none, none, none, none, none, rfl, B1⟩ ?_ (fun σ' H' _ => k _)⟩⟩
    rintro i σ' H2 hi ⟨o2, o3, o4, o5, o6, o7, o8, rfl, B2⟩
    walk_at "go"
    intro n0 H3 _ _ B3 K3
    walk_at "go"
    intro n1 H4 _ _ B4 K4
    walk_at "go"
    intro n2 H5 _ _ B5 K5
    walk_at "go"
    intro wl hwl
    generalize decide (V.int n0 = V.int 0) = b0
    generalize decide (V.int n1 = V.int 0) = b1
    generalize decide (V.int n2 = V.int 0) = b2
    have nwl := (B5.ne hwl).1
    have B6 := B5.new (o := .lst [.bl b0, .bl b1, .bl b2]) hwl
    walk_at "go"
    intro p1 hp1
    have hw7 := Same.new (o := .lst [V.str "oldest", .str "newest", .str "even"]) hp1 _ _ (upd_same (H := H5) (a := wl) (o := .lst [.bl b0, .bl b1, .bl b2]))
    have B7 := B6.new (o := .lst [V.str "oldest", .str "newest", .str "even"]) hp1
    walk_at "go"
    intro c1 H8 c10 c11 B8 K8
    obtain ⟨t0, ht0, pt0, it0⟩ := pick all_take c10 c11
    have hl8 := K8 _ _ upd_same (B6.ne hp1).1
    have hw8 := K8 _ _ hw7 nwl
    walk_at "go"
    intro p2 hp2
    have hw9 := Same.new (o := .lst [V.str "own", .str "top", .str "bottom"]) hp2 _ _ hw8
    have B9 := B8.new (o := .lst [V.str "own", .str "top", .str "bottom"]) hp2
    walk_at "go"
    intro c2 H10 c20 c21 B10 K10
    obtain ⟨q0, hq0, pq0, iq0⟩ := pick all_spot c20 c21
    have hl10 := K10 _ _ upd_same (B8.ne hp2).1
    have hw10 := K10 _ _ hw9 nwl
    walk_at "go"
    intro m0 H11 m00 m01 B11 K11
    have hw11 := K11 _ _ hw10 nwl
    walk_at "go"
    intro p3 hp3
    have hw12 := Same.new (o := .lst [V.int 0, .int 1, .int 1000000, .int m0]) hp3 _ _ hw11
    have B12 := B11.new (o := .lst [V.int 0, .int 1, .int 1000000, .int m0]) hp3
    walk_at "go"
    intro c3 H13 c30 c31 B13 K13
    obtain ⟨s0, hs0, ps0, is0⟩ := pick (all_span m00 m01) c30 c31
    have hl13 := K13 _ _ upd_same (B11.ne hp3).1
    have hw13 := K13 _ _ hw12 nwl
    walk_at "go"
    refine ⟨⟨fun σ' H' => Wd (∃ t, σ' = [some (.ref a), some (.ref g), some (.int (0 + (i : Int))), some (.ref wl), some t, some q0, some s0, o7, o8] ∧ Pl t ∧ inT t = !b0 ∧ Bag H' g l ∧ H' wl = some (.lst [.bl b0, .bl b1, .bl b2])), ?_, ?_⟩⟩
    · walk_at "go"
      refine if_bl (fun e => ?_) (fun e => ?_)
      · walk_at "go"
        intro pp hpp
        have Bx := B13.new (o := .lst [V.str "own", .str "top", .str "", .str "Oldest", .str "average", .str "old", .non, .int 3]) hpp
        have hwx := Same.new (o := .lst [V.str "own", .str "top", .str "", .str "Oldest", .str "average", .str "old", .non, .int 3]) hpp _ _ hw13
        walk_at "go"
        intro cc Hy cc0 cc1 By Ky
        obtain ⟨vv, hvv, pvv, ivv⟩ := pick no_take cc0 cc1
        have hly := Ky _ _ upd_same (B13.ne hpp).1
        have hwy := Ky _ _ hwx nwl
        walk_at "go"
        exact ⟨vv, rfl, pvv, by rw [e]; exact ivv, By, hwy⟩
      · exact ⟨t0, rfl, pt0, by rw [e]; exact it0, B13, hw13⟩
    clear B3 K3 B4 K4 B5 K5 B6 B7 B8 K8 B9 B10 K10 B11 K11 B12 B13 K13 hw7 hw8 hw9 hw10 hw11 hw12 hw13 hl8 hl10 hl13 hwl
    rintro σ' H14 ⟨t, rfl, ht, it, B14, hw14⟩
    refine ⟨⟨fun σ' H' => Wd (∃ p, σ' = [some (.ref a), some (.ref g), some (.int (0 + (i : Int))), some (.ref wl), some t, some p, some s0, o7, o8] ∧ Pl p ∧ inS p = !b1 ∧ Bag H' g l ∧ H' wl = some (.lst [.bl b0, .bl b1, .bl b2])), ?_, ?_⟩⟩
    · walk_at "go"
      refine if_bl (fun e => ?_) (fun e => ?_)
      · walk_at "go"
        intro pp hpp
        have Bx := B14.new (o := .lst [V.str "oldest", .str "even", .str "", .str "Top", .str "middle", .str "ow", .non, .int 3]) hpp
        have hwx := Same.new (o := .lst [V.str "oldest", .str "even", .str "", .str "Top", .str "middle", .str "ow", .non, .int 3]) hpp _ _ hw14
        walk_at "go"
        intro cc Hy cc0 cc1 By Ky
        obtain ⟨vv, hvv, pvv, ivv⟩ := pick no_spot cc0 cc1
        have hly := Ky _ _ upd_same (B14.ne hpp).1
        have hwy := Ky _ _ hwx nwl
        walk_at "go"
        exact ⟨vv, rfl, pvv, by rw [e]; exact ivv, By, hwy⟩
      · exact ⟨q0, rfl, pq0, by rw [e]; exact iq0, B14, hw14⟩
    rintro σ' H15 ⟨p, rfl, hp, ip, B15, hw15⟩
    clear B14 hw14
    refine ⟨⟨fun σ' H' => Wd (∃ n, σ' = [some (.ref a), some (.ref g), some (.int (0 + (i : Int))), some (.ref wl), some t, some p, some n, o7, o8] ∧ Pl n ∧ numV n = !b2 ∧ Bag H' g l ∧ H' wl = some (.lst [.bl b0, .bl b1, .bl b2])), ?_, ?_⟩⟩
    · walk_at "go"
      refine if_bl (fun e => ?_) (fun e => ?_)
      · walk_at "go"
        intro pp hpp
        have Bx := B15.new (o := .lst [V.int (-1), .int 1000001, .int (-1000000), .int (10 ^ (29 : Int).toNat), .non, .str "3"]) hpp
        have hwx := Same.new (o := .lst [V.int (-1), .int 1000001, .int (-1000000), .int (10 ^ (29 : Int).toNat), .non, .str "3"]) hpp _ _ hw15
        walk_at "go"
        intro cc Hy cc0 cc1 By Ky
        obtain ⟨vv, hvv, pvv, ivv⟩ := pick no_span cc0 cc1
        have hly := Ky _ _ upd_same (B15.ne hpp).1
        have hwy := Ky _ _ hwx nwl
        walk_at "go"
        exact ⟨vv, rfl, pvv, by rw [e]; exact ivv, By, hwy⟩
      · exact ⟨s0, rfl, ps0, by rw [e]; exact is0, B15, hw15⟩
    rintro σ' H16 ⟨n, rfl, hn, im, B16, hw16⟩
    clear B15 hw15
    refine ⟨⟨_, rfl, by omega, by omega, for_range (lo := 0) (n := 4) (fun j σ' H' => Wd (∃ o7 o8 : Option V, σ' = [some (.ref a), some (.ref g), some (.int (0 + (i : Int))), some (.ref wl), some t, some p, some n, o7, o8] ∧ Same H16 H'))
      ⟨_, _, rfl, Same.refl _⟩ ?_ (fun σ' H' h => ?_)⟩⟩
    · rintro j σ' H17 hj ⟨o7', o8', rfl, s17⟩
      have hw17 := s17 _ _ hw16
      obtain ⟨y, ey⟩ : ∃ y : Int, y = 0 + (j : Int) := ⟨_, rfl⟩
      rw [← ey]
      have y0 : 0 ≤ y := by omega
      have y4 : y < 4 := by omega
      have i1 : atI [V.str "own", p] (y % 2) = some (ownP y p) := by
        have : y = 0 ∨ y = 1 ∨ y = 2 ∨ y = 3 := by omega
        rcases this with rfl | rfl | rfl | rfl <;> rfl
      have i2 : atI [V.int 0, n] (y / 2) = some (ownN y n) := by
        have : y = 0 ∨ y = 1 ∨ y = 2 ∨ y = 3 := by omega
        rcases this with rfl | rfl | rfl | rfl <;> rfl
      walk_at "go"
      intro u1 hu1
      have a1 := Same.new (o := .lst [V.str "own", p]) hu1
      walk_at "go"
      intro u2 hu2
      have a2 := Same.new (o := .lst [V.int 0, n]) hu2
      walk_at "go"
      intro dq hdq
      have a3 := Same.new (o := .tup [t, ownP y p, ownN y n]) hdq
      have hw18 := (a1.trans (a2.trans a3)) _ _ hw17
      refine ⟨⟨fun σ' H' => Wd (∃ dq, σ' = [some (.ref a), some (.ref g), some (.int (0 + (i : Int))), some (.ref wl), some t, some p, some n, some (.int y), some (.ref dq)] ∧ Same H17 H' ∧ H' dq = some (.tup (due1 b2 y [t, ownP y p, ownN y n]))), ?_, ?_⟩⟩
      · walk_at "go"
        refine if_bl (fun e => ?_) (fun e => ?_)
        · walk_at "go"
          refine if_dec (fun e2 => ?_) (fun e2 => ?_)
          · walk_at "go"
            intro d2 hd2
            refine ⟨d2, rfl, (a1.trans (a2.trans a3)).trans (Same.new hd2), ?_⟩
            rw [upd_same]
            unfold due1
            rw [if_pos ⟨e, e2⟩]
          · refine ⟨dq, rfl, a1.trans (a2.trans a3), ?_⟩
            rw [upd_same]
            unfold due1
            rw [if_neg fun z => e2 z.2]
        · refine ⟨dq, rfl, a1.trans (a2.trans a3), ?_⟩
          rw [upd_same]
          unfold due1
          rw [if_neg fun z => by rw [e] at z; cases z.1]
      rintro σ' H18 ⟨d1, rfl, s18, hd1⟩
      have hw18' := s18 _ _ hw17
      clear hu1 hu2 hdq a1 a2 a3 hw18 i1 i2
      refine ⟨⟨fun σ' H' => Wd (∃ dq, σ' = [some (.ref a), some (.ref g), some (.int (0 + (i : Int))), some (.ref wl), some t, some p, some n, some (.int y), some (.ref dq)] ∧ Same H17 H' ∧ H' dq = some (.tup (due2 b1 y (due1 b2 y [t, ownP y p, ownN y n])))), ?_, ?_⟩⟩
      · walk_at "go"
        refine if_bl (fun e => ?_) (fun e => ?_)
        · walk_at "go"
          intro pl hpl
          have b1' := Same.new (o := .lst [V.int 1, .int 3]) hpl
          refine ⟨pl, _, rfl, .inl (SqL.of upd_same), rfl, rfl, _, rfl, ?_⟩
          show if inV (.int y) [V.int 1, .int 3] = true then _ else _
          by_cases e2 : y = 1 ∨ y = 3
          · have ein : inV (.int y) [V.int 1, .int 3] = true := by
              rcases e2 with rfl | rfl <;> rfl
            rw [ein]
            refine iteT ⟨by walk_at "fact", fun d2 hd2 => ⟨d2, rfl, s18.trans (b1'.trans (Same.new hd2)), ?_⟩⟩
            rw [upd_same]
            unfold due2
            rw [if_pos ⟨e, e2⟩]
          · have ein : inV (.int y) [V.int 1, .int 3] = false := by
              have : y = 0 ∨ y = 2 := by omega
              rcases this with rfl | rfl <;> rfl
            rw [ein]
            refine iteF ⟨d1, rfl, s18.trans b1', ?_⟩
            rw [b1' _ _ hd1]
            unfold due2
            rw [if_neg fun z => e2 z.2]
        · refine ⟨d1, rfl, s18, ?_⟩
          rw [hd1]
          unfold due2
          rw [if_neg fun z => by rw [e] at z; cases z.1]
      rintro σ' H19 ⟨d2, rfl, s19, hd2⟩
      have hw19 := s19 _ _ hw17
      clear hd1 hw18' s18
      refine ⟨⟨fun σ' H' => Wd (∃ dq, σ' = [some (.ref a), some (.ref g), some (.int (0 + (i : Int))), some (.ref wl), some t, some p, some n, some (.int y), some (.ref dq)] ∧ Same H17 H' ∧ H' dq = some (.tup (toldL t (ownP y p) (ownN y n)))), ?_, ?_⟩⟩
      · have ed := due_told it ip im y0 y4
        walk_at "go"
        refine if_bl (fun e => ?_) (fun e => ?_)
        · refine ⟨by walk_at "fact", fun d3 hd3 => ⟨d3, rfl, s19.trans (Same.new hd3), ?_⟩⟩
          rw [upd_same, ← ed]
          unfold due3
          rw [if_pos e]
        · refine ⟨d2, rfl, s19, ?_⟩
          rw [hd2, ← ed]
          unfold due3
          rw [if_neg fun z => by rw [e] at z; cases z]
      rintro σ' H20 ⟨d3, rfl, s20, hd3⟩
      have po : Pl (ownP y p) := by
        unfold ownP
        split
        · exact hp
        · exact .str _
      have pm : Pl (ownN y n) := by
        unfold ownN
        split
        · exact hn
        · exact .int _
      refine ⟨_, rfl, _, rfl, _, rfl, _, rfl, t, p, n, y, rfl, ht, hp, hn, y0, y4, fun q H21 s21 hq => ?_⟩
      refine ⟨_, rfl, ⟨q, d3, _, rfl, rfl, SqT.of hq, SqT.of (s21 _ _ hd3), told_flat ht po pm, false, rfl, iteF ?_⟩⟩
      exact ⟨_, _, rfl, s17.trans (s20.trans s21)⟩
    · obtain ⟨_, _, rfl, s⟩ := h.ok
      exact ⟨_, _, _, _, _, _, _, rfl, B16.keep s⟩
end

theorem all_mk {l : PySem.W.OpenLaw} {w : World} {K : PySem.W.Frag} {h : Heap} {mg : Str → Option Value} {fa a_CostError a_NoRatio a_BadRule a_Short a_Ratio a_Rule a_m_BadRule_init a_f_is_number a_m_Rule_init a_l_bag a_l_draw a_l_told a_f_law a_TAKES a_SPOTS : Addr} (X : K.In h) (G : h.Ns mainGlobals mg) (hfa : mg "law" = some (.ref fa))
    {od_m_BadRule_init : Option Addr} {an_m_BadRule_init : Option Addr} {sl_m_BadRule_init : Array (Option Value)} {oc_m_BadRule_init : Value} {kV_m_BadRule_init : Value} {dc_m_BadRule_init : Value} {pm_m_BadRule_init : Value} {cd_m_BadRule_init : Value} {ct_m_BadRule_init : Value} {od_f_is_number : Option Addr} {an_f_is_number : Option Addr} {sl_f_is_number : Array (Option Value)} {oc_f_is_number : Value} {kV_f_is_number : Value} {dc_f_is_number : Value} {pm_f_is_number : Value} {cd_f_is_number : Value} {ct_f_is_number : Value} {od_m_Rule_init : Option Addr} {an_m_Rule_init : Option Addr} {sl_m_Rule_init : Array (Option Value)} {oc_m_Rule_init : Value} {dc_m_Rule_init : Value} {pm_m_Rule_init : Value} {cd_m_Rule_init : Value} {ct_m_Rule_init : Value} {kd_m_Rule_init : Addr} {kk0_m_Rule_init : Tok} {kk1_m_Rule_init : Tok} {od_l_bag : Option Addr} {an_l_bag : Option Addr} {sl_l_bag : Array (Option Value)} {oc_l_bag : Value} {kV_l_bag : Value} {dc_l_bag : Value} {pm_l_bag : Value} {cd_l_bag : Value} {ct_l_bag : Value} {od_l_draw : Option Addr} {an_l_draw : Option Addr} {sl_l_draw : Array (Option Value)} {oc_l_draw : Value} {kV_l_draw : Value} {dc_l_draw : Value} {pm_l_draw : Value} {cd_l_draw : Value} {ct_l_draw : Value} {od_l_told : Option Addr} {an_l_told : Option Addr} {sl_l_told : Array (Option Value)} {oc_l_told : Value} {kV_l_told : Value} {dc_l_told : Value} {pm_l_told : Value} {cd_l_told : Value} {ct_l_told : Value} {od_f_law : Option Addr} {an_f_law : Option Addr} {sl_f_law : Array (Option Value)} {oc_f_law : Value} {kV_f_law : Value} {dc_f_law : Value} {pm_f_law : Value} {cd_f_law : Value} {ct_f_law : Value} {xnm_BadRule : Str} {xq_BadRule : Str} {xN_BadRule : Addr} {xbs_BadRule : List Value} {xbm_BadRule : List Value} {xsn_BadRule : List Str} {xsub_BadRule : List Value} {xab_BadRule : Bool} {xcol_BadRule : Option Bool} {xdd_BadRule : Option Addr} {xk0_BadRule : Option Value} {xk1_BadRule : Option Value} {xk2_BadRule : Option Value} {xk3_BadRule : Option Value} {xk5_BadRule : Option Value} {gt_MOST : Tok} {gt0_TAKES : Tok} {gt1_TAKES : Tok} {gt2_TAKES : Tok} {gn_TAKES : Nat} {gd_TAKES : Option Addr} {gs_TAKES : Array (Option Value)} {gt0_SPOTS : Tok} {gt1_SPOTS : Tok} {gt2_SPOTS : Tok} {gn_SPOTS : Nat} {gd_SPOTS : Option Addr} {gs_SPOTS : Array (Option Value)}
    (pz_abs : PySem.W.nsIn K mainGlobals "abs" = some none)
    (pz_bool : PySem.W.nsIn K mainGlobals "bool" = some none)
    (pz_int : PySem.W.nsIn K mainGlobals "int" = some none)
    (pz_isinstance : PySem.W.nsIn K mainGlobals "isinstance" = some none)
    (pz_len : PySem.W.nsIn K mainGlobals "len" = some none)
    (pz_list : PySem.W.nsIn K mainGlobals "list" = some none)
    (pz_range : PySem.W.nsIn K mainGlobals "range" = some none)
    (pg_CostError : PySem.W.nsIn K mainGlobals "CostError" = some (some (.ref a_CostError)))
    (pek_CostError : PySem.W.keepIn K (.ref a_CostError) = true)
    (peb_CostError : PySem.W.subIn K (.ref a_CostError) (.type "BaseException") = some true)
    (pet_CostError : PySem.W.typeIn K (.ref a_CostError) = some (.type "type"))
    (peh_CostError : PySem.W.hasDictIn K a_CostError = true)
    (peic_CostError : PySem.W.isClsIn K a_CostError = true)
    (pes_CostError : PySem.W.subIn K (.ref a_CostError) (.ref a_CostError) = some true)
    (pxg_CostError : PySem.W.findIn K (.ref a_CostError) "__getattribute__" = some (some (.builtin "BaseException.__getattribute__")))
    (pxk_CostError : PySem.W.findIn K (.ref a_CostError) "__getattr__" = some none)
    (pxa_CostError : PySem.W.findIn K (.ref a_CostError) "__class__" = some (some (.builtin "object.__class__")))
    (pxn_CostError : PySem.W.specialIn K (.builtin "object.__class__") "__get__" = some (some (.builtin "getset_descriptor.__get__")))
    (pxt_CostError : PySem.W.takesIn K (.builtin "object.__class__") = some true)
    (pxm_CostError : PySem.W.mroIn K a_CostError (.type "object") = some true)
    (prd_CostError : PySem.W.readsIn K a_CostError (.type "type") = true)
    (pcg_CostError : PySem.W.specialIn K (.ref a_CostError) "__getattribute__" = some (some (.builtin "type.__getattribute__")))
    (pvi_CostError : PySem.W.findCls K (.ref a_CostError) (.type "type") "__init__" = some (.val (.builtin "ValueError.__init__")))
    (pg_NoRatio : PySem.W.nsIn K mainGlobals "NoRatio" = some (some (.ref a_NoRatio)))
    (pek_NoRatio : PySem.W.keepIn K (.ref a_NoRatio) = true)
    (peb_NoRatio : PySem.W.subIn K (.ref a_NoRatio) (.type "BaseException") = some true)
    (pet_NoRatio : PySem.W.typeIn K (.ref a_NoRatio) = some (.type "type"))
    (peh_NoRatio : PySem.W.hasDictIn K a_NoRatio = true)
    (peic_NoRatio : PySem.W.isClsIn K a_NoRatio = true)
    (pes_NoRatio : PySem.W.subIn K (.ref a_NoRatio) (.ref a_NoRatio) = some true)
    (pxg_NoRatio : PySem.W.findIn K (.ref a_NoRatio) "__getattribute__" = some (some (.builtin "BaseException.__getattribute__")))
    (pxk_NoRatio : PySem.W.findIn K (.ref a_NoRatio) "__getattr__" = some none)
    (pxa_NoRatio : PySem.W.findIn K (.ref a_NoRatio) "__class__" = some (some (.builtin "object.__class__")))
    (pxn_NoRatio : PySem.W.specialIn K (.builtin "object.__class__") "__get__" = some (some (.builtin "getset_descriptor.__get__")))
    (pxt_NoRatio : PySem.W.takesIn K (.builtin "object.__class__") = some true)
    (pxm_NoRatio : PySem.W.mroIn K a_NoRatio (.type "object") = some true)
    (pg_BadRule : PySem.W.nsIn K mainGlobals "BadRule" = some (some (.ref a_BadRule)))
    (pek_BadRule : PySem.W.keepIn K (.ref a_BadRule) = true)
    (peb_BadRule : PySem.W.subIn K (.ref a_BadRule) (.type "BaseException") = some true)
    (pet_BadRule : PySem.W.typeIn K (.ref a_BadRule) = some (.type "type"))
    (peh_BadRule : PySem.W.hasDictIn K a_BadRule = true)
    (peic_BadRule : PySem.W.isClsIn K a_BadRule = true)
    (pes_BadRule : PySem.W.subIn K (.ref a_BadRule) (.ref a_BadRule) = some true)
    (pxg_BadRule : PySem.W.findIn K (.ref a_BadRule) "__getattribute__" = some (some (.builtin "BaseException.__getattribute__")))
    (pxk_BadRule : PySem.W.findIn K (.ref a_BadRule) "__getattr__" = some none)
    (pxa_BadRule : PySem.W.findIn K (.ref a_BadRule) "__class__" = some (some (.builtin "object.__class__")))
    (pxn_BadRule : PySem.W.specialIn K (.builtin "object.__class__") "__get__" = some (some (.builtin "getset_descriptor.__get__")))
    (pxt_BadRule : PySem.W.takesIn K (.builtin "object.__class__") = some true)
    (pxm_BadRule : PySem.W.mroIn K a_BadRule (.type "object") = some true)
    (pxc_BadRule : PySem.W.kitOne K (.ref a_BadRule) (.ref a_CostError) = some true)
    (pn_BadRule_word : PySem.W.findIn K (.ref a_BadRule) "word" = some none)
    (poi_BadRule : PySem.W.findIn K (.ref a_BadRule) "__init__" = some (some (.ref a_m_BadRule_init)))
    (pot_BadRule : PySem.W.typeIn K (.ref a_m_BadRule_init) = some (.type "function"))
    (pol_BadRule : K.lookup a_BadRule = some (excClassObj xnm_BadRule xq_BadRule a_BadRule xN_BadRule xbs_BadRule xbm_BadRule true xsn_BadRule xsub_BadRule xab_BadRule xcol_BadRule xdd_BadRule xk0_BadRule xk1_BadRule xk2_BadRule xk3_BadRule xk5_BadRule "ValueError.__new__"))
    (pov_BadRule : PySem.HandSPX.refsVE xbm_BadRule = true)
    (posa_BadRule : PySem.W.findIn K (.ref a_BadRule) "__setattr__" = some (some (.builtin "object.__setattr__")))
    (pg_Short : PySem.W.nsIn K mainGlobals "Short" = some (some (.ref a_Short)))
    (pek_Short : PySem.W.keepIn K (.ref a_Short) = true)
    (peb_Short : PySem.W.subIn K (.ref a_Short) (.type "BaseException") = some true)
    (pet_Short : PySem.W.typeIn K (.ref a_Short) = some (.type "type"))
    (peh_Short : PySem.W.hasDictIn K a_Short = true)
    (peic_Short : PySem.W.isClsIn K a_Short = true)
    (pes_Short : PySem.W.subIn K (.ref a_Short) (.ref a_Short) = some true)
    (pxg_Short : PySem.W.findIn K (.ref a_Short) "__getattribute__" = some (some (.builtin "BaseException.__getattribute__")))
    (pxk_Short : PySem.W.findIn K (.ref a_Short) "__getattr__" = some none)
    (pxa_Short : PySem.W.findIn K (.ref a_Short) "__class__" = some (some (.builtin "object.__class__")))
    (pxn_Short : PySem.W.specialIn K (.builtin "object.__class__") "__get__" = some (some (.builtin "getset_descriptor.__get__")))
    (pxt_Short : PySem.W.takesIn K (.builtin "object.__class__") = some true)
    (pxm_Short : PySem.W.mroIn K a_Short (.type "object") = some true)
    (pn_Short_missing : PySem.W.findIn K (.ref a_Short) "missing" = some none)
    (pg_Ratio : PySem.W.nsIn K mainGlobals "Ratio" = some (some (.ref a_Ratio)))
    (ppg_Ratio : PySem.W.plainGet K a_Ratio Str.empty = true)
    (phd_Ratio : PySem.W.hasDictIn K a_Ratio = true)
    (ppo_Ratio : PySem.W.plainOver K a_Ratio = true)
    (psa_Ratio : PySem.W.findIn K (.ref a_Ratio) "__setattr__" = some (some (.builtin "object.__setattr__")))
    (pn_Ratio_top : NoAttr K a_Ratio "top")
    (pn_Ratio_bottom : NoAttr K a_Ratio "bottom")
    (pg_Rule : PySem.W.nsIn K mainGlobals "Rule" = some (some (.ref a_Rule)))
    (ppg_Rule : PySem.W.plainGet K a_Rule Str.empty = true)
    (phd_Rule : PySem.W.hasDictIn K a_Rule = true)
    (ppo_Rule : PySem.W.plainOver K a_Rule = true)
    (psa_Rule : PySem.W.findIn K (.ref a_Rule) "__setattr__" = some (some (.builtin "object.__setattr__")))
    (pn_Rule_take : NoAttr K a_Rule "take")
    (pn_Rule_place : NoAttr K a_Rule "place")
    (pn_Rule_period : NoAttr K a_Rule "period")
    (pma_Rule : PySem.W.makesIn K a_Rule = true)
    (pmi_Rule : PySem.W.findIn K (.ref a_Rule) "__init__" = some (some (.ref a_m_Rule_init)))
    (pmf_Rule : PySem.W.isFn K (.ref a_m_Rule_init) = true)
    (pmc_Rule : PySem.W.keepIn K (.ref a_Rule) = true)
    (pg_MOST : PySem.W.nsIn K mainGlobals "MOST" = some (some (.int 1000000 gt_MOST)))
    (pg_TAKES : PySem.W.nsIn K mainGlobals "TAKES" = some (some (.ref a_TAKES)))
    (ptl_TAKES : K.lookup a_TAKES = some ⟨.type "tuple", gd_TAKES, .seq #[.str "oldest" gt0_TAKES, .str "newest" gt1_TAKES, .str "even" gt2_TAKES] gn_TAKES, gs_TAKES⟩)
    (pg_SPOTS : PySem.W.nsIn K mainGlobals "SPOTS" = some (some (.ref a_SPOTS)))
    (ptl_SPOTS : K.lookup a_SPOTS = some ⟨.type "tuple", gd_SPOTS, .seq #[.str "own" gt0_SPOTS, .str "top" gt1_SPOTS, .str "bottom" gt2_SPOTS] gn_SPOTS, gs_SPOTS⟩)
    (pe_m_BadRule_init : PySem.W.findIn K (.ref a_BadRule) "__init__" = some (some (.ref a_m_BadRule_init)))
    (pl_m_BadRule_init : K.lookup a_m_BadRule_init = some ⟨oc_m_BadRule_init, od_m_BadRule_init, .func (PySem.W.fnOf "__init__" "BadRule.__init__" (defArgs s_m_BadRule_init) (defBody s_m_BadRule_init) (defScope s_m_BadRule_init) .none kV_m_BadRule_init dc_m_BadRule_init pm_m_BadRule_init an_m_BadRule_init cd_m_BadRule_init ct_m_BadRule_init), sl_m_BadRule_init⟩)
    (pc_m_BadRule_init : PySem.W.codeIn K cd_m_BadRule_init "BadRule.__init__" = true)
    (pq_m_BadRule_init : PySem.W.keepIn K (.ref a_m_BadRule_init) = true)
    (pa_f_is_number : PySem.W.nsIn K mainGlobals "is_number" = some (some (.ref a_f_is_number)))
    (pl_f_is_number : K.lookup a_f_is_number = some ⟨oc_f_is_number, od_f_is_number, .func (PySem.W.fnOf "is_number" "is_number" (defArgs s_f_is_number) (defBody s_f_is_number) (defScope s_f_is_number) .none kV_f_is_number dc_f_is_number pm_f_is_number an_f_is_number cd_f_is_number ct_f_is_number), sl_f_is_number⟩)
    (pc_f_is_number : PySem.W.codeIn K cd_f_is_number "is_number" = true)
    (pq_f_is_number : PySem.W.keepIn K (.ref a_f_is_number) = true)
    (pl_m_Rule_init : K.lookup a_m_Rule_init = some ⟨oc_m_Rule_init, od_m_Rule_init, .func (PySem.W.fnOf "__init__" "Rule.__init__" (defArgs s_m_Rule_init) (defBody s_m_Rule_init) (defScope s_m_Rule_init) .none (.ref kd_m_Rule_init) dc_m_Rule_init pm_m_Rule_init an_m_Rule_init cd_m_Rule_init ct_m_Rule_init), sl_m_Rule_init⟩)
    (pk0_m_Rule_init : PySem.W.nsIn K kd_m_Rule_init "place" = some (some (.str "own" kk0_m_Rule_init)))
    (pk1_m_Rule_init : PySem.W.nsIn K kd_m_Rule_init "period" = some (some (.int 0 kk1_m_Rule_init)))
    (pc_m_Rule_init : PySem.W.codeIn K cd_m_Rule_init "Rule.__init__" = true)
    (pq_m_Rule_init : PySem.W.keepIn K (.ref a_m_Rule_init) = true)
    (pa_l_bag : PySem.W.nsIn K mainGlobals "_law_bag" = some (some (.ref a_l_bag)))
    (pl_l_bag : K.lookup a_l_bag = some ⟨oc_l_bag, od_l_bag, .func (PySem.W.fnOf "_law_bag" "_law_bag" (defArgs s_l_bag) (defBody s_l_bag) (defScope s_l_bag) .none kV_l_bag dc_l_bag pm_l_bag an_l_bag cd_l_bag ct_l_bag), sl_l_bag⟩)
    (pc_l_bag : PySem.W.codeIn K cd_l_bag "_law_bag" = true)
    (pq_l_bag : PySem.W.keepIn K (.ref a_l_bag) = true)
    (pa_l_draw : PySem.W.nsIn K mainGlobals "_law_draw" = some (some (.ref a_l_draw)))
    (pl_l_draw : K.lookup a_l_draw = some ⟨oc_l_draw, od_l_draw, .func (PySem.W.fnOf "_law_draw" "_law_draw" (defArgs s_l_draw) (defBody s_l_draw) (defScope s_l_draw) .none kV_l_draw dc_l_draw pm_l_draw an_l_draw cd_l_draw ct_l_draw), sl_l_draw⟩)
    (pc_l_draw : PySem.W.codeIn K cd_l_draw "_law_draw" = true)
    (pq_l_draw : PySem.W.keepIn K (.ref a_l_draw) = true)
    (pa_l_told : PySem.W.nsIn K mainGlobals "_law_told" = some (some (.ref a_l_told)))
    (pl_l_told : K.lookup a_l_told = some ⟨oc_l_told, od_l_told, .func (PySem.W.fnOf "_law_told" "_law_told" (defArgs s_l_told) (defBody s_l_told) (defScope s_l_told) .none kV_l_told dc_l_told pm_l_told an_l_told cd_l_told ct_l_told), sl_l_told⟩)
    (pc_l_told : PySem.W.codeIn K cd_l_told "_law_told" = true)
    (pq_l_told : PySem.W.keepIn K (.ref a_l_told) = true)
    (pa_f_law : PySem.W.nsIn K mainGlobals "law" = some (some (.ref a_f_law)))
    (pl_f_law : K.lookup a_f_law = some ⟨oc_f_law, od_f_law, .func (PySem.W.fnOf "law" "law" (defArgs s_f_law) (defBody s_f_law) (defScope s_f_law) .none kV_f_law dc_f_law pm_f_law an_f_law cd_f_law ct_f_law), sl_f_law⟩)
    (pc_f_law : PySem.W.codeIn K cd_f_law "law" = true)
    (pq_f_law : PySem.W.keepIn K (.ref a_f_law) = true) :
    ∃ fd : FuncData, (∀ (s : Shared) (v : Value), BindsTo s fd ⟨[v], []⟩ [("_law_script", v)]) ∧ ∀ base : Heap, K.In base → base.Ns mainGlobals mg → FnOk l.prog w K mg base CX0 8 fa fd P_f_law (spLaw K) := by
  have e := hfa.symm.trans (PySem.W.mg_of X G pa_f_law)
  cases e
  have F_m_BadRule_init := fun_mk (st := s_m_BadRule_init) pl_m_BadRule_init pc_m_BadRule_init pq_m_BadRule_init
  have b_m_BadRule_init := F_m_BadRule_init.binds (ps := P_m_BadRule_init) fun _ _ _ _ _ _ us hl => match us, hl with | [_, _], _ => rfl
  have F_f_is_number := fun_mk (st := s_f_is_number) pl_f_is_number pc_f_is_number pq_f_is_number
  have b_f_is_number := F_f_is_number.binds (ps := P_f_is_number) fun _ _ _ _ _ _ us hl => match us, hl with | [_, _], _ => rfl
  have F_m_Rule_init : FunD K "__init__" "Rule.__init__" (defArgs s_m_Rule_init) (defBody s_m_Rule_init) (defScope s_m_Rule_init) [] [("place", .str "own"), ("period", .int 0)] a_m_Rule_init (PySem.W.fnOf "__init__" "Rule.__init__" (defArgs s_m_Rule_init) (defBody s_m_Rule_init) (defScope s_m_Rule_init) .none (.ref kd_m_Rule_init) dc_m_Rule_init pm_m_Rule_init an_m_Rule_init cd_m_Rule_init ct_m_Rule_init) := ⟨⟨_, _, _, _, _, _, _, _, _, _, rfl, pl_m_Rule_init, pc_m_Rule_init, (.inl ⟨rfl, rfl⟩), (.inr ⟨_, rfl, fun q hq => by
      simp only [List.mem_cons, List.not_mem_nil, or_false] at hq
      rcases hq with rfl | rfl
      · exact ⟨_, pk0_m_Rule_init, ⟨_, rfl⟩⟩
      · exact ⟨_, pk1_m_Rule_init, ⟨_, rfl⟩⟩⟩)⟩, pq_m_Rule_init⟩
  have F_l_bag := fun_mk (st := s_l_bag) pl_l_bag pc_l_bag pq_l_bag
  have b_l_bag := F_l_bag.binds (ps := P_l_bag) fun _ _ _ _ _ _ us hl => match us, hl with | [_], _ => rfl
  have F_l_draw := fun_mk (st := s_l_draw) pl_l_draw pc_l_draw pq_l_draw
  have b_l_draw := F_l_draw.binds (ps := P_l_draw) fun _ _ _ _ _ _ us hl => match us, hl with | [_, _], _ => rfl
  have F_l_told := fun_mk (st := s_l_told) pl_l_told pc_l_told pq_l_told
  have b_l_told := F_l_told.binds (ps := P_l_told) fun _ _ _ _ _ _ us hl => match us, hl with | [_, _, _, _], _ => rfl
  have F_f_law := fun_mk (st := s_f_law) pl_f_law pc_f_law pq_f_law
  have b_f_law := F_f_law.binds (ps := P_f_law) fun _ _ _ _ _ _ us hl => match us, hl with | [_], _ => rfl
  have T : Txt K mg ⟨a_CostError, a_NoRatio, a_BadRule, a_Short, a_Ratio, a_Rule, a_m_BadRule_init, (PySem.W.fnOf "__init__" "BadRule.__init__" (defArgs s_m_BadRule_init) (defBody s_m_BadRule_init) (defScope s_m_BadRule_init) .none kV_m_BadRule_init dc_m_BadRule_init pm_m_BadRule_init an_m_BadRule_init cd_m_BadRule_init ct_m_BadRule_init), a_f_is_number, (PySem.W.fnOf "is_number" "is_number" (defArgs s_f_is_number) (defBody s_f_is_number) (defScope s_f_is_number) .none kV_f_is_number dc_f_is_number pm_f_is_number an_f_is_number cd_f_is_number ct_f_is_number), a_m_Rule_init, (PySem.W.fnOf "__init__" "Rule.__init__" (defArgs s_m_Rule_init) (defBody s_m_Rule_init) (defScope s_m_Rule_init) .none (.ref kd_m_Rule_init) dc_m_Rule_init pm_m_Rule_init an_m_Rule_init cd_m_Rule_init ct_m_Rule_init), a_l_bag, (PySem.W.fnOf "_law_bag" "_law_bag" (defArgs s_l_bag) (defBody s_l_bag) (defScope s_l_bag) .none kV_l_bag dc_l_bag pm_l_bag an_l_bag cd_l_bag ct_l_bag), a_l_draw, (PySem.W.fnOf "_law_draw" "_law_draw" (defArgs s_l_draw) (defBody s_l_draw) (defScope s_l_draw) .none kV_l_draw dc_l_draw pm_l_draw an_l_draw cd_l_draw ct_l_draw), a_l_told, (PySem.W.fnOf "_law_told" "_law_told" (defArgs s_l_told) (defBody s_l_told) (defScope s_l_told) .none kV_l_told dc_l_told pm_l_told an_l_told cd_l_told ct_l_told), fa, (PySem.W.fnOf "law" "law" (defArgs s_f_law) (defBody s_f_law) (defScope s_f_law) .none kV_f_law dc_f_law pm_f_law an_f_law cd_f_law ct_f_law), a_TAKES, a_SPOTS, []⟩ := {
    z_abs := PySem.W.mg_none_of X G pz_abs,
    z_bool := PySem.W.mg_none_of X G pz_bool,
    z_int := PySem.W.mg_none_of X G pz_int,
    z_isinstance := PySem.W.mg_none_of X G pz_isinstance,
    z_len := PySem.W.mg_none_of X G pz_len,
    z_list := PySem.W.mg_none_of X G pz_list,
    z_range := PySem.W.mg_none_of X G pz_range,
    g_CostError := PySem.W.mg_of X G pg_CostError,
    ek_CostError := pek_CostError,
    eb_CostError := peb_CostError,
    et_CostError := pet_CostError,
    eh_CostError := peh_CostError,
    eic_CostError := peic_CostError,
    es_CostError := pes_CostError,
    xg_CostError := pxg_CostError,
    xk_CostError := pxk_CostError,
    xa_CostError := pxa_CostError,
    xn_CostError := pxn_CostError,
    xt_CostError := pxt_CostError,
    xm_CostError := pxm_CostError,
    rd_CostError := prd_CostError,
    cg_CostError := pcg_CostError,
    vi_CostError := pvi_CostError,
    g_NoRatio := PySem.W.mg_of X G pg_NoRatio,
    ek_NoRatio := pek_NoRatio,
    eb_NoRatio := peb_NoRatio,
    et_NoRatio := pet_NoRatio,
    eh_NoRatio := peh_NoRatio,
    eic_NoRatio := peic_NoRatio,
    es_NoRatio := pes_NoRatio,
    xg_NoRatio := pxg_NoRatio,
    xk_NoRatio := pxk_NoRatio,
    xa_NoRatio := pxa_NoRatio,
    xn_NoRatio := pxn_NoRatio,
    xt_NoRatio := pxt_NoRatio,
    xm_NoRatio := pxm_NoRatio,
    g_BadRule := PySem.W.mg_of X G pg_BadRule,
    ek_BadRule := pek_BadRule,
    eb_BadRule := peb_BadRule,
    et_BadRule := pet_BadRule,
    eh_BadRule := peh_BadRule,
    eic_BadRule := peic_BadRule,
    es_BadRule := pes_BadRule,
    xg_BadRule := pxg_BadRule,
    xk_BadRule := pxk_BadRule,
    xa_BadRule := pxa_BadRule,
    xn_BadRule := pxn_BadRule,
    xt_BadRule := pxt_BadRule,
    xm_BadRule := pxm_BadRule,
    xc_BadRule := pxc_BadRule,
    n_BadRule_word := pn_BadRule_word,
    oi_BadRule := poi_BadRule,
    ot_BadRule := pot_BadRule,
    ox_BadRule := ⟨⟨_, _, _, _, _, _, _, _, _, _, _, _, _, _, _, pol_BadRule, pov_BadRule⟩, posa_BadRule, peb_BadRule, pet_BadRule, pek_BadRule⟩,
    g_Short := PySem.W.mg_of X G pg_Short,
    ek_Short := pek_Short,
    eb_Short := peb_Short,
    et_Short := pet_Short,
    eh_Short := peh_Short,
    eic_Short := peic_Short,
    es_Short := pes_Short,
    xg_Short := pxg_Short,
    xk_Short := pxk_Short,
    xa_Short := pxa_Short,
    xn_Short := pxn_Short,
    xt_Short := pxt_Short,
    xm_Short := pxm_Short,
    n_Short_missing := pn_Short_missing,
    g_Ratio := PySem.W.mg_of X G pg_Ratio,
    cl_Ratio := ⟨ppg_Ratio, phd_Ratio, ppo_Ratio, psa_Ratio⟩,
    n_Ratio_top := pn_Ratio_top,
    n_Ratio_bottom := pn_Ratio_bottom,
    g_Rule := PySem.W.mg_of X G pg_Rule,
    cl_Rule := ⟨ppg_Rule, phd_Rule, ppo_Rule, psa_Rule⟩,
    n_Rule_take := pn_Rule_take,
    n_Rule_place := pn_Rule_place,
    n_Rule_period := pn_Rule_period,
    mk_Rule := ⟨pma_Rule, pmi_Rule, pmf_Rule, pmc_Rule⟩,
    g_MOST := ⟨_, PySem.W.mg_of X G pg_MOST⟩,
    g_TAKES := PySem.W.mg_of X G pg_TAKES,
    tq_TAKES := ⟨_, _, _, ptl_TAKES, rfl, rfl, Nat.le_of_ble_eq_true rfl, (.cons ⟨_, rfl⟩ (.cons ⟨_, rfl⟩ (.cons ⟨_, rfl⟩ .nil)))⟩,
    g_SPOTS := PySem.W.mg_of X G pg_SPOTS,
    tq_SPOTS := ⟨_, _, _, ptl_SPOTS, rfl, rfl, Nat.le_of_ble_eq_true rfl, (.cons ⟨_, rfl⟩ (.cons ⟨_, rfl⟩ (.cons ⟨_, rfl⟩ .nil)))⟩,
    F_m_BadRule_init := F_m_BadRule_init,
    b_m_BadRule_init := b_m_BadRule_init,
    F_f_is_number := F_f_is_number,
    b_f_is_number := b_f_is_number,
    g_is_number := PySem.W.mg_of X G pa_f_is_number,
    F_m_Rule_init := F_m_Rule_init,
    F_l_bag := F_l_bag,
    b_l_bag := b_l_bag,
    g__law_bag := PySem.W.mg_of X G pa_l_bag,
    F_l_draw := F_l_draw,
    b_l_draw := b_l_draw,
    g__law_draw := PySem.W.mg_of X G pa_l_draw,
    F_l_told := F_l_told,
    b_l_told := b_l_told,
    g__law_told := PySem.W.mg_of X G pa_l_told,
    F_f_law := F_f_law,
    b_f_law := b_f_law,
    g_law := PySem.W.mg_of X G pa_f_law }
  exact ⟨_, fun s v => .of_eq rfl, fun base _ _ => ok_f_law T⟩
theorem walk {l : PySem.W.OpenLaw} {q : Program} {loose : List Str} {XP : (Str → Option Value) → Heap → Prop} {YP : World → Heap → Prop} {d : DefRec} {K : Params → PySem.W.Frag} (hn : l.most = some 63) (hdf : d.params.defaults = [])
    (hY : ∀ (w : World) (h : Heap), YP w h → (K w.params).In h)
    (F : ∀ (w : World) (mg : Str → Option Value) (fa : Addr) (h : Heap), (K w.params).In h → h.Ns mainGlobals mg → mg d.name = some (.ref fa) →
      ∃ fd : FuncData, (∀ (s : Shared) (u : Value), BindsTo s fd ⟨[u], []⟩ [("_law_script", u)]) ∧ ∀ base : Heap, (K w.params).In base → base.Ns mainGlobals mg → FnOk l.prog w (K w.params) mg base CX0 8 fa fd ["_law_script"] (spLaw (K w.params))) :
    PySem.W.WalkO q loose XP YP l.row.toRowW d [] (fun f vs => PySem.call f vs) :=
  L2.walk_of (n := 63) (k := 8) (x := "_law_script") (CX := fun _ => CX0) (sp := fun w => spLaw (K w.params)) hn (by decide) hdf ⟨rfl, by decide, by decide⟩ hY F (fun _ _ a ns hl _ hS => ⟨a, ns, rfl, hS, hl, fun _ => rfl⟩) fun _ _ _ _ _ z => z
end Lot
open PySem PySem.W PyProof.Rows
set_option maxRecDepth 100000 in
set_option maxHeartbeats 0 in
theorem PySem.Challenge.cw_lotcosts_k44_refused_rules_holds : PySem.Challenge.rw_lotcosts_k44_refused_rules.Holds := by
  w_on; o_law; k_head; (case hw => w_witness2)
  k_fill
  refine Lot.walk (l := PySem.Challenge.rw_lotcosts_k44_refused_rules) rfl rfl (fun w h Y => PySem.W.kIn_of Y) ?F
  case F =>
    intro w mg fa h KX G hmg
    refine' Lot.all_mk KX G hmg ?pz_abs ?pz_bool ?pz_int ?pz_isinstance ?pz_len ?pz_list ?pz_range ?pg_CostError ?pek_CostError ?peb_CostError ?pet_CostError ?peh_CostError ?peic_CostError ?pes_CostError ?pxg_CostError ?pxk_CostError ?pxa_CostError ?pxn_CostError ?pxt_CostError ?pxm_CostError ?prd_CostError ?pcg_CostError ?pvi_CostError ?pg_NoRatio ?pek_NoRatio ?peb_NoRatio ?pet_NoRatio ?peh_NoRatio ?peic_NoRatio ?pes_NoRatio ?pxg_NoRatio ?pxk_NoRatio ?pxa_NoRatio ?pxn_NoRatio ?pxt_NoRatio ?pxm_NoRatio ?pg_BadRule ?pek_BadRule ?peb_BadRule ?pet_BadRule ?peh_BadRule ?peic_BadRule ?pes_BadRule ?pxg_BadRule ?pxk_BadRule ?pxa_BadRule ?pxn_BadRule ?pxt_BadRule ?pxm_BadRule ?pxc_BadRule ?pn_BadRule_word ?poi_BadRule ?pot_BadRule ?pol_BadRule ?pov_BadRule ?posa_BadRule ?pg_Short ?pek_Short ?peb_Short ?pet_Short ?peh_Short ?peic_Short ?pes_Short ?pxg_Short ?pxk_Short ?pxa_Short ?pxn_Short ?pxt_Short ?pxm_Short ?pn_Short_missing ?pg_Ratio ?ppg_Ratio ?phd_Ratio ?ppo_Ratio ?psa_Ratio ?pn_Ratio_top ?pn_Ratio_bottom ?pg_Rule ?ppg_Rule ?phd_Rule ?ppo_Rule ?psa_Rule ?pn_Rule_take ?pn_Rule_place ?pn_Rule_period ?pma_Rule ?pmi_Rule ?pmf_Rule ?pmc_Rule ?pg_MOST ?pg_TAKES ?ptl_TAKES ?pg_SPOTS ?ptl_SPOTS ?pe_m_BadRule_init ?pl_m_BadRule_init ?pc_m_BadRule_init ?pq_m_BadRule_init ?pa_f_is_number ?pl_f_is_number ?pc_f_is_number ?pq_f_is_number ?pl_m_Rule_init ?pk0_m_Rule_init ?pk1_m_Rule_init ?pc_m_Rule_init ?pq_m_Rule_init ?pa_l_bag ?pl_l_bag ?pc_l_bag ?pq_l_bag ?pa_l_draw ?pl_l_draw ?pc_l_draw ?pq_l_draw ?pa_l_told ?pl_l_told ?pc_l_told ?pq_l_told ?pa_f_law ?pl_f_law ?pc_f_law ?pq_f_law
    (case pz_abs => first | k_is | rfl)
    (case pz_bool => first | k_is | rfl)
    (case pz_int => first | k_is | rfl)
    (case pz_isinstance => first | k_is | rfl)
    (case pz_len => first | k_is | rfl)
    (case pz_list => first | k_is | rfl)
    (case pz_range => first | k_is | rfl)
    (case pg_CostError => first | k_is | rfl)
    (case pek_CostError => first | k_is | rfl)
    (case peb_CostError => first | k_is | rfl)
    (case pet_CostError => first | k_is | rfl)
    (case peh_CostError => first | k_is | rfl)
    (case peic_CostError => first | k_is | rfl)
    (case pes_CostError => first | k_is | rfl)
    (case pxg_CostError => first | k_is | rfl)
    (case pxk_CostError => first | k_is | rfl)
    (case pxa_CostError => first | k_is | rfl)
    (case pxn_CostError => first | k_is | rfl)
    (case pxt_CostError => first | k_is | rfl)
    (case pxm_CostError => first | k_is | rfl)
    (case prd_CostError => first | k_is | rfl)
    (case pcg_CostError => first | k_is | rfl)
    (case pvi_CostError => first | k_is | rfl)
    (case pg_NoRatio => first | k_is | rfl)
    (case pek_NoRatio => first | k_is | rfl)
    (case peb_NoRatio => first | k_is | rfl)
    (case pet_NoRatio => first | k_is | rfl)
    (case peh_NoRatio => first | k_is | rfl)
    (case peic_NoRatio => first | k_is | rfl)
    (case pes_NoRatio => first | k_is | rfl)
    (case pxg_NoRatio => first | k_is | rfl)
    (case pxk_NoRatio => first | k_is | rfl)
    (case pxa_NoRatio => first | k_is | rfl)
    (case pxn_NoRatio => first | k_is | rfl)
    (case pxt_NoRatio => first | k_is | rfl)
    (case pxm_NoRatio => first | k_is | rfl)
    (case pg_BadRule => first | k_is | rfl)
    (case pek_BadRule => first | k_is | rfl)
    (case peb_BadRule => first | k_is | rfl)
    (case pet_BadRule => first | k_is | rfl)
    (case peh_BadRule => first | k_is | rfl)
    (case peic_BadRule => first | k_is | rfl)
    (case pes_BadRule => first | k_is | rfl)
    (case pxg_BadRule => first | k_is | rfl)
    (case pxk_BadRule => first | k_is | rfl)
    (case pxa_BadRule => first | k_is | rfl)
    (case pxn_BadRule => first | k_is | rfl)
    (case pxt_BadRule => first | k_is | rfl)
    (case pxm_BadRule => first | k_is | rfl)
    (case pxc_BadRule => first | k_is | rfl)
    (case pn_BadRule_word => first | k_is | rfl)
    (case poi_BadRule => first | k_is | rfl)
    (case pot_BadRule => first | k_is | rfl)
    (case pol_BadRule => first | k_is | rfl)
    (case pov_BadRule => first | k_is | rfl)
    (case posa_BadRule => first | k_is | rfl)
    (case pg_Short => first | k_is | rfl)
    (case pek_Short => first | k_is | rfl)
    (case peb_Short => first | k_is | rfl)
    (case pet_Short => first | k_is | rfl)
    (case peh_Short => first | k_is | rfl)
    (case peic_Short => first | k_is | rfl)
    (case pes_Short => first | k_is | rfl)
    (case pxg_Short => first | k_is | rfl)
    (case pxk_Short => first | k_is | rfl)
    (case pxa_Short => first | k_is | rfl)
    (case pxn_Short => first | k_is | rfl)
    (case pxt_Short => first | k_is | rfl)
    (case pxm_Short => first | k_is | rfl)
    (case pn_Short_missing => first | k_is | rfl)
    (case pg_Ratio => first | k_is | rfl)
    (case ppg_Ratio => first | k_is | rfl)
    (case phd_Ratio => first | k_is | rfl)
    (case ppo_Ratio => first | k_is | rfl)
    (case psa_Ratio => first | k_is | rfl)
    (case pn_Ratio_top => first | k_is | rfl)
    (case pn_Ratio_bottom => first | k_is | rfl)
    (case pg_Rule => first | k_is | rfl)
    (case ppg_Rule => first | k_is | rfl)
    (case phd_Rule => first | k_is | rfl)
    (case ppo_Rule => first | k_is | rfl)
    (case psa_Rule => first | k_is | rfl)
    (case pn_Rule_take => first | k_is | rfl)
    (case pn_Rule_place => first | k_is | rfl)
    (case pn_Rule_period => first | k_is | rfl)
    (case pma_Rule => first | k_is | rfl)
    (case pmi_Rule => first | k_is | rfl)
    (case pmf_Rule => first | k_is | rfl)
    (case pmc_Rule => first | k_is | rfl)
    (case pg_MOST => first | k_is | rfl)
    (case pg_TAKES => first | k_is | rfl)
    (case ptl_TAKES => first | k_is | rfl)
    (case pg_SPOTS => first | k_is | rfl)
    (case ptl_SPOTS => first | k_is | rfl)
    (case pe_m_BadRule_init => first | k_is | rfl)
    (case pl_m_BadRule_init => first | k_is | rfl)
    (case pc_m_BadRule_init => first | k_is | rfl)
    (case pq_m_BadRule_init => first | k_is | rfl)
    (case pa_f_is_number => first | k_is | rfl)
    (case pl_f_is_number => first | k_is | rfl)
    (case pc_f_is_number => first | k_is | rfl)
    (case pq_f_is_number => first | k_is | rfl)
    (case pl_m_Rule_init => first | k_is | rfl)
    (case pk0_m_Rule_init => first | k_is | rfl)
    (case pk1_m_Rule_init => first | k_is | rfl)
    (case pc_m_Rule_init => first | k_is | rfl)
    (case pq_m_Rule_init => first | k_is | rfl)
    (case pa_l_bag => first | k_is | rfl)
    (case pl_l_bag => first | k_is | rfl)
    (case pc_l_bag => first | k_is | rfl)
    (case pq_l_bag => first | k_is | rfl)
    (case pa_l_draw => first | k_is | rfl)
    (case pl_l_draw => first | k_is | rfl)
    (case pc_l_draw => first | k_is | rfl)
    (case pq_l_draw => first | k_is | rfl)
    (case pa_l_told => first | k_is | rfl)
    (case pl_l_told => first | k_is | rfl)
    (case pc_l_told => first | k_is | rfl)
    (case pq_l_told => first | k_is | rfl)
    (case pa_f_law => first | k_is | rfl)
    (case pl_f_law => first | k_is | rfl)
    (case pc_f_law => first | k_is | rfl)
    (case pq_f_law => first | k_is | rfl)
#print axioms PySem.Challenge.cw_lotcosts_k44_refused_rules_holds

