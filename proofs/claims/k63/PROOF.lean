import PyProof.Rows.All
import Wide.All
import OpenK.AllK
import Wide.FinOn
import HandS.ForMost
import HandS.ForExc
import HandS.Flow
import HandS.Evl
import HandS.Style
import KE.KOpsOwn
import HandS.ClsMeth
import HandS.OwnEq
import HandS.IsInst
import HandS.ExcIs
import HandS.ExcInit
import HandS.ExcField
import HandS.ExcValue
import HandS.MakeKwOnly
import KE.KExcIs
import KE.DataEq
import KE.DataMinMax
import HandS.Wide
import HandS.Codes
import HandS.Text
import HandS.Defaults
import HandS.DictTup
import HandS.TupLen
import HandS.SortRule
import HandS.Conv
import HandS.Walk
import HandS.CallLocal
import HandS.Star
import HandS.HotCalls
import HandS.Deep
import HandS.DictComp
import HandS.Finally
import HandS.NoneIn
import HandS.SetFor
import HandS.SetTxt0
import HandS.SetBool
import HandS.RaiseMore
import HandS.Strs
import PySem.Challenge.RW_lotcosts_k63_comparisons_told_and_needle
set_option Elab.async false
set_option linter.all false
set_option pp.maxSteps 400
set_option maxRecDepth 100000
set_option maxHeartbeats 4000000
namespace Lot
open PySem L2
/-! ### steps -/
local macro_rules | `(tactic| walk_at "ne") => `(tactic| first
  | with_reducible assumption
  | (apply Ne.symm; with_reducible assumption)
  | exact ne_of_none (by with_reducible assumption) (by with_reducible assumption)
  | exact (ne_of_none (by with_reducible assumption) (by with_reducible assumption)).symm)
local macro_rules | `(tactic| walk_at "at") => `(tactic| first
  | with_reducible assumption
  | exact upd_same
  | (refine Eq.trans (upd_ne (by walk_at "ne")) ?_; walk_at "at"))
local macro_rules | `(tactic| walk_at "num") => `(tactic| first
  | decide
  | omega
  | (dsimp only; first | decide | omega))
local macro_rules | `(tactic| walk_at "fact") => `(tactic| first
  | with_reducible assumption
  | exact rfl
  | walk_at "at"
  | exact SqL.of (by walk_at "at")
  | exact SqT.of (by walk_at "at")
  | exact .inl (SqL.of (by walk_at "at"))
  | exact .inr (SqT.of (by walk_at "at"))
  | exact .inl ⟨rfl, _, SqL.of (by walk_at "at")⟩
  | exact Or.inl ⟨by walk_at "num", by walk_at "num"⟩
  | exact Or.inr ⟨by walk_at "num", by walk_at "num"⟩
  | exact ⟨by walk_at "num", by walk_at "num"⟩
  | exact ⟨by walk_at "num", by walk_at "num", by walk_at "num"⟩
  | exact wide_div (b := 9000) (by omega) (by assumption) (by decide) (by decide)
  | exact Nat.le_of_ble_eq_true rfl
  | assumption
  | walk_at "num")
local macro_rules | `(tactic| walk_at "go") => `(tactic| repeat (first
  | apply Exists.intro
  | refine And.intro (by walk_at "fact") ?_
  | refine Or.inl ⟨_, rfl, ?_⟩
  | refine Or.inr ⟨_, rfl, ?_⟩
  | refine iteT ?_
  | refine iteF ?_))
def top (i : Nat) : Stmt := PySem.Challenge.pw_lotcosts_k63_comparisons_told_and_needle.main.body.getD i (.Pass ⟨0, 0, 0, 0⟩)
abbrev s_f_all_above : Stmt := top 1
abbrev N_f_all_above : List Str := ["pairs", "above", "low", "high", "middle"]
abbrev P_f_all_above : List Str := ["pairs"]
theorem sc_f_all_above : FnScope N_f_all_above P_f_all_above (defScope s_f_all_above) := ⟨rfl, rfl, rfl, by decide +kernel, rfl, by decide +kernel, by decide +kernel⟩
abbrev s_m_Known_init : Stmt := inClass (top 2) 0
abbrev N_m_Known_init : List Str := ["self", "pairs", "low", "high"]
abbrev P_m_Known_init : List Str := ["self", "pairs"]
theorem sc_m_Known_init : FnScope N_m_Known_init P_m_Known_init (defScope s_m_Known_init) := ⟨rfl, rfl, rfl, by decide +kernel, rfl, by decide +kernel, by decide +kernel⟩
abbrev s_m_Known_names : Stmt := inClass (top 2) 1
abbrev N_m_Known_names : List Str := ["self"]
abbrev P_m_Known_names : List Str := ["self"]
theorem sc_m_Known_names : FnScope N_m_Known_names P_m_Known_names (defScope s_m_Known_names) := ⟨rfl, rfl, rfl, by decide +kernel, rfl, by decide +kernel, by decide +kernel⟩
abbrev s_m_Known_told : Stmt := inClass (top 2) 2
abbrev N_m_Known_told : List Str := ["self", "low", "high"]
abbrev P_m_Known_told : List Str := ["self", "low", "high"]
theorem sc_m_Known_told : FnScope N_m_Known_told P_m_Known_told (defScope s_m_Known_told) := ⟨rfl, rfl, rfl, by decide +kernel, rfl, by decide +kernel, by decide +kernel⟩
abbrev s_m_Known_equal_names : Stmt := inClass (top 2) 3
abbrev N_m_Known_equal_names : List Str := ["self", "groups", "done", "name", "group", "other"]
abbrev P_m_Known_equal_names : List Str := ["self"]
theorem sc_m_Known_equal_names : FnScope N_m_Known_equal_names P_m_Known_equal_names (defScope s_m_Known_equal_names) := ⟨rfl, rfl, rfl, by decide +kernel, rfl, by decide +kernel, by decide +kernel⟩
abbrev s_m_Known_needless : Stmt := inClass (top 2) 4
abbrev N_m_Known_needless : List Str := ["self", "numbers", "number", "low", "high", "others"]
abbrev P_m_Known_needless : List Str := ["self"]
theorem sc_m_Known_needless : FnScope N_m_Known_needless P_m_Known_needless (defScope s_m_Known_needless) := ⟨rfl, rfl, rfl, by decide +kernel, rfl, by decide +kernel, by decide +kernel⟩
abbrev s_l_bag : Stmt := top 4
abbrev N_l_bag : List Str := ["_law_script"]
abbrev P_l_bag : List Str := ["_law_script"]
theorem sc_l_bag : FnScope N_l_bag P_l_bag (defScope s_l_bag) := ⟨rfl, rfl, rfl, by decide +kernel, rfl, by decide +kernel, by decide +kernel⟩
abbrev s_l_draw : Stmt := top 5
abbrev N_l_draw : List Str := ["_law_bag_here", "_law_size", "_law_cell", "_law_digit", "_law_mixed_here"]
abbrev P_l_draw : List Str := ["_law_bag_here", "_law_size"]
theorem sc_l_draw : FnScope N_l_draw P_l_draw (defScope s_l_draw) := ⟨rfl, rfl, rfl, by decide +kernel, rfl, by decide +kernel, by decide +kernel⟩
abbrev s_l_names : Stmt := top 6
abbrev N_l_names : List Str := ["_law_bag_here", "_law_count", "_law_words", "_law_letters", "_law_size", "_law_stem", "_law_where", "_law_shift", "_law_longer", "_law_names_here", "_law_k", "_law_name", "_law_spot", "_law_word"]
abbrev P_l_names : List Str := ["_law_bag_here", "_law_count", "_law_words"]
theorem sc_l_names : FnScope N_l_names P_l_names (defScope s_l_names) := ⟨rfl, rfl, rfl, by decide +kernel, rfl, by decide +kernel, by decide +kernel⟩
abbrev s_l_pick : Stmt := top 7
abbrev N_l_pick : List Str := ["_law_bag_here", "_law_items"]
abbrev P_l_pick : List Str := ["_law_bag_here", "_law_items"]
theorem sc_l_pick : FnScope N_l_pick P_l_pick (defScope s_l_pick) := ⟨rfl, rfl, rfl, by decide +kernel, rfl, by decide +kernel, by decide +kernel⟩
abbrev s_l_mixed : Stmt := top 8
abbrev N_l_mixed : List Str := ["_law_bag_here", "_law_items", "_law_left", "_law_found", "_law_k"]
abbrev P_l_mixed : List Str := ["_law_bag_here", "_law_items"]
theorem sc_l_mixed : FnScope N_l_mixed P_l_mixed (defScope s_l_mixed) := ⟨rfl, rfl, rfl, by decide +kernel, rfl, by decide +kernel, by decide +kernel⟩
abbrev s_l_pairs : Stmt := top 9
abbrev N_l_pairs : List Str := ["_law_bag_here", "_law_names_here", "_law_pairs_here", "_law_half", "_law_crossed", "_law_k"]
abbrev P_l_pairs : List Str := ["_law_bag_here", "_law_names_here"]
theorem sc_l_pairs : FnScope N_l_pairs P_l_pairs (defScope s_l_pairs) := ⟨rfl, rfl, rfl, by decide +kernel, rfl, by decide +kernel, by decide +kernel⟩
abbrev s_l_tells : Stmt := top 10
abbrev N_l_tells : List Str := ["_law_pairs_here", "_law_low", "_law_high", "_law_found", "_law_k", "_law_pair"]
abbrev P_l_tells : List Str := ["_law_pairs_here", "_law_low", "_law_high"]
theorem sc_l_tells : FnScope N_l_tells P_l_tells (defScope s_l_tells) := ⟨rfl, rfl, rfl, by decide +kernel, rfl, by decide +kernel, by decide +kernel⟩
abbrev s_l_groups : Stmt := top 11
abbrev N_l_groups : List Str := ["_law_pairs_here", "_law_names_here", "_law_groups_here", "_law_name", "_law_group", "_law_other"]
abbrev P_l_groups : List Str := ["_law_pairs_here", "_law_names_here"]
theorem sc_l_groups : FnScope N_l_groups P_l_groups (defScope s_l_groups) := ⟨rfl, rfl, rfl, by decide +kernel, rfl, by decide +kernel, by decide +kernel⟩
abbrev s_l_extra : Stmt := top 12
abbrev N_l_extra : List Str := ["_law_pairs_here", "_law_k"]
abbrev P_l_extra : List Str := ["_law_pairs_here"]
theorem sc_l_extra : FnScope N_l_extra P_l_extra (defScope s_l_extra) := ⟨rfl, rfl, rfl, by decide +kernel, rfl, by decide +kernel, by decide +kernel⟩
abbrev s_l_chain_right : Stmt := top 13
abbrev N_l_chain_right : List Str := ["_law_bag_here", "_law_letters", "_law_links", "_law_pairs_here", "_law_known", "_law_k", "_law_ring", "_law_letter"]
abbrev P_l_chain_right : List Str := ["_law_bag_here"]
theorem sc_l_chain_right : FnScope N_l_chain_right P_l_chain_right (defScope s_l_chain_right) := ⟨rfl, rfl, rfl, by decide +kernel, rfl, by decide +kernel, by decide +kernel⟩
abbrev s_f_law : Stmt := top 14
abbrev N_f_law : List Str := ["_law_script", "_law_bag_here", "_law_names_here", "_law_pairs_here", "_law_handed", "_law_known", "_law_had", "_law_every", "_law_turn", "_law_low", "_law_high", "_law_told", "_law_group", "_law_items"]
abbrev P_f_law : List Str := ["_law_script"]
theorem sc_f_law : FnScope N_f_law P_f_law (defScope s_f_law) := ⟨rfl, rfl, rfl, by decide +kernel, rfl, by decide +kernel, by decide +kernel⟩
/-- no __iop__ in the class's chain -/
def noI (K : PySem.W.Frag) (C : Addr) (nm : String) : Bool := (PySem.W.clsIn K C).any fun cd => cd.mro.all fun c => PySem.W.findIn K c (dunderI nm) == some none
/-- C.m is a staticmethod: its record at p, its def at g -/
structure SMet (K : PySem.W.Frag) (C : Addr) (m : Str) (p g : Addr) : Prop where
  rd : PySem.W.readsIn K C (.type "type") = true
  ga : PySem.W.specialIn K (.ref C) "__getattribute__" = some (some (.builtin "type.__getattribute__"))
  at_ : PySem.W.findCls K (.ref C) (.type "type") m = some (.get (.builtin "staticmethod.__get__") (.ref p) .none (.ref C))
  rc : ∃ rest, PySem.W.recIn K p "staticmethod" = some (.ref g :: rest)
  kp : PySem.W.keepIn K (.ref g) = true
/-- C.m is a classmethod: its record at p, its def at g -/
def CMx (K : PySem.W.Frag) (C : Addr) (m : Str) (p g : Addr) : Prop := ClX.CRead K C (.type "type") ∧ ClX.CMet K C (.type "type") m p g
/-- each of the classes cs is itself alone among them, and under CE and ValueError -/
def kitAll (K : PySem.W.Frag) (cs : List Addr) (CE : Addr) : Bool := cs.all fun C => cs.count C == 1 && (cs.all fun D => PySem.W.kitOne K (.ref C) (.ref D) == some (C == D)) && PySem.W.kitOne K (.ref C) (.ref CE) == some true && PySem.W.kitOne K (.ref C) (.type "ValueError") == some true
structure Ad where
  Known : Addr
  f_all_above : Addr
  fd_f_all_above : FuncData
  m_Known_init : Addr
  fd_m_Known_init : FuncData
  m_Known_names : Addr
  fd_m_Known_names : FuncData
  m_Known_told : Addr
  fd_m_Known_told : FuncData
  m_Known_equal_names : Addr
  fd_m_Known_equal_names : FuncData
  m_Known_needless : Addr
  fd_m_Known_needless : FuncData
  l_bag : Addr
  fd_l_bag : FuncData
  l_draw : Addr
  fd_l_draw : FuncData
  l_names : Addr
  fd_l_names : FuncData
  l_pick : Addr
  fd_l_pick : FuncData
  l_mixed : Addr
  fd_l_mixed : FuncData
  l_pairs : Addr
  fd_l_pairs : FuncData
  l_tells : Addr
  fd_l_tells : FuncData
  l_groups : Addr
  fd_l_groups : FuncData
  l_extra : Addr
  fd_l_extra : FuncData
  l_chain_right : Addr
  fd_l_chain_right : FuncData
  f_law : Addr
  fd_f_law : FuncData
structure Txt (K : PySem.W.Frag) (mg : Str → Option Value) (A : Ad) : Prop where
  z_abs : mg "abs" = none
  z_int : mg "int" = none
  z_len : mg "len" = none
  z_list : mg "list" = none
  z_range : mg "range" = none
  z_set : mg "set" = none
  z_sorted : mg "sorted" = none
  g_Known : mg "Known" = some (.ref A.Known)
  cl_Known : Cls K A.Known
  n_Known_pairs : NoAttr K A.Known "pairs"
  n_Known_above : NoAttr K A.Known "above"
  mk_Known : Mk K A.Known A.m_Known_init
  m_Known_names : Meth K A.Known "names" A.m_Known_names
  m_Known_told : Meth K A.Known "told" A.m_Known_told
  m_Known_equal_names : Meth K A.Known "equal_names" A.m_Known_equal_names
  m_Known_needless : Meth K A.Known "needless" A.m_Known_needless
  F_f_all_above : Fun K "all_above" "all_above" s_f_all_above A.f_all_above A.fd_f_all_above
  b_f_all_above : Binds K A.fd_f_all_above P_f_all_above []
  g_all_above : mg "all_above" = some (.ref A.f_all_above)
  F_m_Known_init : Fun K "__init__" "Known.__init__" s_m_Known_init A.m_Known_init A.fd_m_Known_init
  b_m_Known_init : Binds K A.fd_m_Known_init P_m_Known_init []
  F_m_Known_names : Fun K "names" "Known.names" s_m_Known_names A.m_Known_names A.fd_m_Known_names
  b_m_Known_names : Binds K A.fd_m_Known_names P_m_Known_names []
  F_m_Known_told : Fun K "told" "Known.told" s_m_Known_told A.m_Known_told A.fd_m_Known_told
  b_m_Known_told : Binds K A.fd_m_Known_told P_m_Known_told []
  F_m_Known_equal_names : Fun K "equal_names" "Known.equal_names" s_m_Known_equal_names A.m_Known_equal_names A.fd_m_Known_equal_names
  b_m_Known_equal_names : Binds K A.fd_m_Known_equal_names P_m_Known_equal_names []
  F_m_Known_needless : Fun K "needless" "Known.needless" s_m_Known_needless A.m_Known_needless A.fd_m_Known_needless
  b_m_Known_needless : Binds K A.fd_m_Known_needless P_m_Known_needless []
  F_l_bag : Fun K "_law_bag" "_law_bag" s_l_bag A.l_bag A.fd_l_bag
  b_l_bag : Binds K A.fd_l_bag P_l_bag []
  g__law_bag : mg "_law_bag" = some (.ref A.l_bag)
  F_l_draw : Fun K "_law_draw" "_law_draw" s_l_draw A.l_draw A.fd_l_draw
  b_l_draw : Binds K A.fd_l_draw P_l_draw []
  g__law_draw : mg "_law_draw" = some (.ref A.l_draw)
  F_l_names : Fun K "_law_names" "_law_names" s_l_names A.l_names A.fd_l_names
  b_l_names : Binds K A.fd_l_names P_l_names []
  g__law_names : mg "_law_names" = some (.ref A.l_names)
  F_l_pick : Fun K "_law_pick" "_law_pick" s_l_pick A.l_pick A.fd_l_pick
  b_l_pick : Binds K A.fd_l_pick P_l_pick []
  g__law_pick : mg "_law_pick" = some (.ref A.l_pick)
  F_l_mixed : Fun K "_law_mixed" "_law_mixed" s_l_mixed A.l_mixed A.fd_l_mixed
  b_l_mixed : Binds K A.fd_l_mixed P_l_mixed []
  g__law_mixed : mg "_law_mixed" = some (.ref A.l_mixed)
  F_l_pairs : Fun K "_law_pairs" "_law_pairs" s_l_pairs A.l_pairs A.fd_l_pairs
  b_l_pairs : Binds K A.fd_l_pairs P_l_pairs []
  g__law_pairs : mg "_law_pairs" = some (.ref A.l_pairs)
  F_l_tells : Fun K "_law_tells" "_law_tells" s_l_tells A.l_tells A.fd_l_tells
  b_l_tells : Binds K A.fd_l_tells P_l_tells []
  g__law_tells : mg "_law_tells" = some (.ref A.l_tells)
  F_l_groups : Fun K "_law_groups" "_law_groups" s_l_groups A.l_groups A.fd_l_groups
  b_l_groups : Binds K A.fd_l_groups P_l_groups []
  g__law_groups : mg "_law_groups" = some (.ref A.l_groups)
  F_l_extra : Fun K "_law_extra" "_law_extra" s_l_extra A.l_extra A.fd_l_extra
  b_l_extra : Binds K A.fd_l_extra P_l_extra []
  g__law_extra : mg "_law_extra" = some (.ref A.l_extra)
  F_l_chain_right : Fun K "_law_chain_right" "_law_chain_right" s_l_chain_right A.l_chain_right A.fd_l_chain_right
  b_l_chain_right : Binds K A.fd_l_chain_right P_l_chain_right []
  g__law_chain_right : mg "_law_chain_right" = some (.ref A.l_chain_right)
  F_f_law : Fun K "law" "law" s_f_law A.f_law A.fd_f_law
  b_f_law : Binds K A.fd_f_law P_f_law []
  g_law : mg "law" = some (.ref A.f_law)
/-- a word that the steps don't open -/
structure Wd (p : Prop) : Prop where
  ok : p
section
variable {X : Cx}
def tG (t : TS) : TS := fun D σ H => Wd (t D σ H)
def tGE (t : TE) : TE := fun σ H Q => Wd (t σ H Q)
theorem ps_g {st : Stmt} {t : TS} (h : PS X st t) : PS X st (tG t) := ⟨fun pins s σ H D I hw => h.run pins s σ H D I hw.ok⟩
theorem pss_g {st : List Stmt} {t : TS} (h : PSs X st t) : PSs X st (tG t) := ⟨fun pins s σ H D I hw => h.run pins s σ H D I hw.ok⟩
theorem pe_g {e : Expr} {t : TE} (h : PE X e t) : PE X e (tGE t) := ⟨fun pins s σ H Q I hw => h.run pins s σ H Q I hw.ok⟩
end
theorem if_int {i j : Int} {A B : Prop} (h1 : i = j → A) (h2 : i ≠ j → B) : if decide (V.int i = V.int j) = true then A else B := by
  by_cases e : i = j
  · rw [if_pos (decide_eq_true (congrArg V.int e))]
    exact h1 e
  · rw [if_neg fun z => e (V.int.inj (of_decide_eq_true z))]
    exact h2 e
theorem if_intN {i j : Int} {A B : Prop} (h1 : i ≠ j → A) (h2 : i = j → B) : if (!decide (V.int i = V.int j)) = true then A else B := by
  by_cases e : i = j
  · rw [decide_eq_true (congrArg V.int e)]
    exact iteF (h2 e)
  · rw [decide_eq_false fun z => e (V.int.inj z)]
    exact iteT (h1 e)
theorem if_dec {p A B : Prop} [Decidable p] (h1 : p → A) (h2 : ¬ p → B) : if decide p = true then A else B := by
  by_cases e : p
  · rw [if_pos (decide_eq_true e)]
    exact h1 e
  · rw [if_neg fun z => e (of_decide_eq_true z)]
    exact h2 e
theorem ifT {p A B : Prop} [Decidable p] (hp : p) (h : A) : if decide p = true then A else B := by
  rw [if_pos (decide_eq_true hp)]
  exact h
theorem ifF {p A B : Prop} [Decidable p] (hp : ¬ p) (h : B) : if decide p = true then A else B := by
  rw [if_neg fun z => hp (of_decide_eq_true z)]
  exact h
theorem ifNT {p A B : Prop} [Decidable p] (hp : p) (h : B) : if (!decide p) = true then A else B := by
  rw [decide_eq_true hp]
  exact iteF h
theorem ifNF {p A B : Prop} [Decidable p] (hp : ¬ p) (h : A) : if (!decide p) = true then A else B := by
  rw [decide_eq_false hp]
  exact iteT h
theorem if_bl {b : Bool} {A B : Prop} (h1 : b = true → A) (h2 : b = false → B) : if b = true then A else B := by
  cases b with
  | true => exact h1 rfl
  | false => exact iteF (h2 rfl)
/-- all but what stands at g is kept -/
def Kp (g : Addr) (H H' : Hp) : Prop := ∀ b o, H b = some o → b ≠ g → H' b = some o
theorem Kp.refl (g : Addr) (H : Hp) : Kp g H H := fun _ _ h _ => h
theorem Kp.trans {g : Addr} {H H1 H2 : Hp} (a : Kp g H H1) (b : Kp g H1 H2) : Kp g H H2 := fun c o h n => b c o (a c o h n) n
theorem Kp.up {g : Addr} {H H' : Hp} {o : HO} (k : Kp g H H') : Kp g H (upd H' g o) := fun b u e n => by
  rw [upd_ne n]
  exact k b u e n

/-! ### the bag of draws -/
structure Bag (H : Hp) (g l : Addr) : Prop where
  ex : ∃ (i r s c : Int) (ns : List Int), H g = some (.lst [.ref l, .int i, .int r, .int s, .int c]) ∧ H l = some (.lst (ns.map V.int)) ∧ 0 ≤ i
def spDraw : Sp := fun vs H Q _ => ∃ (g l : Addr) (z : Int), vs = [.ref g, .int z] ∧ Bag H g l ∧ 0 < z ∧ z.natAbs < 2 ^ 9000 ∧
  ∀ (n : Int) (H' : Hp), 0 ≤ n → n < z → Bag H' g l → Kp g H H' → Q (.int n) H'
theorem at_ints {ns : List Int} {i : Int} (h0 : 0 ≤ i) (h1 : i < (ns.length : Int)) : ∃ n, atI (ns.map V.int) i = some (.int n) := by
  obtain ⟨j, rfl⟩ := Int.eq_ofNat_of_zero_le h0
  have hj : j < ns.length := by omega
  exact ⟨ns[j], atI_nat (by rw [List.getElem?_map, List.getElem?_eq_getElem hj]; rfl)⟩
theorem cmul_r {i j : Int} (h : -(2 ^ 64) < j ∧ j < 2 ^ 64) : CMul i j := .inr h
theorem cmul_l {i j : Int} (h : -(2 ^ 64) < i ∧ i < 2 ^ 64) : CMul i j := .inl h
theorem cpow_of {i j : Int} (h1 : 0 ≤ j ∧ j ≤ 1000000) (h2 : -(2 ^ 63) < i ∧ i < 2 ^ 63) : CPow i j := ⟨h1.1, h1.2, by omega⟩
section
variable {P : Program} {w : World} {K : PySem.W.Frag} {mg : Str → Option Value} {base : Heap} {A : Ad}
theorem ok_l_draw (T : Txt K mg A) : FnOk P w K mg base CX0 1 A.l_draw A.fd_l_draw P_l_draw spDraw := by
  refine T.F_l_draw.ok sc_l_draw (fun vs H Q E h => ?_) (fun cdv Ar outer s H vs Q E hr h => ?_)
  · obtain ⟨g, l, z, rfl, _⟩ := h
    rfl
  · obtain ⟨g, l, z, rfl, ⟨i, r, sd, c, ns, hg, hl, hi⟩, hz, hz2, k⟩ := h
    have nlg : l ≠ g := ne_of hl hg (by intro q; cases ns <;> cases q)
    refine ⟨_, (pss_cons (ps_asg (pe_op op_add (pe_ix ix_list (pv 0) pe_int (fun _ _ => rfl)) pe_int) (pg_sub (pv 0) pe_int set_list))
      (pss_g (Evl.pss_cut (ps_if (PW.pt (pw_and (pt_cmpR op_eq (pe_ix ix_list (pv 0) pe_int (fun _ _ => rfl)) pe_int (nomark _)) (pw_and1 (pt_cmpR op_lt (pe_ix ix_list (pv 0) pe_int (fun _ _ => rfl)) (pe_callB call_len_seq (by rfl) T.z_len (by decide +kernel) (pa_cons (pe_ix ix_list (pv 0) pe_int (fun _ _ => rfl)) pa_nil)) (nomark _))))) (pss_cons (ps_set (i := 2) sc_l_draw.nd rfl (Or.inl rfl) (pe_ix ix_list (pe_ix ix_list (pv 0) pe_int (fun _ _ => rfl)) (pe_ix ix_list (pv 0) pe_int (fun _ _ => rfl)) (fun _ _ => rfl)))
      (pss_cons (ps_asg (pe_op op_add (pe_ix ix_list (pv 0) pe_int (fun _ _ => rfl)) pe_int) (pg_sub (pv 0) pe_int set_list))
      (pss_cons (ps_asg (pe_op op_mul (pe_op op_add (pe_op op_mul pe_int (pe_callB call_abs (by rfl) T.z_abs (by decide +kernel) (pa_cons (pv 2) pa_nil))) (pe_callTy call_int1 (by rfl) T.z_int (by decide +kernel) (pa_cons (pe_cmpR op_lt (pv 2) pe_int (nomark _)) pa_nil))) (pe_callTy call_int1 (by rfl) T.z_int (by decide +kernel) (pa_cons (pe_cmpR op_ge (pe_callB call_abs (by rfl) T.z_abs (by decide +kernel) (pa_cons (pv 2) pa_nil)) (pe_op op_pow pe_int pe_int) (nomark _)) pa_nil))) (pg_sub (pv 0) pe_int set_list))
      (pss_one (ps_asg (pe_op op_mod (pe_callTy call_int1 (by rfl) T.z_int (by decide +kernel) (pa_cons (pe_op op_add (pe_op op_add (pe_op op_mul (pe_ix ix_list (pv 0) pe_int (fun _ _ => rfl)) pe_int) (pe_op op_mul (pv 2) pe_int)) pe_int) pa_nil)) pe_int) (pg_sub (pv 0) pe_int set_list)))))) pss_nil)
      (pss_cons (ps_set (i := 3) sc_l_draw.nd rfl (Or.inl rfl) (pe_op op_mod (pe_callTy call_int1 (by rfl) T.z_int (by decide +kernel) (pa_cons (pe_ix ix_list (pv 0) pe_int (fun _ _ => rfl)) pa_nil)) (pv 1)))
      (pss_cons (ps_if (pt_cmpR op_gt (pe_ix ix_list (pv 0) pe_int (fun _ _ => rfl)) pe_int (nomark _)) (pss_cons (ps_asg (pe_op op_fdivW (pe_ix ix_list (pv 0) pe_int (fun _ _ => rfl)) (pv 1)) (pg_sub (pv 0) pe_int set_list))
      (pss_one (ps_ret (pv 3)))) pss_nil)
      (pss_cons (ps_set (i := 4) sc_l_draw.nd rfl (Or.inl rfl) (pe_op op_mod (pe_callTy call_int1 (by rfl) T.z_int (by decide +kernel) (pa_cons (pe_op op_add (pe_ix ix_list (pv 0) pe_int (fun _ _ => rfl)) (pe_op op_mul (pe_ix ix_list (pv 0) pe_int (fun _ _ => rfl)) pe_int)) pa_nil)) pe_int))
      (pss_cons (ps_set (i := 4) sc_l_draw.nd rfl (Or.inl rfl) (pe_op op_mod (pe_callTy call_int1 (by rfl) T.z_int (by decide +kernel) (pa_cons (pe_op op_add (pe_op op_add (pe_op op_pow (pv 4) pe_int) (pe_op op_mul (pe_ix ix_list (pv 0) pe_int (fun _ _ => rfl)) pe_int)) pe_int) pa_nil)) pe_int))
      (pss_one (ps_ret (pe_op op_mod (pe_op op_fdiv (pe_op op_mod (pe_callTy call_int1 (by rfl) T.z_int (by decide +kernel) (pa_cons (pe_op op_pow (pv 4) pe_int) pa_nil)) pe_int) pe_int) (pv 1))))))))))), ?_⟩
    refine ⟨_, rfl, g, _, _, _, rfl, rfl, SqL.of hg, rfl, _, _, rfl, rfl, _, rfl, g, _, _, _, rfl, rfl, hg, rfl, ?_⟩
    refine ⟨⟨fun σ' H' => Wd (∃ (i r s c : Int) (v : Option V), σ' = [some (.ref g), some (.int z), v, none, none] ∧ 0 ≤ i ∧ H' g = some (.lst [.ref l, .int i, .int r, .int s, .int c]) ∧ H' l = some (.lst (ns.map V.int)) ∧ Kp g H H'), ?_, ?_⟩⟩
    · walk_at "go"
      refine if_int (fun e0 => ?_) (fun e0 => ?_)
      · walk_at "go"
        refine if_dec (fun e1 => ?_) (fun e1 => ?_)
        · obtain ⟨n, hn⟩ := at_ints (ns := ns) hi (by simpa using e1)
          walk_at "go"
          exact ⟨i + 1, _, _, c + 1, _, rfl, by omega, upd_same, by walk_at "at", (((Kp.refl g H).up.up.up.up))⟩
        · exact ⟨i, r, sd, c + 1, none, rfl, hi, upd_same, by walk_at "at", (Kp.refl g H).up⟩
      · refine iteF ?_
        exact ⟨i, r, sd, c + 1, none, rfl, hi, upd_same, by walk_at "at", (Kp.refl g H).up⟩
    · rintro σ' H' ⟨i, r, s, c, v, rfl, hi, hg, hl, kp⟩
      walk_at "go"
      refine if_dec (fun e1 => ?_) (fun e1 => ?_)
      · walk_at "go"
        exact k _ _ (Int.emod_nonneg _ (by omega)) (Int.emod_lt_of_pos _ hz) ⟨i, _, s, c, ns, upd_same, by walk_at "at", hi⟩ kp.up
      · walk_at "go"
        exact k _ _ (Int.emod_nonneg _ (by omega)) (Int.emod_lt_of_pos _ hz) ⟨i, r, s, c, ns, hg, hl, hi⟩ kp
end

/-! ### calls in the body of a try: what they raise is wished for at the slots as they stand -/
section
open PySem.Spec PyProof.Rows
variable {X : Cx} {CX : CXT} {k : Nat} {f C : Addr} {fd : FuncData} {ps : List Str} {sp : Sp} {dvs : List V} {ds : List Value} {E : L2.St → XK} {x m : Str} {p pos apos : Pos} {e o : Expr} {es : List Expr} {ta : TE} {t : TA}
theorem run_mkS {pins : List (Addr × Obj)} {σ : L2.St} {H : Hp} {s : Shared} {Q : VK} {us : List Value} {vs : List V} (M : Mk X.K C f) (F : FnOk X.prog X.w X.K X.mg X.base CX k f fd ps sp)
    (hr : Room (k + 1) X.A) (hb : Binds X.K fd ps ds) (hd : Vals dvs ds) (hx : PassesAt CX X σ (E σ)) (I : Inv X pins σ H s) (r : Vals vs us)
    (h : ∀ x dx, H x = none → H dx = none → dx ≠ x → sp (.ref x :: (vs ++ dvs)) (upd (upd H dx (.own x)) x (.ins C dx [])) (fun v H2 => v = .non ∧ Q (.ref x) H2) (E σ)) :
    wpAny (model X.prog X.w) X.A (call (.ref C) us) (EP X pins σ Q) X.xe s := by
  have a1 := h (s.heap.objs.size + 1) s.heap.objs.size (I.hok.fresh (Nat.le_succ _)) (I.hok.fresh (Nat.le_refl _)) (Nat.ne_of_lt (Nat.lt_succ_self _))
  have J := Inv.made (C := C) I
  have a2 : Vals (V.ref (s.heap.objs.size + 1) :: (vs ++ dvs)) (Value.ref (s.heap.objs.size + 1) :: (us ++ ds)) := .cons rfl (r.append hd)
  have a3 : (Value.ref (s.heap.objs.size + 1) :: us ++ ds).length = ps.length := by
    have z := a2.length
    rw [F.len _ _ _ _ a1] at z
    exact z.symm
  refine wpAny_call (make_map (f := f) I.kIn M.makes M.init (beq_iff_eq.mp M.fn) (codeAny_mono (F.run _ X.stack _ _ ⟨Value.ref (s.heap.objs.size + 1) :: us, []⟩
    (Value.ref (s.heap.objs.size + 1) :: (us ++ ds)) _ _ (E σ) (hr.make C us []) (J.env0.make C us []) (hb _ (Value.ref (s.heap.objs.size + 1) :: us) J.kIn a3) a2 a1) fun r s' z => ?_))
  cases r with
  | error u => exact hx pins _ _ u s' J z
  | ok fl =>
    cases fl with
    | ret u =>
      obtain ⟨v, H', J3, rv, ev, q3⟩ := J.after z
      subst ev
      exact ⟨rv, V.ref (s.heap.objs.size + 1), H', J3, rfl, q3⟩
    | next => exact z.elim
    | brk => exact z.elim
    | cont => exact z.elim
def tMakeS (C : Addr) (sp : Sp) (dvs : List V) (E : L2.St → XK) (t : TA) : TE := fun σ H Q => t σ H fun vs H1 => ∀ x dx, H1 x = none → H1 dx = none → dx ≠ x →
  sp (.ref x :: (vs ++ dvs)) (upd (upd H1 dx (.own x)) x (.ins C dx [])) (fun v H2 => v = .non ∧ Q (.ref x) H2) (E σ)
theorem pe_makeS (M : Mk X.K C f) (F : FnOk X.prog X.w X.K X.mg X.base CX k f fd ps sp) (hr : Room (k + 1) X.A) (hg : Gl X x) (hm : X.mg x = some (.ref C)) (hb : Binds X.K fd ps ds) (hd : Vals dvs ds) (hx : ∀ σ, PassesAt CX X σ (E σ))
    (ha : PA X (e :: es) t) (hdb : (x == ("__debug__" : Str)) = false := by decide) (he : starEach (e :: es) X.env = (false, eval e X.env) :: starEach es X.env := by rfl)
    (hpl : (backTo pos (starEach es X.env)).any (·.1) = false := by rfl) : PE X (.Call (.Name x p) (e :: es) [] pos) (tMakeS C sp dvs E t) := ⟨fun pins s σ H Q I h =>
  wpAny_Call_Name_kw (ld_glob I hg hm (PySem.W.callWith_K (h₀ := X.base) I.ok.mod.kin M.kp (thn (ha.run pos pins s σ H _ I h) fun us s1 ⟨vs, H1, I1, r, q⟩ => ⟨I1.kIn, run_mkS M F hr hb hd (hx σ) I1 r q⟩) he hpl) hdb)⟩
def tMethS (C : Addr) (m : Str) (sp : Sp) (E : L2.St → XK) (ta : TE) (t : TA) : TE := fun σ H Q => ta σ H fun x H1 => ∃ a dx fs, x = .ref a ∧ H1 a = some (.ins C dx fs) ∧ fs.lookup m = none ∧
  t σ H1 fun vs H2 => sp (.ref a :: vs) H2 Q (E σ)
theorem pe_methA {pl : Sem Bool} (he : PE X o ta) (c : Cls X.K C) (hm : Meth X.K C m f) (F : FnOk X.prog X.w X.K X.mg X.base CX k f fd ps sp) (hr : Room k X.A) (hb : Binds X.K fd ps []) (hx : ∀ σ, PassesAt CX X σ (E σ)) (ha : PA X (e :: es) t)
    (hst : starEach (e :: es) X.env = (false, eval e X.env) :: starEach es X.env := by rfl) (hpl : (backTo pos (starEach es X.env)).any (·.1) = false := by rfl)
    (ht : eval (.Call (.Attribute o m apos) (e :: es) [] pos) X.env = (eval o X.env >>= fun ov => standAt apos.atName >>= fun _ => holding [ov] (getMethod ov m pl) >>= fun (f, first) =>
      callWith pos f first (backTo pos (starEach (e :: es) X.env)) (backToKw pos (keywordEach [] X.env))) := by rfl) :
    PE X (.Call (.Attribute o m apos) (e :: es) [] pos) (tMethS C m sp E ta t) := by
  refine ⟨fun pins s σ H Q I h => ?_⟩
  refine PySem.W.methodCall_KW (pl := pl) (thn (he.run pins s σ H _ I h) fun u s1 ⟨x, H1, I1, rx, a, dx, fs, ex, ea, l, q⟩ => ?_) ht
  cases ex
  obtain rfl : u = Value.ref a := rx
  exact getmeth_ok I1 ea c hm l (PySem.W.callWith_K (first := [.ref a]) (h₀ := X.base) I.ok.mod.kin hm.kp (thn (ha.run pos pins s1 σ H1 _ I1 q) fun us s2 ⟨vs, H2, I2, r, q2⟩ =>
    ⟨I2.kIn, run_fnS (E := E) (us := .ref a :: us) (vs := .ref a :: vs) F hr hb (hx σ) I2 (.cons rfl r) q2⟩) hst hpl)

def oe0 : Obj := { cls := .none, data := .fields #[] }
variable {n : Str} {c : Value} {i : Nat} {body suite : List Stmt} {b0 : Stmt} {np pos' : Pos} {Wout : WX}
  {tb : WX → List (Addr × Obj) → (Value → Shared → Prop) → TS} {ts : Addr → Obj → Value → Option Addr → List (Addr × Obj) → TS}
/-- try: .. except x as n: .., the readings of the body and of the suite free of what they can't hang on (both shown by rfl) -/
theorem ps_tryV (hs : X.stack = X.env :: X.outer) (hf : X.env.frame = some X.env.locals) (hN : X.N.Nodup) (hi : X.N[i]? = some n) (hln : X.env.kindOf n = some .local) (hc : Names X x c) (tk : Takes X Wout)
    (hb : ∀ (W : WX) (pn : List (Addr × Obj)) (xe : Value → Shared → Prop), Takes (X.tr pn xe) W → PassesOwn (model X.prog X.w) X.A X.env xe → PSs (X.tr pn xe) body (tb W pn xe))
    (hsu : ∀ (a : Addr) (oe : Obj) (cls : Value) (d : Option Addr) (pn : List (Addr × Obj)), Zc cls d oe → (∃ vs, oe.data = .fields vs) → PSs (X.suite a ((a, oe) :: pn)) (b0 :: suite) (ts a oe cls d pn))
    (e1 : ∀ W pn xe, tb W pn xe = tb W [] (fun _ _ => False)) (e2 : ∀ a oe cls d pn, ts a oe cls d pn = ts a oe0 cls d []) :
    PS X (.Try body [.ExceptHandler (some (.Name x np)) (some n) (b0 :: suite) pos'] [] [] pos) (fun D σ H => tb (wAs X.K c i (fun a cls d => ts a oe0 cls d []) Wout D) [] (fun _ _ => False) D σ H) :=
  ps_try_as (tb := fun W => tb W [] (fun _ _ => False)) (ts := fun a cls d => ts a oe0 cls d []) hs hf hN hi hln hc tk (fun W pn xe k po => by rw [← e1 W pn xe]; exact hb W pn xe k po)
    (fun a oe cls d pn z f => by rw [← e2 a oe cls d pn]; exact hsu a oe cls d pn z f)
/-- isinstance(e, C) of the error that the suite holds, one without a dict of its own -/
def rIsEV (K : PySem.W.Frag) (cls : Value) (d : Option Addr) (a : Addr) : List V → Hp → VK → Prop := fun xs H Q => ∃ (D : Addr) (c : V) (cv : Value) (b : Bool), cls = .ref D ∧ d = none ∧ ExcC K D ∧ xs = [.ref a, c] ∧ (∀ u, RelV c u → u = cv) ∧ PySem.W.kitOne K (.ref D) cv = some b ∧ Q (.bl b) H
theorem call_isEV {a : Addr} {oe : Obj} {cls : Value} {d : Option Addr} {pn : List (Addr × Obj)} (hz : Zc cls d oe) (hf : ∃ vs, oe.data = .fields vs) : CallR (X.suite a ((a, oe) :: pn)) (.builtin "isinstance") (rIsEV X.K cls d a) := by
  intro pins s σ H xs us Q I r h
  obtain ⟨D, c, cv, b, rfl, rfl, C, h⟩ := h
  exact call_isE C hz hf pins s σ H xs us Q I r ⟨c, cv, b, h⟩
end
/-! ### list comprehensions: the readings of their parts free of what they can't hang on -/
section
open PySem.Spec PyProof.Rows
variable {X : Cx} {elt tg iter : Expr} {ifs : List Expr} {scope : Scope} {own : List (Str × Nat)} {pos spos py : Pos} {wi : TI} {i : Nat} {y : Str}
abbrev Bk (α : Type) := Shared → Hp → Addr → List (Str × Addr) → List Addr → α
abbrev Bk.at0 {α : Type} (f : Bk α) (X : Cx) : α := f X.s_0 X.H_0 0 [] []
variable {g : Bk TG} {tt : Bk TT} {te : Bk TE}
theorem pe_lcV (hc : X.calm = true) (hN : X.N.Nodup) (hi : PI X tg iter wi) (ok : BlkOk X.N X.env.scope scope own)
    (hg : ∀ s H C cl fp, PG (X.blk s H scope (compEnvC scope cl C X.env) fp) tg (g s H C cl fp)) (ht : ∀ s H C cl fp, PTs (X.blk s H scope (compEnvC scope cl C X.env) fp) ifs (tt s H C cl fp))
    (he : ∀ s H C cl fp, PE (X.blk s H scope (compEnvC scope cl C X.env) fp) elt (te s H C cl fp)) (e1 : ∀ s H C cl fp, g s H C cl fp = g.at0 X) (e2 : ∀ s H C cl fp, tt s H C cl fp = tt.at0 X)
    (e3 : ∀ s H C cl fp, te s H C cl fp = te.at0 X) (hs : ∀ x, foldedSetIterable iter X.env x = pure x := by intro _; rfl) :
    PE X (.ListComp elt [⟨tg, iter, ifs, 0⟩] scope pos) (tLc wi (g.at0 X) (tt.at0 X) (te.at0 X) (own.map (·.2))) :=
  pe_lc hc hN hi ok (fun s H C cl fp => by rw [← e1 s H C cl fp]; exact hg s H C cl fp) (fun s H C cl fp => by rw [← e2 s H C cl fp]; exact ht s H C cl fp) (fun s H C cl fp => by rw [← e3 s H C cl fp]; exact he s H C cl fp) hs
theorem ps_setLcV (hc : X.calm = true) (hN : X.N.Nodup) (hy : X.N[i]? = some y) (hyl : X.env.scope.names.lookup y = some .local)
    (hsw : swapsWith (.ListComp elt [⟨tg, iter, ifs, 0⟩] scope pos) (some (.Name y py)) spos.line X.env = pure true) (hi : PI X tg iter wi) (ok : BlkOk X.N X.env.scope scope own)
    (hg : ∀ s H C cl fp, PG (X.blk s H scope (compEnvC scope cl C X.env) fp) tg (g s H C cl fp)) (ht : ∀ s H C cl fp, PTs (X.blk s H scope (compEnvC scope cl C X.env) fp) ifs (tt s H C cl fp))
    (he : ∀ s H C cl fp, PE (X.blk s H scope (compEnvC scope cl C X.env) fp) elt (te s H C cl fp)) (e1 : ∀ s H C cl fp, g s H C cl fp = g.at0 X) (e2 : ∀ s H C cl fp, tt s H C cl fp = tt.at0 X)
    (e3 : ∀ s H C cl fp, te s H C cl fp = te.at0 X) (hs : ∀ x, foldedSetIterable iter X.env x = pure x := by intro _; rfl) :
    PS X (.Assign [.Name y py] (.ListComp elt [⟨tg, iter, ifs, 0⟩] scope pos) spos) (tAsg (tLc wi (g.at0 X) (tt.at0 X) (te.at0 X) (own.map (·.2))) (gName i)) :=
  ps_setLc hc hN hy hyl hsw hi ok (fun s H C cl fp => by rw [← e1 s H C cl fp]; exact hg s H C cl fp) (fun s H C cl fp => by rw [← e2 s H C cl fp]; exact ht s H C cl fp) (fun s H C cl fp => by rw [← e3 s H C cl fp]; exact he s H C cl fp) hs
end

/-! ### errors of own classes with fields -/
section
open PySem.Spec PyProof.Rows
variable {X : Cx} {CX : CXT} {k n : Nat} {f C CE : Addr} {fd : FuncData} {ps ks : List Str} {sp : Sp} {ds : List Value} {dvs : List V} {x : Str} {p p1 p2 pos : Pos} {e : Expr} {es : List Expr} {kws : List Keyword} {ta t tk : TA} {te : TE}
/-- B.__init__(self, ..), B an own class that has it from ValueError -/
theorem pe_ceinit {pl : Sem Bool} (hg : Gl X x) (hm : X.mg x = some (.ref CE)) (rd : PySem.W.readsIn X.K CE (.type "type") = true) (ga : PySem.W.specialIn X.K (.ref CE) "__getattribute__" = some (some (.builtin "type.__getattribute__")))
    (vV : PySem.W.findCls X.K (.ref CE) (.type "type") "__init__" = some (.val (.builtin "ValueError.__init__"))) (ha : PA X (e :: es) ta) (hdb : (x == ("__debug__" : Str)) = false := by decide)
    (hc : eval (.Call (.Attribute (.Name x p1) "__init__" p2) (e :: es) [] pos) X.env = (eval (.Name x p1) X.env >>= fun ov => standAt p2.atName >>= fun _ => holding [ov] (getMethod ov "__init__" pl) >>= fun (f, first) =>
      callWith pos f first (backTo pos (starEach (e :: es) X.env)) (backToKw pos (keywordEach [] X.env))) := by rfl)
    (he : starEach (e :: es) X.env = (false, eval e X.env) :: starEach es X.env := by rfl) (hpl : (backTo pos (starEach es X.env)).any (·.1) = false := by rfl) :
    PE X (.Call (.Attribute (.Name x p1) "__init__" p2) (e :: es) [] pos) (tVeI X.K ta) := by
  refine ⟨fun pins s σ H Q I h => ?_⟩
  refine PySem.W.methodCall_KW (ld_glob I hg hm ?_ hdb) hc
  refine PySem.W.method_cls I.kIn ga (PySem.W.cls_value I.kIn rd vV (by decide +kernel) ?_)
  refine callWith_method1 (first := []) (id := "ValueError.__init__") (thn (ha.run pos pins _ σ H _ (I.tok _) h) fun us s1 z => ?_) he hpl
  obtain ⟨vs, H1, J, r1, a, C, ws, rfl, hl, T, ea, q⟩ := z
  obtain ⟨u0, ur, rfl, ra, rr⟩ : ∃ u0 ur, us = u0 :: ur ∧ RelV (.ref a) u0 ∧ Vals ws ur := by
    cases r1 with
    | cons a1 b1 => exact ⟨_, _, rfl, a1, b1⟩
  obtain rfl : u0 = Value.ref a := ra
  exact oinit_ok T J ea (by rw [← rr.length, sizeLine_eq]; omega) fun s' J' => ⟨.non, H1, J', rfl, q⟩
/-- isinstance(e, C) of the error that the suite holds, one with a dict of its own -/
def rIsEW (K : PySem.W.Frag) (cls : Value) (d : Option Addr) (a : Addr) : List V → Hp → VK → Prop := fun xs H Q => ∃ (D dd : Addr) (fs : List (Str × V)) (c : V) (cv : Value) (b : Bool), cls = .ref D ∧ d = some dd ∧ H dd = some (.xd fs) ∧ ExcC K D ∧ xs = [.ref a, c] ∧
  (∀ u, RelV c u → u = cv) ∧ PySem.W.kitOne K (.ref D) cv = some b ∧ Q (.bl b) H
theorem call_isEW {a : Addr} {oe : Obj} {cls : Value} {d : Option Addr} {pn : List (Addr × Obj)} (hz : Zc cls d oe) (hf : ∃ vs, oe.data = .fields vs) : CallR (X.suite a ((a, oe) :: pn)) (.builtin "isinstance") (rIsEW X.K cls d a) := by
  intro pins s σ H xs us Q I r h
  obtain ⟨D, dd, fs, c, cv, b, rfl, rfl, hd, Z, rfl, hcv, hk, q⟩ := h
  obtain ⟨u1, u2, rfl, r1, r2⟩ : ∃ u1 u2, us = [u1, u2] ∧ RelV (.ref a) u1 ∧ RelV c u2 := by
    cases r with
    | cons a1 b1 =>
      cases b1 with
      | cons a2 b2 =>
        cases b2
        exact ⟨_, _, rfl, a1, a2⟩
  obtain rfl : u1 = Value.ref a := r1
  obtain rfl := hcv _ r2
  obtain ⟨hget, _⟩ := I.pin (a, oe) (List.mem_append_left _ List.mem_cons_self)
  obtain ⟨vs, hv⟩ := hf
  obtain ⟨mA, hns, _⟩ := (show ObjOk X.prog X.w H s.heap dd (.xd fs) from I.hok dd _ hd)
  obtain ⟨od, ho, _⟩ := lookIn_ns hns
  have J : PySem.W.InstAt s.heap a oe D (some od) := ⟨hget, hz.1, by unfold PySem.W.notCls; rw [hv] <;> rfl, by rw [hz.2]; exact ho⟩
  obtain ⟨cd, hcd, _⟩ := PySem.W.any_some Z.hd
  exact PySem.W.kia_one (PySem.W.kitx_exc (by rw [hcd]; rfl) Z.hg Z.hk Z.hs Z.ha Z.hn Z.ht Z.hm) I.kIn J hk (fun z => nomatch z) fun tk => ⟨.bl b, H, I.kept (t' := tk) fun _ _ z => z, rfl, q⟩
/-- C(.., k = v, ..) in the body of a try -/
def tMakeKS (C : Addr) (n m : Nat) (sp : Sp) (gV : List V → List V → List V) (E : L2.St → XK) (t tk : TA) : TE := fun σ H Q => t σ H fun vs H1 => tk σ H1 fun zs H2 => vs.length = n ∧ zs.length = m ∧ ∀ x dx, H2 x = none → H2 dx = none → dx ≠ x →
  sp (gV (.ref x :: vs) zs) (upd (upd H2 dx (.own x)) x (.ins C dx [])) (fun v H3 => v = .non ∧ Q (.ref x) H3) (E σ)
theorem pe_makeKS {g : List Value → List Value → List Value} {gV : List V → List V → List V} {E : L2.St → XK} (M : Mk X.K C f) (F : FnOk X.prog X.w X.K X.mg X.base CX k f fd ps sp) (hr : Room (k + 1) X.A) (hg : Gl X x) (hm : X.mg x = some (.ref C)) (hb : KBn X.K fd ps (n + 1) ks g gV)
    (hx : ∀ σ, PassesAt CX X σ (E σ)) (ha : PA X (e :: es) t) (hkw : PK X kws tk)
    (hall : (backToKw pos (keywordEach kws X.env)).all (·.1.isSome) = true := by rfl) (hks : (backToKw pos (keywordEach kws X.env)).filterMap (·.1) = ks := by rfl) (hdb : (x == ("__debug__" : Str)) = false := by decide)
    (he : starEach (e :: es) X.env = (false, eval e X.env) :: starEach es X.env := by rfl) (hpl : ((backTo pos (starEach (e :: es) X.env)).any (·.1) || (backToKw pos (keywordEach kws X.env)).any (·.1.isNone)) = false := by rfl) :
    PE X (.Call (.Name x p) (e :: es) kws pos) (tMakeKS C n ks.length sp gV E t tk) := by
  refine ⟨fun pins s σ H Q I h => wpAny_Call_Name_kw (ld_glob I hg hm (PySem.W.callWith_KW (h₀ := X.base) I.ok.mod.kin M.kp hall (thn (ha.run pos pins s σ H _ I h) fun us s1 z => ?_) hpl he) hdb)⟩
  obtain ⟨vs, H1, I1, r, q⟩ := z
  refine thn (hkw.run pos pins s1 σ H1 _ I1 q) fun ws s2 z => ?_
  obtain ⟨zs, H2, I2, rz, l1, l2, q2⟩ := z
  refine ⟨I2.kIn, ?_⟩
  rw [hks]
  have a1 := q2 (s2.heap.objs.size + 1) s2.heap.objs.size (I2.hok.fresh (Nat.le_succ _)) (I2.hok.fresh (Nat.le_refl _)) (Nat.ne_of_lt (Nat.lt_succ_self _))
  have J := Inv.made (C := C) I2
  have r1 : Vals (V.ref (s2.heap.objs.size + 1) :: vs) (Value.ref (s2.heap.objs.size + 1) :: us) := .cons rfl r
  refine wpAny_call (make_map (f := f) I2.kIn M.makes M.init (beq_iff_eq.mp M.fn) (codeAny_mono (F.run _ X.stack _ _ ⟨Value.ref (s2.heap.objs.size + 1) :: us, ks.zip ws⟩ (g (Value.ref (s2.heap.objs.size + 1) :: us) ws) _ _ (E σ) (hr.make C us (ks.zip ws))
    (J.env0.make C us (ks.zip ws)) (hb.to _ (Value.ref (s2.heap.objs.size + 1) :: us) ws J.kIn (by rw [List.length_cons, ← r.length, l1]) (rz.length.symm.trans l2)) (hb.rel r1 rz) a1) fun o s' z => ?_))
  cases o with
  | error u => exact hx σ pins _ _ u s' J z
  | ok fl =>
    cases fl with
    | ret u =>
      obtain ⟨v, H', J3, rv, ev, q3⟩ := J.after z
      subst ev
      exact ⟨rv, V.ref (s2.heap.objs.size + 1), H', J3, rfl, q3⟩
    | next => exact z.elim
    | brk => exact z.elim
    | cont => exact z.elim
end
/-- C.__init__(self, v): the error gets its dict with one field -/
def spExc1 (C : Addr) (f : Str) : Sp := fun vs H Q _ => ∃ (a : Addr) (v : V), vs = [.ref a, v] ∧ H a = some (exo a C none) ∧ ∀ d, H d = none → d ≠ a → Q .non (upd (upd H d (exd d [(f, v)])) a (exo a C (some d)))

/-! ### lists side by side -/
section
variable {α β : Type} {R S : α → β → Prop} {xs us : List α} {ys vs : List β} {x : α} {y : β} {i : Nat}
def All2 (R : α → β → Prop) (xs : List α) (ys : List β) : Prop := xs.length = ys.length ∧ ∀ (i : Nat) x y, xs[i]? = some x → ys[i]? = some y → R x y
theorem All2.nil : All2 R [] [] := ⟨rfl, fun i x y h => by simp at h⟩
theorem All2.mono (h : All2 R xs ys) (k : ∀ x y, R x y → S x y) : All2 S xs ys := ⟨h.1, fun i x y a b => k _ _ (h.2 i x y a b)⟩
theorem All2.cons (h : R x y) (k : All2 R xs ys) : All2 R (x :: xs) (y :: ys) := ⟨by rw [List.length_cons, List.length_cons, k.1], fun i a b ha hb => by
  cases i with
  | zero => simp at ha hb; subst ha; subst hb; exact h
  | succ i => simp at ha hb; exact k.2 i a b ha hb⟩
theorem All2.one (h : R x y) : All2 R [x] [y] := .cons h .nil
theorem All2.app (h : All2 R xs ys) (k : All2 R us vs) : All2 R (xs ++ us) (ys ++ vs) := ⟨by rw [List.length_append, List.length_append, h.1, k.1], fun i a b ha hb => by
  by_cases hi : i < xs.length
  · rw [List.getElem?_append_left hi] at ha
    rw [List.getElem?_append_left (by rw [← h.1]; exact hi)] at hb
    exact h.2 i a b ha hb
  · rw [List.getElem?_append_right (by omega)] at ha
    rw [List.getElem?_append_right (by rw [← h.1]; omega), ← h.1] at hb
    exact k.2 _ a b ha hb⟩
theorem All2.take (h : All2 R xs ys) (n : Nat) : All2 R (xs.take n) (ys.take n) := ⟨by rw [List.length_take, List.length_take, h.1], fun i a b ha hb => by
  rw [List.getElem?_take] at ha hb
  by_cases hi : i < n
  · rw [if_pos hi] at ha hb
    exact h.2 i a b ha hb
  · rw [if_neg hi] at ha
    cases ha⟩
theorem All2.drop (h : All2 R xs ys) (n : Nat) : All2 R (xs.drop n) (ys.drop n) := ⟨by rw [List.length_drop, List.length_drop, h.1], fun i a b ha hb => by
  rw [List.getElem?_drop] at ha hb
  exact h.2 _ a b ha hb⟩
theorem All2.get (h : All2 R xs ys) (hi : xs[i]? = some x) : ∃ y, ys[i]? = some y ∧ R x y := by
  have hl : i < ys.length := by
    rw [← h.1]
    exact (List.getElem?_eq_some_iff.mp hi).1
  have e : ys[i]? = some ys[i] := List.getElem?_eq_getElem hl
  exact ⟨_, e, h.2 i _ _ hi e⟩
theorem take_more {α : Type} {ys : List α} {y : α} {i : Nat} (h : ys[i]? = some y) : ys.take (i + 1) = ys.take i ++ [y] := by
  rw [List.take_add_one, h]
  rfl
end
section
open PySem.Spec PyProof.Rows
variable {X : Cx}
/-- one operator, two ways to read it -/
theorem op_mix {f : Value → Value → Sem Value} {r1 r2 : R2} (h1 : OpR X f r1) (h2 : OpR X f r2) : OpR X f (fun x y H Q => Wd (r1 x y H Q ∨ r2 x y H Q)) := by
  intro pins s σ H x y v u Q I rx ry h
  rcases h.ok with h | h
  · exact h1 pins s σ H x y v u Q I rx ry h
  · exact h2 pins s σ H x y v u Q I rx ry h
theorem vals_same {A : Around} {s : Shared} {xs : List V} (hx : ∀ x ∈ xs, flatB x = true ∨ ∃ a, x = .ref a) : ∀ {us ws : List Value}, Vals xs us → Vals xs ws → ∀ j (h1 : j < us.length) (h2 : j < ws.length), SeqAt.EqAt A s us[j] ws[j] true := by
  induction xs with
  | nil =>
    intro us ws r1 r2 j h1 h2
    cases r1
    exact absurd h1 (Nat.not_lt_zero j)
  | cons x xs ih =>
    intro us ws r1 r2 j h1 h2
    cases r1 with
    | cons a1 b1 =>
      cases r2 with
      | cons a2 b2 =>
        cases j with
        | zero =>
          rcases hx x List.mem_cons_self with f | ⟨a, rfl⟩
          · exact eqAt_same a1 a2 f
          · cases a1
            cases a2
            exact SeqAt.EqAt.same _
        | succ j => exact ih (fun y hy => hx y (List.mem_cons_of_mem _ hy)) b1 b2 j (Nat.lt_of_succ_lt_succ h1) (Nat.lt_of_succ_lt_succ h2)
/-- a != b, two lists of the same items -/
theorem op_neL (hu : X.A.units + 64 < cLine) : OpR X (compareOp .NotEq) (fun x y H Q => Wd (∃ (a b : Addr) (xs : List V), x = .ref a ∧ y = .ref b ∧ SqL X.K H a xs ∧ SqL X.K H b xs ∧ (∀ x ∈ xs, flatB x = true ∨ ∃ a, x = .ref a) ∧ Q (.bl false) H)) := by
  intro pins s σ H x y v u Q I rx ry h
  obtain ⟨a, b, xs, rfl, rfl, ha, hb, hx, q⟩ := h.ok
  cases rx
  cases ry
  obtain ⟨us, r1, p1, _⟩ := I.list ha
  obtain ⟨ws, r2, p2, _⟩ := I.list hb
  have hsz : us.toArray.size = ws.toArray.size := by
    rw [List.size_toArray, List.size_toArray, ← r1.length, ← r2.length]
  have k := SeqAt.RcNeAt.lists (A := X.A) (e := fun _ => true) p1.isList p2.isList hsz (by omega) (fun j h1 h2 => by
    have k := vals_same (A := X.A.in1) (s := s) hx r1 r2 j (by simpa using h1) (by simpa using h2)
    simpa using k)
  refine k X.prog X.w _ _ ?_
  rw [show ((List.range us.toArray.size).all fun _ => true) = true from List.all_eq_true.mpr fun _ _ => rfl]
  exact ⟨.bl false, H, I, rfl, q⟩
/-- a != b, two tuples of the same items -/
theorem op_neT (hu : X.A.units + 64 < cLine) : OpR X (compareOp .NotEq) (fun x y H Q => Wd (∃ (a b : Addr) (xs : List V), x = .ref a ∧ y = .ref b ∧ SqT X.K H a xs ∧ SqT X.K H b xs ∧ (∀ x ∈ xs, flatB x = true ∨ ∃ a, x = .ref a) ∧ Q (.bl false) H)) := by
  intro pins s σ H x y v u Q I rx ry h
  obtain ⟨a, b, xs, rfl, rfl, ha, hb, hx, q⟩ := h.ok
  cases rx
  cases ry
  obtain ⟨us, r1, p1, _⟩ := I.tuple ha
  obtain ⟨ws, r2, p2, _⟩ := I.tuple hb
  have hsz : us.toArray.size = ws.toArray.size := by
    rw [List.size_toArray, List.size_toArray, ← r1.length, ← r2.length]
  have k := SeqAt.RcNeAt.tuples (A := X.A) (e := fun _ => true) p1 p2 (by omega) (fun j h1 h2 => by
    have k := vals_same (A := X.A.in1) (s := s) hx r1 r2 j (by simpa using h1) (by simpa using h2)
    simpa using k)
  refine k X.prog X.w _ _ ?_
  refine ⟨.bl false, H, I, ?_, q⟩
  show Value.bool _ = Value.bool false
  simp [hsz]
end

/-! ### == and != of data of any depth, texts of any signs -/
section
open PySem.Spec PyProof.Rows
variable {X : Cx}
def rEqP (K : PySem.W.Frag) : R2 := fun x y H Q => Wd (∃ d e, Dp K H x d ∧ Dp K H y e ∧ d.plain = true ∧ e.plain = true ∧ d.depth ≤ 64 ∧ Q (.bl (PyData.eqv d e)) H)
def rNeP (K : PySem.W.Frag) : R2 := fun x y H Q => Wd (∃ d e, Dp K H x d ∧ Dp K H y e ∧ d.plain = true ∧ e.plain = true ∧ d.depth ≤ 64 ∧ Q (.bl (!PyData.eqv d e)) H)
theorem op_eqP (hu : X.A.units + 64 < cLine) : OpR X (compareOp .Eq) (rEqP X.K) := by
  intro pins s σ H x y v u Q I rx ry h
  obtain ⟨d, e, hd, he, sd, se, dp, q⟩ := h.ok
  obtain ⟨as, r1⟩ := Dp.reads I d x v hd rx
  obtain ⟨bs, r2⟩ := Dp.reads I e y u he ry
  have := Nat.min_le_left d.depth e.depth
  exact SeqAt.eq_plain r1 r2 sd se (by omega) ⟨.bl _, H, I, rfl, q⟩
theorem op_neP (hu : X.A.units + 64 < cLine) : OpR X (compareOp .NotEq) (rNeP X.K) := by
  intro pins s σ H x y v u Q I rx ry h
  obtain ⟨d, e, hd, he, sd, se, dp, q⟩ := h.ok
  obtain ⟨as, r1⟩ := Dp.reads I d x v hd rx
  obtain ⟨bs, r2⟩ := Dp.reads I e y u he ry
  have := Nat.min_le_left d.depth e.depth
  exact SeqAt.ne_plain r1 r2 sd se (by omega) ⟨.bl _, H, I, rfl, q⟩
theorem eqP_same {K : PySem.W.Frag} {x y : V} {H : Hp} {Q : VK} {d : PyData} (hx : Dp K H x d) (hy : Dp K H y d) (hp : d.plain = true) (hd : d.depth ≤ 64) (h : Q (.bl true) H) : rEqP K x y H Q :=
  ⟨d, d, hx, hy, hp, hp, hd, by rw [SeqAt.eqv_refl_plain d hp]; exact h⟩
theorem neP_same {K : PySem.W.Frag} {x y : V} {H : Hp} {Q : VK} {d : PyData} (hx : Dp K H x d) (hy : Dp K H y d) (hp : d.plain = true) (hd : d.depth ≤ 64) (h : Q (.bl false) H) : rNeP K x y H Q :=
  ⟨d, d, hx, hy, hp, hp, hd, by rw [SeqAt.eqv_refl_plain d hp]; exact h⟩
end

/-! ### xs == [], xs != [] -/
section
open PySem.Spec PyProof.Rows
variable {X : Cx}
def rNil (K : PySem.W.Frag) (neg : Bool) : R2 := fun x y H Q => Wd (∃ (a b : Addr) (xs : List V), x = .ref a ∧ y = .ref b ∧ SqL K H a xs ∧ SqL K H b [] ∧ Q (.bl (if neg then !xs.isEmpty else xs.isEmpty)) H)
theorem nil_sizes {xs : List V} {us ws : List Value} (r1 : Vals xs us) (r2 : Vals [] ws) : us.toArray.size = xs.length ∧ ws.toArray.size = 0 := by
  cases r2
  exact ⟨by rw [List.size_toArray, r1.length], rfl⟩
theorem op_eqNil (hu : X.A.units + 64 < cLine) : OpR X (compareOp .Eq) (rNil X.K false) := by
  intro pins s σ H x y v u Q I rx ry h
  obtain ⟨a, b, xs, rfl, rfl, ha, hb, q⟩ := h.ok
  cases rx
  cases ry
  obtain ⟨us, r1, p1, _⟩ := I.list ha
  obtain ⟨ws, r2, p2, _⟩ := I.list hb
  obtain ⟨e1, e2⟩ := nil_sizes r1 r2
  cases xs with
  | nil =>
    have k := SeqAt.RcAt.lists (A := X.A) (e := fun _ => true) p1.isList p2.isList (by rw [e1, e2]; rfl) (by omega) (fun j h1 h2 => by omega)
    refine k X.prog X.w _ _ ?_
    rw [show ((List.range us.toArray.size).all fun _ => true) = true from List.all_eq_true.mpr fun _ _ => rfl]
    exact ⟨.bl true, H, I, rfl, q⟩
  | cons z zs =>
    have k := SeqAt.RcAt.lists_lengths (A := X.A) p1.isList p2.isList (by rw [e1, e2]; rfl) (by omega)
    exact k X.prog X.w _ _ ⟨.bl false, H, I, rfl, q⟩
theorem op_neNil (hu : X.A.units + 64 < cLine) : OpR X (compareOp .NotEq) (rNil X.K true) := by
  intro pins s σ H x y v u Q I rx ry h
  obtain ⟨a, b, xs, rfl, rfl, ha, hb, q⟩ := h.ok
  cases rx
  cases ry
  obtain ⟨us, r1, p1, _⟩ := I.list ha
  obtain ⟨ws, r2, p2, _⟩ := I.list hb
  obtain ⟨e1, e2⟩ := nil_sizes r1 r2
  cases xs with
  | nil =>
    have k := SeqAt.RcNeAt.lists (A := X.A) (e := fun _ => true) p1.isList p2.isList (by rw [e1, e2]; rfl) (by omega) (fun j h1 h2 => by omega)
    refine k X.prog X.w _ _ ?_
    rw [show ((List.range us.toArray.size).all fun _ => true) = true from List.all_eq_true.mpr fun _ _ => rfl]
    exact ⟨.bl false, H, I, rfl, q⟩
  | cons z zs =>
    have k := SeqAt.RcNeAt.lists_lengths (A := X.A) p1.isList p2.isList (by rw [e1, e2]; rfl) (by omega)
    exact k X.prog X.w _ _ ⟨.bl true, H, I, rfl, q⟩
end

/-! ### the law's own helpers: bag, integer, divisor, lowest -/
def spBag (K : PySem.W.Frag) : Sp := fun vs H Q _ => ∃ (a : Addr) (ns : List Int), vs = [.ref a] ∧ SqL K H a (ns.map V.int) ∧ ∀ (g l : Addr) (H' : Hp), Same H H' → H g = none → H l = none → Bag H' g l → Q (.ref g) H'
def spInteger : Sp := fun vs H Q _ => ∃ g l : Addr, vs = [.ref g] ∧ Bag H g l ∧ ∀ (n : Int) (H' : Hp), n.natAbs ≤ 10 ^ 49 → Bag H' g l → Kp g H H' → Q (.int n) H'
def spLowest : Sp := fun vs H Q _ => ∃ t b : Int, vs = [.int t, .int b] ∧ b ≠ 0 ∧ b.natAbs < 2 ^ 9000 ∧ ∀ p, H p = none → Q (.ref p) (upd H p (.tup [.int (Rat.divInt t b).num, .int ((Rat.divInt t b).den : Int)]))
theorem Bag.keep {H H' : Hp} {g l : Addr} (b : Bag H g l) (s : Same H H') : Bag H' g l := by
  obtain ⟨i, r, sd, c, ns, hg, hl, hi⟩ := b
  exact ⟨i, r, sd, c, ns, s _ _ hg, s _ _ hl, hi⟩
theorem Bag.lst {H : Hp} {g l : Addr} (b : Bag H g l) : ∃ xs, H g = some (.lst xs) := by
  obtain ⟨i, r, sd, c, ns, hg, hl, hi⟩ := b
  exact ⟨_, hg⟩
theorem Bag.ne {H : Hp} {g l p : Addr} (b : Bag H g l) (hp : H p = none) : p ≠ g ∧ p ≠ l := by
  obtain ⟨i, r, sd, c, ns, hg, hl, hi⟩ := b
  exact ⟨(ne_of_none hg hp).symm, (ne_of_none hl hp).symm⟩
/-- a bag stands where nothing of it is written -/
theorem Bag.put {H : Hp} {g l p : Addr} {o : HO} (b : Bag H g l) (n : p ≠ g ∧ p ≠ l) : Bag (upd H p o) g l := by
  obtain ⟨i, r, sd, c, ns, hg, hl, hi⟩ := b
  exact ⟨i, r, sd, c, ns, by rw [upd_ne n.1.symm]; exact hg, by rw [upd_ne n.2.symm]; exact hl, hi⟩
theorem Bag.new {H : Hp} {g l p : Addr} {o : HO} (b : Bag H g l) (hp : H p = none) : Bag (upd H p o) g l := b.keep fun c u e => by
  rw [upd_ne (ne_of_none e hp)]
  exact e
theorem Kp.new {g p : Addr} {H H' : Hp} {o : HO} (k : Kp g H H') (hp : H' p = none) : Kp g H (upd H' p o) := fun b u e n => by
  have e1 := k b u e n
  rw [upd_ne (ne_of_none e1 hp)]
  exact e1
theorem Kp.put {g p : Addr} {H H' : Hp} {o : HO} (k : Kp g H H') (hp : H p = none) : Kp g H (upd H' p o) := fun b u e n => by
  rw [upd_ne (ne_of_none e hp)]
  exact k b u e n
theorem Kp.same {g : Addr} {H H' : Hp} (s : Same H H') : Kp g H H' := fun b u e _ => s b u e
theorem Same.new {H : Hp} {p : Addr} {o : HO} (hp : H p = none) : Same H (upd H p o) := fun b u e => by
  rw [upd_ne (ne_of_none e hp)]
  exact e
theorem size_at {c : Int} (h0 : 0 ≤ c) (h6 : c < 6) (hc : c ≠ 0) : ∃ z : Int, atI [V.int 1, V.int 2, V.int 3, V.int 12, V.int 1000, V.int (10 ^ (49 : Int).toNat)] c = some (.int z) ∧ 0 < z ∧ z ≤ 10 ^ 49 := by
  have : c = 1 ∨ c = 2 ∨ c = 3 ∨ c = 4 ∨ c = 5 := by omega
  rcases this with rfl | rfl | rfl | rfl | rfl
  · exact ⟨2, rfl, by decide, by decide⟩
  · exact ⟨3, rfl, by decide, by decide⟩
  · exact ⟨12, rfl, by decide, by decide⟩
  · exact ⟨1000, rfl, by decide, by decide⟩
  · exact ⟨10 ^ 49, rfl, by decide, by decide⟩
theorem big49 : (10 : Nat) ^ 49 < 2 ^ 200 := by decide
theorem pow_mono {a b : Nat} (h : a ≤ b) : (2 : Nat) ^ a ≤ 2 ^ b := Nat.pow_le_pow_right (by decide) h
theorem lt_pow {n a b : Nat} (h : n < 2 ^ a) (hab : a ≤ b) : n < 2 ^ b := Nat.lt_of_lt_of_le h (pow_mono hab)
theorem lt200 {n : Nat} (h : n ≤ 10 ^ 49) : n < 2 ^ 200 := Nat.lt_of_le_of_lt h big49
theorem lt9000 {n : Nat} (h : n ≤ 10 ^ 49) : n < 2 ^ 9000 := lt_pow (lt200 h) (by decide)
def spLaw (K : PySem.W.Frag) : Sp := fun vs H Q _ => ∃ (a : Addr) (ns : List Int), vs = [.ref a] ∧ SqL K H a (ns.map V.int) ∧ ns.length ≤ 63 ∧ ∀ H', Q (.bl true) H'
theorem neD_same {K : PySem.W.Frag} {H : Hp} {p q : Addr} {a b : Int} {Q : VK} (hp : H p = some (.tup [.int a, .int b])) (hq : H q = some (.tup [.int a, .int b])) (h : Q (.bl false) H) : rNeD K (.ref p) (.ref q) H Q := by
  refine ⟨.tuple [.int a, .int b], .tuple [.int a, .int b], .tup (SqT.of hp) (.cons (.int a) (.cons (.int b) .nil)), .tup (SqT.of hq) (.cons (.int a) (.cons (.int b) .nil)), rfl, rfl, ?_⟩
  have e : PyData.eqv (.tuple [.int a, .int b]) (.tuple [.int a, .int b]) = true := by simp [PyData.eqv, PyData.eqvAll]
  rw [e]
  exact h
theorem or_go {K : PySem.W.Frag} {H : Hp} {σ : L2.St} {Q : VK} {n d : Int} (hd : d ≠ 0) (h : ∀ m : Int, m ≠ 0 → (m = n ∨ m = d) → Q (.int m) H) : ∃ k, TruV K (.int n) H k ∧ if k = true then Q (.int n) H else tC (.int d) σ H Q := by
  by_cases e : n = 0
  · exact ⟨false, by rw [e]; rfl, iteF (h d hd (.inr rfl))⟩
  · exact ⟨true, (show true = (n != 0) by simp [e]), iteT (h n e (.inl rfl))⟩
theorem kit_self {K : PySem.W.Frag} {C : Addr} : PySem.W.kitOne K (.ref C) (.ref C) = some true := by simp [PySem.W.kitOne]
def spNumber : Sp := fun vs H Q _ => ∃ n : Int, vs = [.int n] ∧ Q (.bl true) H
section
variable {P : Program} {w : World} {K : PySem.W.Frag} {mg : Str → Option Value} {base : Heap} {A : Ad}
theorem ok_l_bag (T : Txt K mg A) : FnOk P w K mg base CX0 1 A.l_bag A.fd_l_bag P_l_bag (spBag K) := by
  refine T.F_l_bag.ok sc_l_bag (fun vs H Q E h => ?_) (fun cdv Ar outer s H vs Q E hr h => ?_)
  · obtain ⟨a, ns, rfl, _⟩ := h
    rfl
  · obtain ⟨a, ns, rfl, hS, k⟩ := h
    refine ⟨_, (pss_one (ps_ret (pe_lst (pa_cons (pe_callTy call_list_of (by rfl) T.z_list (by decide +kernel) (pa_cons (pv 0) pa_nil)) (pa_cons pe_int (pa_cons pe_int (pa_cons pe_int (pa_cons pe_int pa_nil)))))))), ?_⟩
    refine ⟨_, rfl, a, _, rfl, .inl hS, fun l hl => ⟨by walk_at "fact", fun g hg => ?_⟩⟩
    have nlg : l ≠ g := fun z => by
      rw [z, upd_same] at hg
      cases hg
    have hg0 : H g = none := by
      rw [upd_ne nlg.symm] at hg
      exact hg
    exact k g l _ ((Same.new hl).trans (Same.new hg)) hg0 hl ⟨0, 0, 17, 0, ns, upd_same, by rw [upd_ne nlg]; exact upd_same, by decide⟩
end

theorem Same.at_new {H H' : Hp} {D : Addr} {o : HO} (hD : H D = none) (s : Same H H') : Same H (upd H' D o) := fun b u e => by
  rw [upd_ne (ne_of_none e hD)]
  exact s b u e
/-- [.. for .. in a list], its parts keep what stands -/
theorem lc_same {K : PySem.W.Frag} {a : Addr} {xs : List V} {g : TG} {tt : TT} {te : TE} {vs : List Nat} {σ : L2.St} {H1 : Hp} {D : Addr} {Qd : Hp → Prop} (f : Nat → V) (hl : H1 a = some (.lst xs)) (hz : xs.length ≤ 1000) (hD : H1 D = none)
    (hs : ∀ i x H' (N : VK) (M : Hp → Prop), xs[i]? = some x → Same H1 H' → (∀ H4, Same H' H4 → N (f i) H4) → g x (wipe σ vs) H' fun σ2 H2 => wipe σ2 vs = wipe σ vs ∧ tt σ2 H2 fun b H3 => if b = true then te σ2 H3 N else M H3)
    (hd : ∀ H', Same H1 H' → H' D = some (.lst ((List.range xs.length).map f)) → Qd H') :
    ∃ W : Nat → Nat → Hp → Prop, (∃ m, W 0 m (upd H1 D (.lst []))) ∧ ∀ i m H, W i m H →
      ((Itl K a).stop i H ∧ Qd H) ∨ ((Itl K a).go i H ∧ ∃ Nx : Hp → Prop, (∀ H', Nx H' → ∃ m', m' < m ∧ W (i + 1) m' H') ∧ ∀ x H', (Itl K a).yld i H x H' → g x (wipe σ vs) H' fun σ2 H2 => wipe σ2 vs = wipe σ vs ∧ tt σ2 H2 fun b H3 =>
        if b = true then te σ2 H3 fun y H4 => ∃ acc, H4 D = some (.lst acc) ∧ acc.length < sizeLine ∧ Nx (upd H4 D (.lst (acc ++ [y]))) else Nx H3) := by
  refine lc_list (K := K) (a := a) (xs := xs) (fun i H' => Wd (Same H1 H' ∧ H' D = some (.lst ((List.range i).map f)))) ⟨Same.new hD, upd_same⟩ (fun i H' _ h => SqL.of (h.ok.1 _ _ hl)) ?_ (fun H' h => hd H' h.ok.1 h.ok.2)
  rintro i x H' hi ⟨s, hd'⟩
  refine hs i x H' _ _ hi s fun H4 s4 => ⟨_, s4 _ _ hd', ?_, Same.at_new hD (s.trans s4), ?_⟩
  · rw [List.length_map, List.length_range]
    have := (List.getElem?_eq_some_iff.mp hi).1
    exact Nat.lt_of_lt_of_le (Nat.lt_of_lt_of_le this hz) (by decide)
  · rw [upd_same, List.range_succ, List.map_append]
    rfl
theorem Same.none {H H' : Hp} {p : Addr} (s : Same H H') (h : H' p = none) : H p = none := by
  cases e : H p with
  | none => rfl
  | some o =>
    rw [s _ _ e] at h
    cases h

/-- what stands anywhere but at the list D is kept -/
theorem kp_of_same {D : Addr} {H H' : Hp} (s : Same H H') : Kp D H H' := fun b o e _ => s b o e
/-- [.. for .. in a list], its parts keep what stands; R tells of each item that is made -/
theorem lc_sameP {K : PySem.W.Frag} {a : Addr} {xs : List V} {g : TG} {tt : TT} {te : TE} {vs : List Nat} {σ : L2.St} {H1 : Hp} {D : Addr} {Qd : Hp → Prop} (R : Nat → V → Hp → Prop) (hl : H1 a = some (.lst xs)) (hz : xs.length ≤ 1000) (hD : H1 D = none)
    (mono : ∀ i y H H' acc, H D = some (.lst acc) → Kp D H H' → R i y H → R i y H')
    (hs : ∀ i x H' (N : VK) (M : Hp → Prop), xs[i]? = some x → Same H1 H' → (∀ y H4, Same H' H4 → R i y H4 → N y H4) → g x (wipe σ vs) H' fun σ2 H2 => wipe σ2 vs = wipe σ vs ∧ tt σ2 H2 fun b H3 => if b = true then te σ2 H3 N else M H3)
    (hd : ∀ ys H', Same H1 H' → ys.length = xs.length → (∀ i y, ys[i]? = some y → R i y H') → H' D = some (.lst ys) → Qd H') :
    ∃ W : Nat → Nat → Hp → Prop, (∃ m, W 0 m (upd H1 D (.lst []))) ∧ ∀ i m H, W i m H →
      ((Itl K a).stop i H ∧ Qd H) ∨ ((Itl K a).go i H ∧ ∃ Nx : Hp → Prop, (∀ H', Nx H' → ∃ m', m' < m ∧ W (i + 1) m' H') ∧ ∀ x H', (Itl K a).yld i H x H' → g x (wipe σ vs) H' fun σ2 H2 => wipe σ2 vs = wipe σ vs ∧ tt σ2 H2 fun b H3 =>
        if b = true then te σ2 H3 fun y H4 => ∃ acc, H4 D = some (.lst acc) ∧ acc.length < sizeLine ∧ Nx (upd H4 D (.lst (acc ++ [y]))) else Nx H3) := by
  refine lc_list (K := K) (a := a) (xs := xs) (fun i H' => Wd (∃ ys : List V, Same H1 H' ∧ ys.length = i ∧ H' D = some (.lst ys) ∧ ∀ j y, ys[j]? = some y → R j y H')) ⟨[], Same.new hD, rfl, upd_same, fun j y h => by cases h⟩ (fun i H' _ h => ?_) ?_ (fun H' h => ?_)
  · obtain ⟨ys, s, _⟩ := h.ok
    exact SqL.of (s _ _ hl)
  · rintro i x H' hi ⟨ys, s, hyl, hd', hR⟩
    refine hs i x H' _ _ hi s fun y H4 s4 r4 => ⟨_, s4 _ _ hd', ?_, ys ++ [y], Same.at_new hD (s.trans s4), ?_, upd_same, fun j z hz => ?_⟩
    · rw [hyl]
      have := (List.getElem?_eq_some_iff.mp hi).1
      exact Nat.lt_of_lt_of_le (Nat.lt_of_lt_of_le this hz) (by decide)
    · rw [List.length_append, hyl]
      rfl
    · have kp : Kp D H4 (upd H4 D (.lst (ys ++ [y]))) := (Kp.refl D H4).up
      rw [List.getElem?_append] at hz
      split at hz
      · exact mono _ _ _ _ _ (s4 _ _ hd') kp (mono _ _ _ _ _ hd' (kp_of_same s4) (hR j z hz))
      · have e : j - ys.length = 0 := by
          cases e : j - ys.length with
          | zero => rfl
          | succ n => rw [e] at hz; cases hz
        rw [e] at hz
        cases hz
        have : j = i := by omega
        subst this
        exact mono _ _ _ _ _ (s4 _ _ hd') kp r4
  · obtain ⟨ys, s, hyl, hd', hR⟩ := h.ok
    exact hd ys H' s hyl hR hd'
/-- an if by a question whose answer is p; the heap may grow -/
theorem tIf_of {t : TT} {a b : TS} {D : Ends} {σ : L2.St} {H : Hp} {p : Prop} (ht : ∀ Q : Bool → Hp → Prop, (∀ H', Same H H' → p → Q true H') → (∀ H', Same H H' → ¬ p → Q false H') → t σ H Q) (ha : ∀ H', Same H H' → p → a D σ H') (hb : ∀ H', Same H H' → ¬ p → b D σ H') : tIfS t a b D σ H :=
  ht _ (fun H' s hp => iteT (ha H' s hp)) (fun H' s hn => iteF (hb H' s hn))
theorem q_dec {p : Prop} [Decidable p] {Q : Bool → Hp → Prop} {H : Hp} (h1 : p → Q true H) (h2 : ¬ p → Q false H) : Q (decide p) H := by
  by_cases e : p
  · rw [decide_eq_true e]
    exact h1 e
  · rw [decide_eq_false e]
    exact h2 e

/-! ### d.setdefault(k, v) as a call -/
section
open PySem PySem.Spec PyProof.Rows
def tDSetd (td ty tx : TE) : TE := fun σ H Q => td σ H fun x H1 => ∃ a, x = .ref a ∧ IsD H1 a ∧ ty σ H1 fun y H2 => tx σ H2 fun z H3 => ∃ kvs k, H3 a = some (.dK kvs) ∧ y = kV k ∧ kvs.length < sizeLine ∧
  (∀ v, valV kvs k = some v → Q v H3) ∧ (valV kvs k = none → Q z (upd H3 a (.dK (putK kvs k z))))
section
variable {X : Cx} {pins : List (Addr × Obj)} {σ : L2.St} {H : Hp} {s : Shared} {a : Addr} {kvs : List (Key × V)} {A : Around} {E : Value → Shared → Prop} {k : Key} {u : Value} {z : V} {r : Value}
theorem d_setd {Q : Value → Shared → Prop} (I : Inv X pins σ H s) (e : H a = some (.dK kvs)) (hl : kvs.length < sizeLine) (ry : RelV (kV k) u) (rz : RelV z r)
    (h1 : ∀ v w s', valV kvs k = some v → RelV v w → Inv X pins σ H s' → Q w s') (h2 : ∀ s', valV kvs k = none → Inv X pins σ (upd H a (.dK (putK kvs k z))) s' → Q r s') :
    wpAny (model X.prog X.w) A (call (.builtin "dict.setdefault") [.ref a, u, r]) Q E s := by
  obtain ⟨zz, hd, vs, rel, dd⟩ := dk_of I.hok e
  refine call_meetsIn PySem.F.slot_dict_setdefault dd.typeIs PySem.F.entry_dict_setdefault (PySem.F.args_dict_setdefault_3 _ _ _) (kt_meets_setdefault (mixKind X.prog X.w) a (kV_is ry) hd r)
    ⟨vs, dd, by rw [← rel.length]; exact zz, fun v hv => ?_, fun hn h' dd' hs => ?_⟩
  · have rr := rel.val k
    rw [hv] at rr
    cases hx : valV kvs k with
    | none => rw [hx] at rr; exact False.elim rr
    | some x =>
      rw [hx] at rr
      exact h1 x v _ hx rr (I.tok _)
  · have rr := rel.val k
    rw [hn] at rr
    cases hx : valV kvs k with
    | some x => rw [hx] at rr; exact False.elim rr
    | none =>
      have hl2 : (putK kvs k z).length ≤ sizeLine := by have := length_putK kvs k z; omega
      have he : ∃ q, h'.get? a = some q := let ⟨q, _, _, hq, _⟩ := dd'; ⟨q, hq⟩
      exact h2 _ hx (d_write (H := H) (t' := s.toks + 1) I (by rw [e]; exact True.intro) hs he (dk_new hl2 hd (rel.put k rz) dd'))
end
section
variable {X : Cx} {o e f : Expr} {apos cpos : Pos} {td ty tx : TE}
theorem pe_dsetd (ho : PE X o td) (he : PE X e ty) (hf : PE X f tx) (m : M2 X o "setdefault" apos e f cpos) : PE X (.Call (.Attribute o "setdefault" apos) [e, f] [] cpos) (tDSetd td ty tx) := by
  refine ⟨fun pins s σ H Q I h => ?_⟩
  refine wpAny_Call_method m.base m.few m.line PySem.F.plainAttrs_dict PySem.F.slot_dict_setdefault PySem.F.type_dict_setdefault (thn (ho.run pins s σ H _ I h) fun u s1 ⟨x, H1, I1, rx, a, ex, d, q1⟩ => ?_)
  subst ex
  obtain rfl : u = Value.ref a := rx
  obtain ⟨t1, t2, _⟩ := isD_at I1 d
  refine ⟨t1, t2, ?_⟩
  rw [m.trees]
  refine Calls.callWith_builtin rfl (Calls.evalArgs_plain (Calls.spliced_cons (thn (he.run pins s1 σ H1 _ I1 q1) fun iv s2 ⟨y, H2, I2, ry, q2⟩ =>
    Calls.spliced_cons (thn (hf.run pins s2 σ H2 _ I2 q2) fun fv s3 ⟨z, H3, I3, rz, kvs, k, ea, ey, hl, q3, q4⟩ => Calls.spliced_nil ?_))))
  subst ey
  exact d_setd I3 ea hl ry rz (fun v w s' hv rw' I4 => ⟨v, H3, I4, rw', q3 v hv⟩) fun s' hn I4 => ⟨z, _, I4, rz, q4 hn⟩
end
end

/-! ### d.update(e), also of itself -/
section
open PySem PySem.Spec PyProof.Rows
theorem meets_update_self {prog : Program} {w : World} {K : Type} [DecidableEq K] (knd : KeyKind prog w K) (d : Addr) :
    MeetsIn prog w (Builtin.«dict.update» ⟨[.ref d, .ref d], []⟩) (fun _ R s => ∃ kvs, s.heap.DictOf knd d kvs ∧ R (.ok (.ret .none)) s) :=
  .of_wp fun A R s ⟨kvs, hd, h⟩ => by
    unfold Builtin.«dict.update»
    refine wpAny_bind ?_
    unfold Builtin.Dict.selfAndRest
    refine wpAny_bind (wpAny_notOrdered_dict hd.typeIs ?_)
    show wpAny _ _ (pure (d, [Value.ref d])) _ _ s
    refine wpAny_pure ?_
    show wpAny _ _ (Builtin.Dict.updateFrom "dict.update" d (.ref d) [] .none) _ _ s
    unfold Builtin.Dict.updateFrom
    refine wpAny_bind (wpAny_typeOf hd.typeIs ?_)
    rw [if_neg (by decide)]
    refine wpAny_bind ?_
    unfold Builtin.Dict.merge
    refine wpAny_bind ?_
    · unfold Builtin.Dict.readDirectly
      refine wpAny_bind (wpAny_isInstance hd.typeIs isSubtype_dict_dict ?_)
      simp only [Bool.not_true, Bool.false_eq_true, if_false]
      refine wpAny_bind (wpAny_specialOf hd.typeIs F.slot_dict_iter.lookup (wpAny_pure ?_))
      simp only [beq_self_eq_true, if_true]
      refine wpAny_bind (wpAny_pure ?_)
      unfold Builtin.Dict.mergeDict
      rw [if_pos (by simp)]
      refine wpAny_bind (wpAny_rule (wpAny_pure ?_))
      show wpAny _ _ (Builtin.Dict.addKeywords d [] >>= _) _ _ _
      exact wpAny_bind (wpAny_pure (wpAny_pure ⟨.none, rfl, h⟩))
def tDUpd (td ty : TE) : TE := fun σ H Q => td σ H fun x H1 => ∃ a, x = .ref a ∧ IsD H1 a ∧ ty σ H1 fun y H2 => ∃ b kvs more, y = .ref b ∧ H2 a = some (.dK kvs) ∧ H2 b = some (.dK more) ∧ kvs.length + more.length ≤ sizeLine ∧
  (a ≠ b → Q .non (upd H2 a (.dK (mergeK kvs more)))) ∧ (a = b → Q .non H2)
section
variable {X : Cx} {o e : Expr} {apos cpos : Pos} {td ty : TE}
theorem pe_dupd (ho : PE X o td) (he : PE X e ty) (m : M1 X o "update" apos e cpos) : PE X (.Call (.Attribute o "update" apos) [e] [] cpos) (tDUpd td ty) := by
  refine ⟨fun pins s σ H Q I h => ?_⟩
  refine wpAny_Call_method m.base m.few m.line PySem.F.plainAttrs_dict PySem.F.slot_dict_update PySem.F.type_dict_update (thn (ho.run pins s σ H _ I h) fun u s1 ⟨x, H1, I1, rx, a, ex, d, q1⟩ => ?_)
  subst ex
  obtain rfl : u = Value.ref a := rx
  obtain ⟨t1, t2, _⟩ := isD_at I1 d
  refine ⟨t1, t2, ?_⟩
  rw [m.trees]
  refine Calls.callWith_builtin rfl (Calls.evalArgs_plain (Calls.spliced_cons (thn (he.run pins s1 σ H1 _ I1 q1) fun iv s2 ⟨y, H2, I2, ry, b, kvs, more, ey, ea, eb, hl, q2, q3⟩ => Calls.spliced_nil ?_)))
  subst ey
  obtain rfl : iv = Value.ref b := ry
  obtain ⟨z, hd, vs, rel, dd⟩ := dk_of I2.hok ea
  by_cases hab : a = b
  · subst hab
    exact call_meetsIn PySem.F.slot_dict_update dd.typeIs PySem.F.entry_dict_update (PySem.F.args_dict_update_2 _ _) (meets_update_self (mixKind X.prog X.w) a) ⟨vs, dd, .non, H2, I2, rfl, q3 rfl⟩
  · obtain ⟨z2, hd2, vs2, rel2, dd2⟩ := dk_of I2.hok eb
    refine call_meetsIn PySem.F.slot_dict_update dd.typeIs PySem.F.entry_dict_update (PySem.F.args_dict_update_2 _ _) (meets_dict_update (mixKind X.prog X.w) a b hab hd2)
      ⟨vs, vs2, dd, dd2, by rw [← rel.length, ← rel2.length]; exact hl, fun h' dd' _ hs => ⟨.non, _, ?_, rfl, q2 hab⟩⟩
    have hlen : (mergeK kvs more).length ≤ sizeLine := Nat.le_trans (length_mergeK more kvs) hl
    have he : ∃ q, h'.get? a = some q := let ⟨q, _, _, hq, _⟩ := dd'; ⟨q, hq⟩
    exact d_write (H := H2) (t' := s2.toks) I2 (by rw [ea]; exact True.intro) hs he (dk_new hlen hd (KV.merge rel2 rel) dd')
end
end

/-! ### dicts of names, and dicts of such dicts: plain law -/
def addK (ks : List Str) (n : Str) : List Str := if n ∈ ks then ks else ks ++ [n]
def merK (a b : List Str) : List Str := b.foldl addK a
def setKs (l : List Str) : List (Key × V) := l.map fun m => (Sum.inr m, V.bl true)
def topKs (ad : Str → Addr) (ks : List Str) : List (Key × V) := ks.map fun n => (Sum.inr n, V.ref (ad n))
theorem mem_addK {ks : List Str} {n m : Str} : m ∈ addK ks n ↔ m ∈ ks ∨ m = n := by
  unfold addK
  split
  · next h => exact ⟨.inl, fun z => z.elim id fun e => e ▸ h⟩
  · rw [List.mem_append, List.mem_singleton]
theorem addK_nodup {ks : List Str} {n : Str} (h : ks.Nodup) : (addK ks n).Nodup := by
  unfold addK
  split
  · exact h
  · next hn => exact List.nodup_append.mpr ⟨h, by simp, fun a ha b hb => by rw [List.mem_singleton] at hb; subst hb; exact fun e => hn (e ▸ ha)⟩
theorem mem_merK {b : List Str} : ∀ {a : List Str} {m : Str}, m ∈ merK a b ↔ m ∈ a ∨ m ∈ b := by
  induction b with
  | nil => exact fun {a m} => ⟨.inl, fun z => z.elim id fun y => nomatch y⟩
  | cons x b ih =>
    intro a m
    show m ∈ merK (addK a x) b ↔ _
    rw [ih, mem_addK, List.mem_cons, or_assoc]
theorem merK_nodup {b : List Str} : ∀ {a : List Str}, a.Nodup → (merK a b).Nodup := by
  induction b with
  | nil => exact fun h => h
  | cons x b ih => exact fun h => ih (addK_nodup h)
theorem putK_keys {α : Type} {f : α → Key × V} {l : List α} {k : Key} {v : V} (h : ∀ x ∈ l, (f x).1 ≠ k) : putK (l.map f) k v = l.map f ++ [(k, v)] := by
  unfold putK
  rw [if_neg]
  intro z
  rw [List.any_eq_true] at z
  obtain ⟨p, hp, e⟩ := z
  obtain ⟨x, hx, rfl⟩ := List.mem_map.mp hp
  exact h x hx (by simpa using e)
theorem putK_set {l : List Str} {m : Str} : putK (setKs l) (.inr m) (.bl true) = setKs (addK l m) := by
  unfold addK
  split
  · next h =>
    have z : ((setKs l).any fun kv => decide (kv.1 = (Sum.inr m : Key))) = true := List.any_eq_true.mpr ⟨((Sum.inr m : Key), V.bl true), List.mem_map.mpr ⟨m, h, rfl⟩, by simp⟩
    unfold putK
    rw [if_pos z]
    unfold setKs
    rw [List.map_map]
    refine List.map_congr_left fun x _ => ?_
    show (if (Sum.inr x : Key) = Sum.inr m then ((Sum.inr x : Key), V.bl true) else ((Sum.inr x : Key), V.bl true)) = _
    split <;> rfl
  · next h =>
    unfold setKs
    rw [putK_keys (f := fun m => (Sum.inr m, V.bl true)) fun x hx e => h (by cases e; exact hx), List.map_append]
    rfl
theorem mergeK_set {b : List Str} : ∀ {a : List Str}, mergeK (setKs a) (setKs b) = setKs (merK a b) := by
  induction b with
  | nil => exact fun {a} => rfl
  | cons x b ih =>
    intro a
    show mergeK (putK (setKs a) (.inr x) (.bl true)) (setKs b) = _
    rw [putK_set, ih]
    rfl
theorem valV_mapK {g : Str → V} {l : List Str} {m : Str} : valV (l.map fun n => ((Sum.inr n : Key), g n)) (.inr m) = if m ∈ l then some (g m) else none := by
  unfold valV
  induction l with
  | nil => rfl
  | cons x l ih =>
    rw [List.map_cons, List.find?_cons]
    by_cases e : x = m
    · subst e
      simp
    · have e2 : (decide ((Sum.inr x, g x).1 = (Sum.inr m : Key))) = false := decide_eq_false fun z => e (Sum.inr.inj z)
      simp only [e2]
      rw [ih]
      have : m ∈ x :: l ↔ m ∈ l := by rw [List.mem_cons]; exact ⟨fun z => z.elim (fun y => absurd y.symm e) id, .inr⟩
      simp only [this]
theorem putK_top {ad : Str → Addr} {ks : List Str} {m : Str} {a : Addr} (h : m ∉ ks) : putK (topKs ad ks) (.inr m) (.ref a) = topKs (fun n => if n = m then a else ad n) (ks ++ [m]) := by
  unfold topKs
  rw [putK_keys (f := fun n => (Sum.inr n, V.ref (ad n))) fun x hx e => h (by cases e; exact hx), List.map_append]
  congr 1
  · refine List.map_congr_left fun x hx => ?_
    show _ = ((Sum.inr x : Key), V.ref (if x = m then a else ad x))
    rw [if_neg (show ¬ x = m from fun e => h (by rw [← e]; exact hx))]
  · show _ = [(Sum.inr m, V.ref (if m = m then a else ad m))]
    rw [if_pos rfl]

/-! ### chains of pairs: plain law -/
/-- a chain from a to b whose inner names satisfy M -/
inductive PathIn (R : Str → Str → Prop) (M : Str → Prop) : Str → Str → Prop
  | one {a b : Str} : R a b → PathIn R M a b
  | step {a c b : Str} : R a c → M c → PathIn R M c b → PathIn R M a b
theorem PathIn.mono {R : Str → Str → Prop} {M M' : Str → Prop} (h : ∀ c, M c → M' c) {a b : Str} (p : PathIn R M a b) : PathIn R M' a b := by
  induction p with
  | one e => exact .one e
  | step e m _ ih => exact .step e (h _ m) ih
theorem PathIn.trans {R : Str → Str → Prop} {M : Str → Prop} {a k b : Str} (p : PathIn R M a k) (hk : M k) (q : PathIn R M k b) : PathIn R M a b := by
  induction p with
  | one e => exact .step e hk q
  | step e m _ ih => exact .step e m (ih hk q)
theorem path_more {R : Str → Str → Prop} {M : Str → Prop} {k a b : Str} : PathIn R (fun c => M c ∨ c = k) a b ↔ PathIn R M a b ∨ (PathIn R M a k ∧ PathIn R M k b) := by
  constructor
  · intro p
    induction p with
    | one e => exact .inl (.one e)
    | step e m _ ih =>
      rcases m with m | rfl
      · exact ih.imp (.step e m) fun z => ⟨.step e m z.1, z.2⟩
      · exact .inr ⟨.one e, ih.elim id And.right⟩
  · rintro (p | ⟨p, q⟩)
    · exact p.mono fun _ => .inl
    · exact (p.mono fun _ => .inl).trans (.inr rfl) (q.mono fun _ => .inl)
theorem path_none {R : Str → Str → Prop} {a b : Str} : PathIn R (fun _ => False) a b ↔ R a b := by
  constructor
  · intro p
    cases p with
    | one e => exact e
    | step _ m _ => exact m.elim
  · exact .one
theorem path_all {R : Str → Str → Prop} {M : Str → Prop} (h : ∀ a c, R a c → M c) {a b : Str} : PathIn R M a b ↔ PathIn R (fun _ => True) a b := by
  constructor
  · exact fun p => p.mono fun _ _ => trivial
  · intro p
    induction p with
    | one e => exact .one e
    | step e _ _ ih => exact .step e (h _ _ e) ih
/-- one turn of the inner walk -/
def stepW (mid : Str) (r : Str → List Str) (lo : Str) : Str → List Str := if mid ∈ r lo ∧ lo ≠ mid then fun n => if n = lo then merK (r lo) (r mid) else r n else r
theorem stepW_mid {mid lo : Str} {r : Str → List Str} : stepW mid r lo mid = r mid := by
  unfold stepW
  split
  · next h => exact if_neg (fun e => h.2 e.symm)
  · rfl
theorem stepW_other {mid lo n : Str} {r : Str → List Str} (h : n ≠ lo) : stepW mid r lo n = r n := by
  unfold stepW
  split
  · exact if_neg h
  · rfl
theorem stepW_at {mid lo m : Str} {r : Str → List Str} : m ∈ stepW mid r lo lo ↔ m ∈ r lo ∨ (mid ∈ r lo ∧ m ∈ r mid) := by
  unfold stepW
  split
  · next h =>
    show m ∈ (if lo = lo then merK (r lo) (r mid) else r lo) ↔ _
    rw [if_pos rfl, mem_merK]
    exact ⟨fun z => z.imp id fun y => ⟨h.1, y⟩, fun z => z.imp id And.right⟩
  · next h =>
    refine ⟨.inl, fun z => z.elim id fun ⟨z1, z2⟩ => ?_⟩
    by_cases e : lo = mid
    · rw [e]
      exact z2
    · exact (h ⟨z1, e⟩).elim
theorem inner_mid {mid : Str} : ∀ (ks : List Str) (r : Str → List Str), ks.foldl (stepW mid) r mid = r mid
  | [], _ => rfl
  | k :: ks, r => by rw [List.foldl_cons, inner_mid ks, stepW_mid]
theorem inner_out {mid n : Str} : ∀ (ks : List Str) (r : Str → List Str), n ∉ ks → ks.foldl (stepW mid) r n = r n
  | [], _, _ => rfl
  | k :: ks, r, h => by
    rw [List.foldl_cons, inner_out ks _ fun z => h (List.mem_cons_of_mem _ z), stepW_other fun e => h (by rw [e]; exact List.mem_cons_self)]
theorem inner_at {mid n m : Str} : ∀ (ks : List Str) (r : Str → List Str), n ∈ ks → ks.Nodup → (m ∈ ks.foldl (stepW mid) r n ↔ m ∈ r n ∨ (mid ∈ r n ∧ m ∈ r mid))
  | [], _, h, _ => nomatch h
  | k :: ks, r, h, nd => by
    rw [List.foldl_cons]
    rw [List.nodup_cons] at nd
    by_cases e : n = k
    · subst e
      rw [inner_out ks _ nd.1]
      exact stepW_at
    · rw [inner_at ks _ ((List.mem_cons.mp h).resolve_left e) nd.2, stepW_other e, stepW_mid]
def wAll (ks : List Str) (ms : List Str) (r : Str → List Str) : Str → List Str := ms.foldl (fun r mid => ks.foldl (stepW mid) r) r
/-- after the walk over ms: chains whose inner names are among ms (or were before) -/
theorem wAll_path {R : Str → Str → Prop} {ks : List Str} (nd : ks.Nodup) : ∀ (ms : List Str) (M : Str → Prop) (r : Str → List Str), (∀ m ∈ ms, m ∈ ks) → (∀ n ∈ ks, ∀ m, m ∈ r n ↔ PathIn R M n m) →
    ∀ n ∈ ks, ∀ m, m ∈ wAll ks ms r n ↔ PathIn R (fun c => M c ∨ c ∈ ms) n m
  | [], M, r, _, h, n, hn, m => by
    show m ∈ r n ↔ _
    rw [h n hn]
    exact ⟨fun p => p.mono fun _ => .inl, fun p => p.mono fun _ z => z.elim id fun y => nomatch y⟩
  | k :: ms, M, r, hm, h, n, hn, m => by
    show m ∈ wAll ks ms (ks.foldl (stepW k) r) n ↔ _
    have hk := hm k List.mem_cons_self
    rw [wAll_path nd ms (fun c => M c ∨ c = k) _ (fun x hx => hm x (List.mem_cons_of_mem _ hx)) (fun n hn m => by rw [inner_at ks r hn nd, h n hn, h n hn, h k hk, path_more]) n hn]
    refine ⟨fun p => p.mono fun c z => ?_, fun p => p.mono fun c z => ?_⟩
    · rcases z with (z | rfl) | z
      · exact .inl z
      · exact .inr List.mem_cons_self
      · exact .inr (List.mem_cons_of_mem _ z)
    · rcases z with z | z
      · exact .inl (.inl z)
      · exact (List.mem_cons.mp z).elim (fun e => .inl (.inr e)) .inr
/-- laying the pairs -/
structure KR where
  ks : List Str
  r : Str → List Str
def stepP (s : KR) (p : Str × Str) : KR := ⟨addK (addK s.ks p.1) p.2, fun n => if n = p.1 then addK (s.r p.1) p.2 else s.r n⟩
def laidP (ps : List (Str × Str)) : KR := ps.foldl stepP ⟨[], fun _ => []⟩
def aboveP (ps : List (Str × Str)) : KR := ⟨(laidP ps).ks, wAll (laidP ps).ks (laidP ps).ks (laidP ps).r⟩
theorem laid_gen : ∀ (ps : List (Str × Str)) (s : KR), s.ks.Nodup → (ps.foldl stepP s).ks.Nodup ∧ (∀ n, n ∈ (ps.foldl stepP s).ks ↔ n ∈ s.ks ∨ ∃ p ∈ ps, n = p.1 ∨ n = p.2) ∧ (∀ n m, m ∈ (ps.foldl stepP s).r n ↔ m ∈ s.r n ∨ (n, m) ∈ ps)
  | [], s, h => ⟨h, fun n => ⟨.inl, fun z => z.elim id fun ⟨_, y, _⟩ => nomatch y⟩, fun n m => ⟨.inl, fun z => z.elim id fun y => nomatch y⟩⟩
  | p :: ps, s, h => by
    obtain ⟨a, b, c⟩ := laid_gen ps (stepP s p) (addK_nodup (addK_nodup h))
    refine ⟨a, fun n => ?_, fun n m => ?_⟩
    · rw [List.foldl_cons, b]
      show n ∈ addK (addK s.ks p.1) p.2 ∨ _ ↔ _
      rw [mem_addK, mem_addK]
      constructor
      · rintro (((z | z) | z) | ⟨q, hq, z⟩)
        · exact .inl z
        · exact .inr ⟨p, List.mem_cons_self, .inl z⟩
        · exact .inr ⟨p, List.mem_cons_self, .inr z⟩
        · exact .inr ⟨q, List.mem_cons_of_mem _ hq, z⟩
      · rintro (z | ⟨q, hq, z⟩)
        · exact .inl (.inl (.inl z))
        · rcases List.mem_cons.mp hq with rfl | hq
          · exact z.elim (fun z => .inl (.inl (.inr z))) fun z => .inl (.inr z)
          · exact .inr ⟨q, hq, z⟩
    · rw [List.foldl_cons, c]
      show m ∈ (if n = p.1 then addK (s.r p.1) p.2 else s.r n) ∨ _ ↔ _
      rw [List.mem_cons]
      by_cases e : n = p.1
      · subst e
        rw [if_pos rfl, mem_addK]
        constructor
        · rintro ((z | rfl) | z)
          · exact .inl z
          · exact .inr (.inl rfl)
          · exact .inr (.inr z)
        · rintro (z | z | z)
          · exact .inl (.inl z)
          · exact .inl (.inr (congrArg Prod.snd z))
          · exact .inr z
      · rw [if_neg e]
        refine ⟨fun z => z.imp id .inr, fun z => z.imp id fun y => y.elim (fun y => (e (congrArg Prod.fst y)).elim) id⟩
/-- what all_above computes: chains of pairs -/
def Ch (ps : List (Str × Str)) : Str → Str → Prop := PathIn (fun a b => (a, b) ∈ ps) fun _ => True
theorem above_nodup (ps : List (Str × Str)) : (aboveP ps).ks.Nodup := (laid_gen ps ⟨[], fun _ => []⟩ List.nodup_nil).1
theorem above_ks {ps : List (Str × Str)} {n : Str} : n ∈ (aboveP ps).ks ↔ ∃ p ∈ ps, n = p.1 ∨ n = p.2 := by
  show n ∈ (laidP ps).ks ↔ _
  unfold laidP
  rw [(laid_gen ps ⟨[], fun _ => []⟩ List.nodup_nil).2.1]
  exact ⟨fun z => z.elim (fun y => nomatch y) id, .inr⟩
theorem above_r {ps : List (Str × Str)} {n m : Str} (hn : n ∈ (aboveP ps).ks) : m ∈ (aboveP ps).r n ↔ Ch ps n m := by
  show m ∈ wAll (laidP ps).ks (laidP ps).ks (laidP ps).r n ↔ _
  rw [wAll_path (R := fun a b => (a, b) ∈ ps) (ks := (laidP ps).ks) (above_nodup ps) (laidP ps).ks (fun _ => False) _ (fun _ h => h) (fun n _ m => by
    rw [path_none]
    unfold laidP
    rw [(laid_gen ps ⟨[], fun _ => []⟩ List.nodup_nil).2.2]
    exact ⟨fun z => z.elim (fun y => nomatch y) id, .inr⟩) n hn]
  refine path_all fun a c e => .inr (above_ks.mpr ⟨(a, c), e, .inr rfl⟩)

/-! ### all_above -/
section
variable {P : Program} {w : World} {K : PySem.W.Frag} {mg : Str → Option Value} {base : Heap} {A : Ad}
/-- a list of pairs of names -/
def PrsAt (H : Hp) (q : Addr) (ps : List (Str × Str)) : Prop := ∃ ts : List Addr, H q = some (.lst (ts.map V.ref)) ∧ All2 (fun t p => H t = some (.tup [.str p.1, .str p.2])) ts ps
/-- the inner dicts -/
structure AbI (H : Hp) (ks : List Str) (ad : Str → Addr) (r : Str → List Str) : Prop where
  inj : ∀ n ∈ ks, ∀ m ∈ ks, ad n = ad m → n = m
  at_ : ∀ n ∈ ks, H (ad n) = some (.dK (setKs (r n)))
  nd : ∀ n ∈ ks, (r n).Nodup
def AbAt (H : Hp) (d : Addr) (s : KR) : Prop := ∃ ad : Str → Addr, H d = some (.dK (topKs ad s.ks)) ∧ AbI H s.ks ad s.r
def spAbove : Sp := fun vs H Q _ => ∃ (q : Addr) (ps : List (Str × Str)), vs = [.ref q] ∧ PrsAt H q ps ∧ ps.length ≤ 60 ∧ ∀ d H', Same H H' → H d = none → AbAt H' d (aboveP ps) → Q (.ref d) H'
/-- while the pairs are laid: the outer dict at d, the inner ones new since H -/
def LaySt (H : Hp) (d : Addr) (H' : Hp) (s : KR) : Prop := Same H H' ∧ ∃ ad : Str → Addr, H' d = some (.dK (topKs ad s.ks)) ∧ AbI H' s.ks ad s.r ∧ ∀ n ∈ s.ks, ad n ≠ d ∧ H (ad n) = none
/-- setdefault(n, {}) -/
theorem lay_setd {H H1 : Hp} {d p : Addr} {s : KR} {n : Str} (h : LaySt H d H1 s) (hd : H d = none) (hp : H1 p = none) (hr : n ∉ s.ks → s.r n = []) :
    ∃ kvs, (upd H1 p (.dK [])) d = some (.dK kvs) ∧ kvs.length = s.ks.length ∧ (∀ v, valV kvs (.inr n) = some v → LaySt H d (upd H1 p (.dK [])) ⟨addK s.ks n, s.r⟩) ∧
      (valV kvs (.inr n) = none → LaySt H d (upd (upd H1 p (.dK [])) d (.dK (putK kvs (.inr n) (.ref p)))) ⟨addK s.ks n, s.r⟩) := by
  obtain ⟨s1, ad, h1, ab, na⟩ := h
  have sp := Same.new (o := .dK []) hp
  have ndp : d ≠ p := ne_of_none h1 hp
  have hp0 : H p = none := by
    cases e : H p with
    | none => rfl
    | some o => rw [s1 _ _ e] at hp; cases hp
  have hval : valV (topKs ad s.ks) (.inr n) = if n ∈ s.ks then some (V.ref (ad n)) else none := valV_mapK (g := fun n => V.ref (ad n))
  refine ⟨_, sp _ _ h1, by unfold topKs; rw [List.length_map], fun v hv => ?_, fun hv => ?_⟩
  · rw [hval] at hv
    have hn : n ∈ s.ks := by
      by_cases h : n ∈ s.ks
      · exact h
      · rw [if_neg h] at hv; cases hv
    rw [show addK s.ks n = s.ks from if_pos hn]
    exact ⟨s1.trans sp, ad, sp _ _ h1, ⟨ab.inj, fun m hm => sp _ _ (ab.at_ m hm), ab.nd⟩, na⟩
  · rw [hval] at hv
    have hn : n ∉ s.ks := fun h => by rw [if_pos h] at hv; cases hv
    have np : ∀ m ∈ s.ks, ad m ≠ p := fun m hm => ne_of_none (ab.at_ m hm) hp
    rw [show addK s.ks n = s.ks ++ [n] from if_neg hn, putK_top hn]
    refine ⟨Same.at_new hd (s1.trans sp), _, upd_same, ⟨fun a ha b hb e => ?_, fun m hm => ?_, fun m hm => ?_⟩, fun m hm => ?_⟩
    · have ha := List.mem_append.mp ha
      have hb := List.mem_append.mp hb
      rw [List.mem_singleton] at ha hb
      by_cases ea : a = n
      · by_cases eb : b = n
        · rw [ea, eb]
        · exact absurd (by simpa [ea, eb] using e.symm) (np b (hb.resolve_right eb))
      · by_cases eb : b = n
        · exact absurd (by simpa [ea, eb] using e) (np a (ha.resolve_right ea))
        · exact ab.inj a (ha.resolve_right ea) b (hb.resolve_right eb) (by simpa [ea, eb] using e)
    · have hm := List.mem_append.mp hm
      rw [List.mem_singleton] at hm
      by_cases e : m = n
      · subst e
        rw [if_pos rfl, upd_ne ndp.symm, upd_same, hr hn]
        rfl
      · rw [if_neg e, upd_ne (na m (hm.resolve_right e)).1]
        exact sp _ _ (ab.at_ m (hm.resolve_right e))
    · have hm := List.mem_append.mp hm
      rw [List.mem_singleton] at hm
      by_cases e : m = n
      · subst e
        rw [show s.r m = [] from hr hn]
        exact List.nodup_nil
      · exact ab.nd m (hm.resolve_right e)
    · have hm := List.mem_append.mp hm
      rw [List.mem_singleton] at hm
      by_cases e : m = n
      · subst e
        rw [if_pos rfl]
        exact ⟨ndp.symm, hp0⟩
      · rw [if_neg e]
        exact na m (hm.resolve_right e)
/-- above[lo][hi] = True, also by update: the inner dict of lo holds more -/
theorem lay_in {H H1 : Hp} {d : Addr} {s : KR} {lo : Str} {l : List Str} {ad : Str → Addr} (s1 : Same H H1) (h1 : H1 d = some (.dK (topKs ad s.ks)) ∨ ∃ od, H1 d = some (.frz od (.dK (topKs ad s.ks)))) (ab : AbI H1 s.ks ad s.r) (na : ∀ n ∈ s.ks, ad n ≠ d ∧ H (ad n) = none) (hlo : lo ∈ s.ks) (hl : l.Nodup) :
    Same H (upd H1 (ad lo) (.dK (setKs l))) ∧ (upd H1 (ad lo) (.dK (setKs l))) d = H1 d ∧ AbI (upd H1 (ad lo) (.dK (setKs l))) s.ks ad (fun n => if n = lo then l else s.r n) := by
  have nl := na lo hlo
  refine ⟨fun b o e => ?_, upd_ne nl.1.symm, ⟨ab.inj, fun m hm => ?_, fun m hm => ?_⟩⟩
  · rw [upd_ne (ne_of_none e nl.2)]
    exact s1 _ _ e
  · by_cases e : m = lo
    · subst e
      rw [if_pos rfl, upd_same]
    · rw [if_neg e, upd_ne fun z => e (ab.inj m hm lo hlo z)]
      exact ab.at_ m hm
  · by_cases e : m = lo
    · subst e
      rw [if_pos rfl]
      exact hl
    · rw [if_neg e]
      exact ab.nd m hm
theorem top_get {H : Hp} {d : Addr} {ad : Str → Addr} {ks : List Str} {n : Str} (h : Rd H d (.dK (topKs ad ks))) (hn : n ∈ ks) : DGet H d (.str n) (some (.ref (ad n))) := by
  refine .inl ⟨_, .inr n, h, rfl, ?_⟩
  rw [show valV (topKs ad ks) (.inr n) = if n ∈ ks then some (V.ref (ad n)) else none from valV_mapK (g := fun n => V.ref (ad n)), if_pos hn]
theorem setd_both {H H1 : Hp} {d p : Addr} {s : KR} {n : Str} {Q : VK} (h : LaySt H d H1 s) (hd : H d = none) (hp : H1 p = none) (hr : n ∉ s.ks → s.r n = []) (hl : s.ks.length < sizeLine) (hQ : ∀ v H', LaySt H d H' ⟨addK s.ks n, s.r⟩ → Q v H') :
    ∃ kvs k, (upd H1 p (.dK [])) d = some (.dK kvs) ∧ V.str n = kV k ∧ kvs.length < sizeLine ∧ (∀ v, valV kvs k = some v → Q v (upd H1 p (.dK []))) ∧ (valV kvs k = none → Q (.ref p) (upd (upd H1 p (.dK [])) d (.dK (putK kvs k (.ref p))))) := by
  obtain ⟨kvs, e1, e2, k1, k2⟩ := lay_setd h hd hp hr
  exact ⟨kvs, .inr n, e1, rfl, by rw [e2]; exact hl, fun v hv => hQ v _ (k1 v hv), fun hv => hQ _ _ (k2 hv)⟩
theorem addK_len {ks : List Str} {n : Str} : (addK ks n).length ≤ ks.length + 1 := by
  unfold addK
  split
  · omega
  · rw [List.length_append]
    exact Nat.le_refl _
theorem laid_len : ∀ (ps : List (Str × Str)) (s : KR), (ps.foldl stepP s).ks.length ≤ s.ks.length + 2 * ps.length
  | [], s => Nat.le_refl _
  | p :: ps, s => by
    have h := laid_len ps (stepP s p)
    have h1 : (stepP s p).ks.length ≤ s.ks.length + 2 := by
      have a := addK_len (ks := addK s.ks p.1) (n := p.2)
      have b := addK_len (ks := s.ks) (n := p.1)
      show (addK (addK s.ks p.1) p.2).length ≤ _
      omega
    rw [List.foldl_cons, List.length_cons]
    omega
theorem laid_rlen : ∀ (ps : List (Str × Str)) (s : KR) (n : Str), ((ps.foldl stepP s).r n).length ≤ (s.r n).length + ps.length
  | [], s, n => Nat.le_refl _
  | p :: ps, s, n => by
    have h := laid_rlen ps (stepP s p) n
    have h1 : ((stepP s p).r n).length ≤ (s.r n).length + 1 := by
      show (if n = p.1 then addK (s.r p.1) p.2 else s.r n).length ≤ _
      split
      · next e => rw [e]; exact addK_len
      · omega
    rw [List.foldl_cons, List.length_cons]
    omega
def Sub (ks : List Str) (r : Str → List Str) : Prop := ∀ n ∈ ks, ∀ m ∈ r n, m ∈ ks
theorem sub_step {ks : List Str} {r : Str → List Str} {mid lo : Str} (h : Sub ks r) (hm : mid ∈ ks) : Sub ks (stepW mid r lo) := by
  intro n hn m hz
  by_cases e : n = lo
  · subst e
    exact (stepW_at.mp hz).elim (h n hn m) fun z => h mid hm m z.2
  · rw [stepW_other e] at hz
    exact h n hn m hz
theorem sub_inner {ks : List Str} {mid : Str} (hm : mid ∈ ks) : ∀ (l : List Str) (r : Str → List Str), Sub ks r → Sub ks (l.foldl (stepW mid) r)
  | [], _, h => h
  | _ :: l, _, h => sub_inner hm l _ (sub_step h hm)
theorem sub_wAll {ks : List Str} : ∀ (l : List Str) (r : Str → List Str), (∀ x ∈ l, x ∈ ks) → Sub ks r → Sub ks (wAll ks l r)
  | [], _, _, h => h
  | x :: l, r, hx, h => sub_wAll l _ (fun y hy => hx y (List.mem_cons_of_mem _ hy)) (sub_inner (hx x List.mem_cons_self) ks r h)
theorem sub_laid (ps : List (Str × Str)) : Sub (laidP ps).ks (laidP ps).r := by
  obtain ⟨_, lks, lr⟩ := laid_gen ps ⟨[], fun _ => []⟩ List.nodup_nil
  intro n hn m hm
  exact (lks m).mpr (.inr ⟨(n, m), ((lr n m).mp hm).elim (fun z => nomatch z) id, .inr rfl⟩)
theorem valV_set {l : List Str} {m : Str} : valV (setKs l) (.inr m) = if m ∈ l then some (V.bl true) else none := valV_mapK (g := fun _ => V.bl true)
theorem nil_no {ps : List (Str × Str)} {p : Prop} (n : Str) (z : n ∈ (laidP (ps.take 0)).ks) : p := absurd (show n ∈ ([] : List Str) from z) (by simp)
theorem ok_f_all_above (T : Txt K mg A) : FnOk P w K mg base CX0 1 A.f_all_above A.fd_f_all_above P_f_all_above spAbove := by
  refine T.F_f_all_above.ok sc_f_all_above (fun vs H Q E h => ?_) (fun cdv Ar outer s H vs Q E hr h => ?_)
  · obtain ⟨q, ps, rfl, _⟩ := h
    rfl
  · obtain ⟨q, ps, rfl, ⟨ts, hq, ht⟩, hl, k⟩ := h
    refine ⟨_, (pss_cons (ps_set (i := 1) sc_f_all_above.nd rfl (Or.inl rfl) pe_dnewK)
      (pss_cons (ps_g (ps_for PassesOwn.never rfl (pi_list (pv 0)) (pg_tup (n := 2) rfl (pgs_cons (pg_name (i := 2) sc_f_all_above.nd rfl (Or.inl rfl)) (pgs_cons (pg_name (i := 3) sc_f_all_above.nd rfl (Or.inl rfl)) pgs_nil))) (pss_cons (ps_expr (pe_dsetd (pv 1) (pv 2) pe_dnewK ⟨rfl, rfl, rfl, rfl⟩))
      (pss_cons (ps_expr (pe_dsetd (pv 1) (pv 3) pe_dnewK ⟨rfl, rfl, rfl, rfl⟩))
      (pss_one (ps_dput (hu_of hr) (pe_dget (hu_of hr) (pv 1) (pv 2) (fun _ _ => rfl)) (pv 3) pe_bl rfl))))))
      (pss_cons (ps_g (ps_lock (ps_for PassesOwn.never rfl (pi_keys (pv 1)) (pg_name (i := 4) sc_f_all_above.nd rfl (Or.inl rfl)) (pss_one (ps_g (ps_for PassesOwn.never rfl (pi_keys (pv 1)) (pg_name (i := 2) sc_f_all_above.nd rfl (Or.inl rfl)) (pss_one (ps_if (pt_cmp (pc_din (hu_of hr) (pv 4) (pe_dget (hu_of hr) (pv 1) (pv 2) (fun _ _ => rfl)))) (pss_one (ps_expr (pe_dupd (pe_dget (hu_of hr) (pv 1) (pv 2) (fun _ _ => rfl)) (pe_dget (hu_of hr) (pv 1) (pv 4) (fun _ _ => rfl)) ⟨rfl, rfl, rfl, rfl⟩))) pss_nil))))))))
      (pss_one (ps_ret (pv 1)))))), ?_⟩
    refine fun d hd => ?_
    have s0 := Same.new (o := .dK []) hd
    have hd0 := upd_same (H := H) (a := d) (o := .dK [])
    have hq0 := s0 _ _ hq
    generalize upd H d (.dK []) = H0 at *
    refine ⟨_, rfl, q, rfl, ⟨_, SqL.of hq0⟩, for_list (xs := ts.map V.ref) (fun i σ' H' => Wd (∃ (ad : Str → Addr) (o2 o3 : Option V), σ' = [some (.ref q), some (.ref d), o2, o3, none] ∧ Same H H' ∧ H' d = some (.dK (topKs ad (laidP (ps.take i)).ks)) ∧ AbI H' (laidP (ps.take i)).ks ad (laidP (ps.take i)).r ∧ (∀ n ∈ (laidP (ps.take i)).ks, ad n ≠ d ∧ H (ad n) = none)))
      ⟨fun _ => 0, none, none, rfl, s0, hd0, ⟨fun n z => nil_no n z, fun n z => nil_no n z, fun n z => nil_no n z⟩, fun n z => nil_no n z⟩ ?_ ?_ ?_⟩
    · rintro i σ' H' _ ⟨ad, o2, o3, rfl, s', _⟩
      exact SqL.of (s' _ _ hq)
    · rintro i y σ' H1 hi ⟨ad, o2, o3, rfl, s1, hd1, ab, nad⟩
      obtain ⟨t, hti, rfl⟩ : ∃ t, ts[i]? = some t ∧ V.ref t = y := by
        rw [List.getElem?_map] at hi
        exact Option.map_eq_some_iff.mp hi
      have hil : i < ps.length := by rw [← ht.1]; exact (List.getElem?_eq_some_iff.mp hti).1
      obtain ⟨p, hp⟩ : ∃ p, ps[i]? = some p := ⟨_, List.getElem?_eq_getElem hil⟩
      have htp := s1 _ _ (ht.2 i t p hti hp)
      have lay : LaySt H d H1 (laidP (ps.take i)) := ⟨s1, ad, hd1, ab, nad⟩
      obtain ⟨lnd, lks, lr⟩ := laid_gen (ps.take i) ⟨[], fun _ => []⟩ List.nodup_nil
      have lr0 : ∀ n, n ∉ (laidP (ps.take i)).ks → (laidP (ps.take i)).r n = [] := fun n hn => List.eq_nil_iff_forall_not_mem.mpr fun m hm => hn ((lks n).mpr (.inr ⟨(n, m), ((lr n m).mp hm).elim (fun z => nomatch z) id, .inl rfl⟩))
      have enx : laidP (ps.take (i + 1)) = stepP (laidP (ps.take i)) p := by
        unfold laidP
        rw [take_more hp, List.foldl_append]
        rfl
      rw [enx]
      have lkl : (laidP (ps.take i)).ks.length ≤ 120 := by
        have h1 := laid_len (ps.take i) ⟨[], fun _ => []⟩
        rw [List.length_take] at h1
        have h2 : (laidP (ps.take i)).ks.length ≤ 0 + 2 * min i ps.length := h1
        omega
      have lrl : ∀ n, ((laidP (ps.take i)).r n).length ≤ 60 := fun n => by
        have h1 := laid_rlen (ps.take i) ⟨[], fun _ => []⟩ n
        rw [List.length_take] at h1
        have h2 : ((laidP (ps.take i)).r n).length ≤ 0 + min i ps.length := h1
        omega
      clear lks lr lnd hi
      generalize laidP (ps.take i) = S at *
      refine ⟨t, _, rfl, SqT.of htp, rfl, _, _, rfl, _, _, rfl, rfl, ?_⟩
      refine ⟨_, rfl, d, rfl, .inl ⟨_, .inl hd1⟩, _, rfl, fun p1 hp1 => setd_both lay hd hp1 (lr0 _) (Nat.lt_of_le_of_lt lkl (by decide)) fun _ H2 lay2 => ?_⟩
      refine ⟨_, rfl, d, rfl, .inl ⟨_, .inl lay2.2.choose_spec.1⟩, _, rfl, fun p2 hp2 => setd_both lay2 hd hp2 (fun z => lr0 _ fun y => z (mem_addK.mpr (.inl y))) (Nat.lt_of_le_of_lt (Nat.le_trans addK_len (Nat.succ_le_succ lkl)) (by decide)) fun _ H3 lay3 => ?_⟩
      obtain ⟨s3, ad3, hd3, ab3, na3⟩ := lay3
      have hlo : p.1 ∈ addK (addK S.ks p.1) p.2 := mem_addK.mpr (.inl (mem_addK.mpr (.inr rfl)))
      have ht3 := ab3.at_ p.1 hlo
      obtain ⟨s4, hd4, ab4⟩ := lay_in (l := addK (S.r p.1) p.2) s3 (.inl hd3) ab3 na3 hlo (addK_nodup (ab3.nd p.1 hlo))
      rw [← putK_set] at s4 hd4 ab4
      refine ⟨_, rfl, _, rfl, d, _, rfl, top_get (.inl hd3) hlo, _, rfl, ad3 p.1, _, rfl, DPut.k (k := .inr p.2) ht3 ?_, ad3, _, _, rfl, s4, hd4.trans hd3, ab4, na3⟩
      show (setKs (S.r p.1)).length < sizeLine
      unfold setKs
      rw [List.length_map]
      exact Nat.lt_of_le_of_lt (lrl p.1) (by decide)
    · rintro σ' H1 ⟨ad, o2, o3, rfl, s1, hd1, ab, nad⟩
      rw [List.length_map, ht.1, List.take_length] at hd1 ab nad
      have lkl : (laidP ps).ks.length ≤ 120 := by
        have h1 := laid_len ps ⟨[], fun _ => []⟩
        have h2 : (laidP ps).ks.length ≤ 0 + 2 * ps.length := h1
        omega
      refine ⟨⟨d, .dK (topKs ad (laidP ps).ks), hd1, trivial, fun od => ⟨_, rfl, d, od, rfl, .inl ⟨_, upd_same, ?_⟩⟩⟩⟩
      have hdL : (upd H1 d (.frz od (.dK (topKs ad (laidP ps).ks)))) d = some (.frz od (.dK (topKs ad (laidP ps).ks))) := upd_same
      have sL : Same H (upd H1 d (.frz od (.dK (topKs ad (laidP ps).ks)))) := Same.at_new hd s1
      have abL : AbI (upd H1 d (.frz od (.dK (topKs ad (laidP ps).ks)))) (laidP ps).ks ad (laidP ps).r := ⟨ab.inj, fun m hm => by rw [upd_ne (nad m hm).1]; exact ab.at_ m hm, ab.nd⟩
      generalize upd H1 d (.frz od (.dK (topKs ad (laidP ps).ks))) = HL at *
      refine for_it walk_keys (fun i σ' H' => Wd (∃ (o2 o4 : Option V), σ' = [some (.ref q), some (.ref d), o2, o3, o4] ∧ Same H H' ∧ H' d = some (.frz od (.dK (topKs ad (laidP ps).ks))) ∧ AbI H' (laidP ps).ks ad (wAll (laidP ps).ks ((laidP ps).ks.take i) (laidP ps).r)))
        ⟨_, _, rfl, sL, hdL, abL⟩ (fun i σ' H' _ h => ?_) ?_ ?_
      · obtain ⟨o2, o4, rfl, _, hf, _⟩ := h.ok
        exact hf
      · rintro i y σ' H2 H3 hi ⟨o2, o4, rfl, s2, hf2, ab2⟩ ⟨rfl, kk, vv, hkv, rfl⟩
        unfold topKs at hkv
        rw [List.getElem?_map] at hkv
        obtain ⟨mid, hmid, e⟩ := Option.map_eq_some_iff.mp hkv
        cases e
        have hmk := List.mem_of_getElem? hmid
        have enx : wAll (laidP ps).ks ((laidP ps).ks.take (i + 1)) (laidP ps).r = (laidP ps).ks.foldl (stepW mid) (wAll (laidP ps).ks ((laidP ps).ks.take i) (laidP ps).r) := by
          unfold wAll
          rw [take_more hmid, List.foldl_append]
          rfl
        rw [enx]
        have subI : Sub (laidP ps).ks (wAll (laidP ps).ks ((laidP ps).ks.take i) (laidP ps).r) := sub_wAll _ _ (fun x hx => List.mem_of_mem_take hx) (sub_laid ps)
        generalize wAll (laidP ps).ks ((laidP ps).ks.take i) (laidP ps).r = rI at *
        refine ⟨_, rfl, d, od, rfl, .inl ⟨_, hf2, ?_⟩⟩
        refine for_it walk_keys (fun j σ' H' => Wd (∃ (o2 : Option V), σ' = [some (.ref q), some (.ref d), o2, o3, some (.str mid)] ∧ Same H H' ∧ H' d = some (.frz od (.dK (topKs ad (laidP ps).ks))) ∧ AbI H' (laidP ps).ks ad (((laidP ps).ks.take j).foldl (stepW mid) rI)))
          ⟨_, rfl, s2, hf2, ab2⟩ (fun j σ' H' _ h => ?_) ?_ ?_
        · obtain ⟨o2, rfl, _, hf, _⟩ := h.ok
          exact hf
        · rintro j y σ' H4 H5 hj ⟨o2, rfl, s4, hf4, ab4⟩ ⟨rfl, kk, vv, hkv2, rfl⟩
          unfold topKs at hkv2
          rw [List.getElem?_map] at hkv2
          obtain ⟨lo, hlo, e⟩ := Option.map_eq_some_iff.mp hkv2
          cases e
          have hlk := List.mem_of_getElem? hlo
          have subJ := sub_inner (mid := mid) hmk ((laidP ps).ks.take j) rI subI
          rw [take_more hlo, List.foldl_append]
          show tIfS _ _ _ ⟨fun σ' H' => Wd (∃ (o2 : Option V), σ' = [some (.ref q), some (.ref d), o2, o3, some (.str mid)] ∧ Same H H' ∧ H' d = some (.frz od (.dK (topKs ad (laidP ps).ks))) ∧ AbI H' (laidP ps).ks ad (stepW mid (((laidP ps).ks.take j).foldl (stepW mid) rI) lo)), _, _, _⟩ _ _
          generalize ((laidP ps).ks.take j).foldl (stepW mid) rI = rJ at *
          have lenJ : ∀ n ∈ (laidP ps).ks, (rJ n).length ≤ 120 := fun n hn => Nat.le_trans ((ab4.nd n hn).length_le_of_subset fun m hm => subJ n hn m hm) lkl
          have hgl := top_get (.inr ⟨od, hf4⟩) hlk
          have hgm := top_get (.inr ⟨od, hf4⟩) hmk
          have hal := ab4.at_ lo hlk
          have ham := ab4.at_ mid hmk
          refine ⟨_, rfl, _, rfl, _, rfl, d, _, rfl, hgl, ad lo, _, rfl, DGet.k (k := .inr mid) hal, ?_⟩
          rw [valV_set]
          by_cases hin : mid ∈ rJ lo
          · rw [if_pos hin]
            refine ⟨true, rfl, iteT ⟨_, rfl, _, rfl, d, _, rfl, hgl, ad lo, rfl, .inl ⟨_, .inl hal⟩, _, rfl, _, rfl, d, _, rfl, hgm, ad mid, _, _, rfl, hal, ham, ?_, fun ne => ?_, fun eq => ?_⟩⟩
            · unfold setKs
              rw [List.length_map, List.length_map]
              exact Nat.le_trans (Nat.add_le_add (lenJ lo hlk) (lenJ mid hmk)) (by decide)
            · have nlm : lo ≠ mid := fun z => ne (by rw [z])
              obtain ⟨s6, hd6, ab6⟩ := lay_in (s := ⟨(laidP ps).ks, rJ⟩) (l := merK (rJ lo) (rJ mid)) s4 (.inr ⟨od, hf4⟩) ab4 nad hlk (merK_nodup (ab4.nd lo hlk))
              rw [mergeK_set]
              refine ⟨_, rfl, s6, hd6.trans hf4, ?_⟩
              rw [show stepW mid rJ lo = fun n => if n = lo then merK (rJ lo) (rJ mid) else rJ n from if_pos ⟨hin, nlm⟩]
              exact ab6
            · have nlm : lo = mid := ab4.inj lo hlk mid hmk eq
              refine ⟨_, rfl, s4, hf4, ?_⟩
              rw [show stepW mid rJ lo = rJ from if_neg fun z => z.2 nlm]
              exact ab4
          · rw [if_neg hin]
            refine ⟨false, rfl, iteF ⟨_, rfl, s4, hf4, ?_⟩⟩
            rw [show stepW mid rJ lo = rJ from if_neg fun z => hin z.1]
            exact ab4
        · rintro σ' H4 ⟨o2, rfl, s4, hf4, ab4⟩
          rw [show (topKs ad (laidP ps).ks).length = (laidP ps).ks.length from by unfold topKs; rw [List.length_map], List.take_length] at ab4
          exact ⟨_, _, rfl, s4, hf4, ab4⟩
      · rintro σ' H4 ⟨o2, o4, rfl, s4, hf4, ab4⟩
        rw [show (topKs ad (laidP ps).ks).length = (laidP ps).ks.length from by unfold topKs; rw [List.length_map], List.take_length] at ab4
        refine ⟨hf4, _, rfl, k d _ (Same.at_new hd s4) hd ⟨ad, upd_same, ab4.inj, fun m hm => ?_, ab4.nd⟩⟩
        rw [upd_ne (nad m hm).1]
        exact ab4.at_ m hm
end

/-! ### Known -/
section
variable {P : Program} {w : World} {K : PySem.W.Frag} {mg : Str → Option Value} {base : Heap} {A : Ad}
/-- kept, but for an instance's fields -/
def KpI (H H' : Hp) : Prop := ∀ b o, H b = some o → (∀ C dx fs, o ≠ .ins C dx fs) → H' b = some o
theorem KpI.same {H H' : Hp} (s : Same H H') : KpI H H' := fun b o e _ => s b o e
theorem KpI.ins {H : Hp} {x C dx : Addr} {fs : List (Str × V)} {o : HO} (hx : H x = some (.ins C dx fs)) : KpI H (upd H x o) := fun b u e n => by
  rw [upd_ne fun z => n C dx fs (Option.some.inj (e.symm.trans (by rw [z]; exact hx)))]
  exact e
theorem PrsAt.keep {H H' : Hp} {q : Addr} {ps : List (Str × Str)} (h : PrsAt H q ps) (k : KpI H H') : PrsAt H' q ps := by
  obtain ⟨ts, hq, hl, ht⟩ := h
  exact ⟨ts, k _ _ hq (fun _ _ _ z => by cases z), hl, fun i t p a b => k _ _ (ht i t p a b) fun _ _ _ z => by cases z⟩
theorem AbI.keep {H H' : Hp} {ks : List Str} {ad : Str → Addr} {r : Str → List Str} (h : AbI H ks ad r) (k : KpI H H') : AbI H' ks ad r := ⟨h.inj, fun n hn => k _ _ (h.at_ n hn) (fun _ _ _ z => by cases z), h.nd⟩
theorem AbAt.keep {H H' : Hp} {d : Addr} {s : KR} (h : AbAt H d s) (k : KpI H H') : AbAt H' d s := by
  obtain ⟨ad, hd, ab⟩ := h
  exact ⟨ad, k _ _ hd (fun _ _ _ z => by cases z), ab.keep k⟩
def KnIn (CK : Addr) (H : Hp) (x : Addr) (ps : List (Str × Str)) : Prop := ∃ dx pq d, H x = some (.ins CK dx [("pairs", .ref pq), ("above", .ref d)]) ∧ PrsAt H pq ps ∧ AbAt H d (aboveP ps)
def spKnownInit (CK : Addr) : Sp := fun vs H Q _ => ∃ (x dx q : Addr) (ps : List (Str × Str)), vs = [.ref x, .ref q] ∧ H x = some (.ins CK dx []) ∧ PrsAt H q ps ∧ ps.length ≤ 60 ∧ ∀ H', (∀ b o, H b = some o → b ≠ x → H' b = some o) → KnIn CK H' x ps → (∀ C dx pq rest, H' x = some (.ins C dx (("pairs", V.ref pq) :: rest)) → H pq = none) → Q .non H'
theorem ok_m_Known_init (T : Txt K mg A) : FnOk P w K mg base CX0 2 A.m_Known_init A.fd_m_Known_init P_m_Known_init (spKnownInit A.Known) := by
  refine T.F_m_Known_init.ok sc_m_Known_init (fun vs H Q E h => ?_) (fun cdv Ar outer s H vs Q E hr h => ?_)
  · obtain ⟨x, dx, q, ps, rfl, _⟩ := h
    rfl
  · obtain ⟨x, dx, q, ps, rfl, hx, ⟨ts, hq, ht⟩, hl, k⟩ := h
    refine ⟨_, (pss_cons (ps_fld (pv 0) (pe_g (pe_lcV (own := [("low", 2), ("high", 3)]) rfl sc_m_Known_init.nd (pi_list (pv 1)) (blkOk_by (own := [("low", 2), ("high", 3)]) (N := N_m_Known_init) (sc := defScope s_m_Known_init) (by decide +kernel)) (fun _ _ _ _ _ => (pg_tup (n := 2) rfl (pgs_cons (pg_name (i := 2) sc_m_Known_init.nd rfl (Or.inl rfl)) (pgs_cons (pg_name (i := 3) sc_m_Known_init.nd rfl (Or.inl rfl)) pgs_nil)))) (fun _ _ _ _ _ => pts_nil) (fun _ _ _ _ _ => (pe_tup (pa_cons (pv 2) (pa_cons (pv 3) pa_nil)))) (fun _ _ _ _ _ => rfl) (fun _ _ _ _ _ => rfl) (fun _ _ _ _ _ => rfl))) rfl)
      (pss_one (ps_fld (pv 0) (pe_call (ok_f_all_above T) (hr.mono (by decide)) (by rfl) T.g_all_above T.F_f_all_above.kp T.b_f_all_above .nil pass0 (pa_cons (pe_fld (pv 0) rfl) pa_nil)) rfl))), ?_⟩
    refine ⟨⟨_, rfl, q, rfl, ⟨_, SqL.of hq⟩, fun D hD => lc_sameP (K := K) (fun i y H => ∃ t p, ps[i]? = some p ∧ y = .ref t ∧ H t = some (.tup [.str p.1, .str p.2])) hq (by rw [List.length_map, ht.1]; omega) hD ?_ ?_ ?_⟩⟩
    · rintro i y H1 H2 acc hD1 k1 ⟨t, p, hp, rfl, htp⟩
      exact ⟨t, p, hp, rfl, k1 _ _ htp (ne_of htp hD1 (by intro z; cases z))⟩
    · intro i y H1 N M hi s1 hN
      obtain ⟨t, hti, rfl⟩ : ∃ t, ts[i]? = some t ∧ V.ref t = y := by
        rw [List.getElem?_map] at hi
        exact Option.map_eq_some_iff.mp hi
      have hil : i < ps.length := by rw [← ht.1]; exact (List.getElem?_eq_some_iff.mp hti).1
      obtain ⟨p, hp⟩ : ∃ p, ps[i]? = some p := ⟨_, List.getElem?_eq_getElem hil⟩
      have htp := s1 _ _ (ht.2 i t p hti hp)
      refine ⟨t, _, rfl, SqT.of htp, rfl, _, _, rfl, _, _, rfl, rfl, ?_⟩
      exact ⟨rfl, _, rfl, _, rfl, (by show 2 ≤ sizeLine; decide), fun u hu => hN _ _ (Same.new hu) ⟨u, p, hp, rfl, upd_same⟩⟩
    · intro ys H1 s1 yl hR hD1
      obtain ⟨us, rfl, hus⟩ : ∃ us : List Addr, ys = us.map V.ref ∧ All2 (fun t p => H1 t = some (.tup [.str p.1, .str p.2])) us ps := by
        refine ⟨ys.map fun v => match v with | .ref a => a | _ => 0, ?_, by rw [List.length_map, yl, List.length_map, ht.1], fun i u p hu hp => ?_⟩
        · rw [List.map_map]
          refine (List.map_id ys).symm.trans (List.map_congr_left fun y hy => ?_)
          obtain ⟨i, hi⟩ := List.mem_iff_getElem?.mp hy
          obtain ⟨t, _, _, rfl, _⟩ := hR i y hi
          rfl
        · rw [List.getElem?_map] at hu
          obtain ⟨y, hy, e⟩ := Option.map_eq_some_iff.mp hu
          obtain ⟨t, p2, hp2, rfl, htp⟩ := hR i y hy
          rw [hp] at hp2
          cases hp2
          rw [← e]
          exact htp
      have hx1 := s1 _ _ hx
      refine ⟨_, rfl, x, A.Known, dx, [], rfl, hx1, T.cl_Known, T.n_Known_pairs, (by show 0 < 1000; decide), ?_⟩
      have nDx : D ≠ x := (ne_of_none hx hD).symm
      have hx2 : (upd H1 x (.ins A.Known dx (putF "pairs" (V.ref D) []))) x = some (.ins A.Known dx [("pairs", .ref D)]) := upd_same
      have hD2 : (upd H1 x (.ins A.Known dx (putF "pairs" (V.ref D) []))) D = some (.lst (us.map V.ref)) := by rw [upd_ne nDx]; exact hD1
      have k2 : ∀ b o, H1 b = some o → b ≠ x → (upd H1 x (.ins A.Known dx (putF "pairs" (V.ref D) []))) b = some o := fun b o e n => by rw [upd_ne n]; exact e
      generalize upd H1 x (.ins A.Known dx (putF "pairs" (V.ref D) [])) = H2 at *
      refine ⟨_, rfl, x, A.Known, dx, _, _, rfl, hx2, T.cl_Known, T.n_Known_pairs, rfl, D, ps, rfl, ⟨us, hD2, hus.1, fun i u p hu hp => k2 _ _ (hus.2 i u p hu hp) (ne_of (hus.2 i u p hu hp) hx1 (by intro z; cases z))⟩, hl, fun d H3 s3 hd3 ab3 => ?_⟩
      refine ⟨_, rfl, x, A.Known, dx, _, rfl, s3 _ _ hx2, T.cl_Known, T.n_Known_above, (by show 1 < 1000; decide), ?_⟩
      have hx3 := s3 _ _ hx2
      refine k _ (fun b o e n => ?_) ⟨dx, D, d, upd_same, ?_, ab3.keep (KpI.ins hx3)⟩ (fun C dx' pq rest e => by rw [upd_same] at e; cases e; exact hD)
      · rw [upd_ne n]
        exact s3 _ _ (k2 _ _ (s1 _ _ e) n)
      · exact ((show PrsAt H2 D ps from ⟨us, hD2, hus.1, fun i u p hu hp => k2 _ _ (hus.2 i u p hu hp) (ne_of (hus.2 i u p hu hp) hx1 (by intro z; cases z))⟩).keep (KpI.same s3)).keep (KpI.ins hx3)
end

/-! ### texts in order, dicts that hold numbers by names -/
section
open PySem.Spec PyProof.Rows
def leS (a b : Str) : Prop := ltCps b.cps.toList a.cps.toList = false
theorem leS_iff {a b : Str} : leS a b ↔ ¬ b.cps.toList < a.cps.toList := by
  unfold leS
  rw [ltCps_eq, decide_eq_false_iff_not]
theorem leS_anti {a b : Str} (h1 : leS a b) (h2 : leS b a) : a = b := by
  rw [leS_iff, List.not_lt] at h1 h2
  have e := List.le_antisymm h1 h2
  cases a
  cases b
  exact congrArg Str.mk (Array.toList_inj.mp e)
theorem leS_trans {a b c : Str} (h1 : leS a b) (h2 : leS b c) : leS a c := by
  rw [leS_iff, List.not_lt] at h1 h2 ⊢
  exact List.le_trans h1 h2
theorem rising_pw : ∀ (l : List Str) (p : Str), risingS p l = true → (p :: l).Pairwise leS
  | [], p, _ => by simp
  | x :: r, p, h => by
    have h : (!ltCps x.cps.toList p.cps.toList && risingS x r) = true := h
    rw [Bool.and_eq_true, Bool.not_eq_true'] at h
    have ih := rising_pw r x h.2
    refine List.pairwise_cons.mpr ⟨fun y hy => ?_, ih⟩
    rcases List.mem_cons.mp hy with rfl | hy
    · exact h.1
    · exact leS_trans h.1 ((List.pairwise_cons.mp ih).1 y hy)
theorem sortedS_pw {l : List Str} (h : sortedS l = true) : l.Pairwise leS := by
  cases l with
  | nil => exact .nil
  | cons x r => exact rising_pw r x h
end
structure Srt (ks : List Str) : Prop where
  s : ks.Pairwise leS
  nd : ks.Nodup
theorem Srt.uniq {a b : List Str} (ha : Srt a) (hb : Srt b) (h : ∀ n, n ∈ a ↔ n ∈ b) : a = b :=
  List.Perm.eq_of_pairwise (fun _ _ _ _ => leS_anti) ha.s hb.s ((List.perm_ext_iff_of_nodup ha.nd hb.nd).mpr h)
theorem Srt.filter {a : List Str} (ha : Srt a) (f : Str → Bool) : Srt (a.filter f) := ⟨ha.s.filter f, ha.nd.filter f⟩
theorem Srt.nil : Srt [] := ⟨.nil, List.nodup_nil⟩

/-! ### what is told: plain law -/
theorem PathIn.imp {R R' : Str → Str → Prop} {M : Str → Prop} (h : ∀ a b, R a b → R' a b) {a b : Str} (p : PathIn R M a b) : PathIn R' M a b := by
  induction p with
  | one e => exact .one (h _ _ e)
  | step e m _ ih => exact .step (h _ _ e) m ih
theorem Ch.sub {ps qs : List (Str × Str)} (h : ∀ p ∈ ps, p ∈ qs) {a b : Str} (c : Ch ps a b) : Ch qs a b := PathIn.imp (fun _ _ z => h _ z) c
/-- the same, or a chain leads there -/
def Tls (ps : List (Str × Str)) (a b : Str) : Prop := a = b ∨ Ch ps a b
theorem Tls.sub {ps qs : List (Str × Str)} (h : ∀ p ∈ ps, p ∈ qs) {a b : Str} (c : Tls ps a b) : Tls qs a b := c.imp id (Ch.sub h)
theorem Tls.trans {ps : List (Str × Str)} {a b c : Str} (h : Tls ps a b) (g : Tls ps b c) : Tls ps a c := by
  rcases h with rfl | h
  · exact g
  · rcases g with rfl | g
    · exact .inr h
    · exact .inr (PathIn.trans h trivial g)
theorem Tls.one {ps : List (Str × Str)} {a b : Str} (h : (a, b) ∈ ps) : Tls ps a b := .inr (.one h)
theorem ch_first {ps : List (Str × Str)} {a b : Str} (h : Ch ps a b) : ∃ c, (a, c) ∈ ps := by
  cases h with
  | one e => exact ⟨_, e⟩
  | step e _ _ => exact ⟨_, e⟩
theorem ch_last {ps : List (Str × Str)} {a b : Str} (h : Ch ps a b) : ∃ c, (c, b) ∈ ps := by
  induction h with
  | one e => exact ⟨_, e⟩
  | step e _ _ ih => exact ih
noncomputable def tlsB (ps : List (Str × Str)) (a b : Str) : Bool := @decide (Tls ps a b) (Classical.propDecidable _)
theorem tlsB_iff {ps : List (Str × Str)} {a b : Str} : tlsB ps a b = true ↔ Tls ps a b := by
  unfold tlsB
  exact @decide_eq_true_iff _ (Classical.propDecidable _)
/-- what all_above says of the names a chain leads to -/
theorem above_tls {ps : List (Str × Str)} {a b : Str} : (a = b ∨ (a ∈ (aboveP ps).ks ∧ b ∈ (aboveP ps).r a)) ↔ Tls ps a b := by
  refine or_congr Iff.rfl ⟨fun z => (above_r z.1).mp z.2, fun z => ?_⟩
  obtain ⟨c, hc⟩ := ch_first z
  have ha : a ∈ (aboveP ps).ks := above_ks.mpr ⟨_, hc, .inl rfl⟩
  exact ⟨ha, (above_r ha).mpr z⟩
/-! ### the law's own search -/
def stepT (x : Str) (f : List Str) (p : Str × Str) : List Str := if p.1 = x ∧ p.2 ∉ f then f ++ [p.2] else f
/-- f: what was found, each once; ps: what it may hold beside lo -/
structure Fnd (ps : List (Str × Str)) (lo : Str) (f : List Str) : Prop where
  nd : f.Nodup
  st : lo ∈ f
  re : ∀ x ∈ f, Tls ps lo x
theorem Fnd.init (ps : List (Str × Str)) (lo : Str) : Fnd ps lo [lo] := ⟨by simp, by simp, fun x hx => by rw [List.mem_singleton] at hx; exact .inl hx.symm⟩
theorem Fnd.len {ps : List (Str × Str)} {lo : Str} {f : List Str} (h : Fnd ps lo f) : f.length ≤ ps.length + 1 := by
  have : f.length ≤ (lo :: ps.map Prod.snd).length := by
    refine (List.Nodup.length_le_of_subset h.nd) fun x hx => ?_
    rcases h.re x hx with rfl | c
    · exact List.mem_cons_self
    · obtain ⟨c, hc⟩ := ch_last c
      exact List.mem_cons_of_mem _ (List.mem_map.mpr ⟨_, hc, rfl⟩)
  rw [List.length_cons, List.length_map] at this
  exact this
theorem stepT_sub {x y : Str} {f : List Str} {p : Str × Str} (h : y ∈ f) : y ∈ stepT x f p := by
  unfold stepT
  split
  · exact List.mem_append_left _ h
  · exact h
theorem stepT_pre {x : Str} {f : List Str} {p : Str × Str} : ∃ r, stepT x f p = f ++ r := by
  unfold stepT
  split
  · exact ⟨_, rfl⟩
  · exact ⟨[], by rw [List.append_nil]⟩
theorem Fnd.step {ps : List (Str × Str)} {lo x : Str} {f : List Str} {p : Str × Str} (h : Fnd ps lo f) (hp : p ∈ ps) (hx : x ∈ f) : Fnd ps lo (stepT x f p) := by
  unfold stepT
  split
  · next c =>
    refine ⟨List.nodup_append.mpr ⟨h.nd, by simp, fun a ha b hb e => ?_⟩, List.mem_append_left _ h.st, fun y hy => ?_⟩
    · rw [List.mem_singleton] at hb
      exact c.2 (hb ▸ e ▸ ha)
    · rcases List.mem_append.mp hy with hy | hy
      · exact h.re y hy
      · rw [List.mem_singleton] at hy
        subst hy
        exact (h.re x hx).trans (.one (by rw [← c.1]; exact hp))
  · exact h
theorem stepT_has {x : Str} {f : List Str} {p : Str × Str} (h : p.1 = x) : p.2 ∈ stepT x f p := by
  unfold stepT
  split
  · exact List.mem_append_right _ (List.mem_singleton.mpr rfl)
  · next c => exact Classical.not_not.mp fun z => c ⟨h, z⟩
/-- closed: the pairs of what stands ahead of k lead into f -/
def Clo (ps : List (Str × Str)) (f : List Str) (k : Nat) : Prop := ∀ j x, j < k → f[j]? = some x → ∀ y, (x, y) ∈ ps → y ∈ f
theorem Clo.app {ps : List (Str × Str)} {f r : List Str} {k : Nat} (h : Clo ps f k) (hk : k ≤ f.length) : Clo ps (f ++ r) k := fun j x hj e y hy => by
  rw [List.getElem?_append_left (by omega)] at e
  exact List.mem_append_left _ (h j x hj e y hy)
theorem Clo.more {ps : List (Str × Str)} {f : List Str} {k : Nat} {x : Str} (h : Clo ps f k) (e : f[k]? = some x) (hx : ∀ y, (x, y) ∈ ps → y ∈ f) : Clo ps f (k + 1) := fun j z hj ez y hy => by
  by_cases c : j = k
  · subst c
    rw [e] at ez
    cases ez
    exact hx y hy
  · exact h j z (by omega) ez y hy
theorem Clo.all {ps : List (Str × Str)} {lo : Str} {f : List Str} (F : Fnd ps lo f) (h : Clo ps f f.length) {b : Str} : b ∈ f ↔ Tls ps lo b := by
  refine ⟨F.re b, fun z => ?_⟩
  have cl : ∀ x y, x ∈ f → (x, y) ∈ ps → y ∈ f := fun x y hx hy => by
    obtain ⟨j, hj, e⟩ := List.mem_iff_getElem.mp hx
    exact h j x hj (List.getElem?_eq_some_iff.mpr ⟨hj, e⟩) y hy
  have key : ∀ a, a ∈ f → Ch ps a b → b ∈ f := fun a ha c => by
    clear z
    induction c with
    | one e => exact cl _ _ ha e
    | step e _ _ ih => exact ih (cl _ _ ha e)
  rcases z with rfl | z
  · exact F.st
  · exact key lo F.st z
/-! ### names that cost the same -/
noncomputable def eqB (ps : List (Str × Str)) (a b : Str) : Bool := tlsB ps a b && tlsB ps b a
theorem eqB_iff {ps : List (Str × Str)} {a b : Str} : eqB ps a b = true ↔ Tls ps a b ∧ Tls ps b a := by
  unfold eqB
  rw [Bool.and_eq_true, tlsB_iff, tlsB_iff]
noncomputable def grpP (ps : List (Str × Str)) (ys : List Str) (n : Str) : List Str := ys.filter (eqB ps n)
noncomputable def gooP (ps : List (Str × Str)) (ys : List Str) (n : Str) : Bool := decide (1 < (grpP ps ys n).length) && decide ((grpP ps ys n)[0]? = some n)
noncomputable def eqGs (ps : List (Str × Str)) (ys zs : List Str) : List (List Str) := (zs.filter (gooP ps ys)).map (grpP ps ys)
theorem grp_mem {ps : List (Str × Str)} {ys : List Str} {n m : Str} : m ∈ grpP ps ys n ↔ m ∈ ys ∧ Tls ps n m ∧ Tls ps m n := by
  unfold grpP
  rw [List.mem_filter, eqB_iff]
/-- n is the first of its group: no name ahead of it is in its group -/
theorem goo_first {ps : List (Str × Str)} {ys dn : List Str} {i : Nat} {n : Str} (nd : ys.Nodup) (hn : ys[i]? = some n) (hd : ∀ m, m ∈ dn ↔ ∃ k ∈ ys.take i, m ∈ grpP ps ys k) :
    (grpP ps ys n)[0]? = some n ↔ n ∉ dn := by
  have hny := List.mem_of_getElem? hn
  have e : ys = ys.take i ++ n :: ys.drop (i + 1) := by
    obtain ⟨h, e⟩ := List.getElem?_eq_some_iff.mp hn
    rw [← e, ← List.drop_eq_getElem_cons h, List.take_append_drop]
  have nn : n ∉ ys.take i := fun z => by
    rw [e] at nd
    exact (List.nodup_append.mp nd).2.2 n z n List.mem_cons_self rfl
  have self : eqB ps n n = true := eqB_iff.mpr ⟨.inl rfl, .inl rfl⟩
  have gi : grpP ps ys n = (ys.take i).filter (eqB ps n) ++ n :: (ys.drop (i + 1)).filter (eqB ps n) := by
    unfold grpP
    conv => lhs; rw [e]
    rw [List.filter_append, List.filter_cons_of_pos self]
  rw [gi]
  cases c : (ys.take i).filter (eqB ps n) with
  | nil =>
    refine ⟨fun _ z => ?_, fun _ => rfl⟩
    obtain ⟨k, hk, hm⟩ := (hd n).mp z
    have h2 := grp_mem.mp hm
    have : k ∈ (ys.take i).filter (eqB ps n) := List.mem_filter.mpr ⟨hk, eqB_iff.mpr ⟨h2.2.2, h2.2.1⟩⟩
    rw [c] at this
    cases this
  | cons k l =>
    have hk : k ∈ (ys.take i).filter (eqB ps n) := by rw [c]; exact List.mem_cons_self
    have hk2 := List.mem_filter.mp hk
    have e2 := eqB_iff.mp hk2.2
    refine ⟨fun z => ?_, fun z => ?_⟩
    · have : k = n := Option.some.inj z
      exact (nn (this ▸ hk2.1)).elim
    · exact (z ((hd n).mpr ⟨k, hk2.1, grp_mem.mpr ⟨hny, e2.2, e2.1⟩⟩)).elim
theorem eqGs_more {ps : List (Str × Str)} {ys : List Str} {i : Nat} {n : Str} (hn : ys[i]? = some n) : eqGs ps ys (ys.take (i + 1)) = eqGs ps ys (ys.take i) ++ if gooP ps ys n = true then [grpP ps ys n] else [] := by
  unfold eqGs
  rw [take_more hn, List.filter_append, List.map_append]
  by_cases c : gooP ps ys n = true
  · rw [if_pos c, List.filter_cons_of_pos c]
    rfl
  · rw [if_neg c, List.filter_cons_of_neg c]
    rfl
/-! ### comparisons that follow from the other ones -/
def restP (ps : List (Str × Str)) (k : Nat) : List (Str × Str) := ps.take k ++ ps.drop (k + 1)
noncomputable def ndlB (ps : List (Str × Str)) (k : Nat) : Bool := match ps[k]? with
  | some p => tlsB (restP ps k) p.1 p.2
  | none => false
noncomputable def ndlP (ps : List (Str × Str)) : List Nat := (List.range ps.length).filter (ndlB ps)
theorem ndl_at {ps : List (Str × Str)} {k : Nat} {p : Str × Str} (h : ps[k]? = some p) : ndlB ps k = tlsB (restP ps k) p.1 p.2 := by
  unfold ndlB
  rw [h]
theorem ndl_nil {ps : List (Str × Str)} (nd : (ps.map Prod.fst).Nodup) (ne : ∀ p ∈ ps, p.1 ≠ p.2) : ndlP ps = [] := by
  unfold ndlP
  rw [List.filter_eq_nil_iff]
  intro k hk z
  rw [List.mem_range] at hk
  rw [ndl_at (List.getElem?_eq_getElem hk), tlsB_iff] at z
  rcases z with z | z
  · exact ne _ (List.getElem_mem hk) z
  · obtain ⟨c, hc⟩ := ch_first z
    have e : ps.map Prod.fst = (ps.take k).map Prod.fst ++ (ps[k].1 :: (ps.drop (k + 1)).map Prod.fst) := by
      rw [← List.map_cons (f := Prod.fst), ← List.drop_eq_getElem_cons hk, ← List.map_append, List.take_append_drop]
    rw [e] at nd
    obtain ⟨_, n2, n3⟩ := List.nodup_append.mp nd
    rcases List.mem_append.mp hc with hc | hc
    · exact n3 _ (List.mem_map.mpr ⟨_, hc, rfl⟩) _ List.mem_cons_self rfl
    · exact (List.nodup_cons.mp n2).1 (List.mem_map.mpr ⟨_, hc, rfl⟩)
/-! ### the chain and the ring -/
def lkP (L : List Str) : List (Str × Str) := L.zip (L.drop 1)
theorem lk_mem {L : List Str} {a b : Str} : (a, b) ∈ lkP L ↔ ∃ k, L[k]? = some a ∧ L[k + 1]? = some b := by
  unfold lkP
  rw [List.mem_iff_getElem?]
  constructor
  · rintro ⟨k, hk⟩
    rw [List.getElem?_zip_eq_some] at hk
    obtain ⟨h1, h2⟩ := hk
    rw [List.getElem?_drop, Nat.add_comm] at h2
    exact ⟨k, h1, h2⟩
  · rintro ⟨k, h1, h2⟩
    refine ⟨k, List.getElem?_zip_eq_some.mpr ⟨h1, ?_⟩⟩
    rw [List.getElem?_drop, Nat.add_comm]
    exact h2
theorem nd_ix {L : List Str} (nd : L.Nodup) {i j : Nat} {a : Str} (h : L[i]? = some a) (g : L[j]? = some a) : i = j := (List.getElem?_inj (List.getElem?_eq_some_iff.mp h).1 nd).mp (h.trans g.symm)
theorem chain_ch {L : List Str} {ps : List (Str × Str)} (nd : L.Nodup) (hp : ∀ p, p ∈ ps ↔ p ∈ lkP L) {a b : Str} (h : Ch ps a b) : ∀ i : Nat, L[i]? = some a → ∃ j : Nat, i < j ∧ L[j]? = some b := by
  induction h with
  | one e =>
    intro i hi
    obtain ⟨k, h1, h2⟩ := lk_mem.mp ((hp _).mp e)
    exact ⟨k + 1, by rw [nd_ix nd hi h1]; omega, h2⟩
  | step e _ _ ih =>
    intro i hi
    obtain ⟨k, h1, h2⟩ := lk_mem.mp ((hp _).mp e)
    obtain ⟨j, hj, h3⟩ := ih (k + 1) h2
    exact ⟨j, by rw [nd_ix nd hi h1]; omega, h3⟩
theorem chain_up {L : List Str} {ps : List (Str × Str)} (hp : ∀ p ∈ lkP L, p ∈ ps) {i : Nat} {a : Str} (hi : L[i]? = some a) : ∀ d b, L[i + d]? = some b → Tls ps a b
  | 0, b, h => .inl (Option.some.inj (hi.symm.trans h))
  | d + 1, b, h => by
    have h1 : i + d < L.length := by have := (List.getElem?_eq_some_iff.mp h).1; omega
    exact (chain_up hp hi d _ (List.getElem?_eq_getElem h1)).trans (.one (hp _ (lk_mem.mpr ⟨i + d, List.getElem?_eq_getElem h1, h⟩)))
theorem chain_tls {L : List Str} {ps : List (Str × Str)} (nd : L.Nodup) (hp : ∀ p, p ∈ ps ↔ p ∈ lkP L) {i j : Nat} {a b : Str} (hi : L[i]? = some a) (hj : L[j]? = some b) : Tls ps a b ↔ i ≤ j := by
  constructor
  · rintro (rfl | c)
    · exact Nat.le_of_eq (nd_ix nd hi hj)
    · obtain ⟨k, hk, e⟩ := chain_ch nd hp c i hi
      rw [nd_ix nd hj e]
      omega
  · intro h
    exact chain_up (fun p z => (hp p).mpr z) hi (j - i) b (by rw [show i + (j - i) = j by omega]; exact hj)
theorem lk_fst : ∀ {L : List Str}, (lkP L).map Prod.fst = L.take (L.length - 1)
  | [] => rfl
  | [_] => rfl
  | a :: b :: L => by
    have ih := lk_fst (L := b :: L)
    show a :: (lkP (b :: L)).map Prod.fst = _
    rw [ih]
    rfl
theorem lk_ne {L : List Str} (nd : L.Nodup) {p : Str × Str} (h : p ∈ lkP L) : p.1 ≠ p.2 := by
  obtain ⟨k, h1, h2⟩ := lk_mem.mp h
  intro e
  rw [← e] at h2
  have := nd_ix nd h1 h2
  omega
theorem lk_names {L : List Str} (h2 : 2 ≤ L.length) {n : Str} : (∃ p ∈ lkP L, n = p.1 ∨ n = p.2) ↔ n ∈ L := by
  constructor
  · rintro ⟨p, hp, e⟩
    obtain ⟨k, h1, h2⟩ := lk_mem.mp hp
    rcases e with rfl | rfl
    · exact List.mem_of_getElem? h1
    · exact List.mem_of_getElem? h2
  · intro h
    obtain ⟨k, hk, e⟩ := List.mem_iff_getElem.mp h
    by_cases c : k + 1 < L.length
    · exact ⟨(n, L[k + 1]), lk_mem.mpr ⟨k, List.getElem?_eq_some_iff.mpr ⟨hk, e⟩, List.getElem?_eq_getElem c⟩, .inl rfl⟩
    · have hk1 : k - 1 < L.length := by omega
      refine ⟨(L[k - 1], n), lk_mem.mpr ⟨k - 1, List.getElem?_eq_getElem hk1, ?_⟩, .inr rfl⟩
      rw [show k - 1 + 1 = k by omega]
      exact List.getElem?_eq_some_iff.mpr ⟨hk, e⟩
theorem chain_ndl {L : List Str} {ps : List (Str × Str)} (nd : L.Nodup) (hp : ps.Perm (lkP L)) : ndlP ps = [] := by
  refine ndl_nil ?_ fun p h => lk_ne nd (hp.mem_iff.mp h)
  rw [(hp.map Prod.fst).nodup_iff, lk_fst]
  exact nd.sublist (List.take_sublist _ _)
theorem chain_eq {L ys : List Str} {ps : List (Str × Str)} (nd : L.Nodup) (hp : ps.Perm (lkP L)) (yd : ys.Nodup) (hy : ∀ y ∈ ys, y ∈ L) : eqGs ps ys ys = [] := by
  unfold eqGs
  rw [List.map_eq_nil_iff, List.filter_eq_nil_iff]
  intro n hn z
  unfold gooP at z
  rw [Bool.and_eq_true, decide_eq_true_iff, decide_eq_true_iff] at z
  have hs : ∀ m ∈ grpP ps ys n, m = n := fun m hm => by
    obtain ⟨h1, h2, h3⟩ := grp_mem.mp hm
    obtain ⟨i, hi⟩ := List.mem_iff_getElem?.mp (hy n hn)
    obtain ⟨j, hj⟩ := List.mem_iff_getElem?.mp (hy m h1)
    have a := (chain_tls nd (fun p => hp.mem_iff) hi hj).mp h2
    have b := (chain_tls nd (fun p => hp.mem_iff) hj hi).mp h3
    have c : i = j := by omega
    subst c
    exact Option.some.inj (hj.symm.trans hi)
  have gd : (grpP ps ys n).Nodup := yd.sublist List.filter_sublist
  have l := gd.length_le_of_subset (l₂ := [n]) fun m hm => by rw [hs m hm]; exact List.mem_singleton.mpr rfl
  rw [List.length_singleton] at l
  omega
theorem ring_ndl {L : List Str} {ps : List (Str × Str)} {a b : Str} (nd : L.Nodup) (h2 : 2 ≤ L.length) (ha : L[L.length - 1]? = some a) (hb : L[0]? = some b) (hp : ps.Perm (lkP L ++ [(a, b)])) : ndlP ps = [] := by
  refine ndl_nil ?_ fun p h => ?_
  · rw [(hp.map Prod.fst).nodup_iff, List.map_append, lk_fst]
    show (L.take (L.length - 1) ++ [a]).Nodup
    rw [← take_more ha, show L.length - 1 + 1 = L.length by omega, List.take_length]
    exact nd
  · rcases List.mem_append.mp (hp.mem_iff.mp h) with h | h
    · exact lk_ne nd h
    · rw [List.mem_singleton] at h
      subst h
      intro e
      have e : a = b := e
      subst e
      have := nd_ix nd ha hb
      omega
theorem ring_tls {L : List Str} {ps : List (Str × Str)} {a b : Str} (ha : L[L.length - 1]? = some a) (hb : L[0]? = some b) (hp : ps.Perm (lkP L ++ [(a, b)])) {x y : Str} (hx : x ∈ L) (hy : y ∈ L) : Tls ps x y := by
  have sub : ∀ p ∈ lkP L, p ∈ ps := fun p h => hp.mem_iff.mpr (List.mem_append_left _ h)
  obtain ⟨i, hi⟩ := List.mem_iff_getElem?.mp hx
  obtain ⟨j, hj⟩ := List.mem_iff_getElem?.mp hy
  have il := (List.getElem?_eq_some_iff.mp hi).1
  have u1 : Tls ps x a := chain_up sub hi (L.length - 1 - i) a (by rw [show i + (L.length - 1 - i) = L.length - 1 by omega]; exact ha)
  have u2 : Tls ps b y := chain_up sub hb j y (by rw [Nat.zero_add]; exact hj)
  exact u1.trans ((Tls.one (hp.mem_iff.mpr (List.mem_append_right _ (List.mem_singleton.mpr rfl)))).trans u2)
theorem ring_eq {L : List Str} {ps : List (Str × Str)} {a b : Str} (nd : L.Nodup) (h2 : 2 ≤ L.length) (ha : L[L.length - 1]? = some a) (hb : L[0]? = some b) (hp : ps.Perm (lkP L ++ [(a, b)])) : eqGs ps L L = [L] := by
  have gl : ∀ n ∈ L, grpP ps L n = L := fun n hn => List.filter_eq_self.mpr fun m hm => eqB_iff.mpr ⟨ring_tls ha hb hp hn hm, ring_tls ha hb hp hm hn⟩
  have gg : ∀ n ∈ L, gooP ps L n = decide (n = b) := fun n hn => by
    unfold gooP
    rw [gl n hn, hb, decide_eq_true (show 1 < L.length by omega), Bool.true_and]
    exact decide_eq_decide.mpr ⟨fun e => (Option.some.inj e).symm, fun e => by rw [e]⟩
  obtain ⟨l, rfl⟩ : ∃ l, L = b :: l := by
    cases L with
    | nil => cases hb
    | cons c l => exact ⟨l, by cases hb; rfl⟩
  unfold eqGs
  have f1 : (b :: l).filter (gooP ps (b :: l)) = [b] := by
    rw [List.filter_cons_of_pos (by rw [gg b List.mem_cons_self]; exact decide_eq_true rfl), List.filter_eq_nil_iff.mpr fun n hn z => ?_]
    rw [gg n (List.mem_cons_of_mem _ hn), decide_eq_true_iff] at z
    subst z
    exact (List.nodup_cons.mp nd).1 hn
  rw [f1, List.map_cons, List.map_nil, gl b List.mem_cons_self]
theorem ring_names {L : List Str} {ps : List (Str × Str)} {a b : Str} (h2 : 2 ≤ L.length) (ha : L[L.length - 1]? = some a) (hb : L[0]? = some b) (hp : ps.Perm (lkP L ++ [(a, b)])) {n : Str} : (∃ p ∈ ps, n = p.1 ∨ n = p.2) ↔ n ∈ L := by
  refine ⟨?_, fun h => ?_⟩
  · rintro ⟨p, h, e⟩
    rcases List.mem_append.mp (hp.mem_iff.mp h) with h | h
    · exact (lk_names h2).mp ⟨p, h, e⟩
    · rw [List.mem_singleton] at h
      subst h
      rcases e with rfl | rfl
      · exact List.mem_of_getElem? ha
      · exact List.mem_of_getElem? hb
  · obtain ⟨p, h1, h2⟩ := (lk_names h2).mpr h
    exact ⟨p, hp.mem_iff.mpr (List.mem_append_left _ h1), h2⟩

/-! ### Known.names, Known.told -/
section
variable {P : Program} {w : World} {K : PySem.W.Frag} {mg : Str → Option Value} {base : Heap} {A : Ad}
/-- the names of the comparisons, in order -/
structure NmsK (ps : List (Str × Str)) (ys : List Str) : Prop where
  s : Srt ys
  m : ∀ n, n ∈ ys ↔ n ∈ (aboveP ps).ks
theorem NmsK.uniq {ps : List (Str × Str)} {a b : List Str} (ha : NmsK ps a) (hb : NmsK ps b) : a = b := Srt.uniq ha.s hb.s fun n => (ha.m n).trans (hb.m n).symm
theorem above_len (ps : List (Str × Str)) : (aboveP ps).ks.length ≤ 2 * ps.length := by
  have h1 := laid_len ps ⟨[], fun _ => []⟩
  have h2 : (aboveP ps).ks.length ≤ 0 + 2 * ps.length := h1
  omega
theorem NmsK.len {ps : List (Str × Str)} {ys : List Str} (h : NmsK ps ys) : ys.length ≤ 2 * ps.length :=
  Nat.le_trans (h.s.nd.length_le_of_subset fun n hn => (h.m n).mp hn) (above_len ps)
def spKNames (CK : Addr) : Sp := fun vs H Q _ => ∃ (x : Addr) (ps : List (Str × Str)), vs = [.ref x] ∧ KnIn CK H x ps ∧ ps.length ≤ 30 ∧ ∀ ys p, NmsK ps ys → H p = none → Q (.ref p) (upd H p (.lst (ys.map V.str)))
def spKTold (CK : Addr) : Sp := fun vs H Q _ => ∃ (x : Addr) (ps : List (Str × Str)) (a b : Str), vs = [.ref x, .str a, .str b] ∧ KnIn CK H x ps ∧ ∀ H', Same H H' → Q (.bl (tlsB ps a b)) H'
theorem ok_m_Known_names (T : Txt K mg A) : FnOk P w K mg base CX0 1 A.m_Known_names A.fd_m_Known_names P_m_Known_names (spKNames A.Known) := by
  refine T.F_m_Known_names.ok sc_m_Known_names (fun vs H Q E h => ?_) (fun cdv Ar outer s H vs Q E hr h => ?_)
  · obtain ⟨x, ps, rfl, _⟩ := h
    rfl
  · obtain ⟨x, ps, rfl, ⟨dx, pq, d, hx, hp, ad, hd, ab⟩, hl, k⟩ := h
    refine ⟨_, (pss_one (ps_ret (pe_callB (call_sortedD rfl) (by rfl) T.z_sorted (by decide +kernel) (pa_cons (pe_fld (pv 0) rfl) pa_nil)))), ?_⟩
    have lkl := above_len ps
    refine ⟨_, rfl, x, _, dx, _, _, rfl, hx, T.cl_Known, T.n_Known_above, rfl, d, topKs ad (aboveP ps).ks, (aboveP ps).ks, rfl, .inl hd, ?_, by omega, fun ys p hperm hsrt hp => k ys p ⟨⟨sortedS_pw hsrt, hperm.symm.nodup (above_nodup ps)⟩, fun n => hperm.mem_iff⟩ hp⟩
    unfold topKs
    rw [List.map_map]
    rfl
theorem get_in {H : Hp} {d p : Addr} {ps : List (Str × Str)} {a b : Str} (h : AbAt H d (aboveP ps)) (hp : H p = none) :
    ∃ o, DGet (upd H p (.dK [])) d (.str a) o ∧ ∃ d2 o2, o.getD (.ref p) = .ref d2 ∧ DGet (upd H p (.dK [])) d2 (.str b) o2 ∧ (o2.isSome = true ↔ Ch ps a b) := by
  obtain ⟨ad, hd, ab⟩ := h
  have s := Same.new (o := .dK []) hp
  refine ⟨_, DGet.k (k := .inr a) (s _ _ hd), ?_⟩
  have e : valV (topKs ad (aboveP ps).ks) (.inr a) = if a ∈ (aboveP ps).ks then some (V.ref (ad a)) else none := valV_mapK (g := fun n => V.ref (ad n))
  rw [e]
  by_cases c : a ∈ (aboveP ps).ks
  · rw [if_pos c]
    refine ⟨ad a, _, rfl, DGet.k (k := .inr b) (s _ _ (ab.at_ a c)), ?_⟩
    rw [valV_set, ← above_r c]
    by_cases z : b ∈ (aboveP ps).r a
    · rw [if_pos z]
      exact ⟨fun _ => z, fun _ => rfl⟩
    · rw [if_neg z]
      exact ⟨(fun y => by cases y), fun y => (z y).elim⟩
  · rw [if_neg c]
    refine ⟨p, _, rfl, DGet.k (k := .inr b) upd_same, ⟨(fun y => by cases y), fun y => ?_⟩⟩
    obtain ⟨z, hz⟩ := ch_first y
    exact (c (above_ks.mpr ⟨_, hz, .inl rfl⟩)).elim
theorem bool_iff {a : Bool} {p : Prop} {b : Bool} (h : a = true ↔ p) (g : b = true ↔ p) : a = b := by
  cases a <;> cases b <;> simp_all
theorem ok_m_Known_told (T : Txt K mg A) : FnOk P w K mg base CX0 1 A.m_Known_told A.fd_m_Known_told P_m_Known_told (spKTold A.Known) := by
  refine T.F_m_Known_told.ok sc_m_Known_told (fun vs H Q E h => ?_) (fun cdv Ar outer s H vs Q E hr h => ?_)
  · obtain ⟨x, ps, a, b, rfl, _⟩ := h
    rfl
  · obtain ⟨x, ps, a, b, rfl, ⟨dx, pq, d, hx, hp, ad, hd, ab⟩, k⟩ := h
    refine ⟨_, (pss_one (ps_ret (pe_or (pe_cmpR op_eq (pv 1) (pv 2) (nomark _)) (pe_one (pe_cmp (pc_din (hu_of hr) (pv 2) (pe_dget2 (hu_of hr) (pe_fld (pv 0) rfl) (pv 1) pe_dnewK ⟨rfl, rfl, rfl, rfl⟩)) rfl))))), ?_⟩
    refine ⟨_, rfl, _, rfl, rfl, _, rfl, if_dec (fun e => ?_) (fun e => ?_)⟩
    · rw [show true = tlsB ps a b from (tlsB_iff.mpr (.inl (V.str.inj e))).symm]
      exact k H (Same.refl H)
    · refine ⟨_, rfl, _, rfl, x, A.Known, dx, _, _, rfl, hx, T.cl_Known, T.n_Known_above, rfl, d, rfl, .inl ⟨_, .inl hd⟩, _, rfl, fun p hp => ?_⟩
      obtain ⟨o, hg, d2, o2, e2, hg2, hi⟩ := get_in (b := b) ⟨ad, hd, ab⟩ hp
      refine ⟨o, hg, d2, o2, e2, hg2, ?_⟩
      have en : a ≠ b := fun z => e (by rw [z])
      rw [show o2.isSome = tlsB ps a b from bool_iff (hi.trans ⟨.inr, fun z => z.elim (fun y => (en y).elim) id⟩) tlsB_iff]
      exact k _ (Same.new hp)
end

/-! ### dict comprehensions, dicts compared, walks over a dict under its lock -/
section
open PySem.Spec PyProof.Rows
variable {X : Cx}
theorem pe_dcV {kx vx tg iter : Expr} {ifs : List Expr} {scope : Scope} {own : List (Str × Nat)} {pos : Pos} {wi : TI} {g : Bk TG} {tt : Bk TT} {tk tv : Bk TE} (hc : X.calm = true) (hN : X.N.Nodup) (hi : PI X tg iter wi) (ok : BlkOk X.N X.env.scope scope own)
    (hg : ∀ s H C cl fp, PG (X.blk s H scope (compEnvC scope cl C X.env) fp) tg (g s H C cl fp)) (ht : ∀ s H C cl fp, PTs (X.blk s H scope (compEnvC scope cl C X.env) fp) ifs (tt s H C cl fp))
    (hk : ∀ s H C cl fp, PE (X.blk s H scope (compEnvC scope cl C X.env) fp) kx (tk s H C cl fp)) (he : ∀ s H C cl fp, PE (X.blk s H scope (compEnvC scope cl C X.env) fp) vx (tv s H C cl fp))
    (e1 : ∀ s H C cl fp, g s H C cl fp = g.at0 X) (e2 : ∀ s H C cl fp, tt s H C cl fp = tt.at0 X) (e3 : ∀ s H C cl fp, tk s H C cl fp = tk.at0 X) (e4 : ∀ s H C cl fp, tv s H C cl fp = tv.at0 X) (hs : ∀ x, foldedSetIterable iter X.env x = pure x := by intro _; rfl) :
    PE X (.DictComp kx vx [⟨tg, iter, ifs, 0⟩] scope pos) (tDc wi (g.at0 X) (tt.at0 X) (tk.at0 X) (tv.at0 X) (own.map (·.2))) :=
  pe_dc hc hN hi ok (fun s H C cl fp => by rw [← e1 s H C cl fp]; exact hg s H C cl fp) (fun s H C cl fp => by rw [← e2 s H C cl fp]; exact ht s H C cl fp) (fun s H C cl fp => by rw [← e3 s H C cl fp]; exact hk s H C cl fp) (fun s H C cl fp => by rw [← e4 s H C cl fp]; exact he s H C cl fp) hs
end
theorem dc_it {J : It} {n : Nat} {G : Hp → Prop} {Y : Nat → Hp → V → Hp → Prop} (w : Walk J n G Y) {g : TG} {tt : TT} {tk tv : TE} {vs : List Nat} {σ : L2.St} {H1 : Hp} {D : Addr} {Qd : Hp → Prop} (Pv : Nat → Hp → Prop) (h0 : Pv 0 (upd H1 D (.dK []))) (hG : ∀ i H, i ≤ n → Pv i H → G H)
    (hs : ∀ i x H H', i < n → Pv i H → Y i H x H' → g x (wipe σ vs) H' fun σ2 H2 => wipe σ2 vs = wipe σ vs ∧ tt σ2 H2 fun b H3 =>
      if b = true then tk σ2 H3 fun y H4 => tv σ2 H4 fun z H5 => ∃ kvs k, y = kV k ∧ H5 D = some (.dK kvs) ∧ kvs.length < sizeLine ∧ Pv (i + 1) (upd H5 D (.dK (putK kvs k z))) else Pv (i + 1) H3) (hd : ∀ H, Pv n H → Qd H) :
    ∃ W : Nat → Nat → Hp → Prop, (∃ m, W 0 m (upd H1 D (.dK []))) ∧ ∀ i m H, W i m H →
      (J.stop i H ∧ Qd H) ∨ (J.go i H ∧ ∃ Nx : Hp → Prop, (∀ H', Nx H' → ∃ m', m' < m ∧ W (i + 1) m' H') ∧ ∀ x H', J.yld i H x H' → g x (wipe σ vs) H' fun σ2 H2 => wipe σ2 vs = wipe σ vs ∧ tt σ2 H2 fun b H3 =>
        if b = true then tk σ2 H3 fun y H4 => tv σ2 H4 fun z H5 => ∃ kvs k, y = kV k ∧ H5 D = some (.dK kvs) ∧ kvs.length < sizeLine ∧ Nx (upd H5 D (.dK (putK kvs k z))) else Nx H3) := by
  refine ⟨fun i m H => m = n - i ∧ i ≤ n ∧ Pv i H, ⟨n, by simp, Nat.zero_le _, h0⟩, ?_⟩
  rintro i m H ⟨rfl, hi, p⟩
  have q := hG i H hi p
  by_cases hlt : i < n
  · refine .inr ⟨w.goes i H hlt q, Pv (i + 1), fun H' p' => ⟨n - (i + 1), by omega, rfl, hlt, p'⟩, fun x H' y => hs i x H H' hlt p (w.yields i H x H' hlt q y)⟩
  · have e : i = n := by omega
    subst e
    exact .inl ⟨w.stops H q, hd H p⟩
/-- unlocked again -/
theorem same_back {H H' : Hp} {d : Addr} {u : HO} {o : Obj} (h : H d = some u) (s : Same (upd H d (.frz o u)) H') : Same H (upd H' d u) := fun b x e => by
  by_cases hb : b = d
  · subst hb
    rw [upd_same, ← e, h]
  · rw [upd_ne hb]
    exact s b x (by rw [upd_ne hb]; exact e)
theorem kp_back {g : Addr} {H H' : Hp} {d : Addr} {u : HO} {o : Obj} (h : H d = some u) (s : Kp g (upd H d (.frz o u)) H') : Kp g H (upd H' d u) := fun b x e n => by
  by_cases hb : b = d
  · subst hb
    rw [upd_same, ← e, h]
  · rw [upd_ne hb]
    exact s b x (by rw [upd_ne hb]; exact e) n

theorem names_at {ys : List Str} {i : Nat} {x : V} (h : (ys.map V.str)[i]? = some x) : ∃ n, ys[i]? = some n ∧ x = .str n := by
  rw [List.getElem?_map] at h
  cases en : ys[i]? with
  | none => rw [en] at h; cases h
  | some n => rw [en] at h; cases h; exact ⟨n, rfl, rfl⟩

/-- [h x for x in xs if f x], xs told by us; its parts keep what stands -/
theorem lc_filtM {K : PySem.W.Frag} {α : Type} {a : Addr} {us : List α} {g : TG} {tt : TT} {te : TE} {vs : List Nat} {σ : L2.St} {H1 : Hp} {D : Addr} {Qd : Hp → Prop} (fv fo : α → V) (f : α → Bool) (hl : H1 a = some (.lst (us.map fv))) (hz : us.length ≤ 1000) (hD : H1 D = none)
    (hs : ∀ (u : α) (H' : Hp) (N : VK) (M : Hp → Prop), u ∈ us → Same H1 H' → (f u = true → ∀ H4, Same H' H4 → N (fo u) H4) → (f u = false → ∀ H4, Same H' H4 → M H4) → g (fv u) (wipe σ vs) H' fun σ2 H2 => wipe σ2 vs = wipe σ vs ∧ tt σ2 H2 fun b H3 => if b = true then te σ2 H3 N else M H3)
    (hd : ∀ (H' : Hp), Same H1 H' → H' D = some (.lst ((us.filter f).map fo)) → Qd H') :
    ∃ W : Nat → Nat → Hp → Prop, (∃ m, W 0 m (upd H1 D (.lst []))) ∧ ∀ i m H, W i m H →
      ((Itl K a).stop i H ∧ Qd H) ∨ ((Itl K a).go i H ∧ ∃ Nx : Hp → Prop, (∀ H', Nx H' → ∃ m', m' < m ∧ W (i + 1) m' H') ∧ ∀ x H', (Itl K a).yld i H x H' → g x (wipe σ vs) H' fun σ2 H2 => wipe σ2 vs = wipe σ vs ∧ tt σ2 H2 fun b H3 =>
        if b = true then te σ2 H3 fun y H4 => ∃ acc, H4 D = some (.lst acc) ∧ acc.length < sizeLine ∧ Nx (upd H4 D (.lst (acc ++ [y]))) else Nx H3) := by
  refine lc_list (K := K) (a := a) (xs := us.map fv) (fun i H' => Wd (Same H1 H' ∧ H' D = some (.lst (((us.take i).filter f).map fo)))) ⟨Same.new hD, upd_same⟩ (fun i H' _ h => SqL.of (h.ok.1 _ _ hl)) ?_ ?_
  · rintro i x H' hi ⟨s, hDs⟩
    rw [List.getElem?_map] at hi
    obtain ⟨u, hu, rfl⟩ := Option.map_eq_some_iff.mp hi
    have hil := (List.getElem?_eq_some_iff.mp hu).1
    refine hs u H' _ _ (List.mem_of_getElem? hu) s (fun e H4 s4 => ⟨_, s4 _ _ hDs, ?_, Same.at_new hD (s.trans s4), ?_⟩) (fun e H4 s4 => ⟨s.trans s4, ?_⟩)
    · rw [List.length_map]
      have := List.length_filter_le f (us.take i)
      rw [List.length_take] at this
      exact Nat.lt_of_le_of_lt (by omega : _ ≤ 1000) (by decide)
    · rw [upd_same, take_more hu, List.filter_append, List.map_append, List.filter_cons_of_pos e]
      rfl
    · rw [s4 _ _ hDs, take_more hu, List.filter_append, List.map_append, List.filter_cons_of_neg (by rw [e]; decide), List.filter_nil, List.map_nil, List.append_nil]
  · rintro H' ⟨s, hDs⟩
    rw [List.length_map, List.take_length] at hDs
    exact hd H' s hDs

/-! ### Known.equal_names -/
theorem KnIn.same {CK : Addr} {H H' : Hp} {x : Addr} {ps : List (Str × Str)} (h : KnIn CK H x ps) (s : Same H H') : KnIn CK H' x ps := by
  obtain ⟨dx, pq, d, hx, hp, ha⟩ := h
  exact ⟨dx, pq, d, s _ _ hx, hp.keep (KpI.same s), ha.keep (KpI.same s)⟩
theorem merK_new {a : List Str} : ∀ {b : List Str}, b.Nodup → (∀ m ∈ b, m ∉ a) → merK a b = a ++ b := by
  intro b
  induction b generalizing a with
  | nil => exact fun _ _ => (List.append_nil a).symm
  | cons x b ih =>
    intro nd hm
    have hx := hm x List.mem_cons_self
    show merK (addK a x) b = _
    rw [show addK a x = a ++ [x] from if_neg hx, ih (List.nodup_cons.mp nd).2 fun m hb z => ?_, List.append_assoc]
    · rfl
    · rcases List.mem_append.mp z with z | z
      · exact hm m (List.mem_cons_of_mem _ hb) z
      · rw [List.mem_singleton] at z
        exact (List.nodup_cons.mp nd).1 (z ▸ hb)
/-- a list of lists of names -/
def GrsAt (H : Hp) (q : Addr) (gs : List (List Str)) : Prop := ∃ bs : List Addr, H q = some (.lst (bs.map V.ref)) ∧ q ∉ bs ∧ bs.Nodup ∧ All2 (fun b g => H b = some (.lst (g.map V.str))) bs gs
theorem GrsAt.same {H H' : Hp} {q : Addr} {gs : List (List Str)} (h : GrsAt H q gs) (s : Same H H') : GrsAt H' q gs := by
  obtain ⟨bs, h1, h2, h3, h4⟩ := h
  exact ⟨bs, s _ _ h1, h2, h3, h4.mono fun _ _ z => s _ _ z⟩
theorem all2_upd {H : Hp} {q : Addr} {o : HO} {bs : List Addr} {gs : List (List Str)} (h : All2 (fun b g => H b = some (.lst (g.map V.str))) bs gs) (n : ∀ b ∈ bs, b ≠ q) : All2 (fun b g => (upd H q o) b = some (.lst (g.map V.str))) bs gs :=
  ⟨h.1, fun i b g hb hg => (upd_ne (n b (List.mem_of_getElem? hb))).trans (h.2 i b g hb hg)⟩
section
variable {P : Program} {w : World} {K : PySem.W.Frag} {mg : Str → Option Value} {base : Heap} {A : Ad}
def spKEqual (CK : Addr) : Sp := fun vs H Q _ => ∃ (x : Addr) (ps : List (Str × Str)), vs = [.ref x] ∧ KnIn CK H x ps ∧ ps.length ≤ 30 ∧ ∀ ys p H', NmsK ps ys → Same H H' → H p = none → GrsAt H' p (eqGs ps ys ys) → (∀ bs, H' p = some (.lst bs) → ∀ b, V.ref b ∈ bs → H b = none) → Q (.ref p) H'
/-- while the groups are gathered -/
structure EqSt (H H' : Hp) (gs dn p1 : Addr) (ps : List (Str × Str)) (ys : List Str) (i j : Nat) : Prop where
  s : Same H H'
  p : H' p1 = some (.lst (ys.map V.str))
  g : ∃ bs : List Addr, H' gs = some (.lst (bs.map V.ref)) ∧ gs ∉ bs ∧ bs.Nodup ∧ (∀ b ∈ bs, H b = none) ∧ All2 (fun b g => H' b = some (.lst (g.map V.str))) bs (eqGs ps ys (ys.take i))
  d : ∃ dl : List Str, H' dn = some (.dK (setKs dl)) ∧ dl.Nodup ∧ (∀ m ∈ dl, m ∈ ys) ∧ ∀ m, m ∈ dl ↔ ∃ k ∈ ys.take j, m ∈ grpP ps ys k
theorem EqSt.same {H H1 H2 : Hp} {gs dn p1 : Addr} {ps : List (Str × Str)} {ys : List Str} {i j : Nat} (h : EqSt H H1 gs dn p1 ps ys i j) (s : Same H1 H2) : EqSt H H2 gs dn p1 ps ys i j := by
  obtain ⟨h1, h2, ⟨bs, h3, h4, h5, h6, h7⟩, dl, h8, h9, h10⟩ := h
  exact ⟨h1.trans s, s _ _ h2, ⟨bs, s _ _ h3, h4, h5, h6, h7.mono fun _ _ z => s _ _ z⟩, dl, s _ _ h8, h9, h10⟩
theorem ok_m_Known_equal_names (T : Txt K mg A) : FnOk P w K mg base CX0 2 A.m_Known_equal_names A.fd_m_Known_equal_names P_m_Known_equal_names (spKEqual A.Known) := by
  refine T.F_m_Known_equal_names.ok sc_m_Known_equal_names (fun vs H Q E h => ?_) (fun cdv Ar outer s H vs Q E hr h => ?_)
  · obtain ⟨x, ps, rfl, _⟩ := h
    rfl
  · obtain ⟨x, ps, rfl, kn, hl, k⟩ := h
    refine ⟨_, (pss_cons (ps_set (i := 1) sc_m_Known_equal_names.nd rfl (Or.inl rfl) (pe_lst pa_nil))
      (pss_cons (ps_set (i := 2) sc_m_Known_equal_names.nd rfl (Or.inl rfl) pe_dnewK)
      (pss_cons (ps_g (ps_for PassesOwn.never rfl (pi_list (pe_meth0 (pv 0) T.cl_Known T.m_Known_names (ok_m_Known_names T) (hr.mono (by decide)) T.b_m_Known_names .nil pass0)) (pg_name (i := 3) sc_m_Known_equal_names.nd rfl (Or.inr rfl)) (pss_cons (ps_g (ps_setLcV (i := 4) (own := [("other", 5)]) rfl sc_m_Known_equal_names.nd rfl rfl (sw_true rfl rfl rfl (by decide +kernel)) (pi_list (pe_meth0 (pv 0) T.cl_Known T.m_Known_names (ok_m_Known_names T) (hr.mono (by decide)) T.b_m_Known_names .nil pass0)) (blkOk_by (own := [("other", 5)]) (N := N_m_Known_equal_names) (sc := defScope s_m_Known_equal_names) (by decide +kernel)) (fun _ _ _ _ _ => (pg_name (i := 5) sc_m_Known_equal_names.nd rfl (Or.inl rfl))) (fun _ _ _ _ _ => (pts_one (PW.pt (pw_and (pt_val (pe_meth (pv 0) T.cl_Known T.m_Known_told (ok_m_Known_told T) (hr.mono (by decide)) T.b_m_Known_told .nil pass0 (pa_cons (pv 3) (pa_cons (pv 5) pa_nil)))) (pw_and1 (pt_val (pe_meth (pv 0) T.cl_Known T.m_Known_told (ok_m_Known_told T) (hr.mono (by decide)) T.b_m_Known_told .nil pass0 (pa_cons (pv 5) (pa_cons (pv 3) pa_nil))))))))) (fun _ _ _ _ _ => (pv 5)) (fun _ _ _ _ _ => rfl) (fun _ _ _ _ _ => rfl) (fun _ _ _ _ _ => rfl)))
      (pss_g (Evl.pss_cut (ps_if (PW.pt (pw_and (pt_cmp (pc_dnotin (hu_of hr) (pv 3) (pv 2))) (pw_and1 (pt_cmpR op_gt (pe_callB call_len_seq (by rfl) T.z_len (by decide +kernel) (pa_cons (pv 4) pa_nil)) pe_int (nomark _))))) (pss_one (ps_expr (pe_bm PySem.F.plainAttrs_list PySem.F.slot_list_append PySem.F.type_list_append mt_append (pv 1) (pa_cons (pv 4) pa_nil)))) pss_nil)
      (pss_one (ps_expr (pe_dupd (pv 2) (pe_g (pe_dcV (own := [("other", 5)]) rfl sc_m_Known_equal_names.nd (pi_list (pv 4)) (blkOk_by (own := [("other", 5)]) (N := N_m_Known_equal_names) (sc := defScope s_m_Known_equal_names) (by decide +kernel)) (fun _ _ _ _ _ => (pg_name (i := 5) sc_m_Known_equal_names.nd rfl (Or.inl rfl))) (fun _ _ _ _ _ => pts_nil) (fun _ _ _ _ _ => (pv 5)) (fun _ _ _ _ _ => pe_bl) (fun _ _ _ _ _ => rfl) (fun _ _ _ _ _ => rfl) (fun _ _ _ _ _ => rfl) (fun _ _ _ _ _ => rfl))) ⟨rfl, rfl, rfl, rfl⟩))))))))
      (pss_one (ps_ret (pv 1)))))), ?_⟩
    refine ⟨Nat.zero_le _, fun gs hgs dn hdn => ?_⟩
    have ngd : gs ≠ dn := fun z => by rw [z, upd_same] at hdn; cases hdn
    have hdn0 : H dn = none := by rw [upd_ne ngd.symm] at hdn; exact hdn
    have s0 : Same H (upd (upd H gs (.lst [])) dn (.dK [])) := (Same.new hgs).trans (Same.new hdn)
    have hg0 : (upd (upd H gs (.lst [])) dn (.dK [])) gs = some (.lst []) := by rw [upd_ne ngd, upd_same]
    have hd0 : (upd (upd H gs (.lst [])) dn (.dK [])) dn = some (.dK []) := upd_same
    generalize upd (upd H gs (.lst [])) dn (.dK []) = H0 at *
    have kn0 := kn.same s0
    obtain ⟨dx, pq, d, hx0, _⟩ := id kn0
    refine ⟨⟨_, rfl, x, dx, _, rfl, hx0, rfl, x, ps, rfl, kn0, hl, fun ys p1 nk hp1 => ?_⟩⟩
    have s1 := Same.new (o := .lst (ys.map V.str)) hp1
    have hp1' : (upd H0 p1 (.lst (ys.map V.str))) p1 = some (.lst (ys.map V.str)) := upd_same
    have ylen := nk.len
    have npg := (ne_of_none hg0 hp1).symm
    have npd := (ne_of_none hd0 hp1).symm
    have st1 : EqSt H (upd H0 p1 (.lst (ys.map V.str))) gs dn p1 ps ys 0 0 := ⟨s0.trans s1, hp1', ⟨[], s1 _ _ hg0, by simp, .nil, (fun b hb => by cases hb), .nil⟩, [], s1 _ _ hd0, .nil, (fun m hm => by cases hm), fun m => ⟨(fun z => by cases z), (fun z => by obtain ⟨_, z, _⟩ := z; cases z)⟩⟩
    clear kn0 hx0 s0
    generalize upd H0 p1 (.lst (ys.map V.str)) = H1 at *
    refine ⟨p1, rfl, ⟨_, SqL.of hp1'⟩, for_list (xs := ys.map V.str) (fun i σ' H' => Wd (∃ (o3 o4 : Option V), σ' = [some (.ref x), some (.ref gs), some (.ref dn), o3, o4, none] ∧ EqSt H H' gs dn p1 ps ys i i)) ⟨none, none, rfl, st1⟩ ?_ ?_ ?_⟩
    · rintro i σ' H' _ ⟨o3, o4, rfl, st⟩
      exact SqL.of st.p
    · rintro i y σ' H2 hi ⟨o3, o4, rfl, st⟩
      obtain ⟨n, hn, rfl⟩ := names_at hi
      have kn2 := kn.same st.s
      obtain ⟨dx2, pq2, d2, hx2, _⟩ := id kn2
      have hny := List.mem_of_getElem? hn
      refine ⟨⟨_, rfl, x, dx2, _, rfl, hx2, rfl, x, ps, rfl, kn2, hl, fun ys2 p2 nk2 hp2 => ?_⟩⟩
      obtain rfl := nk2.uniq nk
      have st3 := st.same (Same.new (o := .lst (ys2.map V.str)) hp2)
      have hp3 : (upd H2 p2 (.lst (ys2.map V.str))) p2 = some (.lst (ys2.map V.str)) := upd_same
      clear kn2 hx2 st nk2
      generalize upd H2 p2 (.lst (ys2.map V.str)) = H3 at *
      refine ⟨p2, rfl, ⟨_, SqL.of hp3⟩, fun D hD => lc_filtM (K := K) V.str V.str (eqB ps n) hp3 (by omega) hD ?_ ?_⟩
      · intro m H' N M hm s' hyes hno
        have kn' := kn.same (st3.s.trans s')
        obtain ⟨dx', pq', d', hx', _⟩ := id kn'
        refine ⟨rfl, _, rfl, x, dx', _, rfl, hx', rfl, _, rfl, _, rfl, x, ps, n, m, rfl, kn', fun H4 s4 => ⟨_, rfl, if_bl (fun e1 => ?_) (fun e1 => ?_)⟩⟩
        · have kn4 := kn'.same s4
          refine ⟨_, rfl, x, dx', _, rfl, s4 _ _ hx', rfl, _, rfl, _, rfl, x, ps, m, n, rfl, kn4, fun H5 s5 => ⟨_, rfl, if_bl (fun e2 => ?_) (fun e2 => ?_)⟩⟩
          · exact ⟨_, rfl, hyes (by unfold eqB; rw [e1, e2]; rfl) _ (s4.trans s5)⟩
          · exact hno (by unfold eqB; rw [e1, e2]; rfl) _ (s4.trans s5)
        · refine iteF ?_
          exact hno (by unfold eqB; rw [e1]; rfl) _ s4
      · intro H5 s5 hD5
        have gnd : (ys2.filter (eqB ps n)).Nodup := nk.s.nd.sublist List.filter_sublist
        have glen : (ys2.filter (eqB ps n)).length ≤ 60 := Nat.le_trans (List.length_filter_le _ _) (by omega)
        refine ⟨⟨fun σ' H' => Wd (σ' = [some (.ref x), some (.ref gs), some (.ref dn), some (.str n), some (.ref D), none] ∧ EqSt H H' gs dn p1 ps ys2 (i + 1) i ∧ H' D = some (.lst ((ys2.filter (eqB ps n)).map V.str))), ?_, ?_⟩⟩
        · obtain ⟨h1, h2, ⟨bs, h3, h4, h5, h6, h7⟩, dl, h8, h9, h10, h11⟩ := st3
          have nbD : ∀ b ∈ bs, b ≠ D := fun b hb => by
            obtain ⟨j, hj⟩ := List.mem_iff_getElem?.mp hb
            obtain ⟨z, _, hz⟩ := h7.get hj
            exact ne_of_none hz hD
          have ngD := ne_of_none h3 hD
          have hD0 : H D = none := Same.none h1 hD
          have h1 := h1.trans s5
          have h2 := s5 _ _ h2
          have h3 := s5 _ _ h3
          have h7 := h7.mono fun _ _ z => s5 _ _ z
          have h8 := s5 _ _ h8
          have hf := goo_first nk.s.nd hn h11
          have blen : bs.length ≤ 60 := by
            rw [h7.1]
            unfold eqGs
            rw [List.length_map]
            refine Nat.le_trans (List.length_filter_le _ _) ?_
            rw [List.length_take]
            omega
          have keep : gooP ps ys2 n = false → EqSt H H5 gs dn p1 ps ys2 (i + 1) i := fun z => ⟨h1, h2, ⟨bs, h3, h4, h5, h6, by rw [eqGs_more hn, z]; simpa using h7⟩, dl, h8, h9, h10, h11⟩
          refine ⟨_, rfl, _, rfl, dn, _, rfl, DGet.k (k := .inr n) h8, ?_⟩
          rw [valV_set]
          by_cases hin : n ∈ dl
          · rw [if_pos hin]
            refine ⟨_, rfl, iteF (iteF ⟨rfl, keep ?_, hD5⟩)⟩
            unfold gooP
            rw [decide_eq_false (show ¬ (grpP ps ys2 n)[0]? = some n from fun z => hf.mp z hin), Bool.and_false]
          · rw [if_neg hin]
            refine ⟨_, rfl, iteT ?_⟩
            walk_at "go"
            refine if_dec (fun e => ?_) (fun e => ?_)
            · have good : gooP ps ys2 n = true := by
                unfold gooP
                rw [decide_eq_true (hf.mpr hin), Bool.and_true]
                rw [List.length_map] at e
                exact decide_eq_true (by show 1 < (ys2.filter (eqB ps n)).length; omega)
              refine ⟨_, rfl, .inl ⟨rfl, _, SqL.of h3⟩, _, rfl, gs, _, _, rfl, rfl, h3, ?_, ?_⟩
              · rw [List.length_map]
                exact Nat.lt_of_le_of_lt blen (by decide)
              · refine ⟨rfl, ⟨Same.at_new hgs h1, ?_, ⟨bs ++ [D], ?_, ?_, ?_, ?_, ?_⟩, dl, ?_, h9, h10, h11⟩, ?_⟩
                · rw [upd_ne npg]
                  exact h2
                · rw [upd_same, List.map_append]
                  rfl
                · exact fun z => (List.mem_append.mp z).elim h4 fun z => ngD (List.mem_singleton.mp z)
                · refine List.nodup_append.mpr ⟨h5, by simp, fun a ha b hb => ?_⟩
                  rw [List.mem_singleton] at hb
                  rw [hb]
                  exact nbD a ha
                · intro b hb
                  rcases List.mem_append.mp hb with hb | hb
                  · exact h6 b hb
                  · rw [List.mem_singleton] at hb
                    rw [hb]
                    exact hD0
                · rw [eqGs_more hn, if_pos good]
                  have nb : ∀ b ∈ bs, b ≠ gs := fun b hb z => h4 (z ▸ hb)
                  refine All2.app (all2_upd h7 nb) (.one ?_)
                  rw [upd_ne ngD.symm]
                  exact hD5
                · rw [upd_ne ngd.symm]
                  exact h8
                · rw [upd_ne ngD.symm]
                  exact hD5
            · refine ⟨rfl, keep ?_, hD5⟩
              unfold gooP
              rw [List.length_map] at e
              rw [decide_eq_false (show ¬ 1 < (grpP ps ys2 n).length from fun z => e (by show (1 : Int) < _; unfold grpP at z; omega)), Bool.false_and]
        · rintro σ' H6 ⟨rfl, st6, hD6⟩
          have h8 := st6.d
          obtain ⟨dl, h8, h9, h10, h11⟩ := h8
          refine ⟨_, rfl, dn, rfl, .inl ⟨_, .inl h8⟩, ⟨_, rfl, D, rfl, ⟨_, SqL.of hD6⟩, fun e he => dc_it (walk_list (K := K) (a := D) (xs := (ys2.filter (eqB ps n)).map V.str)) (fun j H' => Wd (Same H6 H' ∧ H' e = some (.dK (setKs (merK [] ((ys2.filter (eqB ps n)).take j)))))) ⟨Same.new he, upd_same⟩ (fun j H' _ h => SqL.of (h.ok.1 _ _ hD6)) ?_ ?_⟩⟩
          · rintro j y H7 H8 hj ⟨s7, he7⟩ ⟨rfl, hy⟩
            obtain ⟨m, hm, rfl⟩ := names_at hy
            have ln : (merK [] ((ys2.filter (eqB ps n)).take j)).length ≤ 60 := Nat.le_trans ((merK_nodup .nil).length_le_of_subset (l₂ := ys2.filter (eqB ps n)) fun q hq => (mem_merK.mp hq).elim (fun z => nomatch z) fun z => List.mem_of_mem_take z) glen
            refine ⟨rfl, _, rfl, _, .inr m, rfl, he7, ?_, Same.at_new he s7, ?_⟩
            · unfold setKs
              rw [List.length_map]
              exact Nat.lt_of_le_of_lt ln (by decide)
            · rw [upd_same, putK_set, take_more hm]
              unfold merK
              rw [List.foldl_append]
              rfl
          · rintro H7 ⟨s7, he7⟩
            rw [List.length_map, List.take_length] at he7
            have st7 := st6.same s7
            have ned : dn ≠ e := ne_of_none h8 he
            have h8 := s7 _ _ h8
            refine ⟨e, _, _, rfl, h8, he7, ?_, fun _ => ⟨_, _, rfl, ?_⟩, fun z => (ned z).elim⟩
            · unfold setKs
              rw [List.length_map, List.length_map]
              have l1 := h9.length_le_of_subset (l₂ := ys2) h10
              have l2 := (merK_nodup (a := []) (b := ys2.filter (eqB ps n)) .nil).length_le_of_subset (l₂ := ys2.filter (eqB ps n)) fun q hq => (mem_merK.mp hq).elim (fun z => nomatch z) id
              exact Nat.le_trans (by omega : _ ≤ 120) (by decide)
            · rw [mergeK_set]
              obtain ⟨h1, h2, ⟨bs, h3, h4, h5, h6, h7⟩, _⟩ := st7
              refine ⟨Same.at_new hdn0 h1, ?_, ⟨bs, ?_, h4, h5, h6, all2_upd h7 fun b hb z => ?_⟩, _, upd_same, merK_nodup h9, fun m hm => ?_, fun m => ?_⟩
              · rw [upd_ne npd]
                exact h2
              · rw [upd_ne ngd]
                exact h3
              · obtain ⟨j, hj⟩ := List.mem_iff_getElem?.mp hb
                obtain ⟨g0, _, hz⟩ := h7.get hj
                exact ne_of hz h8 (by intro z; cases z) z
              · rcases mem_merK.mp hm with hm | hm
                · exact h10 m hm
                · exact (List.mem_filter.mp ((mem_merK.mp hm).elim (fun z => nomatch z) id)).1
              · rw [mem_merK, h11, mem_merK, take_more hn]
                constructor
                · rintro (⟨q, hq, z⟩ | z)
                  · exact ⟨q, List.mem_append_left _ hq, z⟩
                  · exact ⟨n, List.mem_append_right _ (List.mem_singleton.mpr rfl), z.elim (fun z => nomatch z) id⟩
                · rintro ⟨q, hq, z⟩
                  rcases List.mem_append.mp hq with hq | hq
                  · exact .inl ⟨q, hq, z⟩
                  · rw [List.mem_singleton] at hq
                    subst hq
                    exact .inr (.inr z)
    · rintro σ' H2 ⟨o3, o4, rfl, st⟩
      rw [List.length_map] at st
      obtain ⟨bs, h3, h4, h5, h6, h7⟩ := st.g
      rw [List.take_length] at h7
      refine ⟨_, rfl, k ys gs H2 nk st.s hgs ⟨bs, h3, h4, h5, h7⟩ fun bs2 e b hb => ?_⟩
      rw [h3] at e
      cases e
      obtain ⟨c, hc, e⟩ := List.mem_map.mp hb
      cases e
      exact h6 _ hc
end

theorem cutV_take {xs : List V} {k : Nat} (h : k ≤ xs.length) : cutV xs none (some (k : Int)) = xs.take k := by
  unfold cutV
  rw [HT.sIx_nat, HT.sIx_none, List.drop_zero, Nat.min_eq_left h, Nat.sub_zero]
theorem cutV_drop {xs : List V} {k : Nat} (h : k ≤ xs.length) : cutV xs (some (k : Int)) none = xs.drop k := by
  unfold cutV
  rw [HT.sIx_nat, HT.sIx_none, Nat.min_eq_left h]
  exact List.take_of_length_le (by rw [List.length_drop]; exact Nat.le_refl _)

/-! ### Known.needless -/
section
variable {P : Program} {w : World} {K : PySem.W.Frag} {mg : Str → Option Value} {base : Heap} {A : Ad}
def natV (k : Nat) : V := .int (k : Int)
def spKNeedless (CK : Addr) : Sp := fun vs H Q _ => ∃ (x : Addr) (ps : List (Str × Str)), vs = [.ref x] ∧ KnIn CK H x ps ∧ ps.length ≤ 30 ∧ ∀ p H', Same H H' → H p = none → H' p = some (.lst ((ndlP ps).map natV)) → Q (.ref p) H'
theorem ok_m_Known_needless (T : Txt K mg A) : FnOk P w K mg base CX0 2 A.m_Known_needless A.fd_m_Known_needless P_m_Known_needless (spKNeedless A.Known) := by
  refine T.F_m_Known_needless.ok sc_m_Known_needless (fun vs H Q E h => ?_) (fun cdv Ar outer s H vs Q E hr h => ?_)
  · obtain ⟨x, ps, rfl, _⟩ := h
    rfl
  · obtain ⟨x, ps, rfl, kn, hl, k⟩ := h
    refine ⟨_, (pss_cons (ps_set (i := 1) sc_m_Known_needless.nd rfl (Or.inl rfl) (pe_lst pa_nil))
      (pss_cons (ps_g (ps_for PassesOwn.never rfl (pi_range1 rfl T.z_range (pa_cons (pe_callB call_len_seq (by rfl) T.z_len (by decide +kernel) (pa_cons (pe_fld (pv 0) rfl) pa_nil)) pa_nil)) (pg_name (i := 2) sc_m_Known_needless.nd rfl (Or.inl rfl)) (pss_cons (ps_asg (pe_ix ix_list (pe_fld (pv 0) rfl) (pv 2) (fun _ _ => rfl)) (pg_tup (n := 2) rfl (pgs_cons (pg_name (i := 3) sc_m_Known_needless.nd rfl (Or.inl rfl)) (pgs_cons (pg_name (i := 4) sc_m_Known_needless.nd rfl (Or.inl rfl)) pgs_nil))))
      (pss_cons (ps_set (i := 5) sc_m_Known_needless.nd rfl (Or.inl rfl) (pe_call (ok_f_all_above T) (hr.mono (by decide)) (by rfl) T.g_all_above T.F_f_all_above.kp T.b_f_all_above .nil pass0 (pa_cons (pe_op op_cat (pe_slice sl_list (pe_fld (pv 0) rfl) po_none (po_some (pv 2))) (pe_slice sl_list (pe_fld (pv 0) rfl) (po_some (pe_op op_add (pv 2) pe_int)) po_none)) pa_nil)))
      (pss_one (ps_if (PW.pt (pw_or (pt_cmpR op_eq (pv 3) (pv 4) (nomark _)) (pw_or1 (pt_cmp (pc_din (hu_of hr) (pv 4) (pe_dget2 (hu_of hr) (pv 5) (pv 3) pe_dnewK ⟨rfl, rfl, rfl, rfl⟩)))))) (pss_one (ps_expr (pe_bm PySem.F.plainAttrs_list PySem.F.slot_list_append PySem.F.type_list_append mt_append (pv 1) (pa_cons (pv 2) pa_nil)))) pss_nil))))))
      (pss_one (ps_ret (pv 1))))), ?_⟩
    refine ⟨Nat.zero_le _, fun nm hnm => ?_⟩
    have s0 := Same.new (o := .lst []) hnm
    have hn0 : (upd H nm (.lst [])) nm = some (.lst []) := upd_same
    generalize upd H nm (.lst []) = H0 at *
    have kn0 := kn.same s0
    obtain ⟨dx, pq, d, hx, ⟨ts, hq, ht⟩, ha⟩ := id kn
    refine ⟨⟨_, rfl, x, A.Known, dx, _, _, rfl, s0 _ _ hx, T.cl_Known, T.n_Known_pairs, rfl, pq, _, rfl, .inl (SqL.of (s0 _ _ hq)), _, rfl, ?_, ?_, for_range (lo := 0) (n := (ts.map V.ref).length) (fun i σ' H' => Wd (∃ (o2 o3 o4 o5 : Option V), σ' = [some (.ref x), some (.ref nm), o2, o3, o4, o5] ∧ Same H H' ∧ H' nm = some (.lst (((List.range i).filter (ndlB ps)).map natV)))) ⟨none, none, none, none, rfl, s0, hn0⟩ ?_ ?_⟩⟩
    · rw [List.length_map, ht.1]; omega
    · rw [List.length_map, ht.1]; omega
    · rintro i σ' H1 hi ⟨o2, o3, o4, o5, rfl, s1, hn1⟩
      rw [List.length_map, ht.1] at hi
      rw [Int.zero_add]
      obtain ⟨t, hti⟩ : ∃ t, ts[i]? = some t := ⟨_, List.getElem?_eq_getElem (by rw [ht.1]; exact hi)⟩
      obtain ⟨p, hpi⟩ : ∃ p, ps[i]? = some p := ⟨_, List.getElem?_eq_getElem hi⟩
      have htp := ht.2 i t p hti hpi
      have hq1 := s1 _ _ hq
      have hx1 := s1 _ _ hx
      have htv : (ts.map V.ref)[i]? = some (.ref t) := by rw [List.getElem?_map, hti]; rfl
      refine ⟨_, rfl, x, A.Known, dx, _, _, rfl, hx1, T.cl_Known, T.n_Known_pairs, rfl, _, rfl, pq, _, _, _, rfl, rfl, SqL.of hq1, atI_nat htv, t, _, rfl, SqT.of (s1 _ _ htp), rfl, _, _, rfl, _, _, rfl, rfl, ?_⟩
      refine ⟨_, rfl, x, A.Known, dx, _, _, rfl, hx1, T.cl_Known, T.n_Known_pairs, rfl, _, rfl, _, rfl, pq, _, rfl, SqL.of hq1, fun p1 hp1 => ?_⟩
      have sa := Same.new (o := .lst (cutV (ts.map V.ref) none (some (i : Int)))) hp1
      have ha1 : (upd H1 p1 (.lst (cutV (ts.map V.ref) none (some (i : Int))))) p1 = some (.lst (cutV (ts.map V.ref) none (some (i : Int)))) := upd_same
      generalize upd H1 p1 (.lst (cutV (ts.map V.ref) none (some (i : Int)))) = H2 at *
      refine ⟨_, rfl, x, A.Known, dx, _, _, rfl, sa _ _ hx1, T.cl_Known, T.n_Known_pairs, rfl, _, rfl, _, _, rfl, rfl, _, rfl, pq, _, rfl, SqL.of (sa _ _ hq1), fun p2 hp2 => ?_⟩
      have sb := Same.new (o := .lst (cutV (ts.map V.ref) (some ((i : Int) + 1)) none)) hp2
      have hb1 : (upd H2 p2 (.lst (cutV (ts.map V.ref) (some ((i : Int) + 1)) none))) p2 = some (.lst (cutV (ts.map V.ref) (some ((i : Int) + 1)) none)) := upd_same
      generalize upd H2 p2 (.lst (cutV (ts.map V.ref) (some ((i : Int) + 1)) none)) = H3 at *
      have ec1 : cutV (ts.map V.ref) none (some (i : Int)) = (ts.take i).map V.ref := by
        rw [cutV_take (by rw [List.length_map, ht.1]; omega), List.map_take]
      have ec2 : cutV (ts.map V.ref) (some ((i : Int) + 1)) none = (ts.drop (i + 1)).map V.ref := by
        rw [show (i : Int) + 1 = ((i + 1 : Nat) : Int) from rfl, cutV_drop (by rw [List.length_map, ht.1]; omega), List.map_drop]
      rw [ec1] at ha1
      rw [ec2] at hb1
      have lts : ts.length ≤ 30 := by rw [ht.1]; exact hl
      refine ⟨p1, p2, _, _, rfl, rfl, sb _ _ ha1, hb1, ?_, fun p3 hp3 => ?_⟩
      · rw [List.length_map, List.length_map, List.length_take, List.length_drop]
        exact Nat.le_trans (by omega : _ ≤ 60) (by decide)
      · rw [← List.map_append]
        have sc := Same.new (o := .lst ((ts.take i ++ ts.drop (i + 1)).map V.ref)) hp3
        have hc1 : (upd H3 p3 (.lst ((ts.take i ++ ts.drop (i + 1)).map V.ref))) p3 = some (.lst ((ts.take i ++ ts.drop (i + 1)).map V.ref)) := upd_same
        have s4 := s1.trans (sa.trans (sb.trans sc))
        have hn4 := sc _ _ (sb _ _ (sa _ _ hn1))
        generalize upd H3 p3 (.lst ((ts.take i ++ ts.drop (i + 1)).map V.ref)) = H4 at *
        clear sa sb sc ha1 hb1 hp1 hp2 hp3 hq1 hx1 s1
        have hpr : PrsAt H4 p3 (restP ps i) := ⟨_, hc1, ((ht.take i).app (ht.drop (i + 1))).mono fun _ _ z => s4 _ _ z⟩
        have rl : (restP ps i).length ≤ 60 := by
          unfold restP
          rw [List.length_append, List.length_take, List.length_drop]
          omega
        refine ⟨p3, restP ps i, rfl, hpr, rl, fun d5 H5 s5 hd5 ab5 => ?_⟩
        have nb := ndl_at hpi
        dsimp only [gName, List.set]
        refine tIf_of (p := Tls (restP ps i) p.1 p.2) (fun R ry rn => ?_) (fun H6 s6 yes => ?_) (fun H6 s6 no => ?_)
        · refine ⟨_, rfl, _, rfl, rfl, _, rfl, if_dec (fun e => ry _ (Same.refl _) (.inl (V.str.inj e))) (fun e => ?_)⟩
          refine ⟨_, rfl, _, rfl, d5, rfl, .inl ⟨_, .inl ab5.choose_spec.1⟩, _, rfl, fun p6 hp6 => ?_⟩
          obtain ⟨o, hg, d2, o2, e2, hg2, hi2⟩ := get_in (a := p.1) (b := p.2) ab5 hp6
          refine ⟨o, hg, d2, o2, e2, hg2, _, rfl, ?_⟩
          cases c : o2.isSome with
          | true => exact ry _ (Same.new hp6) (.inr (hi2.mp c))
          | false =>
            refine rn _ (Same.new hp6) fun z => ?_
            rcases z with z | z
            · exact e (by rw [z])
            · rw [hi2.mpr z] at c
              cases c
        · have s46 := s5.trans s6
          have hb : ndlB ps i = true := nb.trans (tlsB_iff.mpr yes)
          have hn6 := s46 _ _ hn4
          refine ⟨_, rfl, .inl ⟨rfl, _, SqL.of hn6⟩, _, rfl, nm, _, _, rfl, rfl, hn6, ?_, _, _, _, _, rfl, Same.at_new hnm (s4.trans s46), ?_⟩
          · rw [List.length_map]
            have := List.length_filter_le (ndlB ps) (List.range i)
            rw [List.length_range] at this
            exact Nat.lt_of_le_of_lt (by omega : _ ≤ 60) (by decide)
          · rw [upd_same, List.range_succ, List.filter_append, List.map_append, List.filter_cons_of_pos hb]
            rfl
        · have hb : ndlB ps i = false := by
            rw [nb]
            cases e : tlsB (restP ps i) p.1 p.2 with
            | false => rfl
            | true => exact (no (tlsB_iff.mp e)).elim
          refine ⟨_, _, _, _, rfl, s4.trans (s5.trans s6), ?_⟩
          rw [(s5.trans s6) _ _ hn4, List.range_succ, List.filter_append, List.filter_cons_of_neg (by rw [hb]; decide), List.filter_nil, List.append_nil]
    · rintro σ' H1 ⟨o2, o3, o4, o5, rfl, s1, hn1⟩
      rw [List.length_map, ht.1] at hn1
      exact ⟨_, rfl, k nm H1 s1 hnm hn1⟩
end

/-! ### names that the law draws -/
section
open PySem.Spec PyProof.Rows
variable {X : Cx}
/-- a text times 0 or 1 -/
theorem op_mul01 : OpR X (binaryOp .Mult) (fun x y H Q => ∃ (z : Str) (n : Int), x = .str z ∧ y = .int n ∧ (n = 0 ∨ n = 1) ∧ Q (.str (if n = 0 then Str.empty else z)) H) := by
  intro pins s σ H x y v u Q I rx ry h
  obtain ⟨z, n, rfl, rfl, hn, q⟩ := h
  obtain ⟨t, rfl⟩ := rx
  obtain ⟨t', rfl⟩ := ry
  rcases hn with rfl | rfl
  · exact PySem.P.mul_str_none (by decide) (by decide) ⟨.str Str.empty, H, I.tok _, ⟨_, rfl⟩, q⟩
  · refine PySem.P.mul_str (by decide) (fun _ h => absurd h (by simp)) (fun _ h => absurd h (by simp)) ?_
    show (Made.val (.str z t)).post _ s
    exact ⟨.str z, H, I, ⟨_, rfl⟩, q⟩
end
/-- a name: a few small letters -/
def NmOk (n : List Nat) : Prop := 1 ≤ n.length ∧ n.length ≤ 12 ∧ ∀ c ∈ n, 97 ≤ c ∧ c < 123
def vS (l : List Nat) : V := .str (SX.S l)
/-- the k-th name -/
def nmAt (st : List Nat) (wh : Nat) (sh lo : Int) (k : Nat) : List Nat := st.take wh ++ [97 + ((sh + 7 * (k : Int)) % 26).toNat] ++ st.drop wh ++ (if (k : Int) % 3 = lo then [97 + sh.toNat] else [])
theorem nm_len {st : List Nat} {wh : Nat} {sh lo : Int} {k : Nat} : (nmAt st wh sh lo k).length = st.length + 1 + (if (k : Int) % 3 = lo then 1 else 0) := by
  unfold nmAt
  rw [List.length_append, List.length_append, List.length_append, List.length_take, List.length_drop, List.length_singleton]
  split
  · rw [List.length_singleton]
    omega
  · rw [List.length_nil]
    omega
theorem nm_at {st : List Nat} {wh : Nat} {sh lo : Int} {k : Nat} (hw : wh ≤ st.length) : (nmAt st wh sh lo k)[wh]? = some (97 + ((sh + 7 * (k : Int)) % 26).toNat) := by
  have h1 : (st.take wh).length = wh := by
    rw [List.length_take]
    omega
  unfold nmAt
  rw [List.append_assoc, List.append_assoc, List.getElem?_append_right (by omega), h1, Nat.sub_self]
  rfl
theorem nm_inj {st : List Nat} {wh : Nat} {sh lo : Int} {k j : Nat} (hw : wh ≤ st.length) (hk : k < 26) (hj : j < 26) (e : nmAt st wh sh lo k = nmAt st wh sh lo j) : k = j := by
  have h := nm_at (sh := sh) (lo := lo) (k := k) hw
  rw [e, nm_at hw] at h
  have h := Option.some.inj h
  omega
theorem nm_ok {st : List Nat} {wh : Nat} {sh lo : Int} {k : Nat} (hs : st.length ≤ 10) (hc : ∀ c ∈ st, 97 ≤ c ∧ c < 123) (h0 : 0 ≤ sh) (h1 : sh < 26) : NmOk (nmAt st wh sh lo k) := by
  refine ⟨by rw [nm_len]; omega, by rw [nm_len]; split <;> omega, fun c hm => ?_⟩
  unfold nmAt at hm
  simp only [List.mem_append, List.mem_singleton] at hm
  rcases hm with ((hm | hm) | hm) | hm
  · exact hc c (List.mem_of_mem_take hm)
  · omega
  · exact hc c (List.mem_of_mem_drop hm)
  · split at hm
    · rw [List.mem_singleton] at hm
      omega
    · cases hm
def lettersZ : Str := "abcdefghijklmnopqrstuvwxyz"
theorem letter_at {c : Int} (h0 : 0 ≤ c) (h1 : c < 26) : atI lettersZ.cps.toList c = some (97 + c.toNat) := by
  have : ∀ n : Fin 26, atI lettersZ.cps.toList ((n.val : Nat) : Int) = some (97 + n.val) := by decide +kernel
  have h := this ⟨c.toNat, by omega⟩
  rw [show ((c.toNat : Nat) : Int) = c by omega] at h
  exact h
def spNames : Sp := fun vs H Q _ => ∃ (g l q : Addr) (cnt : Int) (ws : List (List Nat)), vs = [.ref g, .int cnt, .ref q] ∧ Bag H g l ∧ q ≠ g ∧ 1 ≤ cnt ∧ cnt ≤ 26 ∧ H q = some (.lst (ws.map vS)) ∧ 1 ≤ ws.length ∧ ws.length ≤ 1000 ∧ (∀ w ∈ ws, w.length ≤ 1000) ∧
  ∀ (p : Addr) (ns : List (List Nat)) (H' : Hp), H p = none → H' p = some (.lst (ns.map vS)) → ns.length = cnt.toNat → ns.Nodup → (∀ n ∈ ns, NmOk n ∨ n ∈ ws) → Bag H' g l → Kp g H H' → Q (.ref p) H'
theorem len_at {c : Int} (h0 : 0 ≤ c) (h5 : c < 5) : ∃ z : Int, atI [V.int 0, .int 1, .int 2, .int 3, .int 10] c = some (.int z) ∧ 0 ≤ z ∧ z ≤ 10 := by
  have : c = 0 ∨ c = 1 ∨ c = 2 ∨ c = 3 ∨ c = 4 := by omega
  rcases this with rfl | rfl | rfl | rfl | rfl
  · exact ⟨0, rfl, by decide, by decide⟩
  · exact ⟨1, rfl, by decide, by decide⟩
  · exact ⟨2, rfl, by decide, by decide⟩
  · exact ⟨3, rfl, by decide, by decide⟩
  · exact ⟨10, rfl, by decide, by decide⟩
theorem kp_none {g p : Addr} {H H' : Hp} (k : Kp g H H') (h : H' p = none) (n : p ≠ g) : H p = none := by
  cases e : H p with
  | none => rfl
  | some o =>
    rw [k _ _ e n] at h
    cases h
theorem joinL_chars : ∀ cs : List Nat, TL.joinL [] (cs.map fun c => [c]) = cs
  | [] => rfl
  | [c] => rfl
  | c :: d :: cs => by
    have ih := joinL_chars (d :: cs)
    show [c] ++ ([] ++ TL.joinL [] ((d :: cs).map fun c => [c])) = _
    rw [ih]
    rfl
theorem join_chars (cs : List Nat) : Txt.join (Str.ofString "") (cs.map fun c => SX.S [c]) = SX.S cs := by
  have h := SX.join_S [] (cs.map fun c => [c])
  rw [List.map_map, joinL_chars] at h
  exact h
theorem cut_to {st : List Nat} {wh : Int} (h0 : 0 ≤ wh) (h1 : wh.toNat ≤ st.length) : cutS (SX.S st) none (some wh) = SX.S (st.take wh.toNat) := by
  have e : HT.sIx (SX.S st).length (SX.S st).length (some wh) = wh.toNat := by
    show (if wh < 0 then _ else min wh.toNat _) = _
    rw [if_neg (by omega), SX.S_len]
    omega
  unfold cutS
  rw [HT.sIx_none, e, Nat.sub_zero, List.drop_zero]
theorem cut_from {st : List Nat} {wh : Int} (h0 : 0 ≤ wh) (h1 : wh.toNat ≤ st.length) : cutS (SX.S st) (some wh) none = SX.S (st.drop wh.toNat) := by
  have e : HT.sIx (SX.S st).length 0 (some wh) = wh.toNat := by
    show (if wh < 0 then _ else min wh.toNat _) = _
    rw [if_neg (by omega), SX.S_len]
    omega
  unfold cutS
  rw [HT.sIx_none, e, SX.S_len, List.take_of_length_le (by rw [List.length_drop]; exact Nat.le_refl _)]
theorem nodup_set {α : Type} {l : List α} {j : Nat} {x : α} (h : l.Nodup) (hx : x ∉ l) : (l.set j x).Nodup := by
  unfold List.Nodup at *
  rw [List.pairwise_iff_getElem] at *
  intro a b ha hb hab
  rw [List.length_set] at ha hb
  rw [List.getElem_set, List.getElem_set]
  split
  · rw [if_neg (by omega)]
    exact fun e => hx (e ▸ List.getElem_mem _)
  · split
    · exact fun e => hx (e ▸ List.getElem_mem _)
    · exact h a b ha hb hab
theorem ixN_in {n : Nat} {i : Int} (h0 : 0 ≤ i) (h1 : i < (n : Int)) : ixN n i = some i.toNat := by
  unfold ixN
  rw [if_pos h0, if_pos h1]
theorem mem_set_of {α : Type} {l : List α} {j : Nat} {x y : α} (h : y ∈ l.set j x) : y = x ∨ y ∈ l := by
  rcases List.mem_or_eq_of_mem_set h with h | h
  · exact .inr h
  · exact .inl h
theorem inV_names {ns : List (List Nat)} {x : List Nat} : inV (vS x) (ns.map vS) = decide (x ∈ ns) := by
  unfold inV
  rw [List.any_map, Bool.eq_iff_iff, List.any_eq_true, decide_eq_true_iff]
  constructor
  · rintro ⟨y, hy, e⟩
    have e2 : (SX.S y == SX.S x) = true := e
    rw [SX.S_beq, beq_iff_eq] at e2
    exact e2 ▸ hy
  · intro h
    refine ⟨x, h, ?_⟩
    show (SX.S x == SX.S x) = true
    rw [SX.S_beq, beq_iff_eq]
theorem flat_names (ns : List (List Nat)) : (ns.map vS).all flatV = true := by
  rw [List.all_map, List.all_eq_true]
  intro x _
  rfl
/-- what the names are, once they stand -/
def NmsOk (ns ws : List (List Nat)) (cnt : Int) : Prop := ns.length = cnt.toNat ∧ ns.Nodup ∧ ∀ n ∈ ns, NmOk n ∨ n ∈ ws
theorem nms_set {ns ws : List (List Nat)} {cnt : Int} {j : Nat} {x : List Nat} (h : NmsOk ns ws cnt) (hx : x ∉ ns) (ok : NmOk x ∨ x ∈ ws) : NmsOk (ns.set j x) ws cnt :=
  ⟨by rw [List.length_set]; exact h.1, nodup_set h.2.1 hx, fun n hn => by
    rcases mem_set_of hn with rfl | hn
    · exact ok
    · exact h.2.2 n hn⟩
theorem nms_range {st : List Nat} {wh : Nat} {sh lo cnt : Int} {ws : List (List Nat)} (hw : wh ≤ st.length) (hs : st.length ≤ 10) (hc : ∀ c ∈ st, 97 ≤ c ∧ c < 123) (h0 : 0 ≤ sh) (h1 : sh < 26) (hcn : cnt ≤ 26) :
    NmsOk ((List.range cnt.toNat).map fun k => nmAt st wh sh lo k) ws cnt := by
  refine ⟨by rw [List.length_map, List.length_range], ?_, fun n hn => ?_⟩
  · unfold List.Nodup
    rw [List.pairwise_map]
    refine List.Pairwise.imp_of_mem ?_ List.nodup_range
    intro a b ha hb hab e
    rw [List.mem_range] at ha hb
    exact hab (nm_inj hw (by omega) (by omega) e)
  · obtain ⟨k, _, rfl⟩ := List.mem_map.mp hn
    exact .inl (nm_ok hs hc h0 h1)
section
variable {P : Program} {w : World} {K : PySem.W.Frag} {mg : Str → Option Value} {base : Heap} {A : Ad}
theorem ok_l_names (T : Txt K mg A) : FnOk P w K mg base CX0 2 A.l_names A.fd_l_names P_l_names spNames := by
  refine T.F_l_names.ok sc_l_names (fun vs H Q E h => ?_) (fun cdv Ar outer s H vs Q E hr h => ?_)
  · obtain ⟨g, l, q, cnt, ws, rfl, _⟩ := h
    rfl
  · obtain ⟨g, l, q, cnt, ws, rfl, hB, nqg, hc1, hc26, hq, hw1, hw2, hw3, k⟩ := h
    refine ⟨_, (pss_cons (ps_set (i := 3) sc_l_names.nd rfl (Or.inr rfl) pe_str)
      (pss_cons (ps_set (i := 4) sc_l_names.nd rfl (Or.inl rfl) (pe_ix ix_list (pe_lst (pa_cons pe_int (pa_cons pe_int (pa_cons pe_int (pa_cons pe_int (pa_cons pe_int pa_nil)))))) (pe_call (ok_l_draw T) (hr.mono (by decide)) (by rfl) T.g__law_draw T.F_l_draw.kp T.b_l_draw .nil pass0 (pa_cons (pv 0) (pa_cons pe_int pa_nil))) (fun _ _ => rfl)))
      (pss_cons (ps_set (i := 5) sc_l_names.nd rfl (Or.inl rfl) (pe_join pe_str (pe_g (pe_lcV (own := [("_law_k", 10)]) rfl sc_l_names.nd (pi_range1 rfl T.z_range (pa_cons (pv 4) pa_nil)) (blkOk_by (own := [("_law_k", 10)]) (N := N_l_names) (sc := defScope s_l_names) (by decide +kernel)) (fun _ _ _ _ _ => (pg_name (i := 10) sc_l_names.nd rfl (Or.inl rfl))) (fun _ _ _ _ _ => pts_nil) (fun _ _ _ _ _ => (pe_ix ix_str (pv 3) (pe_call (ok_l_draw T) (hr.mono (by decide)) (by rfl) T.g__law_draw T.F_l_draw.kp T.b_l_draw .nil pass0 (pa_cons (pv 0) (pa_cons pe_int pa_nil))) (fun _ _ => rfl))) (fun _ _ _ _ _ => rfl) (fun _ _ _ _ _ => rfl) (fun _ _ _ _ _ => rfl)))))
      (pss_cons (ps_set (i := 6) sc_l_names.nd rfl (Or.inl rfl) (pe_call (ok_l_draw T) (hr.mono (by decide)) (by rfl) T.g__law_draw T.F_l_draw.kp T.b_l_draw .nil pass0 (pa_cons (pv 0) (pa_cons (pe_op op_add (pv 4) pe_int) pa_nil))))
      (pss_cons (ps_set (i := 7) sc_l_names.nd rfl (Or.inl rfl) (pe_call (ok_l_draw T) (hr.mono (by decide)) (by rfl) T.g__law_draw T.F_l_draw.kp T.b_l_draw .nil pass0 (pa_cons (pv 0) (pa_cons pe_int pa_nil))))
      (pss_cons (ps_set (i := 8) sc_l_names.nd rfl (Or.inl rfl) (pe_call (ok_l_draw T) (hr.mono (by decide)) (by rfl) T.g__law_draw T.F_l_draw.kp T.b_l_draw .nil pass0 (pa_cons (pv 0) (pa_cons pe_int pa_nil))))
      (pss_cons (ps_set (i := 9) sc_l_names.nd rfl (Or.inl rfl) (pe_lst pa_nil))
      (pss_cons (ps_g (ps_for PassesOwn.never rfl (pi_range1 rfl T.z_range (pa_cons (pv 1) pa_nil)) (pg_name (i := 10) sc_l_names.nd rfl (Or.inl rfl)) (pss_cons (ps_set (i := 11) sc_l_names.nd rfl (Or.inl rfl) (pe_op op_add_str (pe_op op_add_str (pe_slice sl_str (pv 5) po_none (po_some (pv 6))) (pe_ix ix_str (pv 3) (pe_op op_mod (pe_callTy call_int1 (by rfl) T.z_int (by decide +kernel) (pa_cons (pe_op op_add (pv 7) (pe_op op_mul pe_int (pv 10))) pa_nil)) pe_int) (fun _ _ => rfl))) (pe_slice sl_str (pv 5) (po_some (pv 6)) po_none)))
      (pss_one (ps_expr (pe_bm PySem.F.plainAttrs_list PySem.F.slot_list_append PySem.F.type_list_append mt_append (pv 9) (pa_cons (pe_op op_add_str (pv 11) (pe_op op_mul01 (pe_ix ix_str (pv 3) (pv 7) (fun _ _ => rfl)) (pe_callTy call_int1 (by rfl) T.z_int (by decide +kernel) (pa_cons (pe_cmpR op_eq (pe_op op_mod (pe_callTy call_int1 (by rfl) T.z_int (by decide +kernel) (pa_cons (pv 10) pa_nil)) pe_int) (pv 8) (nomark _)) pa_nil)))) pa_nil)))))))
      (pss_g (Evl.pss_cut (ps_if (PW.pt (pw_and (pt_cmpR op_gt (pv 1) pe_int (nomark _)) (pw_and (pt_cmpR op_lt (pv 4) pe_int (nomark _)) (pw_and1 (pt_cmpR op_eq (pv 8) pe_int (nomark _)))))) (pss_one (ps_asg (pe_op op_add_str (pe_ix ix_list (pv 9) pe_int (fun _ _ => rfl)) (pe_ix ix_str (pv 3) (pe_call (ok_l_draw T) (hr.mono (by decide)) (by rfl) T.g__law_draw T.F_l_draw.kp T.b_l_draw .nil pass0 (pa_cons (pv 0) (pa_cons pe_int pa_nil))) (fun _ _ => rfl))) (pg_sub (pv 9) pe_int set_list))) pss_nil)
      (pss_cons (ps_set (i := 12) sc_l_names.nd rfl (Or.inl rfl) (pe_call (ok_l_draw T) (hr.mono (by decide)) (by rfl) T.g__law_draw T.F_l_draw.kp T.b_l_draw .nil pass0 (pa_cons (pv 0) (pa_cons (pe_op op_mul pe_int (pv 1)) pa_nil))))
      (pss_cons (ps_set (i := 13) sc_l_names.nd rfl (Or.inl rfl) (pe_ix ix_list (pv 2) (pe_call (ok_l_draw T) (hr.mono (by decide)) (by rfl) T.g__law_draw T.F_l_draw.kp T.b_l_draw .nil pass0 (pa_cons (pv 0) (pa_cons (pe_callB call_len_seq (by rfl) T.z_len (by decide +kernel) (pa_cons (pv 2) pa_nil)) pa_nil))) (fun _ _ => rfl)))
      (pss_g (Evl.pss_cut (ps_if (PW.pt (pw_and (pt_cmpR op_lt (pv 12) (pv 1) (nomark _)) (pw_and1 (pt_cmpR op_notIn_seq (pv 13) (pv 9) (by rfl))))) (pss_one (ps_asg (pv 13) (pg_sub (pv 9) (pv 12) set_list))) pss_nil)
      (pss_one (ps_ret (pv 9))))))))))))))))), ?_⟩
    walk_at "go"
    intro p1 hp1
    have B1 := hB.new (o := .lst [V.int 0, .int 1, .int 2, .int 3, .int 10]) hp1
    have nq1 := ne_of_none hq hp1
    have hq1 := Same.new (o := .lst [V.int 0, .int 1, .int 2, .int 3, .int 10]) hp1 _ _ hq
    walk_at "go"
    intro c0 H2 c00 c01 B2 K2
    obtain ⟨sz, hsz, hsz0, hsz1⟩ := len_at c00 c01
    have hl2 := K2 _ _ upd_same (hB.ne hp1).1
    have hq2 := K2 _ _ hq1 nqg
    have K02 : Kp g H H2 := (Kp.same (Same.new hp1)).trans K2
    refine ⟨p1, _, _, _, rfl, rfl, SqL.of hl2, hsz, ?_⟩
    refine ⟨⟨_, rfl⟩, ?_⟩
    refine ⟨⟨_, rfl, _, rfl, by omega, by omega, fun D hD => ?_⟩⟩
    have nD := (B2.ne hD).1
    have hD0 : H D = none := kp_none K02 hD nD
    refine lc_range (fun i H' => Wd (∃ cs : List Nat, cs.length = i ∧ (∀ c ∈ cs, 97 ≤ c ∧ c < 123) ∧ H' D = some (.lst (cs.map fun c => vS [c])) ∧ Bag H' g l ∧ Kp g H H')) ⟨[], rfl, fun c h => (by cases h), upd_same, B2.new hD, K02.new hD⟩ ?_ ?_
    · rintro i H3 hi ⟨cs, hcl, hcs, hD3, B3, K3⟩
      refine ⟨rfl, ⟨_, rfl, _, rfl, g, l, _, rfl, B3, by decide, by decide, fun n H4 n0 n1 B4 K4 => ?_⟩⟩
      refine ⟨_, _, _, rfl, rfl, (by decide : lettersZ.length ≤ sizeLine), letter_at n0 n1, _, K4 _ _ hD3 nD, ?_, ?_⟩
      · rw [List.length_map, hcl]
        exact Nat.lt_of_lt_of_le (by omega : i < 100) (by decide)
      · refine ⟨cs ++ [97 + n.toNat], by rw [List.length_append, hcl]; rfl, fun c hm => ?_, ?_, B4.put (B2.ne hD), (K3.trans K4).put hD0⟩
        · rcases List.mem_append.mp hm with hm | hm
          · exact hcs c hm
          · rw [List.mem_singleton] at hm
            omega
        · rw [upd_same, List.map_append]
          rfl
    · rintro H3 ⟨st, hsl, hst, hD3, B3, K3⟩
      have hq3 := K3 _ _ hq nqg
      refine ⟨_, D, st.map fun c => SX.S [c], rfl, rfl, .inl (SqL.of (by rw [List.map_map]; exact hD3)), ?_, ?_⟩
      · have e : ∀ cs : List Nat, ((cs.map fun c => SX.S [c]).map (·.length)).sum = cs.length := fun cs => by
          induction cs with
          | nil => rfl
          | cons c cs ih =>
            rw [List.map_cons, List.map_cons, List.sum_cons, ih, List.length_cons, Nat.add_comm]
            rfl
        rw [e, List.length_map, hsl]
        show sz.toNat + sz.toNat * 0 ≤ _
        omega
      · rw [join_chars]
        have hz9 : (sz + 1).natAbs < 2 ^ 9000 := lt_pow (a := 10) (by omega) (by decide)
        walk_at "go"
        intro wh H4 wh0 wh1 B4 K4
        walk_at "go"
        intro sh H5 sh0 sh1 B5 K5
        walk_at "go"
        intro lo H6 lo0 lo1 B6 K6
        walk_at "go"
        intro f hf
        have K36 := K4.trans (K5.trans K6)
        have K6' := K3.trans K36
        have nf := B6.ne hf
        have hf0 : H f = none := kp_none K6' hf nf.1
        have hq6 := K6' _ _ hq nqg
        have hwl : wh.toNat ≤ st.length := by omega
        have c1 : cutS (SX.S st) none (some wh) = SX.S (st.take wh.toNat) := cut_to wh0 hwl
        have c2 : cutS (SX.S st) (some wh) none = SX.S (st.drop wh.toNat) := cut_from wh0 hwl
        have sl : ∀ l : List Nat, l.length ≤ 1000 → (SX.S l).length ≤ sizeLine := fun l h => by
          rw [SX.S_len]
          exact Nat.le_trans h (by decide)
        refine ⟨⟨_, rfl, _, rfl, by omega, by omega, for_range (lo := 0) (n := cnt.toNat) (fun i σ' H' => Wd (∃ o10 o11 : Option V, σ' = [some (.ref g), some (.int cnt), some (.ref q), some (.str lettersZ), some (.int sz), some (vS st), some (.int wh), some (.int sh), some (.int lo), some (.ref f), o10, o11, none, none] ∧
          H' = upd H6 f (.lst ((List.range i).map fun k => vS (nmAt st wh.toNat sh lo k))))) ⟨none, none, rfl, rfl⟩ ?_ ?_⟩⟩
        · rintro i σ' H7 hi ⟨o10, o11, rfl, rfl⟩
          refine ⟨_, rfl, _, rfl, wh, rfl, _, rfl, sl st (by omega), ?_⟩
          rw [c1]
          have hi26 : (i : Int) < 26 := by omega
          refine ⟨_, rfl, _, rfl, _, rfl, _, _, rfl, rfl, .inl ⟨by decide, by decide⟩, _, _, rfl, rfl, .inl ⟨_, rfl, _, _, rfl, rfl, (show (0 : Int) < 26 by decide), _, _, _, rfl, rfl, (by decide : lettersZ.length ≤ sizeLine), letter_at (Int.emod_nonneg _ (by decide)) (Int.emod_lt_of_pos _ (by decide)), ?_⟩⟩
          have e1 : SX.S (st.take wh.toNat) ++ (⟨#[97 + ((sh + 7 * (0 + (i : Int))) % 26).toNat]⟩ : Str) = SX.S (st.take wh.toNat ++ [97 + ((sh + 7 * (i : Int)) % 26).toNat]) := by
            rw [Int.zero_add]
            exact SX.S_cat _ _
          have l1 : (st.take wh.toNat).length ≤ 10 := by
            rw [List.length_take]
            omega
          have l2 : (st.drop wh.toNat).length ≤ 10 := by
            rw [List.length_drop]
            omega
          refine ⟨_, _, rfl, rfl, ?_, ?_⟩
          · rw [SX.S_len]
            exact Nat.le_trans (by show _ + 1 ≤ 1000; omega) (by decide : 1000 ≤ sizeLine)
          rw [e1]
          refine ⟨_, rfl, _, rfl, wh, rfl, _, rfl, sl st (by omega), ?_⟩
          rw [c2]
          refine ⟨_, _, rfl, rfl, ?_, ?_⟩
          · rw [SX.S_len, SX.S_len, List.length_append]
            exact Nat.le_trans (by rw [List.length_singleton]; omega) (by decide : 1000 ≤ sizeLine)
          rw [SX.S_cat]
          refine ⟨_, rfl, .inl ⟨rfl, _, SqL.of upd_same⟩, _, rfl, _, rfl, _, rfl, _, _, _, rfl, rfl, (by decide : lettersZ.length ≤ sizeLine), letter_at sh0 sh1, ?_⟩
          refine ⟨_, rfl, .inl ⟨_, rfl, _, _, rfl, rfl, (show (0 : Int) < 3 by decide), _, rfl, rfl, .inr ⟨_, rfl, ?_⟩⟩⟩
          refine ⟨_, _, rfl, rfl, ?_, ?_⟩
          · split
            · exact .inr rfl
            · exact .inl rfl
          have e2 : SX.S (st.take wh.toNat ++ [97 + ((sh + 7 * (i : Int)) % 26).toNat] ++ st.drop wh.toNat) ++ (if (if (decide (V.int ((0 + (i : Int)) % 3) = V.int lo)) = true then (1 : Int) else 0) = 0 then Str.empty else (⟨#[97 + sh.toNat]⟩ : Str)) = SX.S (nmAt st wh.toNat sh lo i) := by
            unfold nmAt
            rw [Int.zero_add]
            by_cases e : (i : Int) % 3 = lo
            · rw [if_pos (decide_eq_true (congrArg V.int e)), if_neg (by decide), if_pos e]
              exact SX.S_cat _ _
            · rw [if_neg (fun z => e (V.int.inj (of_decide_eq_true z))), if_pos rfl, if_neg e]
              exact SX.S_cat _ []
          refine ⟨_, _, rfl, rfl, ?_, ?_⟩
          · rw [SX.S_len, List.length_append, List.length_append, List.length_singleton]
            refine Nat.le_trans (Nat.add_le_add_left (m := 1) ?_ _) (Nat.le_trans (by omega : _ ≤ 1000) (by decide : 1000 ≤ sizeLine))
            split
            · rw [if_neg (by decide)]
              exact Nat.le_refl 1
            · rw [if_pos rfl]
              exact Nat.zero_le 1
          rw [e2]
          refine ⟨f, _, _, rfl, rfl, upd_same, ?_, _, _, rfl, ?_⟩
          · rw [List.length_map, List.length_range]
            exact Nat.lt_of_lt_of_le (by omega : i < 1000) (by decide)
          · rw [upd_upd, List.range_succ, List.map_append]
            rfl
        · rintro σ' H7 ⟨o10, o11, rfl, rfl⟩
          have hnm := nms_range (st := st) (wh := wh.toNat) (sh := sh) (lo := lo) (cnt := cnt) (ws := ws) hwl (by omega) hst sh0 sh1 hc26
          have nfq : f ≠ q := fun e => by rw [e, hq6] at hf; cases hf
          refine ⟨⟨fun σ' H' => Wd (∃ (ns : List (List Nat)), σ' = [some (.ref g), some (.int cnt), some (.ref q), some (.str lettersZ), some (.int sz), some (vS st), some (.int wh), some (.int sh), some (.int lo), some (.ref f), o10, o11, none, none] ∧
            H' f = some (.lst (ns.map vS)) ∧ NmsOk ns ws cnt ∧ Bag H' g l ∧ Kp g H H'), ?_, ?_⟩⟩
          · have B7 := B6.new (o := .lst ((List.range cnt.toNat).map fun k => vS (nmAt st wh.toNat sh lo k))) hf
            have K7 : Kp g H (upd H6 f (.lst ((List.range cnt.toNat).map fun k => vS (nmAt st wh.toNat sh lo k)))) := K6'.put hf0
            have stay : Wd (∃ (ns : List (List Nat)), [some (.ref g), some (.int cnt), some (.ref q), some (.str lettersZ), some (.int sz), some (vS st), some (.int wh), some (.int sh), some (.int lo), some (.ref f), o10, o11, none, none] = [some (.ref g), some (.int cnt), some (.ref q), some (.str lettersZ), some (.int sz), some (vS st), some (.int wh), some (.int sh), some (.int lo), some (.ref f), o10, o11, none, none] ∧
              (upd H6 f (.lst ((List.range cnt.toNat).map fun k => vS (nmAt st wh.toNat sh lo k)))) f = some (.lst (ns.map vS)) ∧ NmsOk ns ws cnt ∧ Bag (upd H6 f (.lst ((List.range cnt.toNat).map fun k => vS (nmAt st wh.toNat sh lo k)))) g l ∧ Kp g H (upd H6 f (.lst ((List.range cnt.toNat).map fun k => vS (nmAt st wh.toNat sh lo k))))) :=
              ⟨_, rfl, by rw [upd_same, List.map_map]; rfl, hnm, B7, K7⟩
            walk_at "go"
            refine if_dec (fun e1 => ?_) (fun _ => stay)
            walk_at "go"
            refine if_dec (fun e2 => ?_) (fun _ => stay)
            walk_at "go"
            refine if_int (fun e3 => ?_) (fun _ => stay)
            subst e3
            obtain ⟨m, hm⟩ : ∃ m, cnt.toNat = m + 2 := ⟨cnt.toNat - 2, by omega⟩
            refine ⟨_, rfl, f, _, _, vS (nmAt st wh.toNat sh 3 0), rfl, rfl, SqL.of upd_same, ?_, _, rfl, _, rfl, g, l, _, rfl, B7, by decide, by decide, fun n H8 n0 n1 B8 K8 => ?_⟩
            · refine atI_nat (j := 0) ?_
              rw [List.getElem?_map, List.getElem?_range (by omega)]
              rfl
            have hf8 := K8 _ _ upd_same nf.1
            refine ⟨_, _, _, rfl, rfl, (by decide : lettersZ.length ≤ sizeLine), letter_at n0 n1, _, _, rfl, rfl, ?_, ?_⟩
            · show (SX.S _).length + 1 ≤ _
              rw [SX.S_len, nm_len]
              refine Nat.le_trans ?_ (by decide : 1000 ≤ sizeLine)
              split <;> omega
            have e4 : SX.S (nmAt st wh.toNat sh 3 0) ++ (⟨#[97 + n.toNat]⟩ : Str) = SX.S (nmAt st wh.toNat sh 3 0 ++ [97 + n.toNat]) := SX.S_cat _ _
            have n3 : ∀ k : Nat, ((k : Int) % 3 = 3) = False := fun k => by
              rw [eq_iff_iff]
              exact ⟨fun h => by omega, fun h => h.elim⟩
            have le : ∀ k, (nmAt st wh.toNat sh 3 k).length = st.length + 1 := fun k => by
              rw [nm_len, if_neg (by rw [n3]; exact fun h => h)]
            refine ⟨_, rfl, f, _, _, 1, rfl, rfl, hf8, ?_, ?_⟩
            · rw [List.length_map, List.length_range, hm]
              exact ixN_in (by decide) (by show (1 : Int) < ((m + 2 : Nat) : Int); omega)
            · refine ⟨((List.range cnt.toNat).map fun k => nmAt st wh.toNat sh 3 k).set 1 (nmAt st wh.toNat sh 3 0 ++ [97 + n.toNat]), rfl, ?_, nms_set hnm ?_ (.inl ?_), B8.put nf, (K7.trans K8).put hf0⟩
              · rw [upd_same, List.map_set, List.map_map]
                show some (HO.lst (List.set _ 1 (V.str (SX.S (nmAt st wh.toNat sh 3 0) ++ (⟨#[97 + n.toNat]⟩ : Str))))) = _
                rw [e4]
                rfl
              · intro hm
                obtain ⟨k, _, e⟩ := List.mem_map.mp hm
                have e5 := congrArg List.length e
                rw [List.length_append, le, le, List.length_singleton] at e5
                omega
              · have ok := nm_ok (st := st) (wh := wh.toNat) (sh := sh) (lo := 3) (k := 0) (by omega) hst sh0 sh1
                refine ⟨by rw [List.length_append, le]; omega, by rw [List.length_append, le, List.length_singleton]; omega, fun c hc => ?_⟩
                rcases List.mem_append.mp hc with hc | hc
                · exact ok.2.2 c hc
                · rw [List.mem_singleton] at hc
                  omega
          · rintro σ' H8 ⟨ns, rfl, hf8, hnm8, B8, K8⟩
            have hc9 : (4 * cnt).natAbs < 2 ^ 9000 := lt_pow (a := 10) (by omega) (by decide)
            walk_at "go"
            intro sp H9 sp0 sp1 B9 K9
            have hq9 := (K8.trans K9) _ _ hq nqg
            have hf9 := K9 _ _ hf8 nf.1
            have hw9 : ((ws.map vS).length : Int).natAbs < 2 ^ 9000 := lt_pow (a := 10) (by rw [List.length_map]; omega) (by decide)
            refine ⟨_, rfl, _, rfl, _, rfl, q, _, rfl, .inl (SqL.of hq9), g, l, _, rfl, B9, ?_, hw9, fun wi H10 wi0 wi1 B10 K10 => ?_⟩
            · rw [List.length_map]
              omega
            rw [List.length_map] at wi1
            obtain ⟨j, rfl⟩ := Int.eq_ofNat_of_zero_le wi0
            have hj : j < ws.length := by omega
            have hwj : (ws.map vS)[j]? = some (vS ws[j]) := by rw [List.getElem?_map, List.getElem?_eq_getElem hj]; rfl
            have hq10 := K10 _ _ hq9 nqg
            have hf10 := K10 _ _ hf9 nf.1
            have K10' := (K8.trans K9).trans K10
            refine ⟨q, _, _, _, rfl, rfl, SqL.of hq10, atI_nat hwj, ?_⟩
            refine ⟨⟨fun σ' H' => Wd (∃ (ns : List (List Nat)) (o : List (Option V)), σ' = [some (.ref g), some (.int cnt), some (.ref q), some (.str lettersZ), some (.int sz), some (vS st), some (.int wh), some (.int sh), some (.int lo), some (.ref f)] ++ o ∧
              H' f = some (.lst (ns.map vS)) ∧ NmsOk ns ws cnt ∧ Bag H' g l ∧ Kp g H H'), ?_, ?_⟩⟩
            · walk_at "go"
              refine if_dec (fun e1 => ?_) (fun _ => ⟨ns, [_, _, _, _], rfl, hf10, hnm8, B10, K10'⟩)
              refine ⟨_, rfl, _, rfl, f, _, rfl, .inl (SqL.of hf10), rfl, flat_names ns, _, rfl, ?_⟩
              show if (!inV (vS ws[j]) (ns.map vS)) = true then _ else _
              rw [inV_names]
              by_cases hm : ws[j] ∈ ns
              · rw [decide_eq_true hm]
                exact iteF ⟨ns, [_, _, _, _], rfl, hf10, hnm8, B10, K10'⟩
              · rw [decide_eq_false hm]
                refine iteT ⟨_, rfl, _, rfl, _, rfl, f, _, _, sp.toNat, rfl, rfl, hf10, ?_, ?_⟩
                · rw [List.length_map, hnm8.1]
                  exact ixN_in sp0 (by omega)
                · refine ⟨ns.set sp.toNat ws[j], [_, _, _, _], rfl, ?_, nms_set hnm8 hm (.inr (List.getElem_mem _)), B10.put nf, K10'.put hf0⟩
                  rw [upd_same, List.map_set]
            · rintro σ' H11 ⟨ns, o, rfl, hf11, hnm11, B11, K11⟩
              exact ⟨_, rfl, k f ns H11 hf0 hf11 hnm11.1 hnm11.2.1 hnm11.2.2 B11 K11⟩
end

/-! ### what is picked -/
def spPick : Sp := fun vs H Q _ => ∃ (g l q : Addr) (xs : List V), vs = [.ref g, .ref q] ∧ Bag H g l ∧ q ≠ g ∧ H q = some (.lst xs) ∧ 1 ≤ xs.length ∧ xs.length ≤ 1000 ∧ ∀ (v : V) (H' : Hp), v ∈ xs → Bag H' g l → Kp g H H' → Q v H'
section
variable {P : Program} {w : World} {K : PySem.W.Frag} {mg : Str → Option Value} {base : Heap} {A : Ad}
theorem ok_l_pick (T : Txt K mg A) : FnOk P w K mg base CX0 2 A.l_pick A.fd_l_pick P_l_pick spPick := by
  refine T.F_l_pick.ok sc_l_pick (fun vs H Q E h => ?_) (fun cdv Ar outer s H vs Q E hr h => ?_)
  · obtain ⟨g, l, q, xs, rfl, _⟩ := h
    rfl
  · obtain ⟨g, l, q, xs, rfl, B, nq, hq, h1, h2, k⟩ := h
    refine ⟨_, (pss_one (ps_ret (pe_ix ix_list (pv 1) (pe_call (ok_l_draw T) (hr.mono (by decide)) (by rfl) T.g__law_draw T.F_l_draw.kp T.b_l_draw .nil pass0 (pa_cons (pv 0) (pa_cons (pe_callB call_len_seq (by rfl) T.z_len (by decide +kernel) (pa_cons (pv 1) pa_nil)) pa_nil))) (fun _ _ => rfl)))), ?_⟩
    refine ⟨_, rfl, _, rfl, _, rfl, q, _, rfl, .inl (SqL.of hq), g, l, _, rfl, B, by omega, lt_pow (a := 10) (by omega) (by decide), fun c H1 c0 c1 B1 K1 => ?_⟩
    have hq1 := K1 _ _ hq nq
    obtain ⟨j, rfl⟩ := Int.eq_ofNat_of_zero_le c0
    have hj : j < xs.length := by omega
    exact ⟨q, _, _, _, rfl, rfl, SqL.of hq1, atI_nat (List.getElem?_eq_getElem hj), k _ H1 (List.getElem_mem hj) B1 K1⟩
end

/-! ### a drawn order -/
def spMixed : Sp := fun vs H Q _ => ∃ (g l q : Addr) (xs : List V), vs = [.ref g, .ref q] ∧ Bag H g l ∧ H q = some (.lst xs) ∧ xs.length ≤ 1000 ∧
  ∀ (p : Addr) (ys : List V) (H' : Hp), ys.Perm xs → H p = none → H' p = some (.lst ys) → Bag H' g l → Kp g H H' → Q (.ref p) H'
theorem perm_pop {α : Type} : ∀ {zs : List α} {k : Nat} {y : α}, zs[k]? = some y → (y :: zs.eraseIdx k).Perm zs
  | z :: zs, 0, y, h => by
    simp at h
    subst h
    exact .refl _
  | z :: zs, k + 1, y, h => by
    have ih := perm_pop (zs := zs) (k := k) (y := y) (by simpa using h)
    exact (List.Perm.swap z y _).trans (ih.cons z)
theorem seq_ix {i : Int} {n : Nat} (h0 : 0 ≤ i) (h1 : i < n) : seqIndex? i n = some i.toNat := by
  have e : (if i < 0 then i + (n : Int) else i) = i := if_neg (by omega)
  unfold seqIndex?
  simp only [e, h0, h1, decide_true, Bool.and_self, if_true]
section
variable {P : Program} {w : World} {K : PySem.W.Frag} {mg : Str → Option Value} {base : Heap} {A : Ad}
theorem ok_l_mixed (T : Txt K mg A) : FnOk P w K mg base CX0 2 A.l_mixed A.fd_l_mixed P_l_mixed spMixed := by
  refine T.F_l_mixed.ok sc_l_mixed (fun vs H Q E h => ?_) (fun cdv Ar outer s H vs Q E hr h => ?_)
  · obtain ⟨g, l, q, xs, rfl, _⟩ := h
    rfl
  · obtain ⟨g, l, q, xs, rfl, hB, hq, hlen, k⟩ := h
    refine ⟨_, (pss_cons (ps_set (i := 2) sc_l_mixed.nd rfl (Or.inl rfl) (pe_callTy call_list_of (by rfl) T.z_list (by decide +kernel) (pa_cons (pv 1) pa_nil)))
      (pss_cons (ps_set (i := 3) sc_l_mixed.nd rfl (Or.inl rfl) (pe_lst pa_nil))
      (pss_cons (ps_g (ps_for PassesOwn.never rfl (pi_range1 rfl T.z_range (pa_cons (pe_callB call_len_seq (by rfl) T.z_len (by decide +kernel) (pa_cons (pv 1) pa_nil)) pa_nil)) (pg_name (i := 4) sc_l_mixed.nd rfl (Or.inl rfl)) (pss_one (ps_expr (pe_bm PySem.F.plainAttrs_list PySem.F.slot_list_append PySem.F.type_list_append mt_append (pv 3) (pa_cons (pe_bm PySem.F.plainAttrs_list PySem.F.slot_list_pop PySem.F.type_list_pop mt_popAt (pv 2) (pa_cons (pe_call (ok_l_draw T) (hr.mono (by decide)) (by rfl) T.g__law_draw T.F_l_draw.kp T.b_l_draw .nil pass0 (pa_cons (pv 0) (pa_cons (pe_callB call_len_seq (by rfl) T.z_len (by decide +kernel) (pa_cons (pv 2) pa_nil)) pa_nil))) pa_nil)) pa_nil))))))
      (pss_one (ps_ret (pv 3)))))), ?_⟩
    refine ⟨_, rfl, q, xs, rfl, .inl (SqL.of hq), fun a ha => ⟨Nat.zero_le _, fun f hf => ?_⟩⟩
    have naf : a ≠ f := fun z => by
      rw [z, upd_same] at hf
      cases hf
    have hf0 : H f = none := by
      rw [upd_ne naf.symm] at hf
      exact hf
    have na := hB.ne ha
    have nf := hB.ne hf0
    have nqa := ne_of_none hq ha
    have nqf := ne_of_none hq hf0
    refine ⟨⟨_, rfl, q, xs, rfl, .inl (SqL.of (by rw [upd_ne nqf, upd_ne nqa]; exact hq)), _, rfl, by omega, by omega, for_range (lo := 0) (n := xs.length) (fun i σ' H' => Wd (∃ (ys zs : List V) (v : Option V),
      σ' = [some (.ref g), some (.ref q), some (.ref a), some (.ref f), v] ∧ H' a = some (.lst zs) ∧ H' f = some (.lst ys) ∧ (ys ++ zs).Perm xs ∧ zs.length + i = xs.length ∧ Bag H' g l ∧ Kp g H H'))
      ⟨[], xs, none, rfl, by rw [upd_ne naf, upd_same], upd_same, .refl _, rfl, (hB.put na).put nf, ((Kp.refl g H).put ha).put hf0⟩ ?_ ?_⟩⟩
    · rintro i σ' H' hi ⟨ys, zs, v, rfl, h1, h2, hp, hz, B1, K1⟩
      have z9 : ((zs.length : Nat) : Int).natAbs < 2 ^ 9000 := lt_pow (a := 10) (by omega) (by decide)
      have yl : ys.length ≤ 1000 := by
        have := hp.length_eq
        rw [List.length_append] at this
        omega
      refine ⟨_, rfl, .inl ⟨rfl, _, SqL.of h2⟩, _, rfl, .inl ⟨rfl, _, SqL.of h1⟩, _, rfl, _, rfl, a, zs, rfl, .inl (SqL.of h1), g, l, _, rfl, B1, by omega, z9, fun n H2 n0 n1 B2 K2 => ?_⟩
      have h1' := K2 _ _ h1 na.1
      have h2' := K2 _ _ h2 nf.1
      have hk : n.toNat < zs.length := by omega
      have hy : zs[n.toNat]? = some zs[n.toNat] := List.getElem?_eq_getElem hk
      refine ⟨a, zs, n, n.toNat, zs[n.toNat], rfl, rfl, h1', by omega, by omega, seq_ix n0 n1, hy, f, ys, _, rfl, rfl, (by rw [upd_ne naf.symm]; exact h2'), Nat.lt_of_le_of_lt yl (by decide), ?_⟩
      refine ⟨ys ++ [zs[n.toNat]], zs.eraseIdx n.toNat, _, rfl, by rw [upd_ne naf, upd_same], upd_same, ?_, ?_, (B2.put na).put nf, ((K1.trans K2).put ha).put hf0⟩
      · rw [List.append_assoc]
        exact ((perm_pop hy).append_left ys).trans hp
      · rw [List.length_eraseIdx, if_pos hk]
        omega
    · rintro σ' H' ⟨ys, zs, v, rfl, h1, h2, hp, hz, B1, K1⟩
      have e : zs = [] := List.eq_nil_of_length_eq_zero (by omega)
      subst e
      rw [List.append_nil] at hp
      exact ⟨_, rfl, k f ys H' hp hf0 h2 B1 K1⟩
end

/-! ### set(a list of texts), sorted(such a set) -/
section
open PySem.Spec PyProof.Rows PySem.Froz
variable {P : Program} {w : World} {A : Around} {E : Value → Shared → Prop} {s : Shared}
/-- the table of a set rises, so that it can be walked -/
structure Wk (w : World) (D : SD) : Prop where
  ris : Ris D.2.2.place.toList
  led : w.params.followText "set-order" = true ∨ D.2.2.led = true
theorem Wk.add {D : SD} (h : Wk w D) (x : Int) (v : Value) : Wk w (addTx x v D) := by
  obtain ⟨es, ep, t⟩ := D
  have r1 : Ris (layNew t es x v).2.1.place.toList := layNew_ris t es x v h.ris
  have l1 : w.params.followText "set-order" = true ∨ (layNew t es x v).2.1.led = true := h.led.imp id fun z => by rw [layNew_led]; exact z
  unfold addTx tailTx
  dsimp only
  have k1 : Ris (if (layNew t es x v).2.1.plain = true then { (layNew t es x v).2.1 with plain := false } else (layNew t es x v).2.1 : SetTable).place.toList := by
    split
    · exact r1
    · exact r1
  have k2 : w.params.followText "set-order" = true ∨ (if (layNew t es x v).2.1.plain = true then { (layNew t es x v).2.1 with plain := false } else (layNew t es x v).2.1 : SetTable).led = true := by
    split
    · exact l1
    · exact l1
  generalize (if (layNew t es x v).2.1.plain = true then { (layNew t es x v).2.1 with plain := false } else (layNew t es x v).2.1 : SetTable) = t2 at *
  by_cases c : (!(layNew t es x v).2.2.1 && t2.tooFull) = true
  · rw [if_pos c]
    exact ⟨relayAll_ris _ _ _, k2.imp id fun z => by show (relayAll _ _ _).2.1.led = true; rw [relayAll_led]; exact z⟩
  · rw [if_neg c]
    exact ⟨k1, k2⟩
/-- a text that is there already -/
theorem tx_old {a : Addr} {T : String} {D : SD} {l : List Str} {k : Str} {u : Tok} {Q : Bool → Shared → Prop} (ho : s.heap.get? a = some (sObj T D)) (F : TxOk P w D l) (hk : k ∈ l) (hb : l.length < scanBound)
    (h : Q false s) : wpAny (model P w) A (setAddHashed a (.str k u) (hashStr w k)) Q E s := by
  obtain ⟨es, ep, t⟩ := D
  obtain ⟨e0, he0, q0⟩ := (F.mem k).mp hk
  have sz : es.size < scanBound := by have : es.size = l.length := F.sz; omega
  cases hr : List.findIdx? (fun e => (PySem.strKind P w).is k e.2) es.toList with
  | none =>
    have z := List.findIdx?_eq_none_iff.mp hr e0 he0
    rw [q0] at z
    cases z
  | some j =>
    have d0 : (sObj T (es, ep, t)).data = .set es ep t := rfl
    unfold setAddHashed setAddHashedIn
    refine wpAny_holding (wpAny_bind (wpAny_setState_of ho d0 F.fit ?_))
    dsimp only
    rw [byScan_of (knd := PySem.strKind P w) rfl sz F.el]
    simp only [↓reduceIte]
    unfold setAddByScan
    refine wpAny_bind (wpAny_bind (wpAny_rule (wpAny_bind (wpAny_setScan_of (knd := PySem.strKind P w) (k := k) (is_str k u) ho d0 F.fit F.el ?_))))
    rw [hr]
    dsimp only
    exact wpAny_pure (wpAny_pure h)
/-- what stands at S: a set of the texts l, each once -/
structure TxAt (P : Program) (w : World) (h : Heap) (S : Addr) (l : List Str) : Prop where
  ex : ∃ D, h.get? S = some (sObj "set" D) ∧ TxOk P w D l ∧ Wk w D
theorem TxAt.keep {h h' : Heap} {S : Addr} {l : List Str} (x : TxAt P w h S l) (k : ∀ o, h.get? S = some o → h'.get? S = some o) : TxAt P w h' S l := by
  obtain ⟨D, ho, r⟩ := x.ex
  exact ⟨D, k _ ho, r⟩
theorem tx_add {S : Addr} {l : List Str} {k : Str} {u : Tok} {Q : Bool → Shared → Prop} (x : TxAt P w s.heap S l) (hb : l.length + 1 < scanBound)
    (h : ∀ b h', Heap.SameBut S s.heap h' → TxAt P w h' S (if k ∈ l then l else k :: l) → Q b { s with heap := h' }) : wpAny (model P w) A (setAddHashed S (.str k u) (hashStr w k)) Q E s := by
  obtain ⟨D, ho, F, W⟩ := x.ex
  by_cases hk : k ∈ l
  · rw [if_pos hk] at h
    exact tx_old ho F hk (by omega) (h false s.heap (Heap.SameBut.refl S s.heap) ⟨D, ho, F, W⟩)
  · rw [if_neg hk] at h
    exact add_x ho F hk hb (h true _ (Heap.SameBut.update s.heap S _) ⟨_, get_upd _ ho rfl, add_ok u F, W.add _ _⟩)
theorem tx_loop {I : Addr} {fp wr : List Addr} {G : Array GenState → Array GenState → Prop} {n : Nat} {Pv : Nat → Value → Prop} {St : Nat → Shared → Prop} {R : Result → Shared → Prop}
    (W : WalksS P w A.in1 I fp wr G n Pv St) (S : Addr) (nS : S ∉ fp) (xs : List Str) (hn : xs.length = n) (few : n + 1 < scanBound) (val : ∀ i v, Pv i v → ∃ k t, xs[i]? = some k ∧ v = .str k t) :
    ∀ (j i : Nat) (s : Shared), n - i = j → i ≤ n → St i s → (∃ l, TxAt P w s.heap S l ∧ l.Nodup ∧ l.length ≤ i ∧ ∀ k, k ∈ l ↔ k ∈ xs.take i) →
      (∀ s' l, Moved (S :: wr) G s s' → TxAt P w s'.heap S l → l.Nodup → (∀ k, k ∈ l ↔ k ∈ xs) → R (.ok (.ret .none)) s') → codeAny (model P w) A (.builtin "set.update.loop" ⟨[.ref S, .ref I], []⟩) R s := by
  have nw : S ∉ wr := fun z => nS (W.sub _ z)
  have sub : ∀ b ∈ wr, b ∈ S :: wr := fun b z => List.mem_cons_of_mem _ z
  intro j
  induction j with
  | zero =>
    rintro i s e1 e2 st ⟨l, T0, nd, ll, mem⟩ fin
    obtain rfl : i = n := by omega
    rw [← hn, List.take_length] at mem
    refine codeAny_builtin F.entry_set_update_loop ?_
    rw [Around.under_plainId F.plain_set_update_loop _]
    show wpAny _ A.in1 (pyNext (.ref I) >>= _) _ _ s
    refine wpAny_bind (W.done s _ _ st fun s1 mv => ?_)
    show wpAny _ A.in1 (ret Value.none) _ _ s1
    exact wpAny_pure (fin s1 l (mv.mono sub) (T0.keep fun o z => mv.heap S o nw z) nd mem)
  | succ j ih =>
    rintro i s e1 e2 st ⟨l, T0, nd, ll, mem⟩ fin
    have lt : i < n := by omega
    refine codeAny_builtin F.entry_set_update_loop ?_
    rw [Around.under_plainId F.plain_set_update_loop _]
    show wpAny _ A.in1 (pyNext (.ref I) >>= _) _ _ s
    refine wpAny_bind (W.item i s _ _ lt st fun v s1 hv st1 mv => ?_)
    obtain ⟨k, t, hk, rfl⟩ := val i v hv
    have T1 : TxAt P w s1.heap S l := T0.keep fun o z => mv.heap S o nw z
    show wpAny _ A.in1 (holding [Value.str k t] (setAdd S (.str k t)) >>= _) _ _ s1
    refine wpAny_bind (wpAny_holding ?_)
    unfold setAdd
    refine wpAny_holding (wpAny_bind ((PySem.strKind P w).pyHash (k := k) (is_str k t) ?_))
    refine tx_add (s := { s1 with toks := s1.toks + 1 }) T1 (by omega) fun b h' sb T2 => ?_
    refine wpAny_pure ⟨plainId_quiet F.plain_set_update_loop _, ih (i + 1) _ (by omega) lt (W.frame _ s1 _ _ st1 (Nat.le_succ _) fun b hb o z => ?_) ⟨_, T2, ?_, ?_, fun m => ?_⟩ fun s2 l2 mv2 T3 nd3 mem3 => ?_⟩
    · rw [sb.2 b (fun y : b = S => nS (y ▸ hb))]
      exact z
    · split
      · exact nd
      · next c => exact List.nodup_cons.mpr ⟨c, nd⟩
    · split
      · omega
      · rw [List.length_cons]; omega
    · rw [take_more hk, List.mem_append, List.mem_singleton, ← mem m]
      split
      · next c => exact ⟨.inl, fun z => z.elim id (fun y => y ▸ c)⟩
      · rw [List.mem_cons]
        exact Or.comm
    · refine fin s2 l2 (Moved.trans W.gtrans ((mv.mono sub).then_heap (Nat.le_succ _) fun b o hb z => ?_) mv2) T3 nd3 mem3
      rw [sb.2 b (fun y : b = S => hb (y ▸ List.mem_cons_self))]
      exact z
end

section
open PySem.Spec PyProof.Rows PySem.Froz
variable {P : Program} {w : World} {A : Around} {E : Value → Shared → Prop} {s : Shared}
/-- the object that set() lays down -/
abbrev newS (w : World) : Obj := { cls := .type "set", dict := none, data := .set #[] 0 (.fresh 0 0 (!w.params.followText "set-order")) }
theorem tx_fresh {h : Heap} {S : Addr} (ho : h.get? S = some (newS w)) : TxAt P w h S [] := by
  refine ⟨(#[], 0, .fresh 0 0 (!w.params.followText "set-order")), ho, TxOk.nil rfl, List.Pairwise.nil, ?_⟩
  show _ ∨ (!w.params.followText "set-order") = true
  cases w.params.followText "set-order"
  · exact .inr rfl
  · exact .inl rfl
theorem strs_get : ∀ {us : List Value} {xs : List Str}, StrsAre us xs → ∀ (i : Nat) (v : Value), us[i]? = some v → ∃ k t, xs[i]? = some k ∧ v = .str k t
  | _, _, .nil, i, v, h => by simp at h
  | _, _, .cons n t hr, 0, v, h => by
    simp only [List.getElem?_cons_zero, Option.some.injEq] at h
    exact ⟨n, t, rfl, h.symm⟩
  | _, _, .cons n t hr, i + 1, v, h => by
    simp only [List.getElem?_cons_succ] at h ⊢
    exact strs_get hr i v h
set_option maxHeartbeats 8000000 in
theorem tx_call {q : Addr} {items : Array Value} {xs : List Str} {Q : Value → Shared → Prop} (nh : A.handled = none) (hl : s.heap.IsList q items) (hi : StrsAre items.toList xs) (few : xs.length + 1 < scanBound)
    (h : ∀ (h' : Heap) (tk : Nat) (l : List Str), TxAt P w h' s.heap.objs.size l → l.Nodup → (∀ k, k ∈ l ↔ k ∈ xs) → (∀ b o, s.heap.get? b = some o → h'.get? b = some o) → Q (.ref s.heap.objs.size) { s with heap := h', toks := tk }) :
    wpAny (model P w) A (call (.type "set") [.ref q]) Q E s := by
  have isz : items.size = xs.length := by rw [← StrsAre.len_eq hi, Array.length_toList]
  obtain ⟨m0, m1, m2⟩ := F.called_set.mro
  have c1 := F.called_set.made
  have c2 := F.called_set.sub
  refine wpAny_call (codeAny_of_tree ?_)
  show wpAny _ _ (callAny (.type "set") _) _ _ _
  refine wpAny_pure ⟨Code.quiet_builtin _ (by decide +kernel), codeAny_builtin F.entry_type_call ?_⟩
  rw [Around.under_plain (weight_type_call_type "set" [.ref q] []) rfl]
  have c3 := F.called_set.notType
  have c4 := F.called_set.canCreate
  have c5 := F.typeCall_set_1 (.ref q)
  repeat (any_goals (first | assumption | wp_step))
  refine codeAny_mono (code_set_led1 (.ref q) (E := E) (Q₁ := fun v s1 => v = .ref s.heap.objs.size ∧ s1 = { s with heap := s.heap.push (newS w) }) ⟨rfl, rfl⟩) fun r s1 hr => ?_
  cases r with
  | error e => exact hr
  | ok fl =>
    cases fl with
    | ret obj =>
      obtain ⟨rfl, rfl⟩ := hr
      have h0 : (s.heap.push (newS w)).get? s.heap.objs.size = some (newS w) := Heap.get?_push_size _ rfl
      have ty : Shared.TypeIs { s with heap := s.heap.push (newS w) } (.ref s.heap.objs.size) "set" := ⟨_, h0, rfl⟩
      have c6 := F.called_set.init.lookup
      have c7 := F.called_set.init.bind (.ref s.heap.objs.size)
      repeat (any_goals (first | assumption | wp_step))
      refine codeAny_mono (codeAny_call_builtin (R := wants (fun r s2 => r = .none ∧ ∃ (h' : Heap) (tk : Nat) (l : List Str), s2 = { s with heap := h', toks := tk } ∧ TxAt P w h' s.heap.objs.size l ∧ l.Nodup ∧ (∀ k, k ∈ l ↔ k ∈ xs) ∧ (∀ b o, s.heap.get? b = some o → h'.get? b = some o)) E)
        F.called_set.init.plain F.entry_set_init (check_set_init_1 ty ?_)) fun r2 s2 hr2 => ?_
      · obtain ⟨ol, g0, g1, nl, g2⟩ := hl
        obtain ⟨k1, k2, k3, k4⟩ := ol
        simp only at g1 g2
        subst g1; subst g2
        have g3 : (s.heap.push (newS w)).get? q = some { cls := .type "list", dict := k2, data := .seq items nl, slots := k4 } := Heap.get?_push_of_some _ g0
        have c8 := F.sub_list_set
        have c9 := F.sub_list_frozenset
        have c10 : (Value.type "list" == Value.type "dict") = false := by decide
        have hl1 : (s.heap.push (newS w)).IsList q items := ⟨_, g3, rfl, nl, rfl⟩
        unfold Builtin.«set.__init__» noKeywords Builtin.Frozenset.updateFrom
        generalize hPI : pyIter = PI
        wp_walk
        subst hPI
        refine wpAny_pyIter_list hl1 ?_
        refine wpAny_bind (wpAny_runValue ?_)
        have lq : q < s.heap.objs.size := Heap.lt_size g0
        have nh3 : A.in1.in1.in1.handled = none := by simp [nh]
        have sz1 : (s.heap.push (newS w)).objs.size = s.heap.objs.size + 1 := Heap.size_push ..
        have ne1 : q ≠ (s.heap.push (newS w)).objs.size := by rw [sz1]; exact Nat.ne_of_lt (Nat.lt_succ_of_lt lq)
        have nS : s.heap.objs.size ∉ [(s.heap.push (newS w)).objs.size, q] := by
          rw [sz1]
          simp only [List.mem_cons, List.not_mem_nil, or_false, not_or]
          exact ⟨Nat.ne_of_lt (Nat.lt_succ_self _), Nat.ne_of_gt lq⟩
        refine tx_loop ((Walks.list nh3 _ q ne1 items).toS) s.heap.objs.size nS xs isz.symm (by rw [isz]; exact few) (fun i v hv => strs_get hi i v (by rw [Array.getElem?_toList]; exact hv)) (items.size - 0) 0 _ rfl (Nat.zero_le _)
          ⟨⟨_, Heap.get?_push_size _ rfl, rfl, rfl⟩, (hl1.push _)⟩ ⟨[], tx_fresh (Heap.get?_push_of_some _ h0), List.nodup_nil, Nat.le_refl _, fun k => by simp⟩ fun s3 l mv T3 nd mem => ?_
        obtain ⟨h', g', d', tk', os'⟩ := s3
        have eg : g' = s.gens := mv.gens
        have ed : d' = s.drawn := mv.drawn
        have eo : os' = s.os := mv.os
        subst eg; subst ed; subst eo
        show wpAny _ _ _ _ _ _
        refine wpAny_pure ?_
        show wpAny _ _ (ret Value.none) _ _ _
        refine wpAny_pure ⟨rfl, h', tk', l, rfl, T3, nd, mem, fun b o z => ?_⟩
        have lb : b < s.heap.objs.size := Heap.lt_size z
        refine mv.heap b o ?_ (Heap.get?_push_of_some _ (Heap.get?_push_of_some _ z))
        rw [sz1]
        simp only [List.mem_cons, List.not_mem_nil, or_false, not_or]
        exact ⟨Nat.ne_of_lt lb, Nat.ne_of_lt (Nat.lt_succ_of_lt lb)⟩
      · cases r2 with
        | error e => exact hr2
        | ok fl2 =>
          cases fl2 with
          | ret r =>
            obtain ⟨rfl, h', tk, l, rfl, T3, nd, mem, kp⟩ := hr2
            repeat (any_goals (first | assumption | wp_step))
            exact h _ _ _ T3 nd mem kp
          | _ => exact hr2.elim
    | _ => exact hr.elim
end

section
open PySem.Spec PyProof.Rows PySem.Froz
variable {P : Program} {w : World} {A : Around} {E : Value → Shared → Prop} {s : Shared}
theorem perm_sub {l : List Str} : ∀ {ks : List Str}, l.Nodup → (∀ k ∈ l, k ∈ ks) → ks.length = l.length → ks.Perm l := by
  induction l with
  | nil =>
    intro ks _ _ hl
    rw [List.eq_nil_of_length_eq_zero hl]
  | cons a l ih =>
    intro ks nd sub hl
    have ha := sub a List.mem_cons_self
    obtain ⟨na, nl⟩ := List.nodup_cons.mp nd
    refine (List.perm_cons_erase ha).trans (List.Perm.cons a (ih nl (fun k hk => ?_) ?_))
    · exact (List.mem_erase_of_ne (fun e : k = a => na (e ▸ hk))).mpr (sub k (List.mem_cons_of_mem _ hk))
    · rw [List.length_erase_of_mem ha, hl]
      rfl
theorem tx_sorted {a : Addr} {l : List Str} {Q : Value → Shared → Prop} (T : TxAt P w s.heap a l) (nd : l.Nodup) (nh : A.handled = none) (h64 : l.length < 64)
    (hQ : ∀ (s' : Shared) (p : Addr) (out : Array Value) (c : Nat) (ys : List Str), (∀ b o, s.heap.get? b = some o → s'.heap.get? b = some o) → s'.gens = s.gens → s'.os = s.os → s.heap.objs.size ≤ p →
      s'.heap.get? p = some (seqObj "list" out c) → StrsAre out.toList ys → ys.Perm l → sortedS ys = true → Q (.ref p) s') : wpAny (model P w) A (call (.builtin "sorted") [.ref a]) Q E s := by
  obtain ⟨⟨es, ep, t⟩, ho, F, W⟩ := T.ex
  have esz : es.size = l.length := F.sz
  refine Calls.call_function_entry kind_sorted plain_sorted entry_sorted (args_sorted1 _) ?_
  unfold Builtin.«sorted»
  refine wpAny_bind (m := checkCount "sorted" 1 1 _) (wpAny_pure ?_)
  refine wpAny_bind (collect_set (A := A.in1) nh ⟨_, ho, rfl, rfl⟩ F.fit (by rw [esz]; unfold scanBound; omega) W.ris W.led fun s1 vs kp1 sz1 g1 o1 pm => ?_)
  have vl : vs.length = l.length := by rw [pm.length_eq, List.length_map, Array.length_toList, esz]
  have hS : StrsAre vs (vs.map strOf) := strsAre_map vs fun v hv => by
    obtain ⟨e, he, q⟩ := List.mem_map.mp (pm.mem_iff.mp hv)
    obtain ⟨⟨k, hk, _⟩, _⟩ := F.el e he
    obtain ⟨tk, ev⟩ := Value.isStrOf_shape (x := k) (v := e.2) hk
    exact ⟨k, tk, by rw [← q]; exact ev⟩
  have pk : (vs.map strOf).Perm l := perm_sub nd (fun k hk => by
    obtain ⟨e, he, q⟩ := (F.mem k).mp hk
    obtain ⟨tk, ev⟩ := Value.isStrOf_shape (x := k) (v := e.2) q
    refine List.mem_map.mpr ⟨e.2, pm.mem_iff.mpr (List.mem_map.mpr ⟨e, he, rfl⟩), ?_⟩
    rw [ev]
    rfl) (by rw [List.length_map]; exact vl)
  refine wpAny_bind (wpAny_newList ?_ (by rw [vl, sizeLine_eq]; omega))
  have hL : (s1.heap.push (seqObj "list" vs.toArray 0)).get? s1.heap.objs.size = some (seqObj "list" vs.toArray 0) := Heap.get?_push_size _ rfl
  refine wpAny_bind (wpAny_holding (wpAny_call_entry slot_list_sort ⟨_, hL, rfl⟩ entry_list_sort
    (list_sort_treeK strKind_oneLt (s := { s1 with heap := s1.heap.push (seqObj "list" vs.toArray 0) }) hL hS.keysOf (fun v1 v2 rest e => keyKind_strs (by rw [← e]; exact hS)) (by rw [vl]; exact h64) fun st hp hs => ⟨_, rfl, ?_⟩) (args_list_sort _)))
  obtain ⟨ys, y1, y2, y3⟩ := sorted_out_str hS hp hs
  obtain ⟨c, hc⟩ := sortedHeap_at (vs := vs) (out := (arrOf st).map (·.2)) hL
  refine wpAny_pure ⟨_, rfl, hQ _ s1.heap.objs.size _ c ys (fun b u e => ?_) g1 o1 sz1 hc y1 (y2.trans pk) y3⟩
  have q := kp1 b u e
  have lb := Heap.lt_size q
  show (sortedHeap (s1.heap.push (seqObj "list" vs.toArray 0)) s1.heap.objs.size vs ((arrOf st).map (·.2))).get? b = some u
  rw [sortedHeap_old (Nat.ne_of_lt lb) (by rw [size_push']; exact Nat.lt_succ_of_lt lb)]
  exact Heap.get?_push_of_some _ q
/-- a set of texts in the heap -/
def TxO (P : Program) (w : World) (a : Addr) (l : List Str) : HO := .ext fun h => TxAt P w h a l
theorem txO_new {H : Hp} {h : Heap} {a : Addr} {l : List Str} (T : TxAt P w h a l) : ObjOk P w H h a (TxO P w a l) := by
  obtain ⟨D, ho, _⟩ := T.ex
  exact ⟨T, ⟨_, ho⟩, fun h1 h2 x k => TxAt.keep x k⟩
end
section
open PySem.Spec PyProof.Rows PySem.Froz
variable {X : Cx}
def rSetTx (K : PySem.W.Frag) (P : Program) (w : World) : List V → Hp → VK → Prop := fun xs H Q => ∃ (q : Addr) (ns : List Str), xs = [V.ref q] ∧ SqL K H q (ns.map V.str) ∧ ns.length < 1000 ∧
  ∀ a l, H a = none → l.Nodup → (∀ k, k ∈ l ↔ k ∈ ns) → Q (.ref a) (upd H a (TxO P w a l))
theorem cr_setTx (hc : X.calm = true) : CallR X (.type "set") (rSetTx X.K X.prog X.w) := by
  intro pins s σ H xs us Q I r h
  obtain ⟨q, ns, rfl, hq, hz, k⟩ := h
  rw [Vals.ref1 r]
  obtain ⟨its, rv, pl, _⟩ := I.list hq
  have hn : H s.heap.objs.size = none := I.hok.fresh (Nat.le_refl _)
  refine tx_call (P := X.prog) (w := X.w) (I.ok.hd hc) pl.isList (xs := ns) (by simpa using strsAre_of rv) (by unfold scanBound; omega) fun h' tk l T nd mem kp => ?_
  exact ⟨.ref s.heap.objs.size, upd H s.heap.objs.size (TxO X.prog X.w s.heap.objs.size l), I.laid (t' := tk) kp (Nat.le_refl _) (txO_new T), rfl, k _ l hn nd mem⟩
def rSortTx (P : Program) (w : World) : List V → Hp → VK → Prop := fun vs H Q => ∃ (a : Addr) (l : List Str), vs = [V.ref a] ∧ H a = some (TxO P w a l) ∧ l.Nodup ∧ l.length < 64 ∧
  ∀ ys p, ys.Perm l → sortedS ys = true → H p = none → Q (.ref p) (upd H p (.lst (ys.map V.str)))
theorem cr_sortTx (hc : X.calm = true) : CallR X (.builtin "sorted") (rSortTx X.prog X.w) := by
  intro pins s σ H vs us Q I r h
  obtain ⟨a, l, rfl, ha, nd, h64, k⟩ := h
  have T : TxAt X.prog X.w s.heap a l := (I.hok a _ ha).1
  rw [Vals.ref1 r]
  refine tx_sorted T nd (I.ok.hd hc) h64 fun s1 p out c ys kp g o hp hg hy pm so => ?_
  have hlen : (ys.map V.str).length ≤ sizeLine := by rw [List.length_map, pm.length_eq, sizeLine_eq]; omega
  have hn : H p = none := I.hok.fresh hp
  have J : Inv X pins σ (upd H p (.lst (ys.map V.str))) { s with heap := s1.heap, gens := s1.gens, drawn := s1.drawn, toks := s1.toks } :=
    I.call (ch := []) (Un.laid kp hp hn) (I.hok.laid kp hp ⟨hlen, out.toList, c, vals_of_strs hy, hg⟩) (by rw [g]; exact I.bare) (fun _ z => nomatch z)
  have e : s1 = { s with heap := s1.heap, gens := s1.gens, drawn := s1.drawn, toks := s1.toks } := by
    cases s1
    cases s
    cases o
    rfl
  rw [e]
  exact ⟨.ref p, _, J, rfl, k ys p pm so hn⟩
end

section
open PySem.Spec PyProof.Rows PySem.Froz
variable {X : Cx} {P : Program} {w : World}
theorem cr_setTxP (hP : X.prog = P) (hw : X.w = w) (hc : X.calm = true) : CallR X (.type "set") (rSetTx X.K P w) := by
  subst hP
  subst hw
  exact cr_setTx hc
theorem cr_sortTxP (hP : X.prog = P) (hw : X.w = w) (hc : X.calm = true) : CallR X (.builtin "sorted") (rSortTx P w) := by
  subst hP
  subst hw
  exact cr_sortTx hc
end

/-! ### lists as data -/
theorem depthAll_le {k : Nat} : ∀ {xs : List PyData}, (∀ x ∈ xs, x.depth ≤ k) → PyData.depthAll xs ≤ k
  | [], _ => by unfold PyData.depthAll; exact Nat.zero_le _
  | x :: xs, h => by
    unfold PyData.depthAll
    exact Nat.max_le.mpr ⟨h x List.mem_cons_self, depthAll_le fun y hy => h y (List.mem_cons_of_mem _ hy)⟩
theorem depth_list {k : Nat} {xs : List PyData} (h : ∀ x ∈ xs, x.depth ≤ k) : (PyData.list xs).depth ≤ k + 1 := by
  unfold PyData.depth
  exact Nat.succ_le_succ (depthAll_le h)
theorem plainAll_of : ∀ {xs : List PyData}, (∀ x ∈ xs, x.plain = true) → PyData.plainAll xs = true
  | [], _ => rfl
  | x :: xs, h => by
    unfold PyData.plainAll
    rw [h x List.mem_cons_self, plainAll_of fun y hy => h y (List.mem_cons_of_mem _ hy)]
    rfl
theorem dpAll_of {K : PySem.W.Frag} {H : Hp} {α : Type} {f : α → V} {g : α → PyData} : ∀ {l : List α}, (∀ x ∈ l, Dp K H (f x) (g x)) → DpAll K H (l.map f) (l.map g)
  | [], _ => .nil
  | x :: l, h => .cons (h x List.mem_cons_self) (dpAll_of fun y hy => h y (List.mem_cons_of_mem _ hy))
/-- a list whose items are data -/
structure DL (K : PySem.W.Frag) (H : Hp) (v : V) (d : PyData) (k : Nat) : Prop where
  dp : Dp K H v d
  pl : d.plain = true
  de : d.depth ≤ k
theorem dl_strs {K : PySem.W.Frag} {H : Hp} {p : Addr} {ns : List Str} (h : H p = some (.lst (ns.map V.str))) : DL K H (.ref p) (.list (ns.map PyData.str)) 1 :=
  ⟨.lst (SqL.of h) (dpAll_of fun x _ => .str x), by unfold PyData.plain; exact plainAll_of fun x hx => by obtain ⟨y, _, rfl⟩ := List.mem_map.mp hx; rfl, depth_list fun x hx => by obtain ⟨y, _, rfl⟩ := List.mem_map.mp hx; exact Nat.le_refl _⟩
def pairD (p : Int × Int) : PyData := .tuple [.int p.1, .int p.2]
theorem dpAll_pairs {K : PySem.W.Frag} {H : Hp} : ∀ {bs : List Addr} {ps : List (Int × Int)}, All2 (fun b q => H b = some (.tup [.int q.1, .int q.2])) bs ps → DpAll K H (bs.map V.ref) (ps.map pairD)
  | [], [], _ => .nil
  | [], _ :: _, h => by cases h.1
  | _ :: _, [], h => by cases h.1
  | b :: bs, p :: ps, h => .cons (.tup (SqT.of (h.2 0 b p rfl rfl)) (.cons (.int _) (.cons (.int _) .nil))) (dpAll_pairs ⟨by have := h.1; simpa using this, fun i x y hx hy => h.2 (i + 1) x y hx hy⟩)
theorem dl_pairs {K : PySem.W.Frag} {H : Hp} {p : Addr} {bs : List Addr} {ps : List (Int × Int)} (h : H p = some (.lst (bs.map V.ref))) (h2 : All2 (fun b q => H b = some (.tup [.int q.1, .int q.2])) bs ps) : DL K H (.ref p) (.list (ps.map pairD)) 2 :=
  ⟨.lst (SqL.of h) (dpAll_pairs h2), by unfold PyData.plain; exact plainAll_of fun x hx => by obtain ⟨y, _, rfl⟩ := List.mem_map.mp hx; rfl, depth_list fun x hx => by obtain ⟨y, _, rfl⟩ := List.mem_map.mp hx; exact Nat.le_of_ble_eq_true rfl⟩
theorem dl_list3 {K : PySem.W.Frag} {H : Hp} {p : Addr} {a b c : V} {da db dc : PyData} {k : Nat} (h : H p = some (.lst [a, b, c])) (ha : DL K H a da k) (hb : DL K H b db k) (hc : DL K H c dc k) : DL K H (.ref p) (.list [da, db, dc]) (k + 1) :=
  ⟨.lst (SqL.of h) (.cons ha.dp (.cons hb.dp (.cons hc.dp .nil))), by unfold PyData.plain PyData.plainAll PyData.plainAll PyData.plainAll PyData.plainAll; rw [ha.pl, hb.pl, hc.pl]; rfl, depth_list fun x hx => by
    simp only [List.mem_cons, List.not_mem_nil, or_false] at hx
    rcases hx with rfl | rfl | rfl
    · exact ha.de
    · exact hb.de
    · exact hc.de⟩
theorem ne_dl {K : PySem.W.Frag} {H : Hp} {x y : V} {d : PyData} {k : Nat} {Q : VK} (hx : DL K H x d k) (hy : DL K H y d k) (hk : k ≤ 64) (h : Q (.bl false) H) : rNeP K x y H Q := neP_same hx.dp hy.dp hx.pl (Nat.le_trans hx.de hk) h
theorem eq_dl {K : PySem.W.Frag} {H : Hp} {x y : V} {d : PyData} {k : Nat} {Q : VK} (hx : DL K H x d k) (hy : DL K H y d k) (hk : k ≤ 64) (h : Q (.bl true) H) : rEqP K x y H Q := eqP_same hx.dp hy.dp hx.pl (Nat.le_trans hx.de hk) h

theorem inV_sts {ns : List Str} {x : Str} : inV (.str x) (ns.map V.str) = decide (x ∈ ns) := by
  unfold inV
  rw [List.any_map, List.any_eq, decide_eq_decide]
  constructor
  · rintro ⟨y, hy, h⟩
    have h : eqV (.str y) (.str x) = true := h
    have e : V.str y = V.str x := by simpa [eqV] using h
    rw [← V.str.inj e]
    exact hy
  · intro h
    exact ⟨x, h, by simp [eqV]⟩
theorem flat_strs (ns : List Str) : (ns.map V.str).all flatV = true := by
  rw [List.all_map, List.all_eq_true]
  intro x _
  rfl

/-- [k for k in range(n) if ..], its parts keep what stands -/
theorem lc_rangeF {n : Nat} {g : TG} {tt : TT} {te : TE} {vs : List Nat} {σ : L2.St} {H1 : Hp} {D : Addr} {Qd : Hp → Prop} (f : Nat → Bool) (hn : n ≤ 1000) (hD : H1 D = none)
    (hs : ∀ i H' (N : VK) (M : Hp → Prop), i < n → Same H1 H' → (f i = true → ∀ H4, Same H' H4 → N (.int (0 + (i : Int))) H4) → (f i = false → ∀ H4, Same H' H4 → M H4) → g (V.int (0 + (i : Int))) (wipe σ vs) H' fun σ2 H2 => wipe σ2 vs = wipe σ vs ∧ tt σ2 H2 fun b H3 => if b = true then te σ2 H3 N else M H3)
    (hd : ∀ H', Same H1 H' → H' D = some (.lst (((List.range n).filter f).map fun i : Nat => V.int (i : Int))) → Qd H') :
    ∃ W : Nat → Nat → Hp → Prop, (∃ m, W 0 m (upd H1 D (.lst []))) ∧ ∀ i m H, W i m H →
      ((Itr 0 n).stop i H ∧ Qd H) ∨ ((Itr 0 n).go i H ∧ ∃ Nx : Hp → Prop, (∀ H', Nx H' → ∃ m', m' < m ∧ W (i + 1) m' H') ∧ ∀ x H', (Itr 0 n).yld i H x H' → g x (wipe σ vs) H' fun σ2 H2 => wipe σ2 vs = wipe σ vs ∧ tt σ2 H2 fun b H3 =>
        if b = true then te σ2 H3 fun y H4 => ∃ acc, H4 D = some (.lst acc) ∧ acc.length < sizeLine ∧ Nx (upd H4 D (.lst (acc ++ [y]))) else Nx H3) := by
  refine lc_range (lo := 0) (fun i H' => Wd (Same H1 H' ∧ H' D = some (.lst (((List.range i).filter f).map fun i : Nat => V.int (i : Int))))) ⟨Same.new hD, upd_same⟩ ?_ (fun H' h => hd H' h.ok.1 h.ok.2)
  rintro i H' hi ⟨s, hd'⟩
  refine hs i H' _ _ hi s (fun hf H4 s4 => ⟨_, s4 _ _ hd', ?_, Same.at_new hD (s.trans s4), ?_⟩) (fun hf H4 s4 => ⟨s.trans s4, ?_⟩)
  · rw [List.length_map]
    have := List.length_filter_le f (List.range i)
    rw [List.length_range] at this
    exact Nat.lt_of_le_of_lt this (Nat.lt_of_lt_of_le (by omega : i < 1000) (by decide))
  · rw [upd_same, List.range_succ, List.filter_append, List.map_append, List.filter_cons_of_pos (by exact hf), Int.zero_add]
    rfl
  · rw [s4 _ _ hd', List.range_succ, List.filter_append, List.map_append, List.filter_cons_of_neg (by rw [hf]; decide), List.filter_nil, List.map_nil, List.append_nil]

/-! ### the law's own search for chains -/
/-- what the while still may take -/
def muT (n : Nat) (σ : L2.St) (_ : Hp) : Nat := match (show Option (Option V) from (show List (Option V) from σ)[4]?) with
  | some (some (V.int k)) => n - k.toNat
  | _ => 0
section
variable {P : Program} {w : World} {K : PySem.W.Frag} {mg : Str → Option Value} {base : Heap} {A : Ad}
def spLTells : Sp := fun vs H Q _ => ∃ (q : Addr) (ps : List (Str × Str)) (a b : Str), vs = [.ref q, .str a, .str b] ∧ PrsAt H q ps ∧ ps.length ≤ 60 ∧ ∀ H', Same H H' → Q (.bl (tlsB ps a b)) H'
theorem ok_l_tells (T : Txt K mg A) : FnOk P w K mg base CX0 1 A.l_tells A.fd_l_tells P_l_tells spLTells := by
  refine T.F_l_tells.ok sc_l_tells (fun vs H Q E h => ?_) (fun cdv Ar outer s H vs Q E hr h => ?_)
  · obtain ⟨q, ps, a, b, rfl, _⟩ := h
    rfl
  · obtain ⟨q, ps, a, b, rfl, hp, hl, k⟩ := h
    refine ⟨_, (pss_cons (ps_set (i := 3) sc_l_tells.nd rfl (Or.inl rfl) (pe_lst (pa_cons (pv 1) pa_nil)))
      (pss_cons (ps_set (i := 4) sc_l_tells.nd rfl (Or.inl rfl) pe_int)
      (pss_cons (ps_g (ps_while PassesOwn.never (pt_cmpR op_lt (pv 4) (pe_callB call_len_seq (by rfl) T.z_len (by decide +kernel) (pa_cons (pv 3) pa_nil)) (nomark _)) (pss_cons (ps_g (ps_for PassesOwn.never rfl (pi_list (pv 0)) (pg_name (i := 5) sc_l_tells.nd rfl (Or.inl rfl)) (pss_one (ps_if (PW.pt (pw_and (pt_cmpR op_eq (pe_ix ix_tup (pv 5) pe_int (fun _ _ => rfl)) (pe_ix ix_list (pv 3) (pv 4) (fun _ _ => rfl)) (nomark _)) (pw_and1 (pt_cmpR op_notIn_seq (pe_ix ix_tup (pv 5) pe_int (fun _ _ => rfl)) (pv 3) (by rfl))))) (pss_one (ps_expr (pe_bm PySem.F.plainAttrs_list PySem.F.slot_list_append PySem.F.type_list_append mt_append (pv 3) (pa_cons (pe_ix ix_tup (pv 5) pe_int (fun _ _ => rfl)) pa_nil)))) pss_nil))))
      (pss_one (ps_set (i := 4) sc_l_tells.nd rfl (Or.inl rfl) (pe_op op_add (pv 4) pe_int))))))
      (pss_one (ps_ret (pe_cmpR op_in_seq (pv 2) (pv 3) (by rfl))))))), ?_⟩
    obtain ⟨ts, hq, ht⟩ := id hp
    refine ⟨_, rfl, (by show 1 ≤ sizeLine; decide), fun f hf => ?_⟩
    have s0 := Same.new (o := .lst [V.str a]) hf
    have hf0 : (upd H f (.lst [V.str a])) f = some (.lst [V.str a]) := upd_same
    generalize upd H f (.lst [V.str a]) = H0 at *
    refine ⟨while_by (fun σ' H' => Wd (∃ (fl : List Str) (n : Nat) (o5 : Option V), σ' = [some (.ref q), some (.str a), some (.str b), some (.ref f), some (.int n), o5] ∧ Same H H' ∧ H' f = some (.lst (fl.map V.str)) ∧ Fnd ps a fl ∧ Clo ps fl n ∧ n ≤ fl.length)) (muT (ps.length + 1))
      ⟨[a], 0, none, rfl, s0, hf0, Fnd.init ps a, (fun j x hj => by omega), Nat.zero_le _⟩ ?_ ?_⟩
    · rintro σ' H1 ⟨fl, n, o5, rfl, s1, hf1, F, C, hn⟩
      have fle := F.len
      refine ⟨_, rfl, _, rfl, f, _, rfl, .inl (SqL.of hf1), _, _, rfl, rfl, _, rfl, if_dec (fun e => ?_) (fun e => ?_)⟩
      · rw [List.length_map] at e
        have hn1 : n < fl.length := by omega
        obtain ⟨x, hx⟩ : ∃ x, fl[n]? = some x := ⟨_, List.getElem?_eq_getElem hn1⟩
        refine ⟨⟨_, rfl, q, rfl, ⟨_, SqL.of (s1 _ _ hq)⟩, for_list (xs := ts.map V.ref) (fun i σ' H' => Wd (∃ (fl : List Str) (o5 : Option V), σ' = [some (.ref q), some (.str a), some (.str b), some (.ref f), some (.int n), o5] ∧ Same H H' ∧ H' f = some (.lst (fl.map V.str)) ∧ Fnd ps a fl ∧ Clo ps fl n ∧ n < fl.length ∧ fl[n]? = some x ∧ ∀ p ∈ ps.take i, p.1 = x → p.2 ∈ fl))
          ⟨fl, o5, rfl, s1, hf1, F, C, hn1, hx, fun p z => by cases z⟩ ?_ ?_ ?_⟩⟩
        · rintro i σ' H' _ ⟨fl, o5, rfl, s', _⟩
          exact SqL.of (s' _ _ hq)
        · rintro i y σ' H2 hi ⟨fl, o5, rfl, s2, hf2, F, C, hn1, hx, hd⟩
          rw [List.getElem?_map] at hi
          obtain ⟨t, hti, rfl⟩ := Option.map_eq_some_iff.mp hi
          have hil : i < ps.length := by rw [← ht.1]; exact (List.getElem?_eq_some_iff.mp hti).1
          obtain ⟨p, hpi⟩ : ∃ p, ps[i]? = some p := ⟨_, List.getElem?_eq_getElem hil⟩
          have htp := ht.2 i t p hti hpi
          have hxv : (fl.map V.str)[n]? = some (.str x) := by rw [List.getElem?_map, hx]; rfl
          have fle := F.len
          dsimp only [gName, List.set]
          refine tIf_of (p := p.1 = x ∧ p.2 ∉ fl) (fun R ry rn => ?_) (fun H6 s6 yes => ?_) (fun H6 s6 no => ?_)
          · refine ⟨_, rfl, t, _, _, _, rfl, rfl, SqT.of (s2 _ _ htp), rfl, _, rfl, _, rfl, f, _, _, _, rfl, rfl, SqL.of hf2, atI_nat hxv, rfl, _, rfl, if_dec (fun e1 => ?_) (fun e1 => rn _ (Same.refl _) fun z => e1 (by rw [z.1]))⟩
            refine ⟨_, rfl, t, _, _, _, rfl, rfl, SqT.of (s2 _ _ htp), rfl, _, rfl, f, _, rfl, .inl (SqL.of hf2), rfl, flat_strs fl, _, rfl, ?_⟩
            show R (!inV (.str p.2) (fl.map V.str)) _
            rw [inV_sts]
            by_cases c : p.2 ∈ fl
            · rw [decide_eq_true c]
              exact rn _ (Same.refl _) fun z => z.2 c
            · rw [decide_eq_false c]
              exact ry _ (Same.refl _) ⟨V.str.inj e1, c⟩
          · have hf6 := s6 _ _ hf2
            refine ⟨_, rfl, .inl ⟨rfl, _, SqL.of hf6⟩, _, rfl, t, _, _, _, rfl, rfl, SqT.of (s6 _ _ (s2 _ _ htp)), rfl, f, _, _, rfl, rfl, hf6, ?_, fl ++ [p.2], _, rfl, Same.at_new hf (s2.trans s6), ?_, ?_, C.app (by omega), ?_, ?_, ?_⟩
            · rw [List.length_map]
              exact Nat.lt_of_le_of_lt (by omega : _ ≤ 61) (by decide)
            · rw [upd_same, List.map_append]
              rfl
            · have := F.step (p := p) (x := x) (List.mem_of_getElem? hpi) (List.mem_of_getElem? hx)
              rw [show stepT x fl p = fl ++ [p.2] from if_pos yes] at this
              exact this
            · rw [List.length_append]
              omega
            · rw [List.getElem?_append_left hn1]
              exact hx
            · rw [take_more hpi]
              intro p' hp' e'
              rcases List.mem_append.mp hp' with hp' | hp'
              · exact List.mem_append_left _ (hd p' hp' e')
              · rw [List.mem_singleton] at hp'
                rw [hp']
                exact List.mem_append_right _ (List.mem_singleton.mpr rfl)
          · refine ⟨fl, _, rfl, s2.trans s6, s6 _ _ hf2, F, C, hn1, hx, ?_⟩
            rw [take_more hpi]
            intro p' hp' e'
            rcases List.mem_append.mp hp' with hp' | hp'
            · exact hd p' hp' e'
            · rw [List.mem_singleton] at hp'
              subst hp'
              exact Classical.not_not.mp fun z => no ⟨e', z⟩
        · rintro σ' H2 ⟨fl, o5, rfl, s2, hf2, F, C, hn1, hx, hd⟩
          rw [List.length_map, ht.1, List.take_length] at hd
          refine ⟨_, rfl, _, _, rfl, rfl, ⟨fl, n + 1, o5, rfl, s2, hf2, F, C.more hx fun y hy => hd (x, y) hy rfl, hn1⟩, ?_⟩
          have fle2 := F.len
          show ps.length + 1 - ((n : Int) + 1).toNat < ps.length + 1 - (n : Int).toNat
          omega
      · rw [List.length_map] at e
        have en : n = fl.length := by omega
        subst en
        refine ⟨_, rfl, _, rfl, f, _, rfl, .inl (SqL.of hf1), rfl, flat_strs fl, ?_⟩
        show Q (.bl (inV (.str b) (fl.map V.str))) H1
        rw [inV_sts, show decide (b ∈ fl) = tlsB ps a b from bool_iff (decide_eq_true_iff.trans (Clo.all F C)) tlsB_iff]
        exact k H1 s1
    · rintro σ' H' R R' hR ⟨x, hx, y, hy, c, zs, e0, hz, i, j, e1, e2, b1, eb, r⟩
      exact ⟨x, hx, y, hy, c, zs, e0, hz, i, j, e1, e2, b1, eb, hR _ _ r⟩
theorem PrsAt.kp {g l : Addr} {H H' : Hp} {q : Addr} {ps : List (Str × Str)} (h : PrsAt H q ps) (B : Bag H g l) (k : Kp g H H') (n : q ≠ g) : PrsAt H' q ps := by
  obtain ⟨ts, hq, ht⟩ := h
  obtain ⟨xs, hg⟩ := B.lst
  exact ⟨ts, k _ _ hq n, ht.mono fun _ _ z => k _ _ z (ne_of z hg (by intro y; cases y))⟩
theorem PrsAt.more {H : Hp} {p u : Addr} {ts : List Addr} {ps : List (Str × Str)} {s1 s2 : Str} (hp : H p = some (.lst (ts.map V.ref))) (ht : All2 (fun t p => H t = some (.tup [.str p.1, .str p.2])) ts ps) (hu : H u = none) :
    PrsAt (upd (upd H u (.tup [.str s1, .str s2])) p (.lst (ts.map V.ref ++ [.ref u]))) p (ps ++ [(s1, s2)]) := by
  have npu := ne_of_none hp hu
  refine ⟨ts ++ [u], by rw [upd_same, List.map_append]; rfl, All2.app ⟨ht.1, fun i t p2 a b => ?_⟩ (.one ?_)⟩
  · have z := ht.2 i t p2 a b
    show (upd (upd H u _) p _) t = _
    rw [upd_ne (ne_of z hp (by intro y; cases y)), upd_ne (ne_of_none z hu)]
    exact z
  · show (upd (upd H u _) p _) u = _
    rw [upd_ne npu.symm, upd_same]
theorem two_at {c : Int} (h0 : 0 ≤ c) (h2 : c < 2) : ∃ z : Int, atI [V.int 4, V.int 9] c = some (.int z) ∧ 0 < z ∧ z ≤ 9 := by
  have : c = 0 ∨ c = 1 := by omega
  rcases this with rfl | rfl
  · exact ⟨4, rfl, by decide, by decide⟩
  · exact ⟨9, rfl, by decide, by decide⟩
def spLPairs : Sp := fun vs H Q _ => ∃ (g l q : Addr) (ns : List Str), vs = [.ref g, .ref q] ∧ Bag H g l ∧ q ≠ g ∧ H q = some (.lst (ns.map V.str)) ∧ 1 ≤ ns.length ∧ ns.length ≤ 26 ∧
  ∀ (p : Addr) (ps : List (Str × Str)) (H' : Hp), H p = none → PrsAt H' p ps → ps.length ≤ 8 → (∀ z ∈ ps, z.1 ∈ ns ∧ z.2 ∈ ns) → Bag H' g l → Kp g H H' → Q (.ref p) H'
theorem ok_l_pairs (T : Txt K mg A) : FnOk P w K mg base CX0 3 A.l_pairs A.fd_l_pairs P_l_pairs spLPairs := by
  refine T.F_l_pairs.ok sc_l_pairs (fun vs H Q E h => ?_) (fun cdv Ar outer s H vs Q E hr h => ?_)
  · obtain ⟨g, l, q, ns, rfl, _⟩ := h
    rfl
  · obtain ⟨g, l, q, ns, rfl, hB, nq, hq, h1, h2, k⟩ := h
    refine ⟨_, (pss_cons (ps_set (i := 2) sc_l_pairs.nd rfl (Or.inl rfl) (pe_lst pa_nil))
      (pss_cons (ps_set (i := 3) sc_l_pairs.nd rfl (Or.inl rfl) (pe_op op_fdiv (pe_callB call_len_seq (by rfl) T.z_len (by decide +kernel) (pa_cons (pv 1) pa_nil)) pe_int))
      (pss_g (Evl.pss_cut (ps_set (i := 4) sc_l_pairs.nd rfl (Or.inl rfl) (pe_and (pe_cmpR op_gt (pv 3) pe_int (nomark _)) (pe_one (pe_cmpR op_eq (pe_call (ok_l_draw T) (hr.mono (by decide)) (by rfl) T.g__law_draw T.F_l_draw.kp T.b_l_draw .nil pass0 (pa_cons (pv 0) (pa_cons pe_int pa_nil))) pe_int (nomark _)))))
      (pss_cons (ps_g (ps_for PassesOwn.never rfl (pi_range1 rfl T.z_range (pa_cons (pe_call (ok_l_draw T) (hr.mono (by decide)) (by rfl) T.g__law_draw T.F_l_draw.kp T.b_l_draw .nil pass0 (pa_cons (pv 0) (pa_cons (pe_ix ix_list (pe_lst (pa_cons pe_int (pa_cons pe_int pa_nil))) (pe_call (ok_l_draw T) (hr.mono (by decide)) (by rfl) T.g__law_draw T.F_l_draw.kp T.b_l_draw .nil pass0 (pa_cons (pv 0) (pa_cons pe_int pa_nil))) (fun _ _ => rfl)) pa_nil))) pa_nil)) (pg_name (i := 5) sc_l_pairs.nd rfl (Or.inl rfl)) (pss_one (ps_if (pt_val (pv 4)) (pss_one (ps_expr (pe_bm PySem.F.plainAttrs_list PySem.F.slot_list_append PySem.F.type_list_append mt_append (pv 2) (pa_cons (pe_tup (pa_cons (pe_call (ok_l_pick T) (hr.mono (by decide)) (by rfl) T.g__law_pick T.F_l_pick.kp T.b_l_pick .nil pass0 (pa_cons (pv 0) (pa_cons (pe_slice sl_list (pv 1) po_none (po_some (pv 3))) pa_nil))) (pa_cons (pe_call (ok_l_pick T) (hr.mono (by decide)) (by rfl) T.g__law_pick T.F_l_pick.kp T.b_l_pick .nil pass0 (pa_cons (pv 0) (pa_cons (pe_slice sl_list (pv 1) (po_some (pv 3)) po_none) pa_nil))) pa_nil))) pa_nil)))) (pss_one (ps_expr (pe_bm PySem.F.plainAttrs_list PySem.F.slot_list_append PySem.F.type_list_append mt_append (pv 2) (pa_cons (pe_tup (pa_cons (pe_call (ok_l_pick T) (hr.mono (by decide)) (by rfl) T.g__law_pick T.F_l_pick.kp T.b_l_pick .nil pass0 (pa_cons (pv 0) (pa_cons (pv 1) pa_nil))) (pa_cons (pe_call (ok_l_pick T) (hr.mono (by decide)) (by rfl) T.g__law_pick T.F_l_pick.kp T.b_l_pick .nil pass0 (pa_cons (pv 0) (pa_cons (pv 1) pa_nil))) pa_nil))) pa_nil))))))))
      (pss_one (ps_ret (pv 2)))))))), ?_⟩
    refine ⟨Nat.zero_le _, fun p hp => ?_⟩
    have npg := hB.ne hp
    have B0 := hB.new (o := .lst []) hp
    have K0 := (Kp.refl g H).put (o := .lst []) hp
    have hq0 := Same.new (o := .lst []) hp _ _ hq
    have hp0 : (upd H p (.lst [])) p = some (.lst []) := upd_same
    generalize upd H p (.lst []) = H0 at *
    refine ⟨_, rfl, q, _, rfl, .inl (SqL.of hq0), _, _, rfl, rfl, ?_⟩
    rw [List.length_map]
    refine ⟨⟨by decide, by decide⟩, ?_⟩
    have eh : ((ns.length : Nat) : Int) / 2 = ((ns.length / 2 : Nat) : Int) := by omega
    refine ⟨⟨fun σ' H' => Wd (∃ c : Bool, σ' = [some (.ref g), some (.ref q), some (.ref p), some (.int ((ns.length / 2 : Nat) : Int)), some (.bl c), none] ∧ (c = true → 1 < ns.length / 2) ∧ H' q = some (.lst (ns.map V.str)) ∧ H' p = some (.lst []) ∧ Bag H' g l ∧ Kp g H H'), ?_, ?_⟩⟩
    · refine ⟨_, rfl, _, _, rfl, rfl, _, rfl, if_dec (fun e => ?_) (fun e => ?_)⟩
      · refine ⟨_, rfl, g, l, 3, rfl, B0, by decide, by decide, fun c H1 c0 c1 B1 K1 => ⟨rfl, ⟨decide (V.int c = V.int 0), rfl, (fun _ => by omega), K1 _ _ hq0 nq, K1 _ _ hp0 npg.1, B1, K0.trans K1⟩⟩⟩
      · exact ⟨false, rfl, (fun z => by cases z), hq0, hp0, B0, K0⟩
    · rintro σ' H1 ⟨c, rfl, hc, hq1, hp1, B1, K1⟩
      refine ⟨⟨_, rfl, (by show 2 ≤ sizeLine; decide), fun a ha => ?_⟩⟩
      have B2 := B1.new (o := .lst [.int 4, .int 9]) ha
      have K2 := (Kp.refl g H1).put (o := .lst [.int 4, .int 9]) ha
      refine ⟨_, rfl, g, l, 2, rfl, B2, by decide, by decide, fun c3 H3 d0 d1 B3 K3 => ?_⟩
      obtain ⟨z, ez, z0, z9⟩ := two_at d0 d1
      have ha3 := K3 _ _ (upd_same (H := H1) (a := a) (o := .lst [.int 4, .int 9])) (B1.ne ha).1
      refine ⟨a, _, _, _, rfl, rfl, SqL.of ha3, ez, g, l, z, rfl, B3, z0, lt_pow (a := 5) (by omega) (by decide), fun c4 H4 e0 e1 B4 K4 => ?_⟩
      have K14 := K2.trans (K3.trans K4)
      have hq4 := K14 _ _ hq1 nq
      have hp4 := K14 _ _ hp1 npg.1
      have K04 := K1.trans K14
      refine ⟨_, rfl, by omega, by omega, for_range (lo := 0) (n := c4.toNat) (fun i σ' H' => Wd (∃ (ps : List (Str × Str)) (o5 : Option V), σ' = [some (.ref g), some (.ref q), some (.ref p), some (.int ((ns.length / 2 : Nat) : Int)), some (.bl c), o5] ∧ PrsAt H' p ps ∧ ps.length = i ∧ (∀ z ∈ ps, z.1 ∈ ns ∧ z.2 ∈ ns) ∧ Bag H' g l ∧ Kp g H H' ∧ H' q = some (.lst (ns.map V.str))))
        ⟨[], none, rfl, ⟨[], hp4, .nil⟩, rfl, (fun z hz => by cases hz), B4, K04, hq4⟩ ?_ ?_⟩
      · rintro i σ' H5 hi ⟨ps, o5, rfl, hps, pl, pm, B5, K5, hq5⟩
        obtain ⟨ts, hp5, ht5⟩ := id hps
        have pl8 : ps.length < 9 := by omega
        have fin : ∀ (s1 s2 : Str) (H6 : Hp), s1 ∈ ns → s2 ∈ ns → Bag H6 g l → Kp g H5 H6 → 2 ≤ sizeLine ∧ ∀ u, H6 u = none → ∃ (l1 : Addr) (xs : List V) (y : V), V.ref p = .ref l1 ∧ [V.ref u] = [y] ∧ (upd H6 u (.tup [.str s1, .str s2])) l1 = some (.lst xs) ∧ xs.length < sizeLine ∧
            Wd (∃ (ps : List (Str × Str)) (o6 : Option V), [some (V.ref g), some (.ref q), some (.ref p), some (.int ((ns.length / 2 : Nat) : Int)), some (.bl c), some (.int (0 + (i : Int)))] = [some (.ref g), some (.ref q), some (.ref p), some (.int ((ns.length / 2 : Nat) : Int)), some (.bl c), o6] ∧ PrsAt (upd (upd H6 u (.tup [.str s1, .str s2])) l1 (.lst (xs ++ [y]))) p ps ∧ ps.length = i + 1 ∧ (∀ z ∈ ps, z.1 ∈ ns ∧ z.2 ∈ ns) ∧ Bag (upd (upd H6 u (.tup [.str s1, .str s2])) l1 (.lst (xs ++ [y]))) g l ∧ Kp g H (upd (upd H6 u (.tup [.str s1, .str s2])) l1 (.lst (xs ++ [y]))) ∧ (upd (upd H6 u (.tup [.str s1, .str s2])) l1 (.lst (xs ++ [y]))) q = some (.lst (ns.map V.str))) := by
          intro s1 s2 H6 m1 m2 B6 K6
          refine ⟨(by show 2 ≤ sizeLine; decide), fun u hu => ?_⟩
          obtain ⟨ts6, hp6, ht6⟩ := hps.kp B5 K6 npg.1
          have npu := ne_of_none hp6 hu
          have npq : q ≠ p := ne_of_none hq hp
          have nuq := ne_of_none (K6 _ _ hq5 nq) hu
          refine ⟨p, _, _, rfl, rfl, (by rw [upd_ne npu]; exact hp6), ?_, ps ++ [(s1, s2)], _, rfl, PrsAt.more hp6 ht6 hu, ?_, ?_, (B6.new hu).put npg, ((K5.trans K6).new hu).put hp, ?_⟩
          · rw [List.length_map, ht6.1]
            exact Nat.lt_trans pl8 (by decide)
          · rw [List.length_append, pl]
            rfl
          · intro z hz
            rcases List.mem_append.mp hz with hz | hz
            · exact pm z hz
            · rw [List.mem_singleton] at hz
              rw [hz]
              exact ⟨m1, m2⟩
          · rw [upd_ne npq, upd_ne nuq]
            exact K6 _ _ hq5 nq
        have slc : ∀ {zs : List Str} {v : V}, v ∈ zs.map V.str → (∀ z ∈ zs, z ∈ ns) → ∃ s1, v = .str s1 ∧ s1 ∈ ns := by
          intro zs v hv hz
          obtain ⟨s1, h1, rfl⟩ := List.mem_map.mp hv
          exact ⟨s1, rfl, hz _ h1⟩
        refine ⟨_, rfl, _, rfl, if_bl (fun ec => ?_) (fun ec => ?_)⟩
        · have h2 := hc ec
          have e1 : cutV (ns.map V.str) none (some ((ns.length / 2 : Nat) : Int)) = (ns.take (ns.length / 2)).map V.str := by
            rw [cutV_take (by rw [List.length_map]; omega), List.map_take]
          have e2 : cutV (ns.map V.str) (some ((ns.length / 2 : Nat) : Int)) none = (ns.drop (ns.length / 2)).map V.str := by
            rw [cutV_drop (by rw [List.length_map]; omega), List.map_drop]
          refine ⟨_, rfl, .inl ⟨rfl, _, SqL.of hp5⟩, _, rfl, _, rfl, _, rfl, _, rfl, q, _, rfl, SqL.of hq5, fun a1 ha1 => ?_⟩
          rw [e1]
          have sa := Same.new (o := .lst ((ns.take (ns.length / 2)).map V.str)) ha1
          refine ⟨g, l, a1, _, rfl, B5.keep sa, (B5.ne ha1).1, upd_same, by rw [List.length_map, List.length_take]; omega, by rw [List.length_map, List.length_take]; omega, fun v1 H6 v1m B6 K6 => ?_⟩
          have hq6 := K6 _ _ (sa _ _ hq5) nq
          refine ⟨_, rfl, _, rfl, _, rfl, _, rfl, q, _, rfl, SqL.of hq6, fun a2 ha2 => ?_⟩
          rw [e2]
          have sb := Same.new (o := .lst ((ns.drop (ns.length / 2)).map V.str)) ha2
          refine ⟨g, l, a2, _, rfl, B6.keep sb, (B6.ne ha2).1, upd_same, by rw [List.length_map, List.length_drop]; omega, by rw [List.length_map, List.length_drop]; omega, fun v2 H7 v2m B7 K7 => ?_⟩
          obtain ⟨s1, rfl, m1⟩ := slc v1m fun _ z => List.mem_of_mem_take z
          obtain ⟨s2, rfl, m2⟩ := slc v2m fun _ z => List.mem_of_mem_drop z
          exact fin s1 s2 H7 m1 m2 B7 ((Kp.same sa).trans (K6.trans ((Kp.same sb).trans K7)))
        · refine ⟨_, rfl, .inl ⟨rfl, _, SqL.of hp5⟩, _, rfl, _, rfl, g, l, q, _, rfl, B5, nq, hq5, by rw [List.length_map]; omega, by rw [List.length_map]; omega, fun v1 H6 v1m B6 K6 => ?_⟩
          have hq6 := K6 _ _ hq5 nq
          refine ⟨_, rfl, _, rfl, g, l, q, _, rfl, B6, nq, hq6, by rw [List.length_map]; omega, by rw [List.length_map]; omega, fun v2 H7 v2m B7 K7 => ?_⟩
          obtain ⟨s1, rfl, m1⟩ := slc v1m fun _ z => z
          obtain ⟨s2, rfl, m2⟩ := slc v2m fun _ z => z
          exact fin s1 s2 H7 m1 m2 B7 (K6.trans K7)
      · rintro σ' H5 ⟨ps, o5, rfl, hps, pl, pm, B5, K5, hq5⟩
        exact ⟨_, rfl, k p ps H5 hp hps (by omega) pm B5 K5⟩
def spLGroups : Sp := fun vs H Q _ => ∃ (q y : Addr) (ps : List (Str × Str)) (ys : List Str), vs = [.ref q, .ref y] ∧ PrsAt H q ps ∧ ps.length ≤ 60 ∧ H y = some (.lst (ys.map V.str)) ∧ ys.length ≤ 60 ∧ ∀ p H', Same H H' → H p = none → GrsAt H' p (eqGs ps ys ys) → Q (.ref p) H'
theorem ok_l_groups (T : Txt K mg A) : FnOk P w K mg base CX0 2 A.l_groups A.fd_l_groups P_l_groups spLGroups := by
  refine T.F_l_groups.ok sc_l_groups (fun vs H Q E h => ?_) (fun cdv Ar outer s H vs Q E hr h => ?_)
  · obtain ⟨q, y, ps, ys, rfl, _⟩ := h
    rfl
  · obtain ⟨q, y, ps, ys, rfl, hp, hl, hy, hyl, k⟩ := h
    refine ⟨_, (pss_cons (ps_set (i := 2) sc_l_groups.nd rfl (Or.inl rfl) (pe_lst pa_nil))
      (pss_cons (ps_g (ps_for PassesOwn.never rfl (pi_list (pv 1)) (pg_name (i := 3) sc_l_groups.nd rfl (Or.inr rfl)) (pss_cons (ps_g (ps_setLcV (i := 4) (own := [("_law_other", 5)]) rfl sc_l_groups.nd rfl rfl (sw_true rfl rfl rfl (by decide +kernel)) (pi_list (pv 1)) (blkOk_by (own := [("_law_other", 5)]) (N := N_l_groups) (sc := defScope s_l_groups) (by decide +kernel)) (fun _ _ _ _ _ => (pg_name (i := 5) sc_l_groups.nd rfl (Or.inl rfl))) (fun _ _ _ _ _ => (pts_one (PW.pt (pw_and (pt_val (pe_call (ok_l_tells T) (hr.mono (by decide)) (by rfl) T.g__law_tells T.F_l_tells.kp T.b_l_tells .nil pass0 (pa_cons (pv 0) (pa_cons (pv 3) (pa_cons (pv 5) pa_nil))))) (pw_and1 (pt_val (pe_call (ok_l_tells T) (hr.mono (by decide)) (by rfl) T.g__law_tells T.F_l_tells.kp T.b_l_tells .nil pass0 (pa_cons (pv 0) (pa_cons (pv 5) (pa_cons (pv 3) pa_nil)))))))))) (fun _ _ _ _ _ => (pv 5)) (fun _ _ _ _ _ => rfl) (fun _ _ _ _ _ => rfl) (fun _ _ _ _ _ => rfl)))
      (pss_one (ps_if (PW.pt (pw_and (pt_cmpR op_gt (pe_callB call_len_seq (by rfl) T.z_len (by decide +kernel) (pa_cons (pv 4) pa_nil)) pe_int (nomark _)) (pw_and1 (pt_cmpR op_eq (pe_ix ix_list (pv 4) pe_int (fun _ _ => rfl)) (pv 3) (nomark _))))) (pss_one (ps_expr (pe_bm PySem.F.plainAttrs_list PySem.F.slot_list_append PySem.F.type_list_append mt_append (pv 2) (pa_cons (pv 4) pa_nil)))) pss_nil)))))
      (pss_one (ps_ret (pv 2))))), ?_⟩
    refine ⟨Nat.zero_le _, fun gs hgs => ?_⟩
    have s0 := Same.new (o := .lst []) hgs
    have hg0 : (upd H gs (.lst [])) gs = some (.lst []) := upd_same
    generalize upd H gs (.lst []) = H0 at *
    refine ⟨⟨_, rfl, y, rfl, ⟨_, SqL.of (s0 _ _ hy)⟩, for_list (xs := ys.map V.str) (fun i σ' H' => Wd (∃ (o3 o4 : Option V) (bs : List Addr), σ' = [some (.ref q), some (.ref y), some (.ref gs), o3, o4, none] ∧ Same H H' ∧ H' gs = some (.lst (bs.map V.ref)) ∧ gs ∉ bs ∧ bs.Nodup ∧ All2 (fun b g => H' b = some (.lst (g.map V.str))) bs (eqGs ps ys (ys.take i))))
      ⟨none, none, [], rfl, s0, hg0, by simp, .nil, .nil⟩ ?_ ?_ ?_⟩⟩
    · rintro i σ' H' _ ⟨o3, o4, bs, rfl, s', _⟩
      exact SqL.of (s' _ _ hy)
    · rintro i z σ' H2 hi ⟨o3, o4, bs, rfl, s2, hg2, g1, g2, g3⟩
      obtain ⟨n, hn, rfl⟩ := names_at hi
      refine ⟨⟨_, rfl, y, rfl, ⟨_, SqL.of (s2 _ _ hy)⟩, fun D hD => lc_filtM (K := K) V.str V.str (eqB ps n) (s2 _ _ hy) (by omega) hD ?_ ?_⟩⟩
      · intro m H' N M hm s' hyes hno
        have hp' := hp.keep (KpI.same (s2.trans s'))
        refine ⟨rfl, _, rfl, _, rfl, _, rfl, q, ps, n, m, rfl, hp', hl, fun H4 s4 => ⟨_, rfl, if_bl (fun e1 => ?_) (fun e1 => ?_)⟩⟩
        · have hp4 := hp'.keep (KpI.same s4)
          refine ⟨_, rfl, _, rfl, _, rfl, q, ps, m, n, rfl, hp4, hl, fun H5 s5 => ⟨_, rfl, if_bl (fun e2 => ?_) (fun e2 => ?_)⟩⟩
          · exact ⟨_, rfl, hyes (by unfold eqB; rw [e1, e2]; rfl) _ (s4.trans s5)⟩
          · exact hno (by unfold eqB; rw [e1, e2]; rfl) _ (s4.trans s5)
        · refine iteF ?_
          exact hno (by unfold eqB; rw [e1]; rfl) _ s4
      · intro H5 s5 hD5
        have hg5 := s5 _ _ hg2
        have g35 := g3.mono fun _ _ z => s5 _ _ z
        have nbD : ∀ b ∈ bs, b ≠ D := fun b hb => by
          obtain ⟨j, hj⟩ := List.mem_iff_getElem?.mp hb
          obtain ⟨z, _, hz⟩ := g3.get hj
          exact ne_of_none hz hD
        have ngD := ne_of_none hg2 hD
        have blen : bs.length ≤ 60 := by
          rw [g3.1]
          unfold eqGs
          rw [List.length_map]
          refine Nat.le_trans (List.length_filter_le _ _) ?_
          rw [List.length_take]
          omega
        dsimp only [gName, List.set]
        refine tIf_of (p := gooP ps ys n = true) (fun R ry rn => ?_) (fun H6 s6 yes => ?_) (fun H6 s6 no => ?_)
        · refine ⟨_, rfl, D, _, rfl, .inl (SqL.of hD5), _, _, rfl, rfl, _, rfl, if_dec (fun e1 => ?_) (fun e1 => rn _ (Same.refl _) fun z => e1 ?_)⟩
          · rw [List.length_map] at e1
            have l1 : 1 < (grpP ps ys n).length := by show 1 < (ys.filter (eqB ps n)).length; omega
            obtain ⟨h0, e0⟩ : ∃ h0, (grpP ps ys n)[0]? = some h0 := ⟨_, List.getElem?_eq_getElem (by omega)⟩
            have hv : ((ys.filter (eqB ps n)).map V.str)[0]? = some (.str h0) := by
              rw [List.getElem?_map]
              show ((grpP ps ys n)[0]?).map _ = _
              rw [e0]
              rfl
            refine ⟨_, rfl, D, _, 0, _, rfl, rfl, SqL.of hD5, atI_nat hv, _, rfl, rfl, _, rfl, ?_⟩
            have eg : gooP ps ys n = decide (h0 = n) := by
              unfold gooP
              rw [decide_eq_true l1, Bool.true_and, e0]
              exact decide_eq_decide.mpr ⟨fun z => Option.some.inj z, fun z => by rw [z]⟩
            by_cases c : h0 = n
            · rw [show decide (V.str h0 = V.str n) = true from decide_eq_true (by rw [c])]
              exact ry _ (Same.refl _) (by rw [eg]; exact decide_eq_true c)
            · rw [show decide (V.str h0 = V.str n) = false from decide_eq_false fun z => c (V.str.inj z)]
              exact rn _ (Same.refl _) (by rw [eg, decide_eq_false c]; decide)
          · unfold gooP at z
            rw [Bool.and_eq_true, decide_eq_true_iff] at z
            rw [List.length_map]
            have := z.1
            unfold grpP at this
            omega
        · have hg6 := s6 _ _ hg5
          refine ⟨_, rfl, .inl ⟨rfl, _, SqL.of hg6⟩, _, rfl, gs, _, _, rfl, rfl, hg6, ?_, _, _, bs ++ [D], rfl, Same.at_new hgs (s2.trans (s5.trans s6)), ?_, ?_, ?_, ?_⟩
          · rw [List.length_map]
            exact Nat.lt_of_le_of_lt blen (by decide)
          · rw [upd_same, List.map_append]
            rfl
          · exact fun z => (List.mem_append.mp z).elim g1 fun z => ngD (List.mem_singleton.mp z)
          · refine List.nodup_append.mpr ⟨g2, by simp, fun a ha b hb => ?_⟩
            rw [List.mem_singleton] at hb
            rw [hb]
            exact nbD a ha
          · rw [eqGs_more hn, if_pos yes]
            refine All2.app (all2_upd (g35.mono fun _ _ z => s6 _ _ z) fun b hb z => g1 (z ▸ hb)) (.one ?_)
            rw [upd_ne ngD.symm]
            exact s6 _ _ hD5
        · refine ⟨_, _, bs, rfl, s2.trans (s5.trans s6), s6 _ _ hg5, g1, g2, ?_⟩
          rw [eqGs_more hn, if_neg no, List.append_nil]
          exact g35.mono fun _ _ z => s6 _ _ z
    · rintro σ' H2 ⟨o3, o4, bs, rfl, s2, hg2, g1, g2, g3⟩
      rw [List.length_map, List.take_length] at g3
      exact ⟨_, rfl, k gs H2 s2 hgs ⟨bs, hg2, g1, g2, g3⟩⟩
def spLExtra : Sp := fun vs H Q _ => ∃ (q : Addr) (ps : List (Str × Str)), vs = [.ref q] ∧ PrsAt H q ps ∧ ps.length ≤ 30 ∧ ∀ p H', Same H H' → H p = none → H' p = some (.lst ((ndlP ps).map natV)) → Q (.ref p) H'
theorem ok_l_extra (T : Txt K mg A) : FnOk P w K mg base CX0 2 A.l_extra A.fd_l_extra P_l_extra spLExtra := by
  refine T.F_l_extra.ok sc_l_extra (fun vs H Q E h => ?_) (fun cdv Ar outer s H vs Q E hr h => ?_)
  · obtain ⟨q, ps, rfl, _⟩ := h
    rfl
  · obtain ⟨q, ps, rfl, hp, hl, k⟩ := h
    refine ⟨_, (pss_one (ps_ret (pe_g (pe_lcV (own := [("_law_k", 1)]) rfl sc_l_extra.nd (pi_range1 rfl T.z_range (pa_cons (pe_callB call_len_seq (by rfl) T.z_len (by decide +kernel) (pa_cons (pv 0) pa_nil)) pa_nil)) (blkOk_by (own := [("_law_k", 1)]) (N := N_l_extra) (sc := defScope s_l_extra) (by decide +kernel)) (fun _ _ _ _ _ => (pg_name (i := 1) sc_l_extra.nd rfl (Or.inl rfl))) (fun _ _ _ _ _ => (pts_one (pt_val (pe_call (ok_l_tells T) (hr.mono (by decide)) (by rfl) T.g__law_tells T.F_l_tells.kp T.b_l_tells .nil pass0 (pa_cons (pe_op op_cat (pe_slice sl_list (pv 0) po_none (po_some (pv 1))) (pe_slice sl_list (pv 0) (po_some (pe_op op_add (pv 1) pe_int)) po_none)) (pa_cons (pe_ix ix_tup (pe_ix ix_list (pv 0) (pv 1) (fun _ _ => rfl)) pe_int (fun _ _ => rfl)) (pa_cons (pe_ix ix_tup (pe_ix ix_list (pv 0) (pv 1) (fun _ _ => rfl)) pe_int (fun _ _ => rfl)) pa_nil))))))) (fun _ _ _ _ _ => (pv 1)) (fun _ _ _ _ _ => rfl) (fun _ _ _ _ _ => rfl) (fun _ _ _ _ _ => rfl))))), ?_⟩
    obtain ⟨ts, hq, ht⟩ := id hp
    have lts : ts.length ≤ 30 := by rw [ht.1]; exact hl
    refine ⟨⟨_, rfl, q, _, rfl, .inl (SqL.of hq), _, rfl, ?_, ?_, fun D hD => lc_rangeF (n := (ts.map V.ref).length) (ndlB ps) (by rw [List.length_map]; omega) hD ?_ ?_⟩⟩
    · rw [List.length_map]
      omega
    · rw [List.length_map]
      omega
    · intro i H1 N M hi s1 hyes hno
      rw [List.length_map] at hi
      rw [Int.zero_add] at hyes ⊢
      obtain ⟨t, hti⟩ : ∃ t, ts[i]? = some t := ⟨_, List.getElem?_eq_getElem hi⟩
      obtain ⟨p, hpi⟩ : ∃ p, ps[i]? = some p := ⟨_, List.getElem?_eq_getElem (by rw [← ht.1]; exact hi)⟩
      have htp := ht.2 i t p hti hpi
      have hq1 := s1 _ _ hq
      have htv : (ts.map V.ref)[i]? = some (.ref t) := by rw [List.getElem?_map, hti]; rfl
      have ec1 : cutV (ts.map V.ref) none (some (i : Int)) = (ts.take i).map V.ref := by
        rw [cutV_take (by rw [List.length_map]; omega), List.map_take]
      have ec2 : cutV (ts.map V.ref) (some ((i : Int) + 1)) none = (ts.drop (i + 1)).map V.ref := by
        rw [show (i : Int) + 1 = ((i + 1 : Nat) : Int) from rfl, cutV_drop (by rw [List.length_map]; omega), List.map_drop]
      refine ⟨rfl, _, rfl, _, rfl, _, rfl, q, _, rfl, SqL.of hq1, fun p1 hp1 => ?_⟩
      rw [ec1]
      have sa := Same.new (o := .lst ((ts.take i).map V.ref)) hp1
      have ha1 : (upd H1 p1 (.lst ((ts.take i).map V.ref))) p1 = some (.lst ((ts.take i).map V.ref)) := upd_same
      generalize upd H1 p1 (.lst ((ts.take i).map V.ref)) = H2 at *
      refine ⟨_, rfl, _, rfl, _, _, rfl, rfl, _, rfl, q, _, rfl, SqL.of (sa _ _ hq1), fun p2 hp2 => ?_⟩
      rw [ec2]
      have sb := Same.new (o := .lst ((ts.drop (i + 1)).map V.ref)) hp2
      have hb1 : (upd H2 p2 (.lst ((ts.drop (i + 1)).map V.ref))) p2 = some (.lst ((ts.drop (i + 1)).map V.ref)) := upd_same
      generalize upd H2 p2 (.lst ((ts.drop (i + 1)).map V.ref)) = H3 at *
      refine ⟨p1, p2, _, _, rfl, rfl, sb _ _ ha1, hb1, ?_, fun p3 hp3 => ?_⟩
      · rw [List.length_map, List.length_map, List.length_take, List.length_drop]
        exact Nat.le_trans (by omega : _ ≤ 60) (by decide)
      · rw [← List.map_append]
        have sc := Same.new (o := .lst ((ts.take i ++ ts.drop (i + 1)).map V.ref)) hp3
        have hc1 : (upd H3 p3 (.lst ((ts.take i ++ ts.drop (i + 1)).map V.ref))) p3 = some (.lst ((ts.take i ++ ts.drop (i + 1)).map V.ref)) := upd_same
        have s14 := sa.trans (sb.trans sc)
        have s4 := s1.trans s14
        have hq4 := s14 _ _ hq1
        generalize upd H3 p3 (.lst ((ts.take i ++ ts.drop (i + 1)).map V.ref)) = H4 at *
        have hpr : PrsAt H4 p3 (restP ps i) := ⟨_, hc1, ((ht.take i).app (ht.drop (i + 1))).mono fun _ _ z => s4 _ _ z⟩
        have rl : (restP ps i).length ≤ 60 := by
          unfold restP
          rw [List.length_append, List.length_take, List.length_drop]
          omega
        have nb := ndl_at hpi
        refine ⟨_, rfl, _, rfl, q, _, _, _, rfl, rfl, SqL.of hq4, atI_nat htv, t, _, _, _, rfl, rfl, SqT.of (s4 _ _ htp), rfl, _, rfl, _, rfl, q, _, _, _, rfl, rfl, SqL.of hq4, atI_nat htv, t, _, _, _, rfl, rfl, SqT.of (s4 _ _ htp), rfl, ?_⟩
        refine ⟨p3, restP ps i, p.1, p.2, rfl, hpr, rl, fun H5 s5 => ⟨_, rfl, if_bl (fun e1 => ?_) (fun e1 => ?_)⟩⟩
        · exact ⟨_, rfl, hyes (nb.trans e1) _ (s14.trans s5)⟩
        · exact hno (nb.trans e1) _ (s14.trans s5)
    · intro H1 s1 hD1
      rw [List.length_map, ht.1] at hD1
      exact k D H1 s1 hD hD1
end

/-! ### plain law for the chain; lists as data -/
theorem perm_lift {α β : Type} {f : α → β} {l1 l2 : List β} (h : l1.Perm l2) : ∀ zs : List α, zs.map f = l2 → ∃ ws : List α, ws.Perm zs ∧ ws.map f = l1 := by
  induction h with
  | nil => exact fun zs e => ⟨[], by rw [List.map_eq_nil_iff.mp e], rfl⟩
  | cons x _ ih =>
    intro zs e
    cases zs with
    | nil => cases e
    | cons z zs =>
      rw [List.map_cons, List.cons.injEq] at e
      obtain ⟨ws, p, e2⟩ := ih zs e.2
      exact ⟨z :: ws, p.cons z, by rw [List.map_cons, e.1, e2]⟩
  | swap x y l =>
    intro zs e
    match zs, e with
    | [], e => cases e
    | [a], e => cases e
    | a :: b :: zs, e =>
      rw [List.map_cons, List.map_cons, List.cons.injEq, List.cons.injEq] at e
      exact ⟨b :: a :: zs, List.Perm.swap a b zs, by rw [List.map_cons, List.map_cons, e.1, e.2.1, e.2.2]⟩
  | trans _ _ ih1 ih2 =>
    intro zs e
    obtain ⟨ws, p, e2⟩ := ih2 zs e
    obtain ⟨us, p2, e3⟩ := ih1 ws e2
    exact ⟨us, p2.trans p, e3⟩
theorem all2_perm {H : Hp} {ys : List V} {ts : List Addr} {qs : List (Str × Str)} (h : All2 (fun t p => H t = some (.tup [.str p.1, .str p.2])) ts qs) (hp : ys.Perm (ts.map V.ref)) :
    ∃ (us : List Addr) (ps : List (Str × Str)), ys = us.map V.ref ∧ ps.Perm qs ∧ All2 (fun t p => H t = some (.tup [.str p.1, .str p.2])) us ps := by
  obtain ⟨ws, p, e⟩ := perm_lift (f := fun z : Addr × (Str × Str) => V.ref z.1) hp (ts.zip qs) (by
    have e : (ts.zip qs).map (fun z => V.ref z.1) = ((ts.zip qs).map Prod.fst).map V.ref := by rw [List.map_map]; rfl
    rw [e, List.map_fst_zip (Nat.le_of_eq h.1)])
  refine ⟨ws.map Prod.fst, ws.map Prod.snd, by rw [List.map_map]; exact e.symm, ?_, by rw [List.length_map, List.length_map], fun i t q ht hq => ?_⟩
  · have := p.map Prod.snd
    rw [List.map_snd_zip (Nat.le_of_eq h.1.symm)] at this
    exact this
  · rw [List.getElem?_map] at ht hq
    obtain ⟨z, hz, rfl⟩ := Option.map_eq_some_iff.mp ht
    obtain ⟨z2, hz2, rfl⟩ := Option.map_eq_some_iff.mp hq
    rw [hz] at hz2
    cases hz2
    obtain ⟨j, hj⟩ := List.mem_iff_getElem?.mp (p.mem_iff.mp (List.mem_of_getElem? hz))
    obtain ⟨a, b⟩ := List.getElem?_zip_eq_some.mp hj
    exact h.2 j _ _ a b
def lkS (c : Nat) : Str := "link" ++ (⟨#[c]⟩ : Str)
def lettersT : Str := "abcdefghijklmnopqrst"
def lkL (n : Nat) : List Str := (lettersT.cps.toList.take n).map lkS
theorem lkL_len {n : Nat} (h : n ≤ 20) : (lkL n).length = n := by
  unfold lkL
  rw [List.length_map, List.length_take, show lettersT.cps.toList.length = 20 from by decide +kernel]
  omega
theorem lkL_take (n : Nat) : lkL n = (lkL 20).take n := by
  unfold lkL
  rw [← List.map_take, show lettersT.cps.toList.take 20 = lettersT.cps.toList from by decide +kernel]
theorem lkL_srt (n : Nat) : Srt (lkL n) := by
  have h1 : (lkL 20).Pairwise leS := sortedS_pw (by decide +kernel)
  have h2 : (lkL 20).Nodup := by decide +kernel
  rw [lkL_take]
  exact ⟨h1.sublist (List.take_sublist _ _), h2.sublist (List.take_sublist _ _)⟩
theorem atI_end {α : Type} {xs : List α} {v : α} {f : α → V} (h : xs[xs.length - 1]? = some v) : atI (xs.map f) (-1) = some (f v) := by
  have hl : 0 < xs.length := by have := (List.getElem?_eq_some_iff.mp h).1; omega
  have e : xs = xs.take (xs.length - 1) ++ [v] := by
    have := take_more h
    rw [show xs.length - 1 + 1 = xs.length by omega, List.take_length] at this
    exact this
  rw [e, List.map_append]
  exact atI_last _ _
theorem dpAll_all2 {K : PySem.W.Frag} {H : Hp} {k : Nat} : ∀ {bs : List Addr} {ds : List PyData}, All2 (fun b d => DL K H (.ref b) d k) bs ds → DpAll K H (bs.map V.ref) ds
  | [], [], _ => .nil
  | [], _ :: _, h => by cases h.1
  | _ :: _, [], h => by cases h.1
  | b :: bs, d :: ds, h => .cons (h.2 0 b d rfl rfl).dp (dpAll_all2 ⟨by have := h.1; simpa using this, fun i x y hx hy => h.2 (i + 1) x y hx hy⟩)
theorem all2_right {α β : Type} {R : α → β → Prop} {xs : List α} {ys : List β} (h : All2 R xs ys) {y : β} (hy : y ∈ ys) : ∃ x, R x y := by
  obtain ⟨i, hi⟩ := List.mem_iff_getElem?.mp hy
  have hil := (List.getElem?_eq_some_iff.mp hi).1
  rw [← h.1] at hil
  exact ⟨_, h.2 i _ _ (List.getElem?_eq_getElem hil) hi⟩
theorem dl_listOf {K : PySem.W.Frag} {H : Hp} {p : Addr} {bs : List Addr} {ds : List PyData} {k : Nat} (h : H p = some (.lst (bs.map V.ref))) (h2 : All2 (fun b d => DL K H (.ref b) d k) bs ds) : DL K H (.ref p) (.list ds) (k + 1) :=
  ⟨.lst (SqL.of h) (dpAll_all2 h2), by unfold PyData.plain; exact plainAll_of fun x hx => let ⟨_, z⟩ := all2_right h2 hx; z.pl, depth_list fun x hx => let ⟨_, z⟩ := all2_right h2 hx; z.de⟩
def strsD (g : List Str) : PyData := .list (g.map PyData.str)
theorem all2_mapR {α β γ : Type} {R : α → β → Prop} {S : α → γ → Prop} {f : β → γ} {xs : List α} {ys : List β} (h : All2 R xs ys) (k : ∀ x y, R x y → S x (f y)) : All2 S xs (ys.map f) :=
  ⟨by rw [List.length_map]; exact h.1, fun i x z hx hz => by
    rw [List.getElem?_map] at hz
    obtain ⟨y, hy, rfl⟩ := Option.map_eq_some_iff.mp hz
    exact k x y (h.2 i x y hx hy)⟩
theorem dl_grs {K : PySem.W.Frag} {H : Hp} {q : Addr} {gs : List (List Str)} (h : GrsAt H q gs) : DL K H (.ref q) (.list (gs.map strsD)) 2 := by
  obtain ⟨bs, h1, _, _, h4⟩ := h
  exact dl_listOf h1 (all2_mapR h4 fun b g z => dl_strs z)
theorem dl_nats {K : PySem.W.Frag} {H : Hp} {p : Addr} {ns : List Nat} (h : H p = some (.lst (ns.map natV))) : DL K H (.ref p) (.list (ns.map fun k : Nat => PyData.int (k : Int))) 1 :=
  ⟨.lst (SqL.of h) (dpAll_of (f := natV) (g := fun k : Nat => PyData.int (k : Int)) fun x _ => .int (x : Int)), by unfold PyData.plain; exact plainAll_of fun x hx => by obtain ⟨y, _, rfl⟩ := List.mem_map.mp hx; rfl, depth_list fun x hx => by obtain ⟨y, _, rfl⟩ := List.mem_map.mp hx; exact Nat.le_refl _⟩
/-- what Known.__init__ is wished for where an instance is made -/
theorem mk_known {CK x dx q : Addr} {H : Hp} {ps : List (Str × Str)} {R : VK} {E : XK} (hx : H x = none) (hd : H dx = none) (hp : PrsAt H q ps) (hl : ps.length ≤ 60) (hQ : ∀ H', Same H H' → KnIn CK H' x ps → (∀ C dx pq rest, H' x = some (.ins C dx (("pairs", V.ref pq) :: rest)) → H pq = none) → R .non H') :
    spKnownInit CK [.ref x, .ref q] (upd (upd H dx (.own x)) x (.ins CK dx [])) R E := by
  have s : Same H (upd (upd H dx (.own x)) x (.ins CK dx [])) := fun b o e => by
    rw [upd_ne (ne_of_none e hx), upd_ne (ne_of_none e hd)]
    exact e
  exact ⟨x, dx, q, ps, rfl, upd_same, hp.keep (KpI.same s), hl, fun H' k kn fr => hQ H' (fun b o e => k b o (s b o e) (ne_of_none e hx)) kn fun C dx pq rest e => Same.none s (fr C dx pq rest e)⟩
theorem KnIn.list {CK : Addr} {H : Hp} {x q : Addr} {ps : List (Str × Str)} {zs zs' : List V} (h : KnIn CK H x ps) (hq : H q = some (.lst zs)) (n : ∀ C dx pq rest, H x = some (.ins C dx (("pairs", V.ref pq) :: rest)) → pq ≠ q) : KnIn CK (upd H q (.lst zs')) x ps := by
  obtain ⟨dx, pq, d, hx, ⟨ts, hp, ht⟩, ad, hd, ab⟩ := h
  refine ⟨dx, pq, d, ?_, ⟨ts, ?_, ht.1, fun i t p a b => ?_⟩, ad, ?_, ab.inj, fun m hm => ?_, ab.nd⟩
  · rw [upd_ne (ne_of hx hq (by intro z; cases z))]
    exact hx
  · rw [upd_ne (n _ _ _ _ hx)]
    exact hp
  · have z := ht.2 i t p a b
    show (upd H q _) t = _
    rw [upd_ne (ne_of z hq (by intro y; cases y))]
    exact z
  · rw [upd_ne (ne_of hd hq (by intro z; cases z))]
    exact hd
  · have z := ab.at_ m hm
    rw [upd_ne (ne_of z hq (by intro y; cases y))]
    exact z
theorem DL.mono {K : PySem.W.Frag} {H : Hp} {v : V} {d : PyData} {k k' : Nat} (h : DL K H v d k) (l : k ≤ k') : DL K H v d k' := ⟨h.dp, h.pl, Nat.le_trans h.de l⟩
def prD (p : Str × Str) : PyData := .tuple [.str p.1, .str p.2]
theorem dl_pr {K : PySem.W.Frag} {H : Hp} {t : Addr} {p : Str × Str} (h : H t = some (.tup [.str p.1, .str p.2])) : DL K H (.ref t) (prD p) 1 := by
  refine ⟨.tup (SqT.of h) (.cons (.str _) (.cons (.str _) .nil)), ?_, ?_⟩
  · unfold prD PyData.plain PyData.plainAll PyData.plainAll PyData.plainAll
    rfl
  · unfold prD PyData.depth
    refine Nat.succ_le_succ (depthAll_le fun y hy => ?_)
    simp only [List.mem_cons, List.not_mem_nil, or_false] at hy
    rcases hy with rfl | rfl <;> exact Nat.le_refl _
theorem dl_prs {K : PySem.W.Frag} {H : Hp} {q : Addr} {ps : List (Str × Str)} (h : PrsAt H q ps) : DL K H (.ref q) (.list (ps.map prD)) 2 := by
  obtain ⟨ts, hq, ht⟩ := h
  exact dl_listOf hq (all2_mapR ht fun _ _ z => dl_pr z)
theorem KnIn.kp {CK : Addr} {H H' : Hp} {x g l : Addr} {ps : List (Str × Str)} (h : KnIn CK H x ps) (n : ∀ C dx pq rest, H x = some (.ins C dx (("pairs", V.ref pq) :: rest)) → pq ≠ g) (B : Bag H g l) (k : Kp g H H') : KnIn CK H' x ps := by
  obtain ⟨dx, pq, d, hx, ⟨ts, hp, ht⟩, ad, hd, ab⟩ := h
  obtain ⟨xs, hg⟩ := B.lst
  exact ⟨dx, pq, d, k _ _ hx (ne_of hx hg (by intro z; cases z)), ⟨ts, k _ _ hp (n _ _ _ _ hx), ht.mono fun _ _ z => k _ _ z (ne_of z hg (by intro y; cases y))⟩,
    ad, k _ _ hd (ne_of hd hg (by intro z; cases z)), ab.inj, fun m hm => k _ _ (ab.at_ m hm) (ne_of (ab.at_ m hm) hg (by intro z; cases z)), ab.nd⟩

/-! ### the chain and the ring -/
def spLChain : Sp := fun vs H Q _ => ∃ (g l : Addr), vs = [.ref g] ∧ Bag H g l ∧ ∀ H', Bag H' g l → Kp g H H' → Q (.bl true) H'
section
variable {P : Program} {w : World} {K : PySem.W.Frag} {mg : Str → Option Value} {base : Heap} {A : Ad}
theorem ok_l_chain_right (T : Txt K mg A) : FnOk P w K mg base CX0 4 A.l_chain_right A.fd_l_chain_right P_l_chain_right spLChain := by
  refine T.F_l_chain_right.ok sc_l_chain_right (fun vs H Q E h => ?_) (fun cdv Ar outer s H vs Q E hr h => ?_)
  · obtain ⟨g, l, rfl, _⟩ := h
    rfl
  · obtain ⟨g, l, rfl, hB, k⟩ := h
    refine ⟨_, (pss_cons (ps_set (i := 1) sc_l_chain_right.nd rfl (Or.inl rfl) pe_str)
      (pss_cons (ps_set (i := 2) sc_l_chain_right.nd rfl (Or.inr rfl) (pe_g (pe_lcV (own := [("_law_letter", 7)]) rfl sc_l_chain_right.nd (pi_str (pe_slice sl_str (pv 1) po_none (po_some (pe_op op_add pe_int (pe_call (ok_l_draw T) (hr.mono (by decide)) (by rfl) T.g__law_draw T.F_l_draw.kp T.b_l_draw .nil pass0 (pa_cons (pv 0) (pa_cons pe_int pa_nil))))))) (blkOk_by (own := [("_law_letter", 7)]) (N := N_l_chain_right) (sc := defScope s_l_chain_right) (by decide +kernel)) (fun _ _ _ _ _ => (pg_name (i := 7) sc_l_chain_right.nd rfl (Or.inl rfl))) (fun _ _ _ _ _ => pts_nil) (fun _ _ _ _ _ => (pe_op op_add_str pe_str (pv 7))) (fun _ _ _ _ _ => rfl) (fun _ _ _ _ _ => rfl) (fun _ _ _ _ _ => rfl))))
      (pss_cons (ps_set (i := 3) sc_l_chain_right.nd rfl (Or.inl rfl) (pe_call (ok_l_mixed T) (hr.mono (by decide)) (by rfl) T.g__law_mixed T.F_l_mixed.kp T.b_l_mixed .nil pass0 (pa_cons (pv 0) (pa_cons (pe_g (pe_lcV (own := [("_law_k", 5)]) rfl sc_l_chain_right.nd (pi_range1 rfl T.z_range (pa_cons (pe_op op_sub (pe_callB call_len_seq (by rfl) T.z_len (by decide +kernel) (pa_cons (pv 2) pa_nil)) pe_int) pa_nil)) (blkOk_by (own := [("_law_k", 5)]) (N := N_l_chain_right) (sc := defScope s_l_chain_right) (by decide +kernel)) (fun _ _ _ _ _ => (pg_name (i := 5) sc_l_chain_right.nd rfl (Or.inl rfl))) (fun _ _ _ _ _ => pts_nil) (fun _ _ _ _ _ => (pe_tup (pa_cons (pe_ix ix_list (pv 2) (pv 5) (fun _ _ => rfl)) (pa_cons (pe_ix ix_list (pv 2) (pe_op op_add (pv 5) pe_int) (fun _ _ => rfl)) pa_nil)))) (fun _ _ _ _ _ => rfl) (fun _ _ _ _ _ => rfl) (fun _ _ _ _ _ => rfl))) pa_nil))))
      (pss_cons (ps_set (i := 4) sc_l_chain_right.nd rfl (Or.inl rfl) (pe_make T.mk_Known (ok_m_Known_init T) (hr.mono (by decide)) (by rfl) T.g_Known T.b_m_Known_init .nil pass0 (pa_cons (pv 3) pa_nil)))
      (pss_cons (ps_g (ps_for PassesOwn.never rfl (pi_range1 rfl T.z_range (pa_cons (pe_callB call_len_seq (by rfl) T.z_len (by decide +kernel) (pa_cons (pv 2) pa_nil)) pa_nil)) (pg_name (i := 5) sc_l_chain_right.nd rfl (Or.inl rfl)) (pss_cons (ps_if (PW.pt (pw_or (pt_not (pt_val (pe_meth (pv 4) T.cl_Known T.m_Known_told (ok_m_Known_told T) (hr.mono (by decide)) T.b_m_Known_told .nil pass0 (pa_cons (pe_ix ix_list (pv 2) pe_int (fun _ _ => rfl)) (pa_cons (pe_ix ix_list (pv 2) (pv 5) (fun _ _ => rfl)) pa_nil))))) (pw_or1 (pt_not (pt_val (pe_meth (pv 4) T.cl_Known T.m_Known_told (ok_m_Known_told T) (hr.mono (by decide)) T.b_m_Known_told .nil pass0 (pa_cons (pe_ix ix_list (pv 2) (pv 5) (fun _ _ => rfl)) (pa_cons (pe_ix ix_list (pv 2) (pe_un un_neg pe_int) (fun _ _ => rfl)) pa_nil)))))))) (pss_one (ps_ret pe_bl)) pss_nil)
      (pss_cons (ps_if (PW.pt (pw_and (pt_cmpR op_gt (pv 5) pe_int (nomark _)) (pw_and1 (pt_val (pe_meth (pv 4) T.cl_Known T.m_Known_told (ok_m_Known_told T) (hr.mono (by decide)) T.b_m_Known_told .nil pass0 (pa_cons (pe_ix ix_list (pv 2) (pv 5) (fun _ _ => rfl)) (pa_cons (pe_ix ix_list (pv 2) pe_int (fun _ _ => rfl)) pa_nil))))))) (pss_one (ps_ret pe_bl)) pss_nil)
      (pss_one (ps_if (PW.pt (pw_and (pt_cmpR op_gt (pv 5) pe_int (nomark _)) (pw_and1 (pt_val (pe_meth (pv 4) T.cl_Known T.m_Known_told (ok_m_Known_told T) (hr.mono (by decide)) T.b_m_Known_told .nil pass0 (pa_cons (pe_ix ix_list (pv 2) (pv 5) (fun _ _ => rfl)) (pa_cons (pe_ix ix_list (pv 2) (pe_op op_sub (pv 5) pe_int) (fun _ _ => rfl)) pa_nil))))))) (pss_one (ps_ret pe_bl)) pss_nil))))))
      (pss_cons (ps_if (PW.pt (pw_or (pt_cmpR (op_neNil hr.units) (pe_meth0 (pv 4) T.cl_Known T.m_Known_needless (ok_m_Known_needless T) (hr.mono (by decide)) T.b_m_Known_needless .nil pass0) (pe_lst pa_nil) (nomark _)) (pw_or1 (pt_cmpR (op_neNil hr.units) (pe_meth0 (pv 4) T.cl_Known T.m_Known_equal_names (ok_m_Known_equal_names T) (hr.mono (by decide)) T.b_m_Known_equal_names .nil pass0) (pe_lst pa_nil) (nomark _))))) (pss_one (ps_ret pe_bl)) pss_nil)
      (pss_cons (ps_set (i := 6) sc_l_chain_right.nd rfl (Or.inl rfl) (pe_make T.mk_Known (ok_m_Known_init T) (hr.mono (by decide)) (by rfl) T.g_Known T.b_m_Known_init .nil pass0 (pa_cons (pe_op op_cat (pv 3) (pe_lst (pa_cons (pe_tup (pa_cons (pe_ix ix_list (pv 2) (pe_un un_neg pe_int) (fun _ _ => rfl)) (pa_cons (pe_ix ix_list (pv 2) pe_int (fun _ _ => rfl)) pa_nil))) pa_nil))) pa_nil)))
      (pss_one (ps_ret (pe_and (pe_cmpR (op_eqP hr.units) (pe_meth0 (pv 6) T.cl_Known T.m_Known_equal_names (ok_m_Known_equal_names T) (hr.mono (by decide)) T.b_m_Known_equal_names .nil pass0) (pe_lst (pa_cons (pv 2) pa_nil)) (nomark _)) (pe_and (pe_cmpR (op_eqNil hr.units) (pe_meth0 (pv 6) T.cl_Known T.m_Known_needless (ok_m_Known_needless T) (hr.mono (by decide)) T.b_m_Known_needless .nil pass0) (pe_lst pa_nil) (nomark _)) (pe_one (pe_meth (pv 6) T.cl_Known T.m_Known_told (ok_m_Known_told T) (hr.mono (by decide)) T.b_m_Known_told .nil pass0 (pa_cons (pe_ix ix_list (pv 2) (pe_un un_neg pe_int) (fun _ _ => rfl)) (pa_cons (pe_ix ix_list (pv 2) pe_int (fun _ _ => rfl)) pa_nil))))))))))))))), ?_⟩
    refine ⟨⟨_, rfl, _, rfl, g, l, 19, rfl, hB, by decide, by decide, fun c H1 c0 c1 B1 K1 => ?_⟩⟩
    obtain ⟨n, rfl⟩ := Int.eq_ofNat_of_zero_le c0
    have hn : n < 19 := by omega
    have ez : cutS (Str.ofString "abcdefghijklmnopqrst") none (some (2 + (n : Int))) = SX.S (lettersT.cps.toList.take (2 + n)) := by
      have e0 : Str.ofString "abcdefghijklmnopqrst" = SX.S lettersT.cps.toList := (SX.S_tl _).symm
      have e1 : lettersT.cps.toList.length = 20 := by decide +kernel
      rw [e0, cut_to (by omega) (by rw [e1]; omega), show (2 + (n : Int)).toNat = 2 + n by omega]
    have zsz : (SX.S (lettersT.cps.toList.take (2 + n))).cps.size = (lettersT.cps.toList.take (2 + n)).length := List.size_toArray
    refine ⟨_, _, rfl, rfl, _, rfl, _, rfl, (by decide +kernel), SX.S (lettersT.cps.toList.take (2 + n)), congrArg V.str ez, fun D hD => lc_it (walk_str (z := SX.S (lettersT.cps.toList.take (2 + n)))) (fun i H' => Wd (Same H1 H' ∧ H' D = some (.lst (((lkL (2 + n)).take i).map V.str)))) ⟨Same.new hD, upd_same⟩ (fun _ _ _ _ => trivial) ?_ ?_⟩
    · rintro i y H2 H3 hi ⟨s2, hD2⟩ ⟨rfl, cc, hc, rfl⟩
      have hc1 : (lettersT.cps.toList.take (2 + n))[i]? = some cc := by
        rw [← Array.getElem?_toList] at hc
        exact hc
      have hL : (lkL (2 + n))[i]? = some (lkS cc) := by
        unfold lkL
        rw [List.getElem?_map, hc1]
        rfl
      refine ⟨rfl, _, rfl, _, _, rfl, rfl, ?_, _, hD2, ?_, Same.at_new hD s2, ?_⟩
      · show (Str.ofString "link").length + 1 ≤ sizeLine
        decide +kernel
      · rw [List.length_map, List.length_take, lkL_len (by omega)]
        exact Nat.lt_of_le_of_lt (by omega : _ ≤ 60) (by decide)
      · rw [upd_same, take_more hL, List.map_append]
        rfl
    · rintro H2 ⟨s2, hD2⟩
      have elen := lkL_len (n := 2 + n) (by omega)
      have esz : (lkL (2 + n)).take (SX.S (lettersT.cps.toList.take (2 + n))).cps.size = lkL (2 + n) := by
        rw [zsz]
        refine List.take_of_length_le ?_
        unfold lkL
        rw [List.length_map]
        exact Nat.le_refl _
      rw [esz] at hD2
      have srt := lkL_srt (2 + n)
      have B2 := B1.keep s2
      have K2 := K1.trans (Kp.same s2)
      have nDg := B1.ne hD
      clear zsz esz ez
      have l2 : 2 ≤ (lkL (2 + n)).length := by rw [elen]; omega
      have l20 : (lkL (2 + n)).length ≤ 20 := by rw [elen]; omega
      clear elen
      generalize lkL (2 + n) = L at *
      clear hD s2 B1 K1 c0 c1 hn
      refine ⟨_, rfl, ⟨_, rfl, D, _, rfl, .inl (SqL.of hD2), _, _, rfl, rfl, _, rfl, ?_, ?_, fun D2 hD3 => lc_range (lo := 0) (fun i H' => Wd (Same H2 H' ∧ ∃ ts : List Addr, H' D2 = some (.lst (ts.map V.ref)) ∧ All2 (fun t p => H' t = some (.tup [.str p.1, .str p.2])) ts ((lkP L).take i))) ⟨Same.new hD3, [], upd_same, .nil⟩ ?_ ?_⟩⟩
      · rw [List.length_map]; omega
      · rw [List.length_map]; omega
      · rintro i H3 hi ⟨s3, ts, hts, A2⟩
        rw [List.length_map] at hi
        have hi1 : i + 1 < L.length := by omega
        have hp0 : L[i]? = some L[i] := List.getElem?_eq_getElem (by omega)
        have hp1 : L[i + 1]? = some L[i + 1] := List.getElem?_eq_getElem hi1
        have hlk : (lkP L)[i]? = some (L[i], L[i + 1]) := by
          unfold lkP
          refine List.getElem?_zip_eq_some.mpr ⟨hp0, ?_⟩
          rw [List.getElem?_drop, Nat.add_comm]
          exact hp1
        have hv0 : (L.map V.str)[i]? = some (.str L[i]) := by rw [List.getElem?_map, hp0]; rfl
        have hv1 : (L.map V.str)[i + 1]? = some (.str L[i + 1]) := by rw [List.getElem?_map, hp1]; rfl
        have hD3' := s3 _ _ hD2
        rw [Int.zero_add]
        refine ⟨rfl, _, rfl, _, rfl, D, _, _, _, rfl, rfl, SqL.of hD3', atI_nat hv0, _, rfl, _, rfl, _, _, rfl, rfl, D, _, _, _, rfl, rfl, SqL.of hD3', atI_nat (j := i + 1) hv1, (by show 2 ≤ sizeLine; decide), fun u hu => ?_⟩
        have A3 := A2.1
        rw [List.length_take] at A3
        refine ⟨_, (Same.new hu) _ _ hts, ?_, Same.at_new hD3 (s3.trans (Same.new hu)), ts ++ [u], ?_, ?_⟩
        · rw [List.length_map]
          exact Nat.lt_of_le_of_lt (by omega : _ ≤ 60) (by decide)
        · rw [upd_same, List.map_append]
          rfl
        · have nu := ne_of_none hts hu
          rw [take_more hlk]
          refine All2.app ⟨A2.1, fun j t p a b => ?_⟩ (.one ?_)
          · have z := A2.2 j t p a b
            show (upd (upd H3 u _) D2 _) t = _
            rw [upd_ne (ne_of z hts (by intro y; cases y)), upd_ne (ne_of_none z hu)]
            exact z
          · show (upd (upd H3 u _) D2 _) u = _
            rw [upd_ne nu.symm, upd_same]
      · rintro H3 ⟨s3, ts, hts, A2⟩
        have ll : (lkP L).take ((((L.map V.str).length : Nat) : Int) - 1).toNat = lkP L := by
          refine List.take_of_length_le ?_
          unfold lkP
          rw [List.length_zip, List.length_drop, List.length_map]
          omega
        rw [ll] at A2
        have lkl : (lkP L).length ≤ 20 := by
          unfold lkP
          rw [List.length_zip]
          omega
        refine ⟨g, l, D2, _, rfl, B2.keep s3, hts, by rw [List.length_map, A2.1]; omega, fun p ys H4 perm hp4 hp4' B4 K4 => ?_⟩
        obtain ⟨xs, hg⟩ := (B2.keep s3).lst
        obtain ⟨us, ps, rfl, pp, A4⟩ := all2_perm (A2.mono fun _ _ z => K4 _ _ z (ne_of z hg (by intro y; cases y))) perm
        have hps : PrsAt H4 p ps := ⟨us, hp4', A4⟩
        have K04 := K2.trans ((Kp.same s3).trans K4)
        have hD4 := K4 _ _ (s3 _ _ hD2) nDg.1
        have psl : ps.length ≤ 20 := by rw [pp.length_eq]; exact lkl
        clear hp4' A4 perm hts A2 ll s3 hD3 B2 K2 hD2 hg K4
        refine ⟨_, rfl, fun x dx hx hd ndx => mk_known hx hd hps (by omega) fun H5 s5 kn5 _ => ⟨rfl, ?_⟩⟩
        have K05 := K04.trans (Kp.same s5)
        have B5 := B4.keep s5
        have hD5 := s5 _ _ hD4
        have hps5 := hps.keep (KpI.same s5)
        clear hx hd ndx hps hD4 B4 K04
        have nd := srt.nd
        obtain ⟨fa, hfa⟩ : ∃ fa, L[0]? = some fa := ⟨_, List.getElem?_eq_getElem (by omega)⟩
        obtain ⟨la, hla⟩ : ∃ la, L[L.length - 1]? = some la := ⟨_, List.getElem?_eq_getElem (by omega)⟩
        have hp : ∀ p, p ∈ ps ↔ p ∈ lkP L := fun p => pp.mem_iff
        have hv0 : atI (L.map V.str) 0 = some (.str fa) := atI_nat (j := 0) (by rw [List.getElem?_map, hfa]; rfl)
        have hvl : atI (L.map V.str) (-1) = some (.str la) := atI_end hla
        have tT : ∀ {i j : Nat} {a b : Str}, L[i]? = some a → L[j]? = some b → i ≤ j → tlsB ps a b = true := fun ha hb hij => tlsB_iff.mpr ((chain_tls nd hp ha hb).mpr hij)
        have tF : ∀ {i j : Nat} {a b : Str}, L[i]? = some a → L[j]? = some b → ¬ i ≤ j → tlsB ps a b = false := fun ha hb hij => by
          cases e : tlsB ps _ _ with
          | false => rfl
          | true => exact (hij ((chain_tls nd hp ha hb).mp (tlsB_iff.mp e))).elim
        refine ⟨⟨_, rfl, D, _, rfl, .inl (SqL.of hD5), _, rfl, ?_, ?_, for_range (lo := 0) (n := (L.map V.str).length) (fun i σ' H' => Wd (∃ (o5 : Option V), σ' = [some (.ref g), some (.str (Str.ofString "abcdefghijklmnopqrst")), some (.ref D), some (.ref p), some (.ref x), o5, none, none] ∧ Same H5 H')) ⟨none, rfl, Same.refl _⟩ ?_ ?_⟩⟩
        · rw [List.length_map]; omega
        · rw [List.length_map]; omega
        · rintro i σ' H6 hi ⟨o5, rfl, s6⟩
          rw [List.length_map] at hi
          rw [Int.zero_add]
          obtain ⟨z, hz⟩ : ∃ z, L[i]? = some z := ⟨_, List.getElem?_eq_getElem hi⟩
          have hvi : atI (L.map V.str) (i : Int) = some (.str z) := atI_nat (by rw [List.getElem?_map, hz]; rfl)
          have ask : ∀ {H7 : Hp}, Same H6 H7 → ∃ dx fs, H7 x = some (.ins A.Known dx fs) ∧ List.lookup (Str.ofString "told") fs = none ∧ SqL K H7 D (L.map V.str) ∧ KnIn A.Known H7 x ps := fun {H7} s7 => by
            have kn7 := kn5.same (s6.trans s7)
            obtain ⟨dx, pq, d, hx, _⟩ := id kn7
            exact ⟨dx, _, hx, rfl, SqL.of ((s6.trans s7) _ _ hD5), kn7⟩
          dsimp only [gName, List.set]
          obtain ⟨dx6, fs6, hx6, lk6, hL6, kn6⟩ := ask (Same.refl _)
          refine tIf_of (p := False) (fun R ry rn => ?_) (fun _ _ z => z.elim) (fun H7 s7 _ => ?_)
          · refine ⟨_, rfl, x, dx6, _, rfl, hx6, lk6, _, rfl, D, _, _, _, rfl, rfl, hL6, hv0, _, rfl, _, rfl, D, _, _, _, rfl, rfl, hL6, hvi, x, ps, fa, z, rfl, kn6, fun H7 s7 => ⟨_, rfl, ?_⟩⟩
            rw [tT hfa hz (Nat.zero_le _)]
            obtain ⟨dx7, fs7, hx7, lk7, hL7, kn7⟩ := ask s7
            refine iteF ?_
            refine ⟨_, rfl, x, dx7, _, rfl, hx7, lk7, _, rfl, _, rfl, D, _, _, _, rfl, rfl, hL7, hvi, _, rfl, _, rfl, D, _, _, _, rfl, rfl, hL7, hvl, x, ps, z, la, rfl, kn7, fun H8 s8 => ⟨_, rfl, ?_⟩⟩
            rw [tT hz hla (by omega)]
            exact rn _ (s7.trans s8) id
          · dsimp only [tNext, tSeq]
            refine tIf_of (p := False) (fun R ry rn => ?_) (fun _ _ z => z.elim) (fun H8 s8 _ => ?_)
            · refine ⟨_, rfl, _, _, rfl, rfl, _, rfl, if_dec (fun e => ?_) (fun _ => rn _ (Same.refl _) id)⟩
              obtain ⟨dx7, fs7, hx7, lk7, hL7, kn7⟩ := ask s7
              refine ⟨_, rfl, x, dx7, _, rfl, hx7, lk7, _, rfl, _, rfl, D, _, _, _, rfl, rfl, hL7, hvi, _, rfl, D, _, _, _, rfl, rfl, hL7, hv0, x, ps, z, fa, rfl, kn7, fun H9 s9 => ⟨_, rfl, ?_⟩⟩
              rw [tF hz hfa (by omega)]
              exact rn _ s9 id
            · dsimp only [tNext]
              refine tIf_of (p := False) (fun R ry rn => ?_) (fun _ _ z => z.elim) (fun H9 s9 _ => ?_)
              · refine ⟨_, rfl, _, _, rfl, rfl, _, rfl, if_dec (fun e => ?_) (fun _ => rn _ (Same.refl _) id)⟩
                obtain ⟨dx7, fs7, hx7, lk7, hL7, kn7⟩ := ask (s7.trans s8)
                obtain ⟨zb, hzb⟩ : ∃ z, L[i - 1]? = some z := ⟨_, List.getElem?_eq_getElem (by omega)⟩
                have hvb : atI (L.map V.str) ((i : Int) - 1) = some (.str zb) := by
                  rw [show (i : Int) - 1 = ((i - 1 : Nat) : Int) by omega]
                  exact atI_nat (by rw [List.getElem?_map, hzb]; rfl)
                refine ⟨_, rfl, x, dx7, _, rfl, hx7, lk7, _, rfl, _, rfl, D, _, _, _, rfl, rfl, hL7, hvi, _, rfl, _, rfl, _, _, rfl, rfl, D, _, _, _, rfl, rfl, hL7, hvb, x, ps, z, zb, rfl, kn7, fun H9 s9 => ⟨_, rfl, ?_⟩⟩
                rw [tF hz hzb (by omega)]
                exact rn _ s9 id
              · exact ⟨_, rfl, s6.trans (s7.trans (s8.trans s9))⟩
        · rintro σ' H6 ⟨o5, rfl, s6⟩
          have kn6 := kn5.same s6
          obtain ⟨dx6, pq6, d6, hx6, _⟩ := id kn6
          dsimp only [tSeq]
          refine tIf_of (p := False) (fun R ry rn => ?_) (fun _ _ z => z.elim) (fun H7 s7 _ => ?_)
          · refine ⟨_, rfl, x, dx6, _, rfl, hx6, rfl, x, ps, rfl, kn6, by omega, fun q1 H7 s7 hq1 hq1' => ⟨Nat.zero_le _, fun e1 he1 => ?_⟩⟩
            have s8 := Same.new (o := .lst []) he1
            refine ⟨q1, e1, _, rfl, rfl, SqL.of (s8 _ _ hq1'), SqL.of upd_same, _, rfl, ?_⟩
            rw [chain_ndl nd pp]
            refine iteF ?_
            have kn8 := kn6.same (s7.trans s8)
            have hx8 := (s7.trans s8) _ _ hx6
            refine ⟨_, rfl, x, dx6, _, rfl, hx8, rfl, x, ps, rfl, kn8, by omega, fun ys q2 H9 nk s9 hq2 gr _ => ⟨Nat.zero_le _, fun e2 he2 => ?_⟩⟩
            rw [chain_eq nd pp nk.s.nd fun y hy => (lk_names l2).mp ?_] at gr
            · obtain ⟨bs, hb, _, _, hb2⟩ := gr
              have eb : bs = [] := List.eq_nil_of_length_eq_zero hb2.1
              subst eb
              have s10 := Same.new (o := .lst []) he2
              refine ⟨q2, e2, _, rfl, rfl, SqL.of (s10 _ _ hb), SqL.of upd_same, _, rfl, ?_⟩
              exact rn _ (s7.trans (s8.trans (s9.trans s10))) id
            · obtain ⟨p0, hp0, z0⟩ := above_ks.mp ((nk.m y).mp hy)
              exact ⟨p0, (hp p0).mp hp0, z0⟩
          · dsimp only [tNext]
            have s57 := s6.trans s7
            have hL7 : SqL (cxOf CX0 P w K mg base N_l_chain_right (Str.ofString "_law_chain_right") (defScope s_l_chain_right) A.l_chain_right cdv Ar outer s H E).nox.K H7 D (L.map V.str) := SqL.of (s57 _ _ hD5)
            obtain ⟨us, hp7, A7⟩ := hps5.keep (KpI.same s57)
            refine ⟨_, rfl, _, rfl, _, rfl, D, _, _, _, rfl, rfl, hL7, hvl, _, rfl, D, _, _, _, rfl, rfl, hL7, hv0, (by show 2 ≤ sizeLine; decide), fun u hu => ⟨(by show 1 ≤ sizeLine; decide), fun v hv => ?_⟩⟩
            have sa := Same.new (o := .tup [.str la, .str fa]) hu
            have hu1 : (upd H7 u (.tup [.str la, .str fa])) u = some (.tup [.str la, .str fa]) := upd_same
            have sb := Same.new (o := .lst [.ref u]) hv
            have hv1 : (upd (upd H7 u (.tup [.str la, .str fa])) v (.lst [.ref u])) v = some (.lst [.ref u]) := upd_same
            have hu2 := sb _ _ hu1
            have sab := sa.trans sb
            generalize upd (upd H7 u (.tup [.str la, .str fa])) v (.lst [.ref u]) = H8 at *
            refine ⟨p, v, _, _, rfl, rfl, sab _ _ hp7, hv1, ?_, fun r hr => ?_⟩
            · rw [List.length_map, A7.1]
              exact Nat.le_trans (by show ps.length + 1 ≤ 60; omega : _ ≤ 60) (by decide)
            have sc := Same.new (o := .lst (us.map V.ref ++ [.ref u])) hr
            have hr1 : (upd H8 r (.lst (us.map V.ref ++ [.ref u]))) r = some (.lst (us.map V.ref ++ [.ref u])) := upd_same
            have hu3 := sc _ _ hu2
            have s79 := sab.trans sc
            generalize upd H8 r (.lst (us.map V.ref ++ [.ref u])) = H9 at *
            have hpr : PrsAt H9 r (ps ++ [(la, fa)]) := ⟨us ++ [u], by rw [hr1, List.map_append]; rfl, (A7.mono fun _ _ z => s79 _ _ z).app (.one hu3)⟩
            have prl : (ps ++ [(la, fa)]).length ≤ 30 := by rw [List.length_append]; show ps.length + 1 ≤ 30; omega
            have pr : (ps ++ [(la, fa)]).Perm (lkP L ++ [(la, fa)]) := pp.append_right _
            have nL : NmsK (ps ++ [(la, fa)]) L := ⟨srt, fun n => ((ring_names l2 hla hfa pr).symm.trans above_ks.symm)⟩
            have en := ring_ndl nd l2 hla hfa pr
            have ee := ring_eq nd l2 hla hfa pr
            have et : tlsB (ps ++ [(la, fa)]) la fa = true := tlsB_iff.mpr (ring_tls hla hfa pr (List.mem_of_getElem? hla) (List.mem_of_getElem? hfa))
            clear sa sb sc hu hv hr hu1 hv1 hu2 hr1 hu3 sab
            generalize ps ++ [(la, fa)] = qs at *
            refine fun x2 dx2 hx2 hd2 _ => mk_known hx2 hd2 hpr (by omega) fun H10 s10 kn10 _ => ⟨rfl, ?_⟩
            obtain ⟨dx3, pq3, d3, hx3, _⟩ := id kn10
            refine ⟨_, rfl, x2, dx3, _, rfl, hx3, rfl, x2, qs, rfl, kn10, prl, fun ys q1 H11 nk s11 hq1 gr _ => ⟨_, rfl, (by show 1 ≤ sizeLine; decide), fun e1 he1 => ?_⟩⟩
            obtain rfl := nk.uniq nL
            rw [ee] at gr
            have s12 := Same.new (o := .lst [.ref D]) he1
            have sD := s57.trans (s79.trans (s10.trans (s11.trans s12)))
            have hD12 := sD _ _ hD5
            have gd := dl_grs (K := K) (gr.same s12)
            have ld : DL K _ (.ref e1) (.list [strsD ys]) 2 := dl_listOf (bs := [D]) (upd_same (H := H11) (a := e1) (o := .lst [.ref D])) (.one (dl_strs hD12))
            refine eq_dl gd ld (by decide) ⟨_, rfl, iteT ?_⟩
            have kn12 := kn10.same (s11.trans s12)
            have hx12 := (s11.trans s12) _ _ hx3
            refine ⟨_, rfl, x2, dx3, _, rfl, hx12, rfl, x2, qs, rfl, kn12, prl, fun q2 H13 s13 hq2 hq2' => ⟨Nat.zero_le _, fun e2 he2 => ?_⟩⟩
            have s14 := Same.new (o := .lst []) he2
            refine ⟨q2, e2, _, rfl, rfl, SqL.of (s14 _ _ hq2'), SqL.of upd_same, _, ?_, iteT ?_⟩
            · rw [en]
              rfl
            · have s134 := s13.trans s14
              have kn14 := kn12.same s134
              have hL14 : SqL (cxOf CX0 P w K mg base N_l_chain_right (Str.ofString "_law_chain_right") (defScope s_l_chain_right) A.l_chain_right cdv Ar outer s H E).nox.K _ D (ys.map V.str) := SqL.of (s134 _ _ hD12)
              refine ⟨_, rfl, x2, dx3, _, rfl, s134 _ _ hx12, rfl, _, rfl, _, rfl, D, _, _, _, rfl, rfl, hL14, hvl, _, rfl, D, _, _, _, rfl, rfl, hL14, hv0, x2, qs, la, fa, rfl, kn14, fun H15 s15 => ?_⟩
              rw [et]
              have sE := s57.trans (s79.trans (s10.trans (s11.trans (s12.trans (s134.trans s15)))))
              exact k H15 (B5.keep sE) (K05.trans (Kp.same sE))
end

/-! ### the law -/
def words4K : List (List Nat) := [[115, 105, 108, 107], [108, 111, 119], [104, 105, 103, 104], [116, 111, 108, 100]]
def IsL (H : Hp) (b : Addr) : Prop := ∃ z, H b = some (.lst z)
theorem IsL.up {H : Hp} {b c : Addr} {z : List V} (h : IsL H c) : IsL (upd H b (.lst z)) c := by
  by_cases e : c = b
  · subst e
    exact ⟨z, upd_same⟩
  · obtain ⟨y, hy⟩ := h
    exact ⟨y, by rw [upd_ne e]; exact hy⟩
theorem IsL.same {H H' : Hp} {c : Addr} (h : IsL H c) (s : Same H H') : IsL H' c := by
  obtain ⟨y, hy⟩ := h
  exact ⟨y, s _ _ hy⟩
theorem map_zip1 {ts : List Addr} {qs : List (Str × Str)} (h : ts.length = qs.length) : (ts.zip qs).map (fun z => V.ref z.1) = ts.map V.ref := by
  have e : (ts.zip qs).map (fun z => V.ref z.1) = ((ts.zip qs).map Prod.fst).map V.ref := by rw [List.map_map]; rfl
  rw [e, List.map_fst_zip (Nat.le_of_eq h)]
theorem map_zip2 {f : Str × Str → V} {ts : List Addr} {qs : List (Str × Str)} (h : ts.length = qs.length) : ((ts.zip qs).filter fun _ => true).map (fun z => f z.2) = qs.map f := by
  have e : (ts.zip qs).map (fun z => f z.2) = ((ts.zip qs).map Prod.snd).map f := by rw [List.map_map]; rfl
  rw [List.filter_eq_self.mpr fun _ _ => rfl, e, List.map_snd_zip (Nat.le_of_eq h.symm)]
theorem zip_at {H : Hp} {ts : List Addr} {qs : List (Str × Str)} (h : All2 (fun t p => H t = some (.tup [.str p.1, .str p.2])) ts qs) {z : Addr × (Str × Str)} (hz : z ∈ ts.zip qs) : H z.1 = some (.tup [.str z.2.1, .str z.2.2]) := by
  obtain ⟨j, hj⟩ := List.mem_iff_getElem?.mp hz
  obtain ⟨a, b⟩ := List.getElem?_zip_eq_some.mp hj
  exact h.2 j _ _ a b
section
variable {P : Program} {w : World} {K : PySem.W.Frag} {mg : Str → Option Value} {base : Heap} {A : Ad}
theorem ok_f_law (T : Txt K mg A) : FnOk P w K mg base CX0 5 A.f_law A.fd_f_law P_f_law (spLaw K) := by
  refine T.F_f_law.ok sc_f_law (fun vs H Q E h => ?_) (fun cdv Ar outer s H vs Q E hr h => ?_)
  · obtain ⟨a, ns, rfl, _⟩ := h
    rfl
  · obtain ⟨a, ns, rfl, hS, hlen, k⟩ := h
    refine ⟨_, (pss_cons (ps_set (i := 1) sc_f_law.nd rfl (Or.inl rfl) (pe_call (ok_l_bag T) (hr.mono (by decide)) (by rfl) T.g__law_bag T.F_l_bag.kp T.b_l_bag .nil pass0 (pa_cons (pv 0) pa_nil)))
      (pss_cons (ps_set (i := 2) sc_f_law.nd rfl (Or.inl rfl) (pe_call (ok_l_names T) (hr.mono (by decide)) (by rfl) T.g__law_names T.F_l_names.kp T.b_l_names .nil pass0 (pa_cons (pv 1) (pa_cons (pe_op op_add pe_int (pe_call (ok_l_draw T) (hr.mono (by decide)) (by rfl) T.g__law_draw T.F_l_draw.kp T.b_l_draw .nil pass0 (pa_cons (pv 1) (pa_cons pe_int pa_nil)))) (pa_cons (pe_lst (pa_cons pe_str (pa_cons pe_str (pa_cons pe_str (pa_cons pe_str pa_nil))))) pa_nil)))))
      (pss_cons (ps_set (i := 3) sc_f_law.nd rfl (Or.inl rfl) (pe_call (ok_l_pairs T) (hr.mono (by decide)) (by rfl) T.g__law_pairs T.F_l_pairs.kp T.b_l_pairs .nil pass0 (pa_cons (pv 1) (pa_cons (pv 2) pa_nil))))
      (pss_cons (ps_set (i := 4) sc_f_law.nd rfl (Or.inl rfl) (pe_callTy call_list_of (by rfl) T.z_list (by decide +kernel) (pa_cons (pv 3) pa_nil)))
      (pss_cons (ps_set (i := 5) sc_f_law.nd rfl (Or.inl rfl) (pe_make T.mk_Known (ok_m_Known_init T) (hr.mono (by decide)) (by rfl) T.g_Known T.b_m_Known_init .nil pass0 (pa_cons (pv 4) pa_nil)))
      (pss_cons (ps_if (pt_cmpR (op_neP hr.units) (pv 4) (pv 3) (nomark _)) (pss_one (ps_ret pe_bl)) pss_nil)
      (pss_cons (ps_expr (pe_bm0 PySem.F.plainAttrs_list PySem.F.slot_list_clear PySem.F.type_list_clear mt_clear (pv 4)))
      (pss_cons (ps_set (i := 6) sc_f_law.nd rfl (Or.inl rfl) (pe_callB (cr_sortTxP (P := P) (w := w) rfl rfl rfl) (by rfl) T.z_sorted (by decide +kernel) (pa_cons (pe_callTy (cr_setTxP (P := P) (w := w) rfl rfl rfl) (by rfl) T.z_set (by decide +kernel) (pa_cons (pe_op op_cat (pe_g (pe_lcV (own := [("_law_low", 9), ("_law_high", 10)]) rfl sc_f_law.nd (pi_list (pv 3)) (blkOk_by (own := [("_law_low", 9), ("_law_high", 10)]) (N := N_f_law) (sc := defScope s_f_law) (by decide +kernel)) (fun _ _ _ _ _ => (pg_tup (n := 2) rfl (pgs_cons (pg_name (i := 9) sc_f_law.nd rfl (Or.inl rfl)) (pgs_cons (pg_name (i := 10) sc_f_law.nd rfl (Or.inl rfl)) pgs_nil)))) (fun _ _ _ _ _ => pts_nil) (fun _ _ _ _ _ => (pv 9)) (fun _ _ _ _ _ => rfl) (fun _ _ _ _ _ => rfl) (fun _ _ _ _ _ => rfl))) (pe_g (pe_lcV (own := [("_law_low", 9), ("_law_high", 10)]) rfl sc_f_law.nd (pi_list (pv 3)) (blkOk_by (own := [("_law_low", 9), ("_law_high", 10)]) (N := N_f_law) (sc := defScope s_f_law) (by decide +kernel)) (fun _ _ _ _ _ => (pg_tup (n := 2) rfl (pgs_cons (pg_name (i := 9) sc_f_law.nd rfl (Or.inl rfl)) (pgs_cons (pg_name (i := 10) sc_f_law.nd rfl (Or.inl rfl)) pgs_nil)))) (fun _ _ _ _ _ => pts_nil) (fun _ _ _ _ _ => (pv 10)) (fun _ _ _ _ _ => rfl) (fun _ _ _ _ _ => rfl) (fun _ _ _ _ _ => rfl)))) pa_nil)) pa_nil)))
      (pss_cons (ps_set (i := 7) sc_f_law.nd rfl (Or.inl rfl) (pe_op op_cat (pv 2) (pe_lst (pa_cons pe_str pa_nil))))
      (pss_cons (ps_g (ps_for PassesOwn.never rfl (pi_range2 rfl T.z_range (pa_cons (pe_call (ok_l_draw T) (hr.mono (by decide)) (by rfl) T.g__law_draw T.F_l_draw.kp T.b_l_draw .nil pass0 (pa_cons (pv 1) (pa_cons pe_int pa_nil))) (pa_cons pe_int pa_nil))) (pg_name (i := 8) sc_f_law.nd rfl (Or.inl rfl)) (pss_one (ps_if (pt_cmpR op_eq (pe_op op_mod (pe_callTy call_int1 (by rfl) T.z_int (by decide +kernel) (pa_cons (pv 8) pa_nil)) pe_int) pe_int (nomark _)) (pss_one (ps_g (ps_for PassesOwn.never rfl (pi_list (pv 7)) (pg_name (i := 9) sc_f_law.nd rfl (Or.inl rfl)) (pss_one (ps_g (ps_for PassesOwn.never rfl (pi_list (pv 7)) (pg_name (i := 10) sc_f_law.nd rfl (Or.inl rfl)) (pss_one (ps_if (pt_cmpR op_ne (pe_meth (pv 5) T.cl_Known T.m_Known_told (ok_m_Known_told T) (hr.mono (by decide)) T.b_m_Known_told .nil pass0 (pa_cons (pv 9) (pa_cons (pv 10) pa_nil))) (pe_call (ok_l_tells T) (hr.mono (by decide)) (by rfl) T.g__law_tells T.F_l_tells.kp T.b_l_tells .nil pass0 (pa_cons (pv 3) (pa_cons (pv 9) (pa_cons (pv 10) pa_nil)))) (nomark _)) (pss_one (ps_ret pe_bl)) pss_nil)))))))) (pss_cons (ps_set (i := 11) sc_f_law.nd rfl (Or.inl rfl) (pe_lst (pa_cons (pe_meth0 (pv 5) T.cl_Known T.m_Known_needless (ok_m_Known_needless T) (hr.mono (by decide)) T.b_m_Known_needless .nil pass0) (pa_cons (pe_meth0 (pv 5) T.cl_Known T.m_Known_equal_names (ok_m_Known_equal_names T) (hr.mono (by decide)) T.b_m_Known_equal_names .nil pass0) (pa_cons (pe_meth0 (pv 5) T.cl_Known T.m_Known_names (ok_m_Known_names T) (hr.mono (by decide)) T.b_m_Known_names .nil pass0) pa_nil)))))
      (pss_cons (ps_if (pt_cmpR (op_neP hr.units) (pv 11) (pe_lst (pa_cons (pe_call (ok_l_extra T) (hr.mono (by decide)) (by rfl) T.g__law_extra T.F_l_extra.kp T.b_l_extra .nil pass0 (pa_cons (pv 3) pa_nil)) (pa_cons (pe_call (ok_l_groups T) (hr.mono (by decide)) (by rfl) T.g__law_groups T.F_l_groups.kp T.b_l_groups .nil pass0 (pa_cons (pv 3) (pa_cons (pv 6) pa_nil))) (pa_cons (pv 6) pa_nil)))) (nomark _)) (pss_one (ps_ret pe_bl)) pss_nil)
      (pss_cons (ps_g (ps_for PassesOwn.never rfl (pi_list (pe_ix ix_list (pv 11) pe_int (fun _ _ => rfl))) (pg_name (i := 12) sc_f_law.nd rfl (Or.inl rfl)) (pss_one (ps_expr (pe_bm0 PySem.F.plainAttrs_list PySem.F.slot_list_clear PySem.F.type_list_clear mt_clear (pv 12))))))
      (pss_one (ps_g (ps_for PassesOwn.never rfl (pi_list (pv 11)) (pg_name (i := 13) sc_f_law.nd rfl (Or.inl rfl)) (pss_one (ps_expr (pe_bm0 PySem.F.plainAttrs_list PySem.F.slot_list_clear PySem.F.type_list_clear mt_clear (pv 13))))))))))))))
      (pss_one (ps_ret (pe_call (ok_l_chain_right T) (hr.mono (by decide)) (by rfl) T.g__law_chain_right T.F_l_chain_right.kp T.b_l_chain_right .nil pass0 (pa_cons (pv 1) pa_nil)))))))))))))), ?_⟩
    walk_at "go"
    intro g l H1 s1 hg hl B1
    refine ⟨_, rfl, _, rfl, g, l, 6, rfl, B1, by decide, by decide, fun c H2 c0 c1 B2 K2 => ?_⟩
    refine ⟨_, _, rfl, rfl, (by show 4 ≤ sizeLine; decide), fun wl hwl => ?_⟩
    have B3 := B2.new (o := .lst [V.str "silk", .str "low", .str "high", .str "told"]) hwl
    refine ⟨g, l, wl, 1 + c, words4K, rfl, B3, (B2.ne hwl).1, by omega, by omega, upd_same, by decide, by decide, by decide, fun nq ns H4 nnq hnq nlen nnd nok B4 K4 => ?_⟩
    have nqg : nq ≠ g := (B3.ne nnq).1
    have nl6 : ns.length ≤ 6 := by rw [nlen]; omega
    have nl0 : 1 ≤ ns.length := by rw [nlen]; omega
    have emap : ns.map vS = (ns.map SX.S).map V.str := by rw [List.map_map]; rfl
    rw [emap] at hnq
    rw [← List.length_map (f := SX.S)] at nl6 nl0
    clear nok nnd nlen emap
    generalize ns.map SX.S = N at *
    refine ⟨_, rfl, _, rfl, g, l, nq, N, rfl, B4, nqg, hnq, nl0, by omega, fun p ps H5 hp hps psl psm B5 K5 => ?_⟩
    have hnq5 := K5 _ _ hnq nqg
    have npg := B4.ne hp
    clear K4 B4 hnq nnq B3 hwl B2 K2 B1 hp hS
    obtain ⟨ts, hpq, ht⟩ := id hps
    refine ⟨_, rfl, p, _, rfl, .inl (SqL.of hpq), fun h hh => ?_⟩
    have s6 := Same.new (o := .lst (ts.map V.ref)) hh
    have hh6 : (upd H5 h (.lst (ts.map V.ref))) h = some (.lst (ts.map V.ref)) := upd_same
    have hps6 := hps.keep (KpI.same s6)
    have hpsH : PrsAt (upd H5 h (.lst (ts.map V.ref))) h ps := ⟨ts, hh6, ht.mono fun _ _ z => s6 _ _ z⟩
    have B6 := B5.keep s6
    have hnq6 := s6 _ _ hnq5
    have nph := ne_of_none hpq hh
    have nqh := ne_of_none hnq5 hh
    have nhg := B5.ne hh
    generalize upd H5 h (.lst (ts.map V.ref)) = H6 at *
    refine ⟨_, rfl, fun x dx hx hd ndx => mk_known hx hd hpsH (by omega) fun H7 s7 kn7 fr7 => ⟨rfl, ?_⟩⟩
    have hh7 := s7 _ _ hh6
    refine ⟨_, rfl, _, rfl, ne_dl (dl_prs (hpsH.keep (KpI.same s7))) (dl_prs (hps6.keep (KpI.same s7))) (by decide) ⟨_, rfl, iteF ?_⟩⟩
    refine ⟨_, rfl, .inl ⟨rfl, _, SqL.of hh7⟩, h, _, rfl, rfl, hh7, ?_⟩
    have kn8 : KnIn A.Known (upd H7 h (.lst [])) x ps := kn7.list hh7 fun C dx pq rest e z => by
      have := fr7 _ _ _ _ e
      rw [z, hh6] at this
      cases this
    have npq8 : ∀ C dx pq rest, (upd H7 h (.lst [])) x = some (.ins C dx (("pairs", V.ref pq) :: rest)) → pq ≠ g := fun C dx pq rest e z => by
      obtain ⟨dx7, pq7, d7, hx7, _⟩ := kn7
      rw [upd_ne (ne_of hx7 hh7 (by intro z; cases z))] at e
      have := fr7 _ _ _ _ e
      obtain ⟨xs, hg6⟩ := B6.lst
      rw [z, hg6] at this
      cases this
    obtain ⟨ts, hp6, ht⟩ := hps6
    have hp8 : (upd H7 h (.lst [])) p = some (.lst (ts.map V.ref)) := by rw [upd_ne nph]; exact s7 _ _ hp6
    have ht8 : All2 (fun t p => (upd H7 h (.lst [])) t = some (.tup [.str p.1, .str p.2])) ts ps := ht.mono fun _ _ z => by
      have z7 := s7 _ _ z
      rw [upd_ne (ne_of z7 hh7 (by intro y; cases y))]
      exact z7
    have hq8 : (upd H7 h (.lst [])) nq = some (.lst (N.map V.str)) := by rw [upd_ne nqh]; exact s7 _ _ hnq6
    have B8 : Bag (upd H7 h (.lst [])) g l := (B6.keep s7).put nhg
    clear kn7 fr7 hp6 ht hnq6 B6 s7 hh7 hpsH hh6 s6 hps K5 B5 hx hd ndx hh hnq5 hpq
    generalize upd H7 h (.lst []) = H8 at *
    have tl : ts.length ≤ 8 := by rw [ht8.1]; exact psl
    refine ⟨⟨_, rfl, p, rfl, ⟨_, SqL.of hp8⟩, fun D1 hD1 => lc_filtM (K := K) (a := p) (us := ts.zip ps) (fun z => V.ref z.1) (fun z => V.str z.2.1) (fun _ => true) (by rw [map_zip1 ht8.1]; exact hp8) (by rw [List.length_zip]; omega) hD1 ?_ ?_⟩⟩
    · intro z H9 N0 M hz s9 hyes _
      have hz8 := s9 _ _ (zip_at ht8 hz)
      exact ⟨_, _, rfl, SqT.of hz8, rfl, _, _, rfl, _, _, rfl, rfl, rfl, _, rfl, hyes rfl _ (Same.refl _)⟩
    · intro H9 s9 hD9
      rw [map_zip2 (f := fun p => V.str p.1) ht8.1] at hD9
      have hp9 := s9 _ _ hp8
      have ht9 := ht8.mono fun _ _ z => s9 _ _ z
      refine ⟨⟨_, rfl, p, rfl, ⟨_, SqL.of hp9⟩, fun D2 hD2 => lc_filtM (K := K) (a := p) (us := ts.zip ps) (fun z => V.ref z.1) (fun z => V.str z.2.2) (fun _ => true) (by rw [map_zip1 ht9.1]; exact hp9) (by rw [List.length_zip]; omega) hD2 ?_ ?_⟩⟩
      · intro z H10 N0 M hz s10 hyes _
        have hz8 := s10 _ _ (zip_at ht9 hz)
        exact ⟨_, _, rfl, SqT.of hz8, rfl, _, _, rfl, _, _, rfl, rfl, rfl, _, rfl, hyes rfl _ (Same.refl _)⟩
      · intro H10 s10 hD10
        rw [map_zip2 (f := fun p => V.str p.2) ht9.1] at hD10
        refine ⟨D1, D2, _, _, rfl, rfl, s10 _ _ hD9, hD10, ?_, fun q3 hq3 => ?_⟩
        · rw [List.length_map, List.length_map]
          exact Nat.le_trans (by omega : _ ≤ 60) (by decide)
        rw [show ps.map (fun p => V.str p.1) ++ ps.map (fun p => V.str p.2) = (ps.map Prod.fst ++ ps.map Prod.snd).map V.str from by rw [List.map_append, List.map_map, List.map_map]; rfl]
        have s11 := Same.new (o := .lst ((ps.map Prod.fst ++ ps.map Prod.snd).map V.str)) hq3
        have kl : (ps.map Prod.fst ++ ps.map Prod.snd).length ≤ 16 := by rw [List.length_append, List.length_map, List.length_map]; omega
        refine ⟨q3, ps.map Prod.fst ++ ps.map Prod.snd, rfl, SqL.of upd_same, by omega, fun st l0 hst lnd lmem => ?_⟩
        have s12 := Same.new (o := TxO P w st l0) hst
        have hll : l0.length ≤ 16 := Nat.le_trans (lnd.length_le_of_subset fun n hn => (lmem n).mp hn) kl
        refine ⟨st, l0, rfl, upd_same, lnd, by omega, fun ys hdq hperm hsrt hhdq => ?_⟩
        have nhdg := (((((B8.keep s9).keep s10).keep s11).keep s12).ne hhdq).1
        have s13 := Same.new (o := .lst (ys.map V.str)) hhdq
        have hy13 := upd_same (H := (upd (upd H10 q3 (.lst ((ps.map Prod.fst ++ ps.map Prod.snd).map V.str))) st (TxO P w st l0))) (a := hdq) (o := .lst (ys.map V.str))
        have s813 := s9.trans (s10.trans (s11.trans (s12.trans s13)))
        generalize upd (upd (upd H10 q3 (.lst ((ps.map Prod.fst ++ ps.map Prod.snd).map V.str))) st (TxO P w st l0)) hdq (.lst (ys.map V.str)) = H13 at *
        have nk : NmsK ps ys := ⟨⟨sortedS_pw hsrt, hperm.symm.nodup lnd⟩, fun n => by
          rw [hperm.mem_iff, lmem, above_ks, List.mem_append, List.mem_map, List.mem_map]
          constructor
          · rintro (⟨z, hz, rfl⟩ | ⟨z, hz, rfl⟩)
            · exact ⟨z, hz, .inl rfl⟩
            · exact ⟨z, hz, .inr rfl⟩
          · rintro ⟨z, hz, e | e⟩
            · exact .inl ⟨z, hz, e.symm⟩
            · exact .inr ⟨z, hz, e.symm⟩⟩
        have kn13 := kn8.same s813
        have npq : ∀ C dx pq rest, H13 x = some (.ins C dx (("pairs", V.ref pq) :: rest)) → pq ≠ g := fun C dx pq rest e => by
          obtain ⟨dx8, pq8, d8, hx8, _⟩ := kn8
          have e2 := s813 _ _ hx8
          rw [e] at e2
          exact npq8 C dx pq rest (by rw [hx8, ← e2])
        have hp13 : PrsAt H13 p ps := PrsAt.keep ⟨ts, hp8, ht8⟩ (KpI.same s813)
        have hq13 := s813 _ _ hq8
        have B13 := B8.keep s813
        clear hperm hsrt hhdq lmem lnd hll hst hq3 hD10 hD9 s13 s12 s11 s10 s9 hD1 hD2 hp9 ht9 kn8 hp8 ht8 hq8 B8 s813 npq8
        dsimp only [gName, List.set]
        refine ⟨_, rfl, (by show 1 ≤ sizeLine; decide), fun v hv => ?_⟩
        have s14 := Same.new (o := .lst [.str "zzzzzzz"]) hv
        refine ⟨nq, v, _, _, rfl, rfl, s14 _ _ hq13, upd_same, ?_, fun ev hev => ?_⟩
        · rw [List.length_map]
          exact Nat.le_trans (by show N.length + 1 ≤ 60; omega : _ ≤ 60) (by decide)
        rw [show N.map V.str ++ [V.str "zzzzzzz"] = (N ++ [("zzzzzzz" : Str)]).map V.str from by rw [List.map_append]; rfl]
        have s15 := Same.new (o := .lst ((N ++ [("zzzzzzz" : Str)]).map V.str)) hev
        have hev15 := upd_same (H := upd H13 v (.lst [.str "zzzzzzz"])) (a := ev) (o := .lst ((N ++ [("zzzzzzz" : Str)]).map V.str))
        have nevg := (B13.keep s14).ne hev
        generalize upd (upd H13 v (.lst [.str "zzzzzzz"])) ev (.lst ((N ++ [("zzzzzzz" : Str)]).map V.str)) = H15 at *
        have s135 := s14.trans s15
        have kn15 := kn13.same s135
        have hp15 := hp13.keep (KpI.same s135)
        have hy15 := s135 _ _ hy13
        have B15 := B13.keep s135
        have npq15 : ∀ C dx pq rest, H15 x = some (.ins C dx (("pairs", V.ref pq) :: rest)) → pq ≠ g := fun C dx pq rest e => by
          obtain ⟨dx8, pq8, d8, hx8, _⟩ := kn13
          have e2 := s135 _ _ hx8
          rw [e] at e2
          exact npq C dx pq rest (by rw [hx8, ← e2])
        refine ⟨⟨_, rfl, g, l, 2, rfl, B15, by decide, by decide, fun c2 H16 d0 d1 B16 K16 => ?_⟩⟩
        have kn16 := kn15.kp npq15 B15 K16
        have hp16 := hp15.kp B15 K16 npg.1
        have hy16 := K16 _ _ hy15 nhdg
        have hev16 := K16 _ _ hev15 nevg.1
        clear kn15 hp15 hy15 hev15 K16 B15 npq15 s135 kn13 hp13 hq13 B13 npq hy13 s15 s14 hv hev
        generalize hE : N ++ [("zzzzzzz" : Str)] = E at *
        have El : E.length ≤ 7 := by rw [← hE, List.length_append]; show N.length + 1 ≤ 7; omega
        refine ⟨_, _, rfl, ⟨by omega, by omega, by decide, by decide⟩, for_range (lo := c2) (n := (4 - c2).toNat) (fun i σ' H' => Wd (∃ (o8 o9 o10 o11 o12 o13 : Option V), σ' = [some (.ref a), some (.ref g), some (.ref nq), some (.ref p), some (.ref h), some (.ref x), some (.ref hdq), some (.ref ev), o8, o9, o10, o11, o12, o13] ∧ Same H16 H')) ⟨none, none, none, none, none, none, rfl, Same.refl _⟩ ?_ ?_⟩
        · rintro i σ' H17 hi ⟨o8, o9, o10, o11, o12, o13, rfl, s17⟩
          refine ⟨_, rfl, .inl ⟨_, rfl, _, _, rfl, rfl, (by show (0 : Int) < 2; decide), rfl, _, rfl, if_int (fun e => ?_) (fun e => ?_)⟩⟩
          · refine ⟨⟨_, rfl, ev, rfl, ⟨_, SqL.of (s17 _ _ hev16)⟩, for_list (xs := E.map V.str) (fun j σ' H' => Wd (∃ (o8 o9 o10 o11 o12 o13 : Option V), σ' = [some (.ref a), some (.ref g), some (.ref nq), some (.ref p), some (.ref h), some (.ref x), some (.ref hdq), some (.ref ev), o8, o9, o10, o11, o12, o13] ∧ Same H16 H')) ⟨_, _, _, _, _, _, rfl, s17⟩ ?_ ?_ ?_⟩⟩
            · rintro j σ' H' _ ⟨o8, o9, o10, o11, o12, o13, rfl, s'⟩
              exact SqL.of (s' _ _ hev16)
            · rintro j y σ' H18 hj ⟨o8, o9, o10, o11, o12, o13, rfl, s18⟩
              obtain ⟨lo, hlo, rfl⟩ := names_at hj
              refine ⟨⟨_, rfl, ev, rfl, ⟨_, SqL.of (s18 _ _ hev16)⟩, for_list (xs := E.map V.str) (fun j σ' H' => Wd (∃ (o8 o10 o11 o12 o13 : Option V), σ' = [some (.ref a), some (.ref g), some (.ref nq), some (.ref p), some (.ref h), some (.ref x), some (.ref hdq), some (.ref ev), o8, some (.str lo), o10, o11, o12, o13] ∧ Same H16 H')) ⟨_, _, _, _, _, rfl, s18⟩ ?_ ?_ ?_⟩⟩
              · rintro j2 σ' H' _ ⟨o8, o10, o11, o12, o13, rfl, s'⟩
                exact SqL.of (s' _ _ hev16)
              · rintro j2 y σ' H19 hj2 ⟨o8, o10, o11, o12, o13, rfl, s19⟩
                obtain ⟨hi2, hhi, rfl⟩ := names_at hj2
                dsimp only [gName, List.set]
                have kn19 := kn16.same s19
                obtain ⟨dx9, pq9, d9, hx9, _⟩ := id kn19
                refine ⟨_, rfl, x, dx9, _, rfl, hx9, rfl, _, rfl, _, rfl, x, ps, lo, hi2, rfl, kn19, fun H20 s20 => ?_⟩
                have hp20 := hp16.keep (KpI.same (s19.trans s20))
                refine ⟨_, rfl, _, rfl, _, rfl, p, ps, lo, hi2, rfl, hp20, by omega, fun H21 s21 => ⟨rfl, _, rfl, ?_⟩⟩
                rw [decide_eq_true rfl]
                exact iteF ⟨_, _, _, _, _, rfl, s19.trans (s20.trans s21)⟩
              · rintro σ' H19 ⟨o8, o10, o11, o12, o13, rfl, s19⟩
                exact ⟨_, _, _, _, _, _, rfl, s19⟩
            · rintro σ' H18 ⟨o8, o9, o10, o11, o12, o13, rfl, s18⟩
              exact ⟨_, _, _, _, _, _, rfl, s18⟩
          · have kn17 := kn16.same s17
            obtain ⟨dx9, pq9, d9, hx9, _⟩ := id kn17
            refine ⟨_, rfl, x, dx9, _, rfl, hx9, rfl, x, ps, rfl, kn17, by omega, fun q1 H18 s18 hq1 hq1' => ?_⟩
            refine ⟨_, rfl, x, dx9, _, rfl, s18 _ _ hx9, rfl, x, ps, rfl, kn17.same s18, by omega, fun ys2 q2 H19 nk2 s19 hq2 gr fr => ?_⟩
            obtain rfl := nk2.uniq nk
            have s179 := s18.trans s19
            refine ⟨_, rfl, x, dx9, _, rfl, s179 _ _ hx9, rfl, x, ps, rfl, kn17.same s179, by omega, fun ys3 q3 nk3 hq3 => ⟨(by show 3 ≤ sizeLine; decide), fun t htn => ?_⟩⟩
            obtain rfl := nk3.uniq nk2
            obtain ⟨bs, hb19, nqb, bnd, hb2⟩ := id gr
            have s20 := Same.new (o := .lst (ys3.map V.str)) hq3
            have hq3' := upd_same (H := H19) (a := q3) (o := .lst (ys3.map V.str))
            have s1720 := s179.trans s20
            have hq1a := (s19.trans s20) _ _ hq1'
            have hq2a := s20 _ _ hb19
            have gr20 := gr.same s20
            have hq3b : H16 q3 = none := Same.none s17 (Same.none s179 hq3)
            have hq2b : H16 q2 = none := Same.none s17 (Same.none s18 hq2)
            have hq1b : H16 q1 = none := Same.none s17 hq1
            have hbb : ∀ b ∈ bs, H16 b = none := fun b hb => Same.none s17 (Same.none s18 (fr _ hb19 b (List.mem_map.mpr ⟨b, hb, rfl⟩)))
            have hbl : ∀ b ∈ bs, IsL (upd H19 q3 (.lst (ys3.map V.str))) b := fun b hb => by
              obtain ⟨j, hj⟩ := List.mem_iff_getElem?.mp hb
              obtain ⟨z, _, hz⟩ := hb2.get hj
              exact ⟨_, s20 _ _ hz⟩
            generalize upd H19 q3 (.lst (ys3.map V.str)) = H20 at *
            have s21 := Same.new (o := .lst [.ref q1, .ref q2, .ref q3]) htn
            have ht1 := upd_same (H := H20) (a := t) (o := .lst [.ref q1, .ref q2, .ref q3])
            have n1t := ne_of_none hq1a htn
            have n2t := ne_of_none hq2a htn
            have n3t := ne_of_none hq3' htn
            have nbt : ∀ b ∈ bs, b ≠ t := fun b hb => by
              obtain ⟨z, hz⟩ := hbl b hb
              exact ne_of_none hz htn
            have hbl := fun b hb => (hbl b hb).same s21
            have hq1a := s21 _ _ hq1a
            have hq2a := s21 _ _ hq2a
            have hq3a := s21 _ _ hq3'
            have gr21 := gr20.same s21
            have sT := s17.trans (s1720.trans s21)
            generalize upd H20 t (.lst [.ref q1, .ref q2, .ref q3]) = H21 at *
            clear s21 gr20 hq3' s1720 s20 hb2 hb19 s179 s19 s18 htn hq3 gr fr hq2 hq1' hx9 kn17 hq1 s17 nk2 nk3
            dsimp only [gName, List.set]
            refine ⟨_, rfl, _, rfl, p, ps, rfl, hp16.keep (KpI.same sT), by omega, fun q4 H22 s22 hq4 hq4' => ?_⟩
            refine ⟨_, rfl, _, rfl, p, hdq, ps, ys3, rfl, hp16.keep (KpI.same (sT.trans s22)), by omega, (sT.trans s22) _ _ hy16, by have := nk.len; omega, fun q5 H23 s23 hq5 gr5 => ?_⟩
            refine ⟨_, rfl, (by show 3 ≤ sizeLine; decide), fun e1 he1 => ?_⟩
            have s24 := Same.new (o := .lst [.ref q4, .ref q5, .ref hdq]) he1
            have s2124 := s22.trans (s23.trans s24)
            have L1 := dl_list3 (K := K) (s2124 _ _ ht1) ((dl_nats (K := K) (s2124 _ _ hq1a)).mono (by decide : 1 ≤ 2)) (dl_grs (gr21.same s2124)) ((dl_strs (s2124 _ _ hq3a)).mono (by decide : 1 ≤ 2))
            have L2 := dl_list3 (K := K) (upd_same (H := H23) (a := e1) (o := .lst [.ref q4, .ref q5, .ref hdq])) ((dl_nats (K := K) ((s23.trans s24) _ _ hq4')).mono (by decide : 1 ≤ 2)) (dl_grs (gr5.same s24)) ((dl_strs ((sT.trans s2124) _ _ hy16)).mono (by decide : 1 ≤ 2))
            refine ne_dl L1 L2 (by decide) ⟨_, rfl, iteF ?_⟩
            have hbl := fun b hb => (hbl b hb).same s2124
            have hq1a := s2124 _ _ hq1a
            have hq2a := s2124 _ _ hq2a
            have hq3a := s2124 _ _ hq3a
            have ht1 := s2124 _ _ ht1
            have sT := sT.trans s2124
            clear L1 L2 gr21 gr5 s2124 s22 s23 hq4 hq4' hq5
            generalize upd H23 e1 (.lst [.ref q4, .ref q5, .ref hdq]) = H24 at *
            dsimp only [tNext, tSeq]
            refine ⟨⟨_, rfl, t, _, _, _, rfl, rfl, SqL.of ht1, atI_nat (j := 1) rfl, q2, rfl, ⟨_, SqL.of hq2a⟩, for_list (xs := bs.map V.ref) (fun j σ' H' => Wd (∃ (o8 o9 o10 o12 o13 : Option V), σ' = [some (.ref a), some (.ref g), some (.ref nq), some (.ref p), some (.ref h), some (.ref x), some (.ref hdq), some (.ref ev), o8, o9, o10, some (.ref t), o12, o13] ∧ Same H16 H' ∧ H' t = some (.lst [.ref q1, .ref q2, .ref q3]) ∧ H' q2 = some (.lst (bs.map V.ref)) ∧ IsL H' q1 ∧ IsL H' q3 ∧ ∀ b ∈ bs, IsL H' b)) ⟨_, _, _, _, _, rfl, sT, ht1, hq2a, ⟨_, hq1a⟩, ⟨_, hq3a⟩, hbl⟩ ?_ ?_ ?_⟩⟩
            · rintro j σ' H' _ ⟨o8, o9, o10, o12, o13, rfl, _, _, h2, _⟩
              exact SqL.of h2
            · rintro j y σ' H25 hj ⟨o8, o9, o10, o12, o13, rfl, s25, h25, h2, i1, i3, ib⟩
              rw [List.getElem?_map] at hj
              obtain ⟨b, hjb, rfl⟩ := Option.map_eq_some_iff.mp hj
              have hb := List.mem_of_getElem? hjb
              obtain ⟨z, hz⟩ := ib b hb
              refine ⟨_, rfl, .inl ⟨rfl, _, SqL.of hz⟩, b, _, rfl, rfl, hz, _, _, _, _, _, rfl, Same.at_new (hbb b hb) s25, ?_, ?_, i1.up, i3.up, fun c hc => (ib c hc).up⟩
              · rw [upd_ne (nbt b hb).symm]
                exact h25
              · rw [upd_ne fun e : q2 = b => nqb (by rw [e]; exact hb)]
                exact h2
            · rintro σ' H25 ⟨o8, o9, o10, o12, o13, rfl, s25, h25, h2, i1, i3, ib⟩
              refine ⟨⟨_, rfl, t, rfl, ⟨_, SqL.of h25⟩, for_list (xs := [.ref q1, .ref q2, .ref q3]) (fun j σ' H' => Wd (∃ (o8 o9 o10 o12 o13 : Option V), σ' = [some (.ref a), some (.ref g), some (.ref nq), some (.ref p), some (.ref h), some (.ref x), some (.ref hdq), some (.ref ev), o8, o9, o10, some (.ref t), o12, o13] ∧ Same H16 H' ∧ H' t = some (.lst [.ref q1, .ref q2, .ref q3]) ∧ IsL H' q1 ∧ IsL H' q2 ∧ IsL H' q3)) ⟨_, _, _, _, _, rfl, s25, h25, i1, ⟨_, h2⟩, i3⟩ ?_ ?_ ?_⟩⟩
              · rintro j σ' H' _ ⟨o8, o9, o10, o12, o13, rfl, _, h26, _⟩
                exact SqL.of h26
              · rintro j y σ' H26 hj ⟨o8, o9, o10, o12, o13, rfl, s26, h26, j1, j2, j3⟩
                obtain ⟨b, rfl, il, bt, b16⟩ : ∃ b, y = .ref b ∧ IsL H26 b ∧ b ≠ t ∧ H16 b = none := by
                  have hm := List.mem_of_getElem? hj
                  simp only [List.mem_cons, List.not_mem_nil, or_false] at hm
                  rcases hm with rfl | rfl | rfl
                  · exact ⟨q1, rfl, j1, n1t, hq1b⟩
                  · exact ⟨q2, rfl, j2, n2t, hq2b⟩
                  · exact ⟨q3, rfl, j3, n3t, hq3b⟩
                obtain ⟨z, hz⟩ := il
                refine ⟨_, rfl, .inl ⟨rfl, _, SqL.of hz⟩, b, _, rfl, rfl, hz, _, _, _, _, _, rfl, Same.at_new b16 s26, ?_, j1.up, j2.up, j3.up⟩
                rw [upd_ne bt.symm]
                exact h26
              · rintro σ' H26 ⟨o8, o9, o10, o12, o13, rfl, s26, _⟩
                exact ⟨_, _, _, _, _, _, rfl, s26⟩
        · rintro σ' H17 ⟨o8, o9, o10, o11, o12, o13, rfl, s17⟩
          exact ⟨_, rfl, g, l, rfl, B16.keep s17, fun H18 _ _ => k H18⟩
end

theorem all_mk {l : PySem.W.OpenLaw} {w : World} {K : PySem.W.Frag} {h : Heap} {mg : Str → Option Value} {fa a_Known a_f_all_above a_m_Known_init a_m_Known_names a_m_Known_told a_m_Known_equal_names a_m_Known_needless a_l_bag a_l_draw a_l_names a_l_pick a_l_mixed a_l_pairs a_l_tells a_l_groups a_l_extra a_l_chain_right a_f_law : Addr} (X : K.In h) (G : h.Ns mainGlobals mg) (hfa : mg "law" = some (.ref fa))
    {od_f_all_above : Option Addr} {an_f_all_above : Option Addr} {sl_f_all_above : Array (Option Value)} {oc_f_all_above : Value} {kV_f_all_above : Value} {dc_f_all_above : Value} {pm_f_all_above : Value} {cd_f_all_above : Value} {ct_f_all_above : Value} {od_m_Known_init : Option Addr} {an_m_Known_init : Option Addr} {sl_m_Known_init : Array (Option Value)} {oc_m_Known_init : Value} {kV_m_Known_init : Value} {dc_m_Known_init : Value} {pm_m_Known_init : Value} {cd_m_Known_init : Value} {ct_m_Known_init : Value} {od_m_Known_names : Option Addr} {an_m_Known_names : Option Addr} {sl_m_Known_names : Array (Option Value)} {oc_m_Known_names : Value} {kV_m_Known_names : Value} {dc_m_Known_names : Value} {pm_m_Known_names : Value} {cd_m_Known_names : Value} {ct_m_Known_names : Value} {od_m_Known_told : Option Addr} {an_m_Known_told : Option Addr} {sl_m_Known_told : Array (Option Value)} {oc_m_Known_told : Value} {kV_m_Known_told : Value} {dc_m_Known_told : Value} {pm_m_Known_told : Value} {cd_m_Known_told : Value} {ct_m_Known_told : Value} {od_m_Known_equal_names : Option Addr} {an_m_Known_equal_names : Option Addr} {sl_m_Known_equal_names : Array (Option Value)} {oc_m_Known_equal_names : Value} {kV_m_Known_equal_names : Value} {dc_m_Known_equal_names : Value} {pm_m_Known_equal_names : Value} {cd_m_Known_equal_names : Value} {ct_m_Known_equal_names : Value} {od_m_Known_needless : Option Addr} {an_m_Known_needless : Option Addr} {sl_m_Known_needless : Array (Option Value)} {oc_m_Known_needless : Value} {kV_m_Known_needless : Value} {dc_m_Known_needless : Value} {pm_m_Known_needless : Value} {cd_m_Known_needless : Value} {ct_m_Known_needless : Value} {od_l_bag : Option Addr} {an_l_bag : Option Addr} {sl_l_bag : Array (Option Value)} {oc_l_bag : Value} {kV_l_bag : Value} {dc_l_bag : Value} {pm_l_bag : Value} {cd_l_bag : Value} {ct_l_bag : Value} {od_l_draw : Option Addr} {an_l_draw : Option Addr} {sl_l_draw : Array (Option Value)} {oc_l_draw : Value} {kV_l_draw : Value} {dc_l_draw : Value} {pm_l_draw : Value} {cd_l_draw : Value} {ct_l_draw : Value} {od_l_names : Option Addr} {an_l_names : Option Addr} {sl_l_names : Array (Option Value)} {oc_l_names : Value} {kV_l_names : Value} {dc_l_names : Value} {pm_l_names : Value} {cd_l_names : Value} {ct_l_names : Value} {od_l_pick : Option Addr} {an_l_pick : Option Addr} {sl_l_pick : Array (Option Value)} {oc_l_pick : Value} {kV_l_pick : Value} {dc_l_pick : Value} {pm_l_pick : Value} {cd_l_pick : Value} {ct_l_pick : Value} {od_l_mixed : Option Addr} {an_l_mixed : Option Addr} {sl_l_mixed : Array (Option Value)} {oc_l_mixed : Value} {kV_l_mixed : Value} {dc_l_mixed : Value} {pm_l_mixed : Value} {cd_l_mixed : Value} {ct_l_mixed : Value} {od_l_pairs : Option Addr} {an_l_pairs : Option Addr} {sl_l_pairs : Array (Option Value)} {oc_l_pairs : Value} {kV_l_pairs : Value} {dc_l_pairs : Value} {pm_l_pairs : Value} {cd_l_pairs : Value} {ct_l_pairs : Value} {od_l_tells : Option Addr} {an_l_tells : Option Addr} {sl_l_tells : Array (Option Value)} {oc_l_tells : Value} {kV_l_tells : Value} {dc_l_tells : Value} {pm_l_tells : Value} {cd_l_tells : Value} {ct_l_tells : Value} {od_l_groups : Option Addr} {an_l_groups : Option Addr} {sl_l_groups : Array (Option Value)} {oc_l_groups : Value} {kV_l_groups : Value} {dc_l_groups : Value} {pm_l_groups : Value} {cd_l_groups : Value} {ct_l_groups : Value} {od_l_extra : Option Addr} {an_l_extra : Option Addr} {sl_l_extra : Array (Option Value)} {oc_l_extra : Value} {kV_l_extra : Value} {dc_l_extra : Value} {pm_l_extra : Value} {cd_l_extra : Value} {ct_l_extra : Value} {od_l_chain_right : Option Addr} {an_l_chain_right : Option Addr} {sl_l_chain_right : Array (Option Value)} {oc_l_chain_right : Value} {kV_l_chain_right : Value} {dc_l_chain_right : Value} {pm_l_chain_right : Value} {cd_l_chain_right : Value} {ct_l_chain_right : Value} {od_f_law : Option Addr} {an_f_law : Option Addr} {sl_f_law : Array (Option Value)} {oc_f_law : Value} {kV_f_law : Value} {dc_f_law : Value} {pm_f_law : Value} {cd_f_law : Value} {ct_f_law : Value}
    (pz_abs : PySem.W.nsIn K mainGlobals "abs" = some none)
    (pz_int : PySem.W.nsIn K mainGlobals "int" = some none)
    (pz_len : PySem.W.nsIn K mainGlobals "len" = some none)
    (pz_list : PySem.W.nsIn K mainGlobals "list" = some none)
    (pz_range : PySem.W.nsIn K mainGlobals "range" = some none)
    (pz_set : PySem.W.nsIn K mainGlobals "set" = some none)
    (pz_sorted : PySem.W.nsIn K mainGlobals "sorted" = some none)
    (pg_Known : PySem.W.nsIn K mainGlobals "Known" = some (some (.ref a_Known)))
    (ppg_Known : PySem.W.plainGet K a_Known Str.empty = true)
    (phd_Known : PySem.W.hasDictIn K a_Known = true)
    (ppo_Known : PySem.W.plainOver K a_Known = true)
    (psa_Known : PySem.W.findIn K (.ref a_Known) "__setattr__" = some (some (.builtin "object.__setattr__")))
    (pn_Known_pairs : NoAttr K a_Known "pairs")
    (pn_Known_above : NoAttr K a_Known "above")
    (pma_Known : PySem.W.makesIn K a_Known = true)
    (pmi_Known : PySem.W.findIn K (.ref a_Known) "__init__" = some (some (.ref a_m_Known_init)))
    (pmf_Known : PySem.W.isFn K (.ref a_m_Known_init) = true)
    (pmc_Known : PySem.W.keepIn K (.ref a_Known) = true)
    (pmt_m_Known_names : PySem.W.findIn K (.ref a_Known) "names" = some (some (.ref a_m_Known_names)))
    (pmn_m_Known_names : PySem.W.isFn K (.ref a_m_Known_names) = true)
    (pmk_m_Known_names : PySem.W.keepIn K (.ref a_m_Known_names) = true)
    (pmt_m_Known_told : PySem.W.findIn K (.ref a_Known) "told" = some (some (.ref a_m_Known_told)))
    (pmn_m_Known_told : PySem.W.isFn K (.ref a_m_Known_told) = true)
    (pmk_m_Known_told : PySem.W.keepIn K (.ref a_m_Known_told) = true)
    (pmt_m_Known_equal_names : PySem.W.findIn K (.ref a_Known) "equal_names" = some (some (.ref a_m_Known_equal_names)))
    (pmn_m_Known_equal_names : PySem.W.isFn K (.ref a_m_Known_equal_names) = true)
    (pmk_m_Known_equal_names : PySem.W.keepIn K (.ref a_m_Known_equal_names) = true)
    (pmt_m_Known_needless : PySem.W.findIn K (.ref a_Known) "needless" = some (some (.ref a_m_Known_needless)))
    (pmn_m_Known_needless : PySem.W.isFn K (.ref a_m_Known_needless) = true)
    (pmk_m_Known_needless : PySem.W.keepIn K (.ref a_m_Known_needless) = true)
    (pa_f_all_above : PySem.W.nsIn K mainGlobals "all_above" = some (some (.ref a_f_all_above)))
    (pl_f_all_above : K.lookup a_f_all_above = some ⟨oc_f_all_above, od_f_all_above, .func (PySem.W.fnOf "all_above" "all_above" (defArgs s_f_all_above) (defBody s_f_all_above) (defScope s_f_all_above) .none kV_f_all_above dc_f_all_above pm_f_all_above an_f_all_above cd_f_all_above ct_f_all_above), sl_f_all_above⟩)
    (pc_f_all_above : PySem.W.codeIn K cd_f_all_above "all_above" = true)
    (pq_f_all_above : PySem.W.keepIn K (.ref a_f_all_above) = true)
    (pl_m_Known_init : K.lookup a_m_Known_init = some ⟨oc_m_Known_init, od_m_Known_init, .func (PySem.W.fnOf "__init__" "Known.__init__" (defArgs s_m_Known_init) (defBody s_m_Known_init) (defScope s_m_Known_init) .none kV_m_Known_init dc_m_Known_init pm_m_Known_init an_m_Known_init cd_m_Known_init ct_m_Known_init), sl_m_Known_init⟩)
    (pc_m_Known_init : PySem.W.codeIn K cd_m_Known_init "Known.__init__" = true)
    (pq_m_Known_init : PySem.W.keepIn K (.ref a_m_Known_init) = true)
    (pl_m_Known_names : K.lookup a_m_Known_names = some ⟨oc_m_Known_names, od_m_Known_names, .func (PySem.W.fnOf "names" "Known.names" (defArgs s_m_Known_names) (defBody s_m_Known_names) (defScope s_m_Known_names) .none kV_m_Known_names dc_m_Known_names pm_m_Known_names an_m_Known_names cd_m_Known_names ct_m_Known_names), sl_m_Known_names⟩)
    (pc_m_Known_names : PySem.W.codeIn K cd_m_Known_names "Known.names" = true)
    (pq_m_Known_names : PySem.W.keepIn K (.ref a_m_Known_names) = true)
    (pl_m_Known_told : K.lookup a_m_Known_told = some ⟨oc_m_Known_told, od_m_Known_told, .func (PySem.W.fnOf "told" "Known.told" (defArgs s_m_Known_told) (defBody s_m_Known_told) (defScope s_m_Known_told) .none kV_m_Known_told dc_m_Known_told pm_m_Known_told an_m_Known_told cd_m_Known_told ct_m_Known_told), sl_m_Known_told⟩)
    (pc_m_Known_told : PySem.W.codeIn K cd_m_Known_told "Known.told" = true)
    (pq_m_Known_told : PySem.W.keepIn K (.ref a_m_Known_told) = true)
    (pl_m_Known_equal_names : K.lookup a_m_Known_equal_names = some ⟨oc_m_Known_equal_names, od_m_Known_equal_names, .func (PySem.W.fnOf "equal_names" "Known.equal_names" (defArgs s_m_Known_equal_names) (defBody s_m_Known_equal_names) (defScope s_m_Known_equal_names) .none kV_m_Known_equal_names dc_m_Known_equal_names pm_m_Known_equal_names an_m_Known_equal_names cd_m_Known_equal_names ct_m_Known_equal_names), sl_m_Known_equal_names⟩)
    (pc_m_Known_equal_names : PySem.W.codeIn K cd_m_Known_equal_names "Known.equal_names" = true)
    (pq_m_Known_equal_names : PySem.W.keepIn K (.ref a_m_Known_equal_names) = true)
    (pl_m_Known_needless : K.lookup a_m_Known_needless = some ⟨oc_m_Known_needless, od_m_Known_needless, .func (PySem.W.fnOf "needless" "Known.needless" (defArgs s_m_Known_needless) (defBody s_m_Known_needless) (defScope s_m_Known_needless) .none kV_m_Known_needless dc_m_Known_needless pm_m_Known_needless an_m_Known_needless cd_m_Known_needless ct_m_Known_needless), sl_m_Known_needless⟩)
    (pc_m_Known_needless : PySem.W.codeIn K cd_m_Known_needless "Known.needless" = true)
    (pq_m_Known_needless : PySem.W.keepIn K (.ref a_m_Known_needless) = true)
    (pa_l_bag : PySem.W.nsIn K mainGlobals "_law_bag" = some (some (.ref a_l_bag)))
    (pl_l_bag : K.lookup a_l_bag = some ⟨oc_l_bag, od_l_bag, .func (PySem.W.fnOf "_law_bag" "_law_bag" (defArgs s_l_bag) (defBody s_l_bag) (defScope s_l_bag) .none kV_l_bag dc_l_bag pm_l_bag an_l_bag cd_l_bag ct_l_bag), sl_l_bag⟩)
    (pc_l_bag : PySem.W.codeIn K cd_l_bag "_law_bag" = true)
    (pq_l_bag : PySem.W.keepIn K (.ref a_l_bag) = true)
    (pa_l_draw : PySem.W.nsIn K mainGlobals "_law_draw" = some (some (.ref a_l_draw)))
    (pl_l_draw : K.lookup a_l_draw = some ⟨oc_l_draw, od_l_draw, .func (PySem.W.fnOf "_law_draw" "_law_draw" (defArgs s_l_draw) (defBody s_l_draw) (defScope s_l_draw) .none kV_l_draw dc_l_draw pm_l_draw an_l_draw cd_l_draw ct_l_draw), sl_l_draw⟩)
    (pc_l_draw : PySem.W.codeIn K cd_l_draw "_law_draw" = true)
    (pq_l_draw : PySem.W.keepIn K (.ref a_l_draw) = true)
    (pa_l_names : PySem.W.nsIn K mainGlobals "_law_names" = some (some (.ref a_l_names)))
    (pl_l_names : K.lookup a_l_names = some ⟨oc_l_names, od_l_names, .func (PySem.W.fnOf "_law_names" "_law_names" (defArgs s_l_names) (defBody s_l_names) (defScope s_l_names) .none kV_l_names dc_l_names pm_l_names an_l_names cd_l_names ct_l_names), sl_l_names⟩)
    (pc_l_names : PySem.W.codeIn K cd_l_names "_law_names" = true)
    (pq_l_names : PySem.W.keepIn K (.ref a_l_names) = true)
    (pa_l_pick : PySem.W.nsIn K mainGlobals "_law_pick" = some (some (.ref a_l_pick)))
    (pl_l_pick : K.lookup a_l_pick = some ⟨oc_l_pick, od_l_pick, .func (PySem.W.fnOf "_law_pick" "_law_pick" (defArgs s_l_pick) (defBody s_l_pick) (defScope s_l_pick) .none kV_l_pick dc_l_pick pm_l_pick an_l_pick cd_l_pick ct_l_pick), sl_l_pick⟩)
    (pc_l_pick : PySem.W.codeIn K cd_l_pick "_law_pick" = true)
    (pq_l_pick : PySem.W.keepIn K (.ref a_l_pick) = true)
    (pa_l_mixed : PySem.W.nsIn K mainGlobals "_law_mixed" = some (some (.ref a_l_mixed)))
    (pl_l_mixed : K.lookup a_l_mixed = some ⟨oc_l_mixed, od_l_mixed, .func (PySem.W.fnOf "_law_mixed" "_law_mixed" (defArgs s_l_mixed) (defBody s_l_mixed) (defScope s_l_mixed) .none kV_l_mixed dc_l_mixed pm_l_mixed an_l_mixed cd_l_mixed ct_l_mixed), sl_l_mixed⟩)
    (pc_l_mixed : PySem.W.codeIn K cd_l_mixed "_law_mixed" = true)
    (pq_l_mixed : PySem.W.keepIn K (.ref a_l_mixed) = true)
    (pa_l_pairs : PySem.W.nsIn K mainGlobals "_law_pairs" = some (some (.ref a_l_pairs)))
    (pl_l_pairs : K.lookup a_l_pairs = some ⟨oc_l_pairs, od_l_pairs, .func (PySem.W.fnOf "_law_pairs" "_law_pairs" (defArgs s_l_pairs) (defBody s_l_pairs) (defScope s_l_pairs) .none kV_l_pairs dc_l_pairs pm_l_pairs an_l_pairs cd_l_pairs ct_l_pairs), sl_l_pairs⟩)
    (pc_l_pairs : PySem.W.codeIn K cd_l_pairs "_law_pairs" = true)
    (pq_l_pairs : PySem.W.keepIn K (.ref a_l_pairs) = true)
    (pa_l_tells : PySem.W.nsIn K mainGlobals "_law_tells" = some (some (.ref a_l_tells)))
    (pl_l_tells : K.lookup a_l_tells = some ⟨oc_l_tells, od_l_tells, .func (PySem.W.fnOf "_law_tells" "_law_tells" (defArgs s_l_tells) (defBody s_l_tells) (defScope s_l_tells) .none kV_l_tells dc_l_tells pm_l_tells an_l_tells cd_l_tells ct_l_tells), sl_l_tells⟩)
    (pc_l_tells : PySem.W.codeIn K cd_l_tells "_law_tells" = true)
    (pq_l_tells : PySem.W.keepIn K (.ref a_l_tells) = true)
    (pa_l_groups : PySem.W.nsIn K mainGlobals "_law_groups" = some (some (.ref a_l_groups)))
    (pl_l_groups : K.lookup a_l_groups = some ⟨oc_l_groups, od_l_groups, .func (PySem.W.fnOf "_law_groups" "_law_groups" (defArgs s_l_groups) (defBody s_l_groups) (defScope s_l_groups) .none kV_l_groups dc_l_groups pm_l_groups an_l_groups cd_l_groups ct_l_groups), sl_l_groups⟩)
    (pc_l_groups : PySem.W.codeIn K cd_l_groups "_law_groups" = true)
    (pq_l_groups : PySem.W.keepIn K (.ref a_l_groups) = true)
    (pa_l_extra : PySem.W.nsIn K mainGlobals "_law_extra" = some (some (.ref a_l_extra)))
    (pl_l_extra : K.lookup a_l_extra = some ⟨oc_l_extra, od_l_extra, .func (PySem.W.fnOf "_law_extra" "_law_extra" (defArgs s_l_extra) (defBody s_l_extra) (defScope s_l_extra) .none kV_l_extra dc_l_extra pm_l_extra an_l_extra cd_l_extra ct_l_extra), sl_l_extra⟩)
    (pc_l_extra : PySem.W.codeIn K cd_l_extra "_law_extra" = true)
    (pq_l_extra : PySem.W.keepIn K (.ref a_l_extra) = true)
    (pa_l_chain_right : PySem.W.nsIn K mainGlobals "_law_chain_right" = some (some (.ref a_l_chain_right)))
    (pl_l_chain_right : K.lookup a_l_chain_right = some ⟨oc_l_chain_right, od_l_chain_right, .func (PySem.W.fnOf "_law_chain_right" "_law_chain_right" (defArgs s_l_chain_right) (defBody s_l_chain_right) (defScope s_l_chain_right) .none kV_l_chain_right dc_l_chain_right pm_l_chain_right an_l_chain_right cd_l_chain_right ct_l_chain_right), sl_l_chain_right⟩)
    (pc_l_chain_right : PySem.W.codeIn K cd_l_chain_right "_law_chain_right" = true)
    (pq_l_chain_right : PySem.W.keepIn K (.ref a_l_chain_right) = true)
    (pa_f_law : PySem.W.nsIn K mainGlobals "law" = some (some (.ref a_f_law)))
    (pl_f_law : K.lookup a_f_law = some ⟨oc_f_law, od_f_law, .func (PySem.W.fnOf "law" "law" (defArgs s_f_law) (defBody s_f_law) (defScope s_f_law) .none kV_f_law dc_f_law pm_f_law an_f_law cd_f_law ct_f_law), sl_f_law⟩)
    (pc_f_law : PySem.W.codeIn K cd_f_law "law" = true)
    (pq_f_law : PySem.W.keepIn K (.ref a_f_law) = true) :
    ∃ fd : FuncData, (∀ (s : Shared) (v : Value), BindsTo s fd ⟨[v], []⟩ [("_law_script", v)]) ∧ ∀ base : Heap, K.In base → base.Ns mainGlobals mg → FnOk l.prog w K mg base CX0 5 fa fd P_f_law (spLaw K) := by
  have e := hfa.symm.trans (PySem.W.mg_of X G pa_f_law)
  cases e
  have F_f_all_above := fun_mk (st := s_f_all_above) pl_f_all_above pc_f_all_above pq_f_all_above
  have b_f_all_above := F_f_all_above.binds (ps := P_f_all_above) fun _ _ _ _ _ _ us hl => match us, hl with | [_], _ => rfl
  have F_m_Known_init := fun_mk (st := s_m_Known_init) pl_m_Known_init pc_m_Known_init pq_m_Known_init
  have b_m_Known_init := F_m_Known_init.binds (ps := P_m_Known_init) fun _ _ _ _ _ _ us hl => match us, hl with | [_, _], _ => rfl
  have F_m_Known_names := fun_mk (st := s_m_Known_names) pl_m_Known_names pc_m_Known_names pq_m_Known_names
  have b_m_Known_names := F_m_Known_names.binds (ps := P_m_Known_names) fun _ _ _ _ _ _ us hl => match us, hl with | [_], _ => rfl
  have F_m_Known_told := fun_mk (st := s_m_Known_told) pl_m_Known_told pc_m_Known_told pq_m_Known_told
  have b_m_Known_told := F_m_Known_told.binds (ps := P_m_Known_told) fun _ _ _ _ _ _ us hl => match us, hl with | [_, _, _], _ => rfl
  have F_m_Known_equal_names := fun_mk (st := s_m_Known_equal_names) pl_m_Known_equal_names pc_m_Known_equal_names pq_m_Known_equal_names
  have b_m_Known_equal_names := F_m_Known_equal_names.binds (ps := P_m_Known_equal_names) fun _ _ _ _ _ _ us hl => match us, hl with | [_], _ => rfl
  have F_m_Known_needless := fun_mk (st := s_m_Known_needless) pl_m_Known_needless pc_m_Known_needless pq_m_Known_needless
  have b_m_Known_needless := F_m_Known_needless.binds (ps := P_m_Known_needless) fun _ _ _ _ _ _ us hl => match us, hl with | [_], _ => rfl
  have F_l_bag := fun_mk (st := s_l_bag) pl_l_bag pc_l_bag pq_l_bag
  have b_l_bag := F_l_bag.binds (ps := P_l_bag) fun _ _ _ _ _ _ us hl => match us, hl with | [_], _ => rfl
  have F_l_draw := fun_mk (st := s_l_draw) pl_l_draw pc_l_draw pq_l_draw
  have b_l_draw := F_l_draw.binds (ps := P_l_draw) fun _ _ _ _ _ _ us hl => match us, hl with | [_, _], _ => rfl
  have F_l_names := fun_mk (st := s_l_names) pl_l_names pc_l_names pq_l_names
  have b_l_names := F_l_names.binds (ps := P_l_names) fun _ _ _ _ _ _ us hl => match us, hl with | [_, _, _], _ => rfl
  have F_l_pick := fun_mk (st := s_l_pick) pl_l_pick pc_l_pick pq_l_pick
  have b_l_pick := F_l_pick.binds (ps := P_l_pick) fun _ _ _ _ _ _ us hl => match us, hl with | [_, _], _ => rfl
  have F_l_mixed := fun_mk (st := s_l_mixed) pl_l_mixed pc_l_mixed pq_l_mixed
  have b_l_mixed := F_l_mixed.binds (ps := P_l_mixed) fun _ _ _ _ _ _ us hl => match us, hl with | [_, _], _ => rfl
  have F_l_pairs := fun_mk (st := s_l_pairs) pl_l_pairs pc_l_pairs pq_l_pairs
  have b_l_pairs := F_l_pairs.binds (ps := P_l_pairs) fun _ _ _ _ _ _ us hl => match us, hl with | [_, _], _ => rfl
  have F_l_tells := fun_mk (st := s_l_tells) pl_l_tells pc_l_tells pq_l_tells
  have b_l_tells := F_l_tells.binds (ps := P_l_tells) fun _ _ _ _ _ _ us hl => match us, hl with | [_, _, _], _ => rfl
  have F_l_groups := fun_mk (st := s_l_groups) pl_l_groups pc_l_groups pq_l_groups
  have b_l_groups := F_l_groups.binds (ps := P_l_groups) fun _ _ _ _ _ _ us hl => match us, hl with | [_, _], _ => rfl
  have F_l_extra := fun_mk (st := s_l_extra) pl_l_extra pc_l_extra pq_l_extra
  have b_l_extra := F_l_extra.binds (ps := P_l_extra) fun _ _ _ _ _ _ us hl => match us, hl with | [_], _ => rfl
  have F_l_chain_right := fun_mk (st := s_l_chain_right) pl_l_chain_right pc_l_chain_right pq_l_chain_right
  have b_l_chain_right := F_l_chain_right.binds (ps := P_l_chain_right) fun _ _ _ _ _ _ us hl => match us, hl with | [_], _ => rfl
  have F_f_law := fun_mk (st := s_f_law) pl_f_law pc_f_law pq_f_law
  have b_f_law := F_f_law.binds (ps := P_f_law) fun _ _ _ _ _ _ us hl => match us, hl with | [_], _ => rfl
  have T : Txt K mg ⟨a_Known, a_f_all_above, (PySem.W.fnOf "all_above" "all_above" (defArgs s_f_all_above) (defBody s_f_all_above) (defScope s_f_all_above) .none kV_f_all_above dc_f_all_above pm_f_all_above an_f_all_above cd_f_all_above ct_f_all_above), a_m_Known_init, (PySem.W.fnOf "__init__" "Known.__init__" (defArgs s_m_Known_init) (defBody s_m_Known_init) (defScope s_m_Known_init) .none kV_m_Known_init dc_m_Known_init pm_m_Known_init an_m_Known_init cd_m_Known_init ct_m_Known_init), a_m_Known_names, (PySem.W.fnOf "names" "Known.names" (defArgs s_m_Known_names) (defBody s_m_Known_names) (defScope s_m_Known_names) .none kV_m_Known_names dc_m_Known_names pm_m_Known_names an_m_Known_names cd_m_Known_names ct_m_Known_names), a_m_Known_told, (PySem.W.fnOf "told" "Known.told" (defArgs s_m_Known_told) (defBody s_m_Known_told) (defScope s_m_Known_told) .none kV_m_Known_told dc_m_Known_told pm_m_Known_told an_m_Known_told cd_m_Known_told ct_m_Known_told), a_m_Known_equal_names, (PySem.W.fnOf "equal_names" "Known.equal_names" (defArgs s_m_Known_equal_names) (defBody s_m_Known_equal_names) (defScope s_m_Known_equal_names) .none kV_m_Known_equal_names dc_m_Known_equal_names pm_m_Known_equal_names an_m_Known_equal_names cd_m_Known_equal_names ct_m_Known_equal_names), a_m_Known_needless, (PySem.W.fnOf "needless" "Known.needless" (defArgs s_m_Known_needless) (defBody s_m_Known_needless) (defScope s_m_Known_needless) .none kV_m_Known_needless dc_m_Known_needless pm_m_Known_needless an_m_Known_needless cd_m_Known_needless ct_m_Known_needless), a_l_bag, (PySem.W.fnOf "_law_bag" "_law_bag" (defArgs s_l_bag) (defBody s_l_bag) (defScope s_l_bag) .none kV_l_bag dc_l_bag pm_l_bag an_l_bag cd_l_bag ct_l_bag), a_l_draw, (PySem.W.fnOf "_law_draw" "_law_draw" (defArgs s_l_draw) (defBody s_l_draw) (defScope s_l_draw) .none kV_l_draw dc_l_draw pm_l_draw an_l_draw cd_l_draw ct_l_draw), a_l_names, (PySem.W.fnOf "_law_names" "_law_names" (defArgs s_l_names) (defBody s_l_names) (defScope s_l_names) .none kV_l_names dc_l_names pm_l_names an_l_names cd_l_names ct_l_names), a_l_pick, (PySem.W.fnOf "_law_pick" "_law_pick" (defArgs s_l_pick) (defBody s_l_pick) (defScope s_l_pick) .none kV_l_pick dc_l_pick pm_l_pick an_l_pick cd_l_pick ct_l_pick), a_l_mixed, (PySem.W.fnOf "_law_mixed" "_law_mixed" (defArgs s_l_mixed) (defBody s_l_mixed) (defScope s_l_mixed) .none kV_l_mixed dc_l_mixed pm_l_mixed an_l_mixed cd_l_mixed ct_l_mixed), a_l_pairs, (PySem.W.fnOf "_law_pairs" "_law_pairs" (defArgs s_l_pairs) (defBody s_l_pairs) (defScope s_l_pairs) .none kV_l_pairs dc_l_pairs pm_l_pairs an_l_pairs cd_l_pairs ct_l_pairs), a_l_tells, (PySem.W.fnOf "_law_tells" "_law_tells" (defArgs s_l_tells) (defBody s_l_tells) (defScope s_l_tells) .none kV_l_tells dc_l_tells pm_l_tells an_l_tells cd_l_tells ct_l_tells), a_l_groups, (PySem.W.fnOf "_law_groups" "_law_groups" (defArgs s_l_groups) (defBody s_l_groups) (defScope s_l_groups) .none kV_l_groups dc_l_groups pm_l_groups an_l_groups cd_l_groups ct_l_groups), a_l_extra, (PySem.W.fnOf "_law_extra" "_law_extra" (defArgs s_l_extra) (defBody s_l_extra) (defScope s_l_extra) .none kV_l_extra dc_l_extra pm_l_extra an_l_extra cd_l_extra ct_l_extra), a_l_chain_right, (PySem.W.fnOf "_law_chain_right" "_law_chain_right" (defArgs s_l_chain_right) (defBody s_l_chain_right) (defScope s_l_chain_right) .none kV_l_chain_right dc_l_chain_right pm_l_chain_right an_l_chain_right cd_l_chain_right ct_l_chain_right), fa, (PySem.W.fnOf "law" "law" (defArgs s_f_law) (defBody s_f_law) (defScope s_f_law) .none kV_f_law dc_f_law pm_f_law an_f_law cd_f_law ct_f_law)⟩ := {
    z_abs := PySem.W.mg_none_of X G pz_abs,
    z_int := PySem.W.mg_none_of X G pz_int,
    z_len := PySem.W.mg_none_of X G pz_len,
    z_list := PySem.W.mg_none_of X G pz_list,
    z_range := PySem.W.mg_none_of X G pz_range,
    z_set := PySem.W.mg_none_of X G pz_set,
    z_sorted := PySem.W.mg_none_of X G pz_sorted,
    g_Known := PySem.W.mg_of X G pg_Known,
    cl_Known := ⟨ppg_Known, phd_Known, ppo_Known, psa_Known⟩,
    n_Known_pairs := pn_Known_pairs,
    n_Known_above := pn_Known_above,
    mk_Known := ⟨pma_Known, pmi_Known, pmf_Known, pmc_Known⟩,
    m_Known_names := ⟨pmt_m_Known_names, pmn_m_Known_names, pmk_m_Known_names⟩,
    m_Known_told := ⟨pmt_m_Known_told, pmn_m_Known_told, pmk_m_Known_told⟩,
    m_Known_equal_names := ⟨pmt_m_Known_equal_names, pmn_m_Known_equal_names, pmk_m_Known_equal_names⟩,
    m_Known_needless := ⟨pmt_m_Known_needless, pmn_m_Known_needless, pmk_m_Known_needless⟩,
    F_f_all_above := F_f_all_above,
    b_f_all_above := b_f_all_above,
    g_all_above := PySem.W.mg_of X G pa_f_all_above,
    F_m_Known_init := F_m_Known_init,
    b_m_Known_init := b_m_Known_init,
    F_m_Known_names := F_m_Known_names,
    b_m_Known_names := b_m_Known_names,
    F_m_Known_told := F_m_Known_told,
    b_m_Known_told := b_m_Known_told,
    F_m_Known_equal_names := F_m_Known_equal_names,
    b_m_Known_equal_names := b_m_Known_equal_names,
    F_m_Known_needless := F_m_Known_needless,
    b_m_Known_needless := b_m_Known_needless,
    F_l_bag := F_l_bag,
    b_l_bag := b_l_bag,
    g__law_bag := PySem.W.mg_of X G pa_l_bag,
    F_l_draw := F_l_draw,
    b_l_draw := b_l_draw,
    g__law_draw := PySem.W.mg_of X G pa_l_draw,
    F_l_names := F_l_names,
    b_l_names := b_l_names,
    g__law_names := PySem.W.mg_of X G pa_l_names,
    F_l_pick := F_l_pick,
    b_l_pick := b_l_pick,
    g__law_pick := PySem.W.mg_of X G pa_l_pick,
    F_l_mixed := F_l_mixed,
    b_l_mixed := b_l_mixed,
    g__law_mixed := PySem.W.mg_of X G pa_l_mixed,
    F_l_pairs := F_l_pairs,
    b_l_pairs := b_l_pairs,
    g__law_pairs := PySem.W.mg_of X G pa_l_pairs,
    F_l_tells := F_l_tells,
    b_l_tells := b_l_tells,
    g__law_tells := PySem.W.mg_of X G pa_l_tells,
    F_l_groups := F_l_groups,
    b_l_groups := b_l_groups,
    g__law_groups := PySem.W.mg_of X G pa_l_groups,
    F_l_extra := F_l_extra,
    b_l_extra := b_l_extra,
    g__law_extra := PySem.W.mg_of X G pa_l_extra,
    F_l_chain_right := F_l_chain_right,
    b_l_chain_right := b_l_chain_right,
    g__law_chain_right := PySem.W.mg_of X G pa_l_chain_right,
    F_f_law := F_f_law,
    b_f_law := b_f_law,
    g_law := PySem.W.mg_of X G pa_f_law }
  exact ⟨_, fun s v => .of_eq rfl, fun base _ _ => ok_f_law T⟩
theorem walk {l : PySem.W.OpenLaw} {q : Program} {loose : List Str} {XP : (Str → Option Value) → Heap → Prop} {YP : World → Heap → Prop} {d : DefRec} {K : Params → PySem.W.Frag} (hn : l.most = some 63) (hdf : d.params.defaults = [])
    (hY : ∀ (w : World) (h : Heap), YP w h → (K w.params).In h)
    (F : ∀ (w : World) (mg : Str → Option Value) (fa : Addr) (h : Heap), (K w.params).In h → h.Ns mainGlobals mg → mg d.name = some (.ref fa) →
      ∃ fd : FuncData, (∀ (s : Shared) (u : Value), BindsTo s fd ⟨[u], []⟩ [("_law_script", u)]) ∧ ∀ base : Heap, (K w.params).In base → base.Ns mainGlobals mg → FnOk l.prog w (K w.params) mg base CX0 5 fa fd ["_law_script"] (spLaw (K w.params))) :
    PySem.W.WalkO q loose XP YP l.row.toRowW d [] (fun f vs => PySem.call f vs) :=
  L2.walk_of (n := 63) (k := 5) (x := "_law_script") (CX := fun _ => CX0) (sp := fun w => spLaw (K w.params)) hn (by decide) hdf ⟨rfl, by decide, by decide⟩ hY F (fun _ _ a ns hl _ hS => ⟨a, ns, rfl, hS, hl, fun _ => rfl⟩) fun _ _ _ _ _ z => z
end Lot
open PySem PySem.W PyProof.Rows
set_option maxRecDepth 100000 in
set_option maxHeartbeats 0 in
theorem PySem.Challenge.cw_lotcosts_k63_comparisons_told_and_needle_holds : PySem.Challenge.rw_lotcosts_k63_comparisons_told_and_needle.Holds := by
  w_on; o_law; k_head; (case hw => w_witness2)
  k_fill
  refine Lot.walk (l := PySem.Challenge.rw_lotcosts_k63_comparisons_told_and_needle) rfl rfl (fun w h Y => PySem.W.kIn_of Y) ?F
  case F =>
    intro w mg fa h KX G hmg
    refine' Lot.all_mk KX G hmg ?pz_abs ?pz_int ?pz_len ?pz_list ?pz_range ?pz_set ?pz_sorted ?pg_Known ?ppg_Known ?phd_Known ?ppo_Known ?psa_Known ?pn_Known_pairs ?pn_Known_above ?pma_Known ?pmi_Known ?pmf_Known ?pmc_Known ?pmt_m_Known_names ?pmn_m_Known_names ?pmk_m_Known_names ?pmt_m_Known_told ?pmn_m_Known_told ?pmk_m_Known_told ?pmt_m_Known_equal_names ?pmn_m_Known_equal_names ?pmk_m_Known_equal_names ?pmt_m_Known_needless ?pmn_m_Known_needless ?pmk_m_Known_needless ?pa_f_all_above ?pl_f_all_above ?pc_f_all_above ?pq_f_all_above ?pl_m_Known_init ?pc_m_Known_init ?pq_m_Known_init ?pl_m_Known_names ?pc_m_Known_names ?pq_m_Known_names ?pl_m_Known_told ?pc_m_Known_told ?pq_m_Known_told ?pl_m_Known_equal_names ?pc_m_Known_equal_names ?pq_m_Known_equal_names ?pl_m_Known_needless ?pc_m_Known_needless ?pq_m_Known_needless ?pa_l_bag ?pl_l_bag ?pc_l_bag ?pq_l_bag ?pa_l_draw ?pl_l_draw ?pc_l_draw ?pq_l_draw ?pa_l_names ?pl_l_names ?pc_l_names ?pq_l_names ?pa_l_pick ?pl_l_pick ?pc_l_pick ?pq_l_pick ?pa_l_mixed ?pl_l_mixed ?pc_l_mixed ?pq_l_mixed ?pa_l_pairs ?pl_l_pairs ?pc_l_pairs ?pq_l_pairs ?pa_l_tells ?pl_l_tells ?pc_l_tells ?pq_l_tells ?pa_l_groups ?pl_l_groups ?pc_l_groups ?pq_l_groups ?pa_l_extra ?pl_l_extra ?pc_l_extra ?pq_l_extra ?pa_l_chain_right ?pl_l_chain_right ?pc_l_chain_right ?pq_l_chain_right ?pa_f_law ?pl_f_law ?pc_f_law ?pq_f_law
    (case pz_abs => first | k_is | rfl)
    (case pz_int => first | k_is | rfl)
    (case pz_len => first | k_is | rfl)
    (case pz_list => first | k_is | rfl)
    (case pz_range => first | k_is | rfl)
    (case pz_set => first | k_is | rfl)
    (case pz_sorted => first | k_is | rfl)
    (case pg_Known => first | k_is | rfl)
    (case ppg_Known => first | k_is | rfl)
    (case phd_Known => first | k_is | rfl)
    (case ppo_Known => first | k_is | rfl)
    (case psa_Known => first | k_is | rfl)
    (case pn_Known_pairs => first | k_is | rfl)
    (case pn_Known_above => first | k_is | rfl)
    (case pma_Known => first | k_is | rfl)
    (case pmi_Known => first | k_is | rfl)
    (case pmf_Known => first | k_is | rfl)
    (case pmc_Known => first | k_is | rfl)
    (case pmt_m_Known_names => first | k_is | rfl)
    (case pmn_m_Known_names => first | k_is | rfl)
    (case pmk_m_Known_names => first | k_is | rfl)
    (case pmt_m_Known_told => first | k_is | rfl)
    (case pmn_m_Known_told => first | k_is | rfl)
    (case pmk_m_Known_told => first | k_is | rfl)
    (case pmt_m_Known_equal_names => first | k_is | rfl)
    (case pmn_m_Known_equal_names => first | k_is | rfl)
    (case pmk_m_Known_equal_names => first | k_is | rfl)
    (case pmt_m_Known_needless => first | k_is | rfl)
    (case pmn_m_Known_needless => first | k_is | rfl)
    (case pmk_m_Known_needless => first | k_is | rfl)
    (case pa_f_all_above => first | k_is | rfl)
    (case pl_f_all_above => first | k_is | rfl)
    (case pc_f_all_above => first | k_is | rfl)
    (case pq_f_all_above => first | k_is | rfl)
    (case pl_m_Known_init => first | k_is | rfl)
    (case pc_m_Known_init => first | k_is | rfl)
    (case pq_m_Known_init => first | k_is | rfl)
    (case pl_m_Known_names => first | k_is | rfl)
    (case pc_m_Known_names => first | k_is | rfl)
    (case pq_m_Known_names => first | k_is | rfl)
    (case pl_m_Known_told => first | k_is | rfl)
    (case pc_m_Known_told => first | k_is | rfl)
    (case pq_m_Known_told => first | k_is | rfl)
    (case pl_m_Known_equal_names => first | k_is | rfl)
    (case pc_m_Known_equal_names => first | k_is | rfl)
    (case pq_m_Known_equal_names => first | k_is | rfl)
    (case pl_m_Known_needless => first | k_is | rfl)
    (case pc_m_Known_needless => first | k_is | rfl)
    (case pq_m_Known_needless => first | k_is | rfl)
    (case pa_l_bag => first | k_is | rfl)
    (case pl_l_bag => first | k_is | rfl)
    (case pc_l_bag => first | k_is | rfl)
    (case pq_l_bag => first | k_is | rfl)
    (case pa_l_draw => first | k_is | rfl)
    (case pl_l_draw => first | k_is | rfl)
    (case pc_l_draw => first | k_is | rfl)
    (case pq_l_draw => first | k_is | rfl)
    (case pa_l_names => first | k_is | rfl)
    (case pl_l_names => first | k_is | rfl)
    (case pc_l_names => first | k_is | rfl)
    (case pq_l_names => first | k_is | rfl)
    (case pa_l_pick => first | k_is | rfl)
    (case pl_l_pick => first | k_is | rfl)
    (case pc_l_pick => first | k_is | rfl)
    (case pq_l_pick => first | k_is | rfl)
    (case pa_l_mixed => first | k_is | rfl)
    (case pl_l_mixed => first | k_is | rfl)
    (case pc_l_mixed => first | k_is | rfl)
    (case pq_l_mixed => first | k_is | rfl)
    (case pa_l_pairs => first | k_is | rfl)
    (case pl_l_pairs => first | k_is | rfl)
    (case pc_l_pairs => first | k_is | rfl)
    (case pq_l_pairs => first | k_is | rfl)
    (case pa_l_tells => first | k_is | rfl)
    (case pl_l_tells => first | k_is | rfl)
    (case pc_l_tells => first | k_is | rfl)
    (case pq_l_tells => first | k_is | rfl)
    (case pa_l_groups => first | k_is | rfl)
    (case pl_l_groups => first | k_is | rfl)
    (case pc_l_groups => first | k_is | rfl)
    (case pq_l_groups => first | k_is | rfl)
    (case pa_l_extra => first | k_is | rfl)
    (case pl_l_extra => first | k_is | rfl)
    (case pc_l_extra => first | k_is | rfl)
    (case pq_l_extra => first | k_is | rfl)
    (case pa_l_chain_right => first | k_is | rfl)
    (case pl_l_chain_right => first | k_is | rfl)
    (case pc_l_chain_right => first | k_is | rfl)
    (case pq_l_chain_right => first | k_is | rfl)
    (case pa_f_law => first | k_is | rfl)
    (case pl_f_law => first | k_is | rfl)
    (case pc_f_law => first | k_is | rfl)
    (case pq_f_law => first | k_is | rfl)
#print axioms PySem.Challenge.cw_lotcosts_k63_comparisons_told_and_needle_holds

