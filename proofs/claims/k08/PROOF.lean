import PyProof.Rows.All
import Wide.All
import OpenK.AllK
import Wide.FinOn
import HandS.Codes
import HandS.Words
import KE.KStateDown
import HandS.Base
import HandS.Call
import HandS.Ends
import HandS.More
import HandS.Defaults
import HandS.Head0
import HandS.Head1
import HandS.Head2
import HandS.Head3
import HandS.HeadEnd
import HandS.HeadHook1
import HandS.HeadHook2
import HandS.HeadHook3
import HandS.HeadHook4
import HandS.HeadWalk
import HandS.ForMost
import HandS.AnyAll
import HandS.GenList
import KE.SortData
import KE.DataMinMax
import KE.DataCmp
import KE.DataEq
import HandS.List
import HandS.Deep
import HandS.TupAny
import HandS.TupMul
import HandS.Style
import HandS.Wide
import HandS.SetFor
import HandS.Strs
import HandS.Star
import HandS.TupLe
import HandS.Gcd
import HandS.IsInst
import HandS.Walk
import HandS.Flow
import HandS.DictComp
import HandS.EndTab
import HandS.SortOrd
import HandS.SortRule
import HandS.Small
import PySem.Challenge.RW_foescome_k08_whole_forgetting
set_option Elab.async false
set_option linter.all false
set_option maxRecDepth 100000
set_option maxHeartbeats 4000000
/-! The text by places (written by gen8.py). -/
namespace KV
open PySem PySem.Spec PyProof.Rows L2 C8
def top (i : Nat) : Stmt := PySem.Challenge.pw_foescome_k08_whole_forgetting.main.body.getD i (.Pass ⟨0, 0, 0, 0⟩)
abbrev st_is_in : Stmt := top 7
abbrev st_need_web : Stmt := top 8
abbrev st_are_foes : Stmt := top 9
abbrev st_foes : Stmt := top 10
abbrev st_is_lot : Stmt := top 11
abbrev st_all_lots : Stmt := top 12
abbrev st_with_foes : Stmt := top 14
abbrev st_ratio : Stmt := top 16
abbrev st_plus : Stmt := top 17
abbrev st_minus : Stmt := top 18
abbrev st_by : Stmt := top 19
abbrev st_over : Stmt := top 20
abbrev st_less : Stmt := top 21
abbrev st_sum_of : Stmt := top 22
abbrev st_is_ratio : Stmt := top 23
abbrev st_mk : Stmt := inClass (top 25) 0
abbrev st_m_turn : Stmt := inClass (top 25) 1
abbrev st_m_multiplier : Stmt := inClass (top 25) 2
abbrev st_m_rising : Stmt := inClass (top 25) 3
abbrev st_m_climb : Stmt := inClass (top 25) 4
abbrev st_m_leave_help : Stmt := inClass (top 25) 5
abbrev st_m_amounts : Stmt := inClass (top 25) 6
abbrev st_m_prices : Stmt := inClass (top 25) 7
abbrev st_solved : Stmt := top 26
abbrev st_covers : Stmt := top 29
abbrev st_least_lots : Stmt := top 30
abbrev st_forget_row : Stmt := top 31
abbrev st_forget_length : Stmt := top 32
abbrev st_forget_lots : Stmt := top 33
abbrev st_need_costs : Stmt := top 34
abbrev st_cost_of : Stmt := top 35
abbrev st_cheapest : Stmt := top 36
abbrev st_cheap_forget : Stmt := top 37
abbrev st_shows_cheap_forget : Stmt := top 38
abbrev st_paper_of : Stmt := top 39
abbrev st_forget_paper : Stmt := top 40
abbrev st_shows_forget_paper : Stmt := top 41
abbrev st_w_taken : Stmt := top 43
abbrev st_w_alike : Stmt := top 45
abbrev st_w_alike0 : Stmt := top 45
abbrev st_w_ratio : Stmt := top 46
abbrev st_w_plus : Stmt := top 47
abbrev st_w_sum : Stmt := top 49
abbrev st_w_less : Stmt := top 50
abbrev st_w_is_ratio : Stmt := top 51
abbrev st_w_web : Stmt := top 52
abbrev st_w_foes : Stmt := top 53
abbrev st_w_lots : Stmt := top 56
abbrev st_w_deed : Stmt := top 60
abbrev st_w_covers : Stmt := top 62
abbrev st_w_fits : Stmt := top 63
abbrev st_law : Stmt := top 64
end KV
set_option Elab.async false
set_option linter.all false
set_option maxRecDepth 100000
set_option maxHeartbeats 0
/-! The head: what stands behind the text's top. -/
namespace KV
open PySem PySem.Spec PyProof.Rows L2 C8
def D_is_in : He.DefD := ⟨("is_in", none), "is_in", "is_in", C8.fnArgs st_is_in, C8.fnBody st_is_in, C8.fnScope st_is_in, [], []⟩
def D_need_web : He.DefD := ⟨("need_web", none), "need_web", "need_web", C8.fnArgs st_need_web, C8.fnBody st_need_web, C8.fnScope st_need_web, [], []⟩
def D_are_foes : He.DefD := ⟨("are_foes", none), "are_foes", "are_foes", C8.fnArgs st_are_foes, C8.fnBody st_are_foes, C8.fnScope st_are_foes, [], []⟩
def D_foes : He.DefD := ⟨("foes", none), "foes", "foes", C8.fnArgs st_foes, C8.fnBody st_foes, C8.fnScope st_foes, [], []⟩
def D_is_lot : He.DefD := ⟨("is_lot", none), "is_lot", "is_lot", C8.fnArgs st_is_lot, C8.fnBody st_is_lot, C8.fnScope st_is_lot, [], []⟩
def D_all_lots : He.DefD := ⟨("all_lots", none), "all_lots", "all_lots", C8.fnArgs st_all_lots, C8.fnBody st_all_lots, C8.fnScope st_all_lots, [], []⟩
def D_with_foes : He.DefD := ⟨("with_foes", none), "with_foes", "with_foes", C8.fnArgs st_with_foes, C8.fnBody st_with_foes, C8.fnScope st_with_foes, [], []⟩
def D_ratio : He.DefD := ⟨("ratio", none), "ratio", "ratio", C8.fnArgs st_ratio, C8.fnBody st_ratio, C8.fnScope st_ratio, [], []⟩
def D_plus : He.DefD := ⟨("plus", none), "plus", "plus", C8.fnArgs st_plus, C8.fnBody st_plus, C8.fnScope st_plus, [], []⟩
def D_minus : He.DefD := ⟨("minus", none), "minus", "minus", C8.fnArgs st_minus, C8.fnBody st_minus, C8.fnScope st_minus, [], []⟩
def D_by : He.DefD := ⟨("by", none), "by", "by", C8.fnArgs st_by, C8.fnBody st_by, C8.fnScope st_by, [], []⟩
def D_over : He.DefD := ⟨("over", none), "over", "over", C8.fnArgs st_over, C8.fnBody st_over, C8.fnScope st_over, [], []⟩
def D_less : He.DefD := ⟨("less", none), "less", "less", C8.fnArgs st_less, C8.fnBody st_less, C8.fnScope st_less, [], []⟩
def D_sum_of : He.DefD := ⟨("sum_of", none), "sum_of", "sum_of", C8.fnArgs st_sum_of, C8.fnBody st_sum_of, C8.fnScope st_sum_of, [], []⟩
def D_is_ratio : He.DefD := ⟨("is_ratio", none), "is_ratio", "is_ratio", C8.fnArgs st_is_ratio, C8.fnBody st_is_ratio, C8.fnScope st_is_ratio, [], []⟩
def D_mk : He.DefD := ⟨("Program", some "__init__"), "__init__", "Program.__init__", C8.fnArgs st_mk, C8.fnBody st_mk, C8.fnScope st_mk, [], []⟩
def D_m_turn : He.DefD := ⟨("Program", some "turn"), "turn", "Program.turn", C8.fnArgs st_m_turn, C8.fnBody st_m_turn, C8.fnScope st_m_turn, [], []⟩
def D_m_multiplier : He.DefD := ⟨("Program", some "multiplier"), "multiplier", "Program.multiplier", C8.fnArgs st_m_multiplier, C8.fnBody st_m_multiplier, C8.fnScope st_m_multiplier, [], []⟩
def D_m_rising : He.DefD := ⟨("Program", some "rising"), "rising", "Program.rising", C8.fnArgs st_m_rising, C8.fnBody st_m_rising, C8.fnScope st_m_rising, [], []⟩
def D_m_climb : He.DefD := ⟨("Program", some "climb"), "climb", "Program.climb", C8.fnArgs st_m_climb, C8.fnBody st_m_climb, C8.fnScope st_m_climb, [], []⟩
def D_m_leave_help : He.DefD := ⟨("Program", some "leave_help"), "leave_help", "Program.leave_help", C8.fnArgs st_m_leave_help, C8.fnBody st_m_leave_help, C8.fnScope st_m_leave_help, [], []⟩
def D_m_amounts : He.DefD := ⟨("Program", some "amounts"), "amounts", "Program.amounts", C8.fnArgs st_m_amounts, C8.fnBody st_m_amounts, C8.fnScope st_m_amounts, [], []⟩
def D_m_prices : He.DefD := ⟨("Program", some "prices"), "prices", "Program.prices", C8.fnArgs st_m_prices, C8.fnBody st_m_prices, C8.fnScope st_m_prices, [], []⟩
def D_solved : He.DefD := ⟨("solved", none), "solved", "solved", C8.fnArgs st_solved, C8.fnBody st_solved, C8.fnScope st_solved, [], []⟩
def D_covers : He.DefD := ⟨("covers", none), "covers", "covers", C8.fnArgs st_covers, C8.fnBody st_covers, C8.fnScope st_covers, [], []⟩
def D_least_lots : He.DefD := ⟨("least_lots", none), "least_lots", "least_lots", C8.fnArgs st_least_lots, C8.fnBody st_least_lots, C8.fnScope st_least_lots, [], []⟩
def D_forget_row : He.DefD := ⟨("forget_row", none), "forget_row", "forget_row", C8.fnArgs st_forget_row, C8.fnBody st_forget_row, C8.fnScope st_forget_row, [], []⟩
def D_forget_length : He.DefD := ⟨("forget_length", none), "forget_length", "forget_length", C8.fnArgs st_forget_length, C8.fnBody st_forget_length, C8.fnScope st_forget_length, [], []⟩
def D_forget_lots : He.DefD := ⟨("forget_lots", none), "forget_lots", "forget_lots", C8.fnArgs st_forget_lots, C8.fnBody st_forget_lots, C8.fnScope st_forget_lots, [], []⟩
def D_need_costs : He.DefD := ⟨("need_costs", none), "need_costs", "need_costs", C8.fnArgs st_need_costs, C8.fnBody st_need_costs, C8.fnScope st_need_costs, [], []⟩
def D_cost_of : He.DefD := ⟨("cost_of", none), "cost_of", "cost_of", C8.fnArgs st_cost_of, C8.fnBody st_cost_of, C8.fnScope st_cost_of, [], []⟩
def D_cheapest : He.DefD := ⟨("cheapest", none), "cheapest", "cheapest", C8.fnArgs st_cheapest, C8.fnBody st_cheapest, C8.fnScope st_cheapest, [], []⟩
def D_cheap_forget : He.DefD := ⟨("cheap_forget", none), "cheap_forget", "cheap_forget", C8.fnArgs st_cheap_forget, C8.fnBody st_cheap_forget, C8.fnScope st_cheap_forget, [], []⟩
def D_shows_cheap_forget : He.DefD := ⟨("shows_cheap_forget", none), "shows_cheap_forget", "shows_cheap_forget", C8.fnArgs st_shows_cheap_forget, C8.fnBody st_shows_cheap_forget, C8.fnScope st_shows_cheap_forget, [], []⟩
def D_paper_of : He.DefD := ⟨("paper_of", none), "paper_of", "paper_of", C8.fnArgs st_paper_of, C8.fnBody st_paper_of, C8.fnScope st_paper_of, [], []⟩
def D_forget_paper : He.DefD := ⟨("forget_paper", none), "forget_paper", "forget_paper", C8.fnArgs st_forget_paper, C8.fnBody st_forget_paper, C8.fnScope st_forget_paper, [], []⟩
def D_shows_forget_paper : He.DefD := ⟨("shows_forget_paper", none), "shows_forget_paper", "shows_forget_paper", C8.fnArgs st_shows_forget_paper, C8.fnBody st_shows_forget_paper, C8.fnScope st_shows_forget_paper, [], []⟩
def D_w_taken : He.DefD := ⟨("_law_taken", none), "_law_taken", "_law_taken", C8.fnArgs st_w_taken, C8.fnBody st_w_taken, C8.fnScope st_w_taken, [], []⟩
def D_w_alike : He.DefD := ⟨("_law_alike", none), "_law_alike", "_law_alike", C8.fnArgs st_w_alike, C8.fnBody st_w_alike, C8.fnScope st_w_alike, [], []⟩
def D_w_ratio : He.DefD := ⟨("_law_ratio", none), "_law_ratio", "_law_ratio", C8.fnArgs st_w_ratio, C8.fnBody st_w_ratio, C8.fnScope st_w_ratio, [], []⟩
def D_w_plus : He.DefD := ⟨("_law_plus", none), "_law_plus", "_law_plus", C8.fnArgs st_w_plus, C8.fnBody st_w_plus, C8.fnScope st_w_plus, [], []⟩
def D_w_sum : He.DefD := ⟨("_law_sum", none), "_law_sum", "_law_sum", C8.fnArgs st_w_sum, C8.fnBody st_w_sum, C8.fnScope st_w_sum, [], []⟩
def D_w_less : He.DefD := ⟨("_law_less", none), "_law_less", "_law_less", C8.fnArgs st_w_less, C8.fnBody st_w_less, C8.fnScope st_w_less, [], []⟩
def D_w_is_ratio : He.DefD := ⟨("_law_is_ratio", none), "_law_is_ratio", "_law_is_ratio", C8.fnArgs st_w_is_ratio, C8.fnBody st_w_is_ratio, C8.fnScope st_w_is_ratio, [], []⟩
def D_w_web : He.DefD := ⟨("_law_web", none), "_law_web", "_law_web", C8.fnArgs st_w_web, C8.fnBody st_w_web, C8.fnScope st_w_web, [], []⟩
def D_w_foes : He.DefD := ⟨("_law_foes", none), "_law_foes", "_law_foes", C8.fnArgs st_w_foes, C8.fnBody st_w_foes, C8.fnScope st_w_foes, [], []⟩
def D_w_lots : He.DefD := ⟨("_law_lots", none), "_law_lots", "_law_lots", C8.fnArgs st_w_lots, C8.fnBody st_w_lots, C8.fnScope st_w_lots, [], []⟩
def D_w_deed : He.DefD := ⟨("_law_deed", none), "_law_deed", "_law_deed", C8.fnArgs st_w_deed, C8.fnBody st_w_deed, C8.fnScope st_w_deed, [], []⟩
def D_w_covers : He.DefD := ⟨("_law_covers", none), "_law_covers", "_law_covers", C8.fnArgs st_w_covers, C8.fnBody st_w_covers, C8.fnScope st_w_covers, [], []⟩
def D_w_fits : He.DefD := ⟨("_law_fits", none), "_law_fits", "_law_fits", C8.fnArgs st_w_fits, C8.fnBody st_w_fits, C8.fnScope st_w_fits, [], []⟩
def D_law : He.DefD := ⟨("law", none), "law", "law", C8.fnArgs st_law, C8.fnBody st_law, C8.fnScope st_law, [], []⟩
def fn : List He.DefD := [D_is_in, D_need_web, D_are_foes, D_foes, D_is_lot, D_all_lots, D_with_foes, D_ratio, D_plus, D_minus, D_by, D_over, D_less, D_sum_of, D_is_ratio, D_mk, D_m_turn, D_m_multiplier, D_m_rising, D_m_climb, D_m_leave_help, D_m_amounts, D_m_prices, D_solved, D_covers, D_least_lots, D_forget_row, D_forget_length, D_forget_lots, D_need_costs, D_cost_of, D_cheapest, D_cheap_forget, D_shows_cheap_forget, D_paper_of, D_forget_paper, D_shows_forget_paper, D_w_taken, D_w_alike, D_w_ratio, D_w_plus, D_w_sum, D_w_less, D_w_is_ratio, D_w_web, D_w_foes, D_w_lots, D_w_deed, D_w_covers, D_w_fits, D_law]
def fa : List He.Fa := [.int "MOST_PEOPLE" 7, .int "MOST_COST" 1000, .free "len", .free "isinstance", .free "min", .free "max", .free "sorted", .free "abs", .free "sum", .free "any", .free "all", .free "range", .free "enumerate", .free "zip", .free "tuple", .free "list", .free "int", .free "set", .free "bool", .free "str", .cls "Program", .noat "Program" "many", .noat "Program" "signs", .noat "Program" "rows", .noat "Program" "basis", .meth "Program" "turn", .meth "Program" "multiplier", .meth "Program" "rising", .meth "Program" "climb", .meth "Program" "leave_help", .meth "Program" "amounts", .meth "Program" "prices", .mkr "Program", .glo "Program", .glo "is_in", .glo "need_web", .glo "are_foes", .glo "foes", .glo "is_lot", .glo "all_lots", .glo "with_foes", .glo "ratio", .glo "plus", .glo "minus", .glo "by", .glo "over", .glo "less", .glo "sum_of", .glo "is_ratio", .glo "solved", .glo "covers", .glo "least_lots", .glo "forget_row", .glo "forget_length", .glo "forget_lots", .glo "need_costs", .glo "cost_of", .glo "cheapest", .glo "cheap_forget", .glo "shows_cheap_forget", .glo "paper_of", .glo "forget_paper", .glo "shows_forget_paper", .glo "_law_taken", .glo "_law_alike", .glo "_law_ratio", .glo "_law_plus", .glo "_law_sum", .glo "_law_less", .glo "_law_is_ratio", .glo "_law_web", .glo "_law_foes", .glo "_law_lots", .glo "_law_deed", .glo "_law_covers", .glo "_law_fits", .glo "law"]
def tf : List He.Defn := [("need_web", none), ("is_lot", none), ("is_ratio", none), ("need_costs", none), ("cost_of", none), ("shows_forget_paper", none)]
def names : List Str := (["FoeError", "BadWeb", "BadCosts", "MOST_PEOPLE", "is_in", "need_web", "are_foes", "foes", "is_lot", "all_lots", "with_foes", "ratio", "plus", "minus", "by"] : List Str) ++ (["over", "less", "sum_of", "is_ratio", "Program", "solved", "MOST_COST", "covers", "least_lots", "forget_row", "forget_length", "forget_lots", "need_costs", "cost_of", "cheapest"] : List Str) ++ (["cheap_forget", "shows_cheap_forget", "paper_of", "forget_paper", "shows_forget_paper", "_law_taken", "_law_pick", "_law_alike", "_law_ratio", "_law_plus", "_law_by", "_law_sum", "_law_less", "_law_is_ratio", "_law_web"] : List Str) ++ (["_law_foes", "_law_come", "_law_done", "_law_lots", "_law_is_gathering", "_law_gatherings", "_law_row", "_law_deed", "_law_made", "_law_covers", "_law_fits"] : List Str)
def lawAt : Nat := 64
def ex (K : PySem.W.Frag) : Bool := He.eqO (PySem.W.nsIn K mainGlobals "gcd") (some (some (.builtin "math.gcd")))
abbrev RR : PySem.W.OpenRow := PySem.W.OpenLaw.row PySem.Challenge.rw_foescome_k08_whole_forgetting
abbrev qv : PySem.Program := PySem.W.view RR.prog [0, lawAt]
abbrev hk : PySem.W.Hook := He.hookX 6 fa fn [] tf ex
def ob (s : PySem.W.SharedT) : He.AlX := He.obsX 6 fa fn [] tf ex (HandSHeadRun.getT s)
theorem ob_eq (s : PySem.W.SharedT) : ob s = hk.obs s.abs := He.obsX_eq (HandSHeadRun.getT_eq s)
theorem run (w : World) : HandSHeadRun.RunEqI RR qv hk ob 4000 names w := by
  unfold HandSHeadRun.RunEqI
  kernel_rfl
end KV
/-! Sums of rationals, tables, turns (pivots) of a table, the kernel of a table. Plain Lean. -/
set_option linter.all false
set_option Elab.async false
namespace Smx

/-- f 0 + .. + f (n - 1) -/
def sm : Nat → (Nat → Rat) → Rat
  | 0, _ => 0
  | n + 1, f => sm n f + f n

theorem sm_congr {n : Nat} {f g : Nat → Rat} (h : ∀ i, i < n → f i = g i) : sm n f = sm n g := by
  induction n with
  | zero => rfl
  | succ n ih =>
    show sm n f + f n = sm n g + g n
    rw [ih fun i hi => h i (by omega), h n (by omega)]
theorem sm_add (n : Nat) (f g : Nat → Rat) : sm n (fun i => f i + g i) = sm n f + sm n g := by
  induction n with
  | zero => show (0 : Rat) = 0 + 0; grind
  | succ n ih =>
    show sm n _ + _ = (sm n f + f n) + (sm n g + g n)
    rw [ih]; grind
theorem sm_sub (n : Nat) (f g : Nat → Rat) : sm n (fun i => f i - g i) = sm n f - sm n g := by
  induction n with
  | zero => show (0 : Rat) = 0 - 0; grind
  | succ n ih =>
    show sm n _ + _ = (sm n f + f n) - (sm n g + g n)
    rw [ih]; grind
theorem sm_mul (n : Nat) (c : Rat) (f : Nat → Rat) : sm n (fun i => c * f i) = c * sm n f := by
  induction n with
  | zero => show (0 : Rat) = c * 0; grind
  | succ n ih =>
    show sm n _ + _ = c * (sm n f + f n)
    rw [ih]; grind
theorem sm_zero {n : Nat} {f : Nat → Rat} (h : ∀ i, i < n → f i = 0) : sm n f = 0 := by
  induction n with
  | zero => rfl
  | succ n ih =>
    show sm n f + f n = 0
    rw [ih fun i hi => h i (by omega), h n (by omega)]; grind
theorem sm_nonneg {n : Nat} {f : Nat → Rat} (h : ∀ i, i < n → 0 ≤ f i) : 0 ≤ sm n f := by
  induction n with
  | zero => show (0 : Rat) ≤ 0; grind
  | succ n ih =>
    have h1 := ih fun i hi => h i (by omega)
    have h2 := h n (by omega)
    show 0 ≤ sm n f + f n
    grind
theorem sm_le {n : Nat} {f g : Nat → Rat} (h : ∀ i, i < n → f i ≤ g i) : sm n f ≤ sm n g := by
  induction n with
  | zero => show (0 : Rat) ≤ 0; grind
  | succ n ih =>
    have h1 := ih fun i hi => h i (by omega)
    have h2 := h n (by omega)
    show sm n f + f n ≤ sm n g + g n
    grind
/-- a sum of numbers from 0 on that is 0 -/
theorem sm_zero_of {n : Nat} {f : Nat → Rat} (h : ∀ i, i < n → 0 ≤ f i) (e : sm n f = 0) : ∀ i, i < n → f i = 0 := by
  induction n with
  | zero => intro i hi; omega
  | succ n ih =>
    intro i hi
    have h1 : 0 ≤ sm n f := sm_nonneg fun j hj => h j (by omega)
    have h2 := h n (by omega)
    have e' : sm n f + f n = 0 := e
    have e1 : sm n f = 0 := by grind
    have e2 : f n = 0 := by grind
    by_cases hn : i = n
    · rw [hn]; exact e2
    · exact ih (fun j hj => h j (by omega)) e1 i (by omega)
/-- a sum above 0 has a part above 0 -/
theorem sm_pos_of {n : Nat} {f : Nat → Rat} (e : 0 < sm n f) : ∃ i, i < n ∧ 0 < f i := by
  induction n with
  | zero => exact absurd (show (0 : Rat) < 0 from e) (by grind)
  | succ n ih =>
    have e' : 0 < sm n f + f n := e
    by_cases h : 0 < f n
    · exact ⟨n, by omega, h⟩
    · have : 0 < sm n f := by grind
      obtain ⟨i, hi, h'⟩ := ih this
      exact ⟨i, by omega, h'⟩
theorem sm_one {n k : Nat} {f : Nat → Rat} (hk : k < n) (h : ∀ i, i < n → i ≠ k → f i = 0) : sm n f = f k := by
  induction n with
  | zero => omega
  | succ n ih =>
    show sm n f + f n = f k
    by_cases hn : k = n
    · subst hn
      rw [sm_zero fun i hi => h i (by omega) (by omega)]; grind
    · rw [ih (by omega) fun i hi hne => h i (by omega) hne, h n (by omega) (by omega)]; grind
theorem sm_ne_zero_of {n : Nat} {f : Nat → Rat} (e : sm n f ≠ 0) : ∃ i, i < n ∧ f i ≠ 0 := by
  apply Classical.byContradiction
  intro h
  exact e (sm_zero fun i hi => Classical.byContradiction fun q => h ⟨i, hi, q⟩)
theorem sm_swap (n m : Nat) (f : Nat → Nat → Rat) : sm n (fun i => sm m (fun j => f i j)) = sm m (fun j => sm n (fun i => f i j)) := by
  induction n with
  | zero => exact (sm_zero (n := m) fun _ _ => rfl).symm
  | succ n ih =>
    show sm n (fun i => sm m (fun j => f i j)) + sm m (fun j => f n j) = _
    rw [ih, ← sm_add]; rfl

/-! ### tables -/
abbrev Mat := Nat → Nat → Rat
/-- y is in the kernel of the first m rows, W columns -/
def Ker (m W : Nat) (T : Mat) (y : Nat → Rat) : Prop := ∀ i, i < m → sm W (fun j => T i j * y j) = 0

/-- turn: column k becomes the one of row r -/
def pivT (T : Mat) (r k : Nat) : Mat := fun i j => if i = r then T r j / T r k else T i j - T i k * (T r j / T r k)
def pivB (B : Nat → Nat) (r k : Nat) : Nat → Nat := fun i => if i = r then k else B i

/-- T is a table of M with the basis B: W columns, the last one the right side -/
structure Tbl (m W : Nat) (M T : Mat) (B : Nat → Nat) : Prop where
  unit : ∀ i l, i < m → l < m → T i (B l) = if i = l then 1 else 0
  lt : ∀ l, l < m → B l + 1 < W
  to : ∀ y, Ker m W M y → Ker m W T y
  back : ∀ y, Ker m W T y → Ker m W M y

theorem Tbl.inj {m W : Nat} {M T : Mat} {B : Nat → Nat} (h : Tbl m W M T B) {i l : Nat} (hi : i < m) (hl : l < m) (e : B i = B l) : i = l := by
  apply Classical.byContradiction
  intro hne
  have h1 := h.unit i l hi hl
  have h2 := h.unit i i hi hi
  rw [if_neg hne, ← e, h2, if_pos rfl] at h1
  exact absurd h1 (by grind)

theorem ker_piv {m W : Nat} {T : Mat} {r k : Nat} (hr : r < m) (hp : T r k ≠ 0) (y : Nat → Rat) : Ker m W (pivT T r k) y ↔ Ker m W T y := by
  have row_r : sm W (fun j => pivT T r k r j * y j) = (1 / T r k) * sm W (fun j => T r j * y j) := by
    rw [← sm_mul]
    refine sm_congr fun j _ => ?_
    simp only [pivT, if_pos]
    grind
  have row_i : ∀ i, i ≠ r → sm W (fun j => pivT T r k i j * y j) = sm W (fun j => T i j * y j) - (T i k / T r k) * sm W (fun j => T r j * y j) := by
    intro i hi
    rw [← sm_mul, ← sm_sub]
    refine sm_congr fun j _ => ?_
    simp only [pivT, if_neg hi]
    grind
  constructor
  · intro h
    have h0 := h r hr
    rw [row_r] at h0
    have hz : sm W (fun j => T r j * y j) = 0 := by grind
    intro i hi
    by_cases e : i = r
    · rw [e]; exact hz
    · have h1 := h i hi
      rw [row_i i e, hz] at h1
      grind
  · intro h i hi
    by_cases e : i = r
    · rw [e, row_r, h r hr]; grind
    · rw [row_i i e, h i hi, h r hr]; grind

theorem Tbl.piv {m W : Nat} {M T : Mat} {B : Nat → Nat} (h : Tbl m W M T B) {r k : Nat} (hr : r < m) (hk : k + 1 < W) (hp : T r k ≠ 0) : Tbl m W M (pivT T r k) (pivB B r k) where
  unit := by
    intro i l hi hl
    by_cases hlr : l = r
    · subst hlr
      have e : pivB B l k l = k := if_pos rfl
      rw [e]
      by_cases hir : i = l
      · subst hir
        simp only [pivT, if_pos]
        grind
      · simp only [pivT, if_neg hir]
        grind
    · have e : pivB B r k l = B l := if_neg hlr
      rw [e]
      have hrl := h.unit r l hr hl
      rw [if_neg (fun q => hlr q.symm)] at hrl
      by_cases hir : i = r
      · subst hir
        simp only [pivT, if_pos, hrl]
        rw [if_neg (fun q => hlr q.symm)]
        grind
      · simp only [pivT, if_neg hir, hrl, h.unit i l hi hl]
        grind
  lt := by
    intro l hl
    unfold pivB
    split
    · exact hk
    · exact h.lt l hl
  to := fun y hy => (ker_piv hr hp y).mpr (h.to y hy)
  back := fun y hy => h.back y ((ker_piv hr hp y).mp hy)

/-! ### reduced costs -/
/-- the sum of the costs of the basis times the entries of a column -/
def mult (m : Nat) (T : Mat) (B : Nat → Nat) (c : Nat → Rat) (k : Nat) : Rat := sm m (fun i => c (B i) * T i k)
/-- how much a column would raise the sum -/
def red (m : Nat) (T : Mat) (B : Nat → Nat) (c : Nat → Rat) (k : Nat) : Rat := c k - mult m T B c k

/-- for y in the kernel: the costs of y are its reduced ones -/
theorem red_ker {m W : Nat} {T : Mat} {B : Nat → Nat} (c y : Nat → Rat) (hy : Ker m W T y) : sm W (fun j => red m T B c j * y j) = sm W (fun j => c j * y j) := by
  have e : sm W (fun j => mult m T B c j * y j) = 0 := by
    have e1 : sm W (fun j => mult m T B c j * y j) = sm W (fun j => sm m (fun i => c (B i) * (T i j * y j))) := by
      refine sm_congr fun j _ => ?_
      unfold mult
      have : sm m (fun i => c (B i) * T i j) * y j = y j * sm m (fun i => c (B i) * T i j) := by grind
      rw [this, ← sm_mul]
      exact sm_congr fun i _ => by grind
    rw [e1, sm_swap]
    refine sm_zero fun i hi => ?_
    rw [sm_mul, hy i hi]; grind
  have : sm W (fun j => red m T B c j * y j) = sm W (fun j => c j * y j - mult m T B c j * y j) := sm_congr fun j _ => by unfold red; grind
  rw [this, sm_sub, e]; grind

theorem red_basic {m W : Nat} {M T : Mat} {B : Nat → Nat} (h : Tbl m W M T B) (c : Nat → Rat) {l : Nat} (hl : l < m) : red m T B c (B l) = 0 := by
  have e : mult m T B c (B l) = c (B l) := by
    unfold mult
    rw [sm_one hl fun i hi hne => ?_]
    · rw [h.unit l l hl hl, if_pos rfl]; grind
    · rw [h.unit i l hi hl, if_neg hne]; grind
  unfold red
  rw [e]; grind

/-- the direction of column k: up along it, the basis follows -/
def dir (m : Nat) (T : Mat) (B : Nat → Nat) (k : Nat) : Nat → Rat := fun j => (if j = k then 1 else 0) - sm m (fun i => if B i = j then T i k else 0)

theorem sm_basis {m W : Nat} {B : Nat → Nat} (lt : ∀ l, l < m → B l < W) (g : Nat → Rat) (f : Nat → Rat) : sm W (fun j => g j * sm m (fun i => if B i = j then f i else 0)) = sm m (fun i => g (B i) * f i) := by
  have e1 : sm W (fun j => g j * sm m (fun i => if B i = j then f i else 0)) = sm W (fun j => sm m (fun i => g j * (if B i = j then f i else 0))) := sm_congr fun j _ => (sm_mul ..).symm
  rw [e1, sm_swap]
  refine sm_congr fun i hi => ?_
  rw [sm_one (lt i hi) fun j _ hne => ?_]
  · rw [if_pos rfl]
  · rw [if_neg (fun q => hne q.symm)]; grind

theorem dir_sum {m W : Nat} {T : Mat} {B : Nat → Nat} (lt : ∀ l, l < m → B l < W) {k : Nat} (hk : k < W) (g : Nat → Rat) : sm W (fun j => g j * dir m T B k j) = g k - sm m (fun i => g (B i) * T i k) := by
  have e1 : sm W (fun j => g j * dir m T B k j) = sm W (fun j => g j * (if j = k then 1 else 0) - g j * sm m (fun i => if B i = j then T i k else 0)) := sm_congr fun j _ => by unfold dir; grind
  rw [e1, sm_sub, sm_basis lt, sm_one hk fun j _ hne => ?_]
  · rw [if_pos rfl]; grind
  · rw [if_neg hne]; grind

theorem dir_ker {m W : Nat} {M T : Mat} {B : Nat → Nat} (h : Tbl m W M T B) {k : Nat} (hk : k < W) : Ker m W T (dir m T B k) := by
  intro i hi
  rw [dir_sum (fun l hl => by have := h.lt l hl; omega) hk, sm_one hi fun l hl hne => ?_]
  · rw [h.unit i i hi hi, if_pos rfl]; grind
  · rw [h.unit i l hi hl, if_neg (fun q => hne q.symm)]; grind

theorem dir_at {m W : Nat} {M T : Mat} {B : Nat → Nat} (h : Tbl m W M T B) {k l : Nat} (hl : l < m) (hk : B l ≠ k) : dir m T B k (B l) = 0 - T l k := by
  unfold dir
  rw [if_neg hk, sm_one hl fun i hi hne => ?_]
  · rw [if_pos rfl]
  · exact if_neg fun q => hne (h.inj hi hl q)
theorem dir_self {m W : Nat} {T : Mat} {B : Nat → Nat} {k : Nat} (hn : ∀ l, l < m → B l ≠ k) : dir m T B k k = 1 := by
  unfold dir
  rw [if_pos rfl, sm_zero fun i hi => if_neg (hn i hi)]; grind
theorem dir_off {m : Nat} {T : Mat} {B : Nat → Nat} {k j : Nat} (hj : j ≠ k) (hn : ∀ l, l < m → B l ≠ j) : dir m T B k j = 0 := by
  unfold dir
  rw [if_neg hj, sm_zero fun i hi => if_neg (hn i hi)]; grind
end Smx
/-! Bland's rule never comes back to a table. Plain Lean. -/
set_option linter.all false
set_option Elab.async false
namespace Smx

theorem red_piv {m : Nat} {T : Mat} {B : Nat → Nat} {r k : Nat} (hr : r < m) (hp : T r k ≠ 0) (c : Nat → Rat) (j : Nat) :
    red m (pivT T r k) (pivB B r k) c j = red m T B c j - red m T B c k * (T r j / T r k) := by
  have e : mult m (pivT T r k) (pivB B r k) c j = (mult m T B c j - (T r j / T r k) * mult m T B c k) + c k * (T r j / T r k) := by
    have e1 : mult m (pivT T r k) (pivB B r k) c j = sm m (fun i => (c (B i) * T i j - (T r j / T r k) * (c (B i) * T i k)) + (if i = r then c k * (T r j / T r k) else 0)) := by
      refine sm_congr fun i _ => ?_
      by_cases h : i = r
      · subst h
        simp only [pivT, pivB, if_pos]
        grind
      · simp only [pivT, pivB, if_neg h]
        grind
    rw [e1, sm_add, sm_sub, sm_mul, sm_one hr fun i _ hne => if_neg hne, if_pos rfl]
    rfl
  unfold red
  rw [e]
  grind

/-- a run of turns by Bland's rule; w: the right side's column -/
structure Run (m w cols : Nat) (M : Mat) (c : Nat → Rat) (T : Nat → Mat) (B : Nat → Nat → Nat) (K R : Nat → Nat) : Prop where
  tbl : ∀ t, Tbl m (w + 1) M (T t) (B t)
  feas : ∀ t i, i < m → 0 ≤ T t i w
  kc : ∀ t, K t < cols
  cw : cols ≤ w
  rm : ∀ t, R t < m
  enter : ∀ t, 0 < red m (T t) (B t) c (K t)
  first : ∀ t j, j < K t → red m (T t) (B t) c j ≤ 0
  pos : ∀ t, 0 < T t (R t) (K t)
  least : ∀ t i, i < m → 0 < T t i (K t) → T t (R t) w * T t i (K t) < T t i w * T t (R t) (K t) ∨ (T t (R t) w * T t i (K t) = T t i w * T t (R t) (K t) ∧ B t (R t) ≤ B t i)
  next : ∀ t i j, i < m → j < w + 1 → T (t + 1) i j = pivT (T t) (R t) (K t) i j
  nextB : ∀ t i, i < m → B (t + 1) i = pivB (B t) (R t) (K t) i

theorem red_same {m : Nat} {T T' : Mat} {B B' : Nat → Nat} {c : Nat → Rat} {j : Nat} (h : ∀ i, i < m → T i j = T' i j) (hB : ∀ i, i < m → B i = B' i) : red m T B c j = red m T' B' c j := by
  unfold red mult
  rw [sm_congr fun i hi => (show c (B i) * T i j = c (B' i) * T' i j by rw [h i hi, hB i hi])]

section
variable {m w cols : Nat} {M : Mat} {c : Nat → Rat} {T : Nat → Mat} {B : Nat → Nat → Nat} {K R : Nat → Nat}
theorem Run.step (h : Run m w cols M c T B K R) (t : Nat) : red m (T (t + 1)) (B (t + 1)) c w = red m (T t) (B t) c w - red m (T t) (B t) c (K t) * (T t (R t) w / T t (R t) (K t)) := by
  rw [red_same (T' := pivT (T t) (R t) (K t)) (B' := pivB (B t) (R t) (K t)) (fun i hi => h.next t i w hi (by omega)) fun i hi => h.nextB t i hi]
  exact red_piv (h.rm t) (by have := h.pos t; grind) c w

theorem quot_nn {a b : Rat} (ha : 0 ≤ a) (hb : 0 < b) : 0 ≤ a / b := by
  rw [Rat.div_def]
  exact Rat.mul_nonneg ha (Rat.le_of_lt (Rat.inv_pos.mpr hb))
theorem mul_nn {a b : Rat} (ha : 0 ≤ a) (hb : 0 ≤ b) : 0 ≤ a * b := Rat.mul_nonneg ha hb

theorem Run.falls (h : Run m w cols M c T B K R) (t : Nat) : red m (T (t + 1)) (B (t + 1)) c w ≤ red m (T t) (B t) c w := by
  have h1 := h.step t
  have h2 := mul_nn (Rat.le_of_lt (h.enter t)) (quot_nn (h.feas t _ (h.rm t)) (h.pos t))
  grind
theorem Run.mono (h : Run m w cols M c T B K R) (a d : Nat) : red m (T (a + d)) (B (a + d)) c w ≤ red m (T a) (B a) c w := by
  induction d with
  | zero => exact Rat.le_refl
  | succ d ih =>
    have := h.falls (a + d)
    exact Rat.le_trans this ih

/-- between two like tables every turn is of length 0 -/
theorem Run.flat (h : Run m w cols M c T B K R) {a b : Nat} (e : red m (T a) (B a) c w = red m (T b) (B b) c w) {t : Nat} (h1 : a ≤ t) (h2 : t < b) : T t (R t) w = 0 := by
  have m1 := h.mono a (t - a)
  have m2 := h.mono (t + 1) (b - (t + 1))
  rw [show a + (t - a) = t by omega] at m1
  rw [show t + 1 + (b - (t + 1)) = b by omega] at m2
  have st := h.step t
  have p1 := h.enter t
  have p2 := h.pos t
  have p3 := h.feas t _ (h.rm t)
  have q := quot_nn p3 p2
  have z : red m (T t) (B t) c (K t) * (T t (R t) w / T t (R t) (K t)) = 0 := by
    have := mul_nn (Rat.le_of_lt p1) q
    grind
  have z2 : T t (R t) w / T t (R t) (K t) = 0 := by
    rcases Rat.mul_eq_zero.mp z with y | y
    · grind
    · exact y
  grind

/-- the value of a column -/
def val (m w : Nat) (T : Mat) (B : Nat → Nat) (j : Nat) : Rat := sm m (fun i => if B i = j then T i w else 0)

theorem Run.val_step (h : Run m w cols M c T B K R) {t : Nat} (z : T t (R t) w = 0) (j : Nat) : val m w (T (t + 1)) (B (t + 1)) j = val m w (T t) (B t) j := by
  refine sm_congr fun i hi => ?_
  rw [h.next t i w hi (by omega), h.nextB t i hi]
  by_cases e : i = R t
  · subst e
    simp only [pivT, pivB, if_pos, z]
    have : (0 : Rat) / T t (R t) (K t) = 0 := by grind
    rw [this]
    split <;> split <;> rfl
  · simp only [pivT, pivB, if_neg e, z]
    have : T t i w - T t i (K t) * (0 / T t (R t) (K t)) = T t i w := by grind
    rw [this]
theorem Run.val_all (h : Run m w cols M c T B K R) {a b : Nat} (z : ∀ t, a ≤ t → t < b → T t (R t) w = 0) (j : Nat) : ∀ d, a + d ≤ b → val m w (T (a + d)) (B (a + d)) j = val m w (T a) (B a) j := by
  intro d
  induction d with
  | zero => intro _; rfl
  | succ d ih =>
    intro hd
    rw [← ih (by omega)]
    exact h.val_step (z (a + d) (by omega) (by omega)) j
theorem val_at {m w : Nat} {M T : Mat} {B : Nat → Nat} (h : Tbl m (w + 1) M T B) {i : Nat} (hi : i < m) : val m w T B (B i) = T i w := by
  unfold val
  rw [sm_one hi fun l hl hne => if_neg fun q => hne (h.inj hl hi q), if_pos rfl]

/-- j is in the basis at t -/
def InB (m : Nat) (B : Nat → Nat → Nat) (t j : Nat) : Prop := ∃ i, i < m ∧ B t i = j

theorem Run.inB_next (h : Run m w cols M c T B K R) {t j : Nat} (hj : InB m B t j) (hn : B t (R t) ≠ j) : InB m B (t + 1) j := by
  obtain ⟨i, hi, e⟩ := hj
  refine ⟨i, hi, ?_⟩
  rw [h.nextB t i hi]
  unfold pivB
  rw [if_neg (fun q => hn (by rw [← q]; exact e))]
  exact e
theorem Run.notB_next (h : Run m w cols M c T B K R) {t j : Nat} (hj : ¬ InB m B t j) (hn : K t ≠ j) : ¬ InB m B (t + 1) j := by
  rintro ⟨i, hi, e⟩
  rw [h.nextB t i hi] at e
  unfold pivB at e
  split at e
  · exact hn e
  · exact hj ⟨i, hi, e⟩
theorem Run.notB (h : Run m w cols M c T B K R) (t : Nat) : ¬ InB m B t (K t) := by
  rintro ⟨i, hi, e⟩
  have h1 := h.enter t
  rw [← e, red_basic (h.tbl t) c hi] at h1
  exact absurd h1 (by grind)
theorem Run.inB (h : Run m w cols M c T B K R) (t : Nat) : InB m B (t + 1) (K t) :=
  ⟨R t, h.rm t, by rw [h.nextB t _ (h.rm t)]; exact if_pos rfl⟩

/-- one that comes in goes out -/
theorem Run.leaves (h : Run m w cols M c T B K R) {a b v : Nat} (same : ∀ i, i < m → B a i = B b i) (h1 : a ≤ v) (h2 : v < b) : ∃ u, a ≤ u ∧ u < b ∧ B u (R u) = K v := by
  apply Classical.byContradiction
  intro hno
  have stay : ∀ t, a ≤ t → t < b → B t (R t) ≠ K v := fun t q1 q2 q3 => hno ⟨t, q1, q2, q3⟩
  have up : ∀ d, v + 1 + d ≤ b → InB m B (v + 1 + d) (K v) := by
    intro d
    induction d with
    | zero => intro _; exact h.inB v
    | succ d ih =>
      intro hd
      exact h.inB_next (ih (by omega)) (stay (v + 1 + d) (by omega) (by omega))
  have hb := up (b - (v + 1)) (by omega)
  rw [show v + 1 + (b - (v + 1)) = b by omega] at hb
  have ha : InB m B a (K v) := by
    obtain ⟨i, hi, e⟩ := hb
    exact ⟨i, hi, by rw [same i hi]; exact e⟩
  have up2 : ∀ d, a + d ≤ v → InB m B (a + d) (K v) := by
    intro d
    induction d with
    | zero => intro _; exact ha
    | succ d ih =>
      intro hd
      exact h.inB_next (ih (by omega)) (stay (a + d) (by omega) (by omega))
  have hv := up2 (v - a) (by omega)
  rw [show a + (v - a) = v by omega] at hv
  exact h.notB v hv
/-- one that is in at u and not at v comes in -/
theorem Run.enters (h : Run m w cols M c T B K R) {a b u v p : Nat} (same : ∀ i, i < m → B a i = B b i) (u1 : a ≤ u) (u2 : u < b) (v1 : a ≤ v) (v2 : v < b) (hu : InB m B u p) (hv : ¬ InB m B v p) : ∃ t, a ≤ t ∧ t < b ∧ K t = p := by
  apply Classical.byContradiction
  intro hno
  have stay : ∀ t, a ≤ t → t < b → K t ≠ p := fun t q1 q2 q3 => hno ⟨t, q1, q2, q3⟩
  have up : ∀ d, v + d ≤ b → ¬ InB m B (v + d) p := by
    intro d
    induction d with
    | zero => intro _; exact hv
    | succ d ih =>
      intro hd
      exact h.notB_next (ih (by omega)) (stay (v + d) (by omega) (by omega))
  have hb := up (b - v) (by omega)
  rw [show v + (b - v) = b by omega] at hb
  have ha : ¬ InB m B a p := by
    rintro ⟨i, hi, e⟩
    exact hb ⟨i, hi, by rw [← same i hi]; exact e⟩
  have up2 : ∀ d, a + d ≤ u → ¬ InB m B (a + d) p := by
    intro d
    induction d with
    | zero => intro _; exact ha
    | succ d ih =>
      intro hd
      exact h.notB_next (ih (by omega)) (stay (a + d) (by omega) (by omega))
  have hu' := up2 (u - a) (by omega)
  rw [show a + (u - a) = u by omega] at hu'
  exact hu' hu

/-- a greatest of some numbers below a bound -/
theorem greatest {P : Nat → Prop} : ∀ n, (∃ j, j < n ∧ P j) → ∃ q, q < n ∧ P q ∧ ∀ j, j < n → P j → j ≤ q := by
  intro n
  induction n with
  | zero => rintro ⟨j, hj, _⟩; omega
  | succ n ih =>
    intro hex
    by_cases hn : P n
    · exact ⟨n, by omega, hn, fun j hj _ => by omega⟩
    · obtain ⟨j, hj, pj⟩ := hex
      have hjn : j ≠ n := fun q => hn (by rw [← q]; exact pj)
      obtain ⟨q, hq, pq, top⟩ := ih ⟨j, by omega, pj⟩
      refine ⟨q, by omega, pq, fun i hi pi => ?_⟩
      by_cases e : i = n
      · rw [e] at pi; exact absurd pi hn
      · exact top i (by omega) pi

theorem bland (h : Run m w cols M c T B K R) {a b : Nat} (hab : a < b) (same : ∀ i, i < m → B a i = B b i) (sameT : ∀ i, i < m → T a i w = T b i w) : False := by
  have flat : ∀ t, a ≤ t → t < b → T t (R t) w = 0 := fun t h1 h2 => h.flat (red_same sameT same) h1 h2
  obtain ⟨q, hq, ⟨v, v1, v2, hv⟩, top⟩ := greatest (P := fun j => ∃ t, a ≤ t ∧ t < b ∧ K t = j) cols ⟨K a, h.kc a, a, Nat.le_refl _, hab, rfl⟩
  obtain ⟨u, u1, u2, hu⟩ := h.leaves same v1 v2
  rw [hv] at hu
  have hs : K u < q := by
    have h1 := top (K u) (h.kc u) ⟨u, u1, u2, rfl⟩
    have h2 : K u ≠ q := fun e => h.notB u ⟨R u, h.rm u, by rw [hu, e]⟩
    omega
  have ltu : ∀ l, l < m → B u l < w + 1 := fun l hl => by have := (h.tbl u).lt l hl; omega
  have hsw : K u < w + 1 := by have := h.kc u; have := h.cw; omega
  have ky := dir_ker (h.tbl u) hsw
  have ky2 := (h.tbl v).to _ ((h.tbl u).back _ ky)
  have e1 := red_ker (B := B u) c _ ky
  have e2 := red_ker (B := B v) c _ ky2
  rw [dir_sum ltu hsw] at e1 e2
  have e3 : sm m (fun i => red m (T u) (B u) c (B u i) * T u i (K u)) = 0 := sm_zero fun i hi => by rw [red_basic (h.tbl u) c hi]; grind
  have p1 := h.enter u
  have p2 := h.first v (K u) (by rw [hv]; exact hs)
  have e4 : 0 < sm m (fun i => 0 - red m (T v) (B v) c (B u i) * T u i (K u)) := by
    rw [sm_sub, sm_zero (f := fun _ => 0) fun _ _ => rfl]
    grind
  obtain ⟨i, hi, pi⟩ := sm_pos_of e4
  have nz : red m (T v) (B v) c (B u i) ≠ 0 := fun z => by rw [z] at pi; exact absurd pi (by grind)
  have nv : ¬ InB m B v (B u i) := by
    rintro ⟨l, hl, e⟩
    rw [← e] at nz
    exact nz (red_basic (h.tbl v) c hl)
  obtain ⟨x, x1, x2, hx⟩ := h.enters same u1 u2 v1 v2 ⟨i, hi, rfl⟩ nv
  have ple : B u i ≤ q := top (B u i) (by rw [← hx]; exact h.kc x) ⟨x, x1, x2, hx⟩
  have qpos := h.enter v
  rw [hv] at qpos
  by_cases pq : B u i = q
  · have hir : i = R u := (h.tbl u).inj hi (h.rm u) (by rw [pq, hu])
    subst hir
    rw [pq] at pi
    have := mul_nn (Rat.le_of_lt qpos) (Rat.le_of_lt (h.pos u))
    grind
  · have plt : B u i < q := by omega
    have rn := h.first v (B u i) (by rw [hv]; exact plt)
    have tp : 0 < T u i (K u) := by
      apply Classical.byContradiction
      intro hn
      have h1 : 0 ≤ 0 - red m (T v) (B v) c (B u i) := by grind
      have h2 : 0 ≤ 0 - T u i (K u) := by grind
      have := mul_nn h1 h2
      grind
    obtain ⟨y, y1, y2, hy⟩ := h.leaves same x1 x2
    have c1 := h.val_all flat (B u i) (u - a) (by omega)
    have c2 := h.val_all flat (B u i) (y - a) (by omega)
    rw [show a + (u - a) = u by omega, val_at (h.tbl u) hi] at c1
    rw [show a + (y - a) = y by omega, ← hx, ← hy, val_at (h.tbl y) (h.rm y), flat y y1 y2, hy, hx] at c2
    have z : T u i w = 0 := by rw [c1, ← c2]
    rcases h.least u i hi tp with l | ⟨_, l⟩
    · rw [z, flat u u1 u2] at l
      exact absurd l (by grind)
    · rw [hu] at l; omega
end
end Smx
/-! Determinants by columns; how great the entries of a table are; a table is told by its basis. Plain Lean. -/
set_option linter.all false
set_option Elab.async false
namespace Smx

def sg (l : Nat) : Rat := if l % 2 = 0 then 1 else -1
def skip (l j : Nat) : Nat := if j < l then j else j + 1
theorem skip_back {l p : Nat} (h : l ≠ p) : skip l (if p < l then p else p - 1) = p := by
  unfold skip
  by_cases q : p < l
  · rw [if_pos q, if_pos q]
  · rw [if_neg q, if_neg (by omega)]
    omega
theorem skip_back1 {l p : Nat} (h : l ≠ p) (h' : l ≠ p + 1) : skip l ((if p < l then p else p - 1) + 1) = p + 1 := by
  unfold skip
  by_cases q : p < l
  · rw [if_pos q, if_pos (by omega)]
  · rw [if_neg q, if_neg (by omega)]
    omega
/-- a l i: the entry of column l at row i -/
def det : Nat → Mat → Rat
  | 0, _ => 1
  | m + 1, a => sm (m + 1) (fun l => sg l * a l 0 * det m (fun j i => a (skip l j) (i + 1)))

theorem det_congr : ∀ {m : Nat} {a b : Mat}, (∀ l i, l < m → i < m → a l i = b l i) → det m a = det m b
  | 0, _, _, _ => rfl
  | m + 1, a, b, h => by
    refine sm_congr fun l hl => ?_
    rw [h l 0 hl (by omega), det_congr (m := m) (a := fun j i => a (skip l j) (i + 1)) (b := fun j i => b (skip l j) (i + 1)) fun j i hj hi => ?_]
    exact h _ _ (by unfold skip; split <;> omega) (by omega)

/-- linear in column p -/
theorem det_lin : ∀ {m p : Nat} {a b c : Mat} {x y : Rat}, p < m → (∀ l i, l < m → l ≠ p → a l i = b l i ∧ a l i = c l i) → (∀ i, a p i = x * b p i + y * c p i) → det m a = x * det m b + y * det m c
  | 0, _, _, _, _, _, _, hp, _, _ => by omega
  | m + 1, p, a, b, c, x, y, hp, ho, hl => by
    show sm (m + 1) _ = x * sm (m + 1) _ + y * sm (m + 1) _
    rw [← sm_mul, ← sm_mul, ← sm_add]
    refine sm_congr fun l hlm => ?_
    by_cases e : l = p
    · subst e
      have e1 : det m (fun j i => a (skip l j) (i + 1)) = det m (fun j i => b (skip l j) (i + 1)) := det_congr fun j i hj _ => (ho _ _ (by unfold skip; split <;> omega) (by unfold skip; split <;> omega)).1
      have e2 : det m (fun j i => a (skip l j) (i + 1)) = det m (fun j i => c (skip l j) (i + 1)) := det_congr fun j i hj _ => (ho _ _ (by unfold skip; split <;> omega) (by unfold skip; split <;> omega)).2
      rw [← e2, ← e1, hl 0]
      grind
    · have e1 := (ho l 0 hlm e).1
      have e2 := (ho l 0 hlm e).2
      have ih := det_lin (m := m) (p := if p < l then p else p - 1) (a := fun j i => a (skip l j) (i + 1)) (b := fun j i => b (skip l j) (i + 1)) (c := fun j i => c (skip l j) (i + 1)) (x := x) (y := y) (by split <;> omega)
        (fun j i hj hne => ho _ _ (by unfold skip; split <;> omega) (by
          unfold skip
          split at hne <;> split <;> omega))
        (fun i => by
          simp only [skip_back e]
          exact hl (i + 1))
      rw [ih, ← e1, ← e2]
      grind

theorem sm_two {n p : Nat} {f : Nat → Rat} (hp : p + 1 < n) (h : ∀ i, i < n → i ≠ p → i ≠ p + 1 → f i = 0) : sm n f = f p + f (p + 1) := by
  have e1 : sm n f = sm n (fun i => (if i = p then f p else 0) + (if i = p + 1 then f (p + 1) else 0)) := by
    refine sm_congr fun i hi => ?_
    by_cases h1 : i = p
    · subst h1
      rw [if_pos rfl, if_neg (by omega)]; grind
    · by_cases h2 : i = p + 1
      · subst h2
        rw [if_pos rfl, if_neg (by omega)]; grind
      · rw [if_neg h1, if_neg h2, h i hi h1 h2]; grind
  rw [e1, sm_add, sm_one (k := p) (by omega) fun i _ hne => if_neg hne, sm_one (k := p + 1) (by omega) fun i _ hne => if_neg hne, if_pos rfl, if_pos rfl]

/-- two like neighbors -/
theorem det_adj : ∀ {m p : Nat} {a : Mat}, p + 1 < m → (∀ i, a p i = a (p + 1) i) → det m a = 0
  | 0, _, _, hp, _ => by omega
  | m + 1, p, a, hp, h => by
    show sm (m + 1) _ = 0
    rw [sm_two hp fun l hl h1 h2 => ?_]
    · have e : det m (fun j i => a (skip p j) (i + 1)) = det m (fun j i => a (skip (p + 1) j) (i + 1)) := by
        refine det_congr fun j i hj _ => ?_
        by_cases hjp : j = p
        · subst hjp
          have e1 : skip j j = j + 1 := if_neg (by omega)
          have e2 : skip (j + 1) j = j := if_pos (by omega)
          rw [e1, e2]
          exact (h (i + 1)).symm
        · have : skip p j = skip (p + 1) j := by unfold skip; split <;> split <;> omega
          rw [this]
      have s : sg (p + 1) = 0 - sg p := by
        unfold sg
        split <;> split <;> first | omega | grind
      rw [e, h 0, s]
      grind
    · have z : det m (fun j i => a (skip l j) (i + 1)) = 0 := by
        refine det_adj (m := m) (p := if p < l then p else p - 1) (by split <;> omega) fun i => ?_
        rw [skip_back h1, skip_back1 h1 h2]
        exact h (i + 1)
      rw [z]; grind

/-- a with column p put to v -/
def putC (a : Mat) (p : Nat) (v : Nat → Rat) : Mat := fun l i => if l = p then v i else a l i
theorem putC_self (a : Mat) (p : Nat) (v : Nat → Rat) (i : Nat) : putC a p v p i = v i := if_pos rfl
theorem putC_ne {a : Mat} {p l : Nat} {v : Nat → Rat} (h : l ≠ p) (i : Nat) : putC a p v l i = a l i := if_neg h

theorem det_put {m p : Nat} {a : Mat} {u v : Nat → Rat} {x y : Rat} (hp : p < m) : det m (putC a p (fun i => x * u i + y * v i)) = x * det m (putC a p u) + y * det m (putC a p v) :=
  det_lin hp (fun l i _ hne => by simp only [putC_ne hne]; exact ⟨trivial, trivial⟩) fun i => by simp only [putC_self]

/-- neighbors exchanged -/
theorem det_swap {m p : Nat} {a : Mat} {u v : Nat → Rat} (hp : p + 1 < m) : det m (putC (putC a p u) (p + 1) v) = 0 - det m (putC (putC a p v) (p + 1) u) := by
  have both : ∀ w : Nat → Rat, det m (putC (putC a p w) (p + 1) w) = 0 := fun w => det_adj hp fun i => by
    rw [putC_self, putC_ne (by omega), putC_self]
  have comm : ∀ s t : Nat → Rat, det m (putC (putC a p s) (p + 1) t) = det m (putC (putC a (p + 1) t) p s) := fun s t => det_congr fun l i _ _ => by
    by_cases h1 : l = p + 1
    · subst h1
      rw [putC_self, putC_ne (by omega), putC_self]
    · rw [putC_ne h1]
      by_cases h2 : l = p
      · subst h2
        rw [putC_self, putC_self]
      · rw [putC_ne h2, putC_ne h2, putC_ne h1]
  have h := both (fun i => 1 * u i + 1 * v i)
  rw [det_put hp, comm, comm, det_put (by omega), det_put (by omega), ← comm, ← comm, ← comm, ← comm, both u, both v] at h
  grind

/-- two like columns -/
theorem det_alt {m : Nat} : ∀ (d p : Nat) {a : Mat}, p + d + 1 < m → (∀ i, a p i = a (p + d + 1) i) → det m a = 0
  | 0, p, a, hp, h => det_adj hp h
  | d + 1, p, a, hp, h => by
    have e : det m a = det m (putC (putC a (p + d + 1) (a (p + d + 1))) (p + d + 1 + 1) (a (p + d + 1 + 1))) := det_congr fun l i _ _ => by
      by_cases h1 : l = p + d + 1 + 1
      · subst h1; rw [putC_self]
      · rw [putC_ne h1]
        by_cases h2 : l = p + d + 1
        · subst h2; rw [putC_self]
        · rw [putC_ne h2]
    rw [e, det_swap (by omega), det_alt d p (by omega) fun i => ?_]
    · grind
    · rw [putC_ne (by omega), putC_ne (by omega), putC_ne (by omega), putC_self]
      exact h i

theorem det_like {m p q : Nat} {a : Mat} (hp : p < m) (hq : q < m) (hne : p ≠ q) (h : ∀ i, a p i = a q i) : det m a = 0 := by
  by_cases hl : p < q
  · exact det_alt (q - p - 1) p (by omega) (by rw [show p + (q - p - 1) + 1 = q by omega]; exact h)
  · exact det_alt (p - q - 1) q (by omega) (by rw [show q + (p - q - 1) + 1 = p by omega]; exact fun i => (h i).symm)

theorem det_zero {m p : Nat} {a : Mat} (hp : p < m) : det m (putC a p (fun _ => 0)) = 0 := by
  have h := det_put (m := m) (a := a) (u := fun _ => 0) (v := fun _ => 0) (x := 0) (y := 0) hp
  have e : det m (putC a p (fun _ => 0)) = det m (putC a p (fun i => (0 : Rat) * (fun _ => 0) i + 0 * (fun _ => (0 : Rat)) i)) := det_congr fun l i _ _ => by
    unfold putC
    split
    · grind
    · rfl
  rw [e, h]; grind
theorem det_sum {m p : Nat} {a : Mat} (hp : p < m) (t : Nat → Rat) (v : Nat → Nat → Rat) : ∀ n, det m (putC a p (fun i => sm n (fun l => t l * v l i))) = sm n (fun l => t l * det m (putC a p (v l)))
  | 0 => det_zero hp
  | n + 1 => by
    have ih := det_sum hp t v n (a := a)
    show det m (putC a p (fun i => sm n (fun l => t l * v l i) + t n * v n i)) = sm n _ + t n * det m (putC a p (v n))
    rw [← ih]
    have h := det_put (m := m) (a := a) (u := fun i => sm n (fun l => t l * v l i)) (v := v n) (x := 1) (y := t n) hp
    have e : det m (putC a p (fun i => sm n (fun l => t l * v l i) + t n * v n i)) = det m (putC a p (fun i => 1 * sm n (fun l => t l * v l i) + t n * v n i)) := det_congr fun l i _ _ => by
      unfold putC
      split
      · grind
      · rfl
    rw [e, h]; grind

theorem det_id : ∀ m, det m (fun l i => if i = l then 1 else 0) = 1
  | 0 => rfl
  | m + 1 => by
    show sm (m + 1) _ = 1
    rw [sm_one (k := 0) (by omega) fun l _ hne => ?_]
    · have e : det m (fun j i => (if i + 1 = skip 0 j then 1 else 0)) = det m (fun l i => if i = l then 1 else 0) := det_congr fun j i _ _ => by
        have : skip 0 j = j + 1 := if_neg (by omega)
        rw [this]
        by_cases h : i = j
        · rw [if_pos h, if_pos (by omega)]
        · rw [if_neg h, if_neg (by omega)]
      rw [e, det_id m]
      show (if 0 % 2 = 0 then (1 : Rat) else -1) * (if 0 = 0 then 1 else 0) * 1 = 1
      rw [if_pos (by decide), if_pos rfl]; grind
    · show sg l * (if 0 = l then (1 : Rat) else 0) * _ = 0
      rw [if_neg (fun q => hne q.symm)]; grind

/-! ### size -/
def fc : Nat → Rat
  | 0 => 1
  | m + 1 => ((m + 1 : Nat) : Rat) * fc m
def In (b x : Rat) : Prop := 0 - b ≤ x ∧ x ≤ b
theorem In.nn {b x : Rat} (h : In b x) : 0 ≤ b := by unfold In at h; grind
theorem In.mul {a b x y : Rat} (h : In a x) (h' : In b y) : In (a * b) (x * y) := by
  have ha := h.nn
  have hb := h'.nn
  unfold In at h h' ⊢
  have p1 := mul_nn' (show 0 ≤ a - x by grind) (show 0 ≤ b - y by grind)
  have p2 := mul_nn' (show 0 ≤ a + x by grind) (show 0 ≤ b + y by grind)
  have p3 := mul_nn' (show 0 ≤ a - x by grind) (show 0 ≤ b + y by grind)
  have p4 := mul_nn' (show 0 ≤ a + x by grind) (show 0 ≤ b - y by grind)
  constructor <;> grind
where mul_nn' {a b : Rat} (ha : 0 ≤ a) (hb : 0 ≤ b) : 0 ≤ a * b := Rat.mul_nonneg ha hb
theorem In.sum {b : Rat} {f : Nat → Rat} : ∀ n, (∀ i, i < n → In b (f i)) → In ((n : Rat) * b) (sm n f)
  | 0, _ => by
    unfold In
    show 0 - ((0 : Nat) : Rat) * b ≤ 0 ∧ (0 : Rat) ≤ ((0 : Nat) : Rat) * b
    have : ((0 : Nat) : Rat) = 0 := rfl
    rw [this]
    constructor <;> grind
  | n + 1, h => by
    have ih := In.sum n fun i hi => h i (by omega)
    have h1 := h n (by omega)
    unfold In at *
    show 0 - ((n + 1 : Nat) : Rat) * b ≤ sm n f + f n ∧ sm n f + f n ≤ ((n + 1 : Nat) : Rat) * b
    have : ((n + 1 : Nat) : Rat) = (n : Rat) + 1 := by push_cast; rfl
    rw [this]
    constructor <;> grind
theorem In.mono {a b x : Rat} (h : In a x) (hab : a ≤ b) : In b x := by unfold In at *; constructor <;> grind
theorem In.sg (l : Nat) {b x : Rat} (h : In b x) : In b (sg l * x) := by
  unfold In Smx.sg at *
  split <;> constructor <;> grind
theorem fc_pos : ∀ m, 0 < fc m
  | 0 => by show (0 : Rat) < 1; grind
  | m + 1 => by
    have := fc_pos m
    show 0 < ((m + 1 : Nat) : Rat) * fc m
    exact Rat.mul_pos (by have : ((m + 1 : Nat) : Rat) = (m : Rat) + 1 := by push_cast; rfl
                          rw [this]
                          have : (0 : Rat) ≤ (m : Rat) := by exact_mod_cast Nat.zero_le m
                          grind) this
theorem det_in : ∀ {m p : Nat} {a : Mat} {C : Rat}, 1 ≤ C → (∀ l i, l < m → i < m → l ≠ p → In 1 (a l i)) → (∀ i, p < m → i < m → In C (a p i)) → In (fc m * C) (det m a)
  | 0, _, _, C, hC, _, _ => by
    show In (1 * C) 1
    unfold In
    constructor <;> grind
  | m + 1, p, a, C, hC, h1, h2 => by
    have key : ∀ l, l < m + 1 → In (fc m * C) (sg l * a l 0 * det m (fun j i => a (skip l j) (i + 1))) := by
      intro l hl
      have f0 := fc_pos m
      by_cases e : l = p
      · subst e
        have ih := det_in (m := m) (p := m) (a := fun j i => a (skip l j) (i + 1)) (C := 1) Rat.le_refl
          (fun j i hj hi _ => h1 _ _ (by unfold skip; split <;> omega) (by omega) (by unfold skip; split <;> omega)) (fun i h _ => by omega)
        have q := ((h2 0 hl (by omega)).mul ih).sg l
        rw [show C * (fc m * 1) = fc m * C by grind] at q
        rw [show sg l * a l 0 * det m (fun j i => a (skip l j) (i + 1)) = sg l * (a l 0 * det m (fun j i => a (skip l j) (i + 1))) by grind]
        exact q
      · have ih := det_in (m := m) (p := if p < l then p else p - 1) (a := fun j i => a (skip l j) (i + 1)) (C := C) hC
          (fun j i hj hi hne => h1 _ _ (by unfold skip; split <;> omega) (by omega) (by unfold skip; split at hne <;> split <;> omega))
          (fun i hp hi => by
            rw [skip_back e]
            exact h2 _ (by split at hp <;> omega) (by omega))
        have q := ((h1 l 0 hl (by omega) e).mul ih).sg l
        rw [show 1 * (fc m * C) = fc m * C by grind] at q
        rw [show sg l * a l 0 * det m (fun j i => a (skip l j) (i + 1)) = sg l * (a l 0 * det m (fun j i => a (skip l j) (i + 1))) by grind]
        exact q
    have s := In.sum (m + 1) key
    rw [show ((m + 1 : Nat) : Rat) * (fc m * C) = fc (m + 1) * C by show _ = ((m + 1 : Nat) : Rat) * fc m * C; grind] at s
    exact s

/-- whole numbers -/
def IsI (x : Rat) : Prop := ∃ z : Int, x = (z : Rat)
theorem IsI.add {x y : Rat} : IsI x → IsI y → IsI (x + y) := by
  rintro ⟨a, rfl⟩ ⟨b, rfl⟩
  exact ⟨a + b, by push_cast; rfl⟩
theorem IsI.mul {x y : Rat} : IsI x → IsI y → IsI (x * y) := by
  rintro ⟨a, rfl⟩ ⟨b, rfl⟩
  exact ⟨a * b, by push_cast; rfl⟩
theorem IsI.zero : IsI 0 := ⟨0, rfl⟩
theorem IsI.one : IsI 1 := ⟨1, rfl⟩
theorem IsI.sum {f : Nat → Rat} : ∀ n, (∀ i, i < n → IsI (f i)) → IsI (sm n f)
  | 0, _ => IsI.zero
  | n + 1, h => (IsI.sum n fun i hi => h i (by omega)).add (h n (by omega))
theorem det_int : ∀ {m : Nat} {a : Mat}, (∀ l i, l < m → i < m → IsI (a l i)) → IsI (det m a)
  | 0, _, _ => IsI.one
  | m + 1, a, h => IsI.sum _ fun l hl => by
    refine IsI.mul (IsI.mul ?_ (h l 0 hl (by omega))) (det_int fun j i hj hi => h _ _ (by unfold skip; split <;> omega) (by omega))
    unfold sg
    split
    · exact IsI.one
    · exact ⟨-1, rfl⟩

/-! ### tables -/
/-- the determinant of the basis -/
def bd (m : Nat) (M : Mat) (B : Nat → Nat) : Rat := det m (fun l i => M i (B l))
theorem col_eq {m W : Nat} {M T : Mat} {B : Nat → Nat} (h : Tbl m W M T B) {j : Nat} (hj : j < W) {i : Nat} (hi : i < m) : M i j = sm m (fun l => T l j * M i (B l)) := by
  have ky := h.back _ (dir_ker h hj) i hi
  rw [dir_sum (fun l hl => by have := h.lt l hl; omega) hj] at ky
  have e : sm m (fun l => M i (B l) * T l j) = sm m (fun l => T l j * M i (B l)) := sm_congr fun l _ => by grind
  rw [e] at ky
  grind
theorem cramer {m W : Nat} {M T : Mat} {B : Nat → Nat} (h : Tbl m W M T B) {j r : Nat} (hj : j < W) (hr : r < m) : det m (putC (fun l i => M i (B l)) r (fun i => M i j)) = T r j * bd m M B := by
  have e : det m (putC (fun l i => M i (B l)) r (fun i => M i j)) = det m (putC (fun l i => M i (B l)) r (fun i => sm m (fun l => T l j * (fun l i => M i (B l)) l i))) := det_congr fun l i _ hi => by
    unfold putC
    split
    · exact col_eq h hj hi
    · rfl
  rw [e, det_sum hr, sm_one hr fun l hl hne => ?_]
  · have : det m (putC (fun l i => M i (B l)) r (fun i => M i (B r))) = bd m M B := det_congr fun l i _ _ => by
      unfold putC
      split
      · rename_i q; rw [q]
      · rfl
    rw [← this]
  · rw [det_like hr hl (fun q => hne q.symm) fun i => ?_]
    · grind
    · rw [putC_self, putC_ne hne]
theorem bd_piv {m W : Nat} {M T : Mat} {B : Nat → Nat} (h : Tbl m W M T B) {k r : Nat} (hk : k < W) (hr : r < m) : bd m M (pivB B r k) = T r k * bd m M B := by
  rw [← cramer h hk hr]
  refine det_congr fun l i _ _ => ?_
  unfold putC pivB
  split <;> rfl
/-- a table is told by its basis -/
theorem tbl_unique {m W : Nat} {M T T' : Mat} {B B' : Nat → Nat} (h : Tbl m W M T B) (h' : Tbl m W M T' B') (hd : bd m M B ≠ 0) (e : ∀ l, l < m → B l = B' l) {i j : Nat} (hi : i < m) (hj : j < W) : T i j = T' i j := by
  have c1 := cramer h hj hi
  have c2 := cramer h' hj hi
  have e1 : bd m M B' = bd m M B := det_congr fun l i hl _ => by simp only [e l hl]
  have e2 : det m (putC (fun l i => M i (B' l)) i (fun i => M i j)) = det m (putC (fun l i => M i (B l)) i (fun i => M i j)) := det_congr fun l i' hl _ => by
    unfold putC
    split
    · rfl
    · simp only [e l hl]
  rw [e1, e2, c1] at c2
  grind

theorem size_of {x D N : Rat} (hD : IsI D) (hN : IsI N) (hd : D ≠ 0) (e : N = x * D) : ∃ d n : Int, D = (d : Rat) ∧ N = (n : Rat) ∧ x.den ≤ d.natAbs ∧ x.num.natAbs ≤ n.natAbs := by
  obtain ⟨d, rfl⟩ := hD
  obtain ⟨n, rfl⟩ := hN
  refine ⟨d, n, rfl, rfl, ?_⟩
  have hd0 : d ≠ 0 := fun z => hd (by rw [z]; rfl)
  have hx : x = (x.num : Rat) / (x.den : Rat) := by
    have := Rat.num_divInt_den x
    rw [Rat.divInt_eq_div] at this
    exact this.symm
  have hden : (x.den : Rat) ≠ 0 := by
    have := x.den_pos
    intro z
    have : x.den = 0 := by exact_mod_cast z
    omega
  have e1 : (n : Rat) * (x.den : Rat) = (x.num : Rat) * (d : Rat) := by
    rw [e]
    have : x * (x.den : Rat) = (x.num : Rat) := by
      have h2 := hx
      grind
    grind
  have e2 : n * (x.den : Int) = x.num * d := by exact_mod_cast e1
  have cop := x.reduced
  have dv : x.den ∣ d.natAbs := by
    have h1 : x.den ∣ x.num.natAbs * d.natAbs := by
      rw [← Int.natAbs_mul, ← e2, Int.natAbs_mul]
      exact ⟨n.natAbs, by rw [Int.natAbs_natCast, Nat.mul_comm]⟩
    exact (Nat.Coprime.symm cop).dvd_of_dvd_mul_left h1
  obtain ⟨q, hq⟩ := dv
  have hq0 : q ≠ 0 := fun z => by
    rw [z] at hq
    exact hd0 (Int.natAbs_eq_zero.mp hq)
  refine ⟨by rw [hq]; exact Nat.le_mul_of_pos_right _ (by omega), ?_⟩
  have h3 : n.natAbs * x.den = x.num.natAbs * (x.den * q) := by
    have := congrArg Int.natAbs e2
    rw [Int.natAbs_mul, Int.natAbs_mul, Int.natAbs_natCast, hq] at this
    exact this
  have h4 : n.natAbs = x.num.natAbs * q := by
    have : n.natAbs * x.den = (x.num.natAbs * q) * x.den := by rw [h3]; ac_rfl
    exact Nat.eq_of_mul_eq_mul_right x.den_pos this
  rw [h4]
  exact Nat.le_mul_of_pos_right _ (by omega)

theorem abs_of_in {b : Nat} {z : Int} (h : In (b : Rat) (z : Rat)) : z.natAbs ≤ b := by
  unfold In at h
  obtain ⟨h1, h2⟩ := h
  have h2' : z ≤ (b : Int) := by exact_mod_cast h2
  have h1' : -(b : Int) ≤ z := by
    have q : ((-(b : Int) : Int) : Rat) ≤ (z : Rat) := by
      rw [Rat.intCast_neg, Rat.intCast_natCast]
      grind
    exact Rat.intCast_le_intCast.mp q
  omega
end Smx
/-! Tables as lists; the climb ends. Plain Lean. -/
set_option linter.all false
set_option Elab.async false
namespace Smx

abbrev Row := List Rat
/-- rows, basis -/
abbrev Tab := List Row × List Nat
def gt (R : List Row) : Mat := fun i j => (R.getD i []).getD j 0
def gb (B : List Nat) : Nat → Nat := fun i => B.getD i 0
def gc (c : List Rat) : Nat → Rat := fun j => c.getD j 0

structure Wf (m W : Nat) (s : Tab) : Prop where
  len : s.1.length = m
  row : ∀ i, i < m → (s.1.getD i []).length = W
  blen : s.2.length = m

/-- a row less a multiple of the turned one -/
def clr (f : Rat) (row pr : Row) : Row := List.zipWith (fun a b => a - f * b) row pr
def trow (r k : Nat) (pr : Row) (i : Nat) (row : Row) : Row := if i = r ∨ row.getD k 0 = 0 then row else clr (row.getD k 0) row pr
def prow (s : Tab) (r k : Nat) : Row := (s.1.getD r []).map (· / gt s.1 r k)
def trn (s : Tab) (r k : Nat) : Tab := ((s.1.set r (prow s r k)).mapIdx (trow r k (prow s r k)), s.2.set r k)

theorem getD_map_row {row : Row} {f : Rat → Rat} {j : Nat} (h : j < row.length) : (row.map f).getD j 0 = f (row.getD j 0) := by
  simp [List.getD_eq_getElem?_getD, List.getElem?_map, List.getElem?_eq_getElem h]
theorem getD_clr {row pr : Row} {f : Rat} {j : Nat} (h : j < row.length) (h' : j < pr.length) : (clr f row pr).getD j 0 = row.getD j 0 - f * pr.getD j 0 := by
  simp [clr, List.getD_eq_getElem?_getD, List.getElem?_zipWith, List.getElem?_eq_getElem h, List.getElem?_eq_getElem h']
theorem clr_len {row pr : Row} {f : Rat} : (clr f row pr).length = min row.length pr.length := by simp [clr]

theorem trn_row {m W : Nat} {s : Tab} (h : Wf m W s) {r k i : Nat} (hi : i < m) : (trn s r k).1.getD i [] = trow r k (prow s r k) i (if i = r then prow s r k else s.1.getD i []) := by
  have hl := h.len
  have hi' : i < s.1.length := by omega
  unfold trn
  simp only [List.getD_eq_getElem?_getD, List.getElem?_mapIdx, List.getElem?_set]
  by_cases e : r = i
  · subst e
    simp [hi']
  · have e' : ¬ i = r := fun q => e q.symm
    simp [e, e', List.getElem?_eq_getElem hi']
theorem prow_len {m W : Nat} {s : Tab} (h : Wf m W s) {r k : Nat} (hr : r < m) : (prow s r k).length = W := by
  unfold prow
  rw [List.length_map, h.row r hr]
theorem trn_wf {m W : Nat} {s : Tab} (h : Wf m W s) {r k : Nat} (hr : r < m) : Wf m W (trn s r k) where
  len := by unfold trn; simp [h.len]
  row := fun i hi => by
    rw [trn_row h hi]
    have h1 := prow_len h (k := k) hr
    have h2 := h.row i hi
    have h3 : (if i = r then prow s r k else s.1.getD i []).length = W := by split <;> assumption
    unfold trow
    by_cases e : i = r ∨ (if i = r then prow s r k else s.1.getD i []).getD k 0 = 0
    · rw [if_pos e]; exact h3
    · rw [if_neg e, clr_len, h1, h3]; omega
  blen := by unfold trn; simp [h.blen]
theorem trn_gt {m W : Nat} {s : Tab} (h : Wf m W s) {r k i j : Nat} (hr : r < m) (hk : k < W) (hi : i < m) (hj : j < W) : gt (trn s r k).1 i j = pivT (gt s.1) r k i j := by
  have h1 := h.row r hr
  have h2 := h.row i hi
  have hp : ∀ j, j < W → (prow s r k).getD j 0 = gt s.1 r j / gt s.1 r k := fun j hj => by
    unfold prow
    rw [getD_map_row (by rw [h1]; exact hj)]
    rfl
  show ((trn s r k).1.getD i []).getD j 0 = _
  rw [trn_row h hi]
  unfold trow pivT
  by_cases e : i = r
  · rw [if_pos (.inl e), if_pos e, if_pos e]
    exact hp j hj
  · rw [if_neg e, if_neg e]
    by_cases z : (s.1.getD i []).getD k 0 = 0
    · rw [if_pos (.inr z)]
      have : gt s.1 i k = 0 := z
      rw [this]
      show gt s.1 i j = _
      grind
    · rw [if_neg (by intro q; rcases q with q | q; exact e q; exact z q), getD_clr (by rw [h2]; exact hj) (by rw [prow_len h hr]; exact hj), hp j hj]
      rfl
theorem trn_gb {m W : Nat} {s : Tab} (h : Wf m W s) {r k i : Nat} (hi : i < m) : gb (trn s r k).2 i = pivB (gb s.2) r k i := by
  have hl := h.blen
  unfold trn gb pivB
  simp only [List.getD_eq_getElem?_getD, List.getElem?_set]
  by_cases e : r = i
  · subst e
    simp [hl, hi]
  · have e' : ¬ i = r := fun q => e q.symm
    simp [e, e']

/-- a table is the same where it is looked at -/
theorem Tbl.same {m W : Nat} {M T T' : Mat} {B B' : Nat → Nat} (h : Tbl m W M T B) (hT : ∀ i j, i < m → j < W → T' i j = T i j) (hB : ∀ i, i < m → B' i = B i) : Tbl m W M T' B' := by
  have kr : ∀ y, Ker m W T' y ↔ Ker m W T y := fun y => by
    have e : ∀ i, i < m → sm W (fun j => T' i j * y j) = sm W (fun j => T i j * y j) := fun i hi => sm_congr fun j hj => by rw [hT i j hi hj]
    exact ⟨fun q i hi => by rw [← e i hi]; exact q i hi, fun q i hi => by rw [e i hi]; exact q i hi⟩
  refine ⟨fun i l hi hl => ?_, fun l hl => by rw [hB l hl]; exact h.lt l hl, fun y hy => (kr y).mpr (h.to y hy), fun y hy => h.back y ((kr y).mp hy)⟩
  rw [hB l hl, hT i _ hi (by have := h.lt l hl; omega)]
  exact h.unit i l hi hl

/-- what holds of every table on the way -/
structure Good (m w : Nat) (M : Mat) (s : Tab) : Prop where
  wf : Wf m (w + 1) s
  tbl : Tbl m (w + 1) M (gt s.1) (gb s.2)
  feas : ∀ i, i < m → 0 ≤ gt s.1 i w
  bd0 : bd m M (gb s.2) ≠ 0

theorem Good.turn {m w : Nat} {M : Mat} {s : Tab} (h : Good m w M s) {r k : Nat} (hr : r < m) (hk : k < w) (hp : gt s.1 r k ≠ 0) (hf : ∀ i, i < m → 0 ≤ pivT (gt s.1) r k i w) : Good m w M (trn s r k) where
  wf := trn_wf h.wf hr
  tbl := (h.tbl.piv hr (by omega) hp).same (fun i j hi hj => trn_gt h.wf hr (by omega) hi hj) fun i hi => trn_gb h.wf hi
  feas := fun i hi => by rw [trn_gt h.wf hr (by omega) hi (by omega)]; exact hf i hi
  bd0 := by
    have e : bd m M (gb (trn s r k).2) = bd m M (pivB (gb s.2) r k) := det_congr fun l i hl _ => by simp only [trn_gb h.wf hl]
    rw [e, bd_piv h.tbl (by omega) hr]
    exact fun z => by
      rcases Rat.mul_eq_zero.mp z with y | y
      · exact hp y
      · exact h.bd0 y

/-! ### the rule -/
/-- the sum of the costs of the basis times the entries of a column -/
def mul (m : Nat) (s : Tab) (c : List Rat) (k : Nat) : Rat := mult m (gt s.1) (gb s.2) (gc c) k
def rise (m : Nat) (s : Tab) (c : List Rat) (cols : Nat) : Option Nat := (List.range cols).find? (fun k => decide (mul m s c k < gc c k))
def bstep (w : Nat) (s : Tab) (k : Nat) (best : Option (Rat × Nat)) (j : Nat) : Option (Rat × Nat) :=
  if 0 < gt s.1 j k then
    match best with
    | none => some (gt s.1 j w / gt s.1 j k, j)
    | some (h, b) => if gt s.1 j w / gt s.1 j k < h ∨ (gt s.1 j w / gt s.1 j k = h ∧ gb s.2 j < gb s.2 b) then some (gt s.1 j w / gt s.1 j k, j) else some (h, b)
  else best
def bst (m w : Nat) (s : Tab) (k : Nat) : Option (Rat × Nat) := (List.range m).foldl (bstep w s k) none

/-- what the best of the first n rows is -/
def BestOf (w : Nat) (s : Tab) (k n : Nat) : Option (Rat × Nat) → Prop
  | none => ∀ i, i < n → ¬ 0 < gt s.1 i k
  | some (h, r) => r < n ∧ 0 < gt s.1 r k ∧ h = gt s.1 r w / gt s.1 r k ∧ ∀ i, i < n → 0 < gt s.1 i k → h < gt s.1 i w / gt s.1 i k ∨ (h = gt s.1 i w / gt s.1 i k ∧ gb s.2 r ≤ gb s.2 i)
theorem bst_n (w : Nat) (s : Tab) (k : Nat) : ∀ n, BestOf w s k n ((List.range n).foldl (bstep w s k) none)
  | 0 => fun i hi => by omega
  | n + 1 => by
    have ih := bst_n w s k n
    rw [List.range_succ, List.foldl_append]
    generalize hb : (List.range n).foldl (bstep w s k) none = best at ih
    show BestOf w s k (n + 1) (bstep w s k best n)
    unfold bstep
    by_cases hp : 0 < gt s.1 n k
    · rw [if_pos hp]
      cases best with
      | none =>
        refine ⟨by omega, hp, rfl, fun i hi pi => ?_⟩
        by_cases e : i = n
        · rw [e]; exact .inr ⟨rfl, Nat.le_refl _⟩
        · exact absurd pi (ih i (by omega))
      | some q =>
        obtain ⟨h, b⟩ := q
        obtain ⟨q1, q2, q3, q4⟩ := ih
        show BestOf w s k (n + 1) (if _ then _ else _)
        by_cases hl : gt s.1 n w / gt s.1 n k < h ∨ (gt s.1 n w / gt s.1 n k = h ∧ gb s.2 n < gb s.2 b)
        · rw [if_pos hl]
          refine ⟨by omega, hp, rfl, fun i hi pi => ?_⟩
          by_cases e : i = n
          · rw [e]; exact .inr ⟨rfl, Nat.le_refl _⟩
          · rcases q4 i (by omega) pi with z | ⟨z1, z2⟩
            · rcases hl with y | ⟨y, _⟩
              · exact .inl (by grind)
              · exact .inl (by grind)
            · rcases hl with y | ⟨y1, y2⟩
              · exact .inl (by grind)
              · exact .inr ⟨by grind, by omega⟩
        · rw [if_neg hl]
          refine ⟨by omega, q2, q3, fun i hi pi => ?_⟩
          by_cases e : i = n
          · rw [e]
            have h1 : ¬ gt s.1 n w / gt s.1 n k < h := fun y => hl (.inl y)
            by_cases h2 : gt s.1 n w / gt s.1 n k = h
            · exact .inr ⟨h2.symm, by
                have : ¬ gb s.2 n < gb s.2 b := fun y => hl (.inr ⟨h2, y⟩)
                omega⟩
            · exact .inl (by grind)
          · exact q4 i (by omega) pi
    · rw [if_neg hp]
      cases best with
      | none =>
        intro i hi
        by_cases e : i = n
        · rw [e]; exact hp
        · exact ih i (by omega)
      | some q =>
        obtain ⟨h, b⟩ := q
        obtain ⟨q1, q2, q3, q4⟩ := ih
        refine ⟨by omega, q2, q3, fun i hi pi => ?_⟩
        by_cases e : i = n
        · rw [e] at pi; exact absurd pi hp
        · exact q4 i (by omega) pi

theorem find_range {n k : Nat} {p : Nat → Bool} (h : (List.range n).find? p = some k) : k < n ∧ p k = true ∧ ∀ j, j < k → p j = false := by
  rw [List.find?_range_eq_some] at h
  obtain ⟨h1, h2, h3⟩ := h
  refine ⟨List.mem_range.mp h2, h1, fun j hj => ?_⟩
  have := h3 j hj
  cases hp : p j with
  | false => rfl
  | true => rw [hp] at this; cases this
theorem rise_some {m : Nat} {s : Tab} {c : List Rat} {cols k : Nat} (h : rise m s c cols = some k) : k < cols ∧ 0 < red m (gt s.1) (gb s.2) (gc c) k ∧ ∀ j, j < k → red m (gt s.1) (gb s.2) (gc c) j ≤ 0 := by
  obtain ⟨h1, h2, h3⟩ := find_range h
  have h2' : mul m s c k < gc c k := of_decide_eq_true h2
  refine ⟨h1, ?_, fun j hj => ?_⟩
  · unfold mul at h2'
    unfold red
    grind
  · have := of_decide_eq_false (h3 j hj)
    unfold mul at this
    unfold red
    grind
theorem rise_none {m : Nat} {s : Tab} {c : List Rat} {cols : Nat} (h : rise m s c cols = none) : ∀ j, j < cols → red m (gt s.1) (gb s.2) (gc c) j ≤ 0 := by
  intro j hj
  have := List.find?_eq_none.mp h j (List.mem_range.mpr hj)
  have : ¬ mul m s c j < gc c j := fun q => this (decide_eq_true q)
  unfold mul at this
  unfold red
  grind

theorem cross {a b c d : Rat} (hb : 0 < b) (hd : 0 < d) (h : a / b < c / d) : a * d < c * b := by
  have e1 : a = a / b * b := by grind
  have e2 : c = c / d * d := by grind
  have hbd := Rat.mul_pos hb hd
  have h3 := Rat.mul_lt_mul_of_pos_right h hbd
  have e3 : a / b * (b * d) = a * d := by grind
  have e4 : c / d * (b * d) = c * b := by grind
  rw [e3, e4] at h3
  exact h3
theorem cross_eq {a b c d : Rat} (hb : 0 < b) (hd : 0 < d) (h : a / b = c / d) : a * d = c * b := by grind
theorem quot_le {a b c d : Rat} (hb : 0 < b) (hd : 0 < d) (h : a / b ≤ c / d) : a * d ≤ c * b := by
  by_cases e : a / b = c / d
  · have := cross_eq hb hd e; grind
  · have := cross hb hd (show a / b < c / d by grind); grind

/-- one step of the climb: the table turned -/
def next (m w : Nat) (c : List Rat) (cols : Nat) (s : Tab) : Option Tab :=
  match rise m s c cols with
  | none => none
  | some k => match bst m w s k with
    | none => none
    | some (_, r) => some (trn s r k)

section
variable {m w cols : Nat} {M : Mat} {c : List Rat} {s : Tab}
theorem bst_least (h : Good m w M s) {k r : Nat} {q : Rat} (hb : bst m w s k = some (q, r)) : r < m ∧ 0 < gt s.1 r k ∧ ∀ i, i < m → 0 < gt s.1 i k → gt s.1 r w * gt s.1 i k < gt s.1 i w * gt s.1 r k ∨ (gt s.1 r w * gt s.1 i k = gt s.1 i w * gt s.1 r k ∧ gb s.2 r ≤ gb s.2 i) := by
  have hB := bst_n w s k m
  have hb' : (List.range m).foldl (bstep w s k) none = some (q, r) := hb
  rw [hb'] at hB
  obtain ⟨h1, h2, h3, h4⟩ := hB
  refine ⟨h1, h2, fun i hi pi => ?_⟩
  rcases h4 i hi pi with z | ⟨z1, z2⟩
  · rw [h3] at z
    exact .inl (cross h2 pi z)
  · rw [h3] at z1
    exact .inr ⟨cross_eq h2 pi z1, z2⟩
theorem Good.climb (h : Good m w M s) (hc : cols ≤ w) {k r : Nat} {q : Rat} (hk : rise m s c cols = some k) (hb : bst m w s k = some (q, r)) : Good m w M (trn s r k) := by
  obtain ⟨k1, k2, k3⟩ := rise_some hk
  obtain ⟨r1, r2, r3⟩ := bst_least h hb
  refine h.turn r1 (by omega) (by grind) fun i hi => ?_
  unfold pivT
  split
  · exact quot_nn (h.feas r r1) r2
  · by_cases pi : 0 < gt s.1 i k
    · have l : gt s.1 r w * gt s.1 i k ≤ gt s.1 i w * gt s.1 r k := by
        rcases r3 i hi pi with z | ⟨z, _⟩ <;> grind
      have e : gt s.1 i w - gt s.1 i k * (gt s.1 r w / gt s.1 r k) = (gt s.1 i w * gt s.1 r k - gt s.1 r w * gt s.1 i k) / gt s.1 r k := by grind
      rw [e]
      exact quot_nn (by grind) r2
    · have q1 := quot_nn (h.feas r r1) r2
      have q2 := mul_nn (show 0 ≤ 0 - gt s.1 i k by grind) q1
      have q3 := h.feas i hi
      grind
theorem next_some {s' : Tab} (hn : next m w c cols s = some s') : ∃ k q r, rise m s c cols = some k ∧ bst m w s k = some (q, r) ∧ s' = trn s r k := by
  unfold next at hn
  cases hk : rise m s c cols with
  | none => rw [hk] at hn; cases hn
  | some k =>
    rw [hk] at hn
    cases hb : bst m w s k with
    | none => simp only [hb] at hn; cases hn
    | some q =>
      obtain ⟨q, r⟩ := q
      simp only [hb] at hn
      exact ⟨k, q, r, rfl, hb, (Option.some.inj hn).symm⟩

/-! ### it ends -/
theorem pigeon : ∀ (K : Nat) (f : Nat → Nat), (∀ t, f t < K) → ∃ a b, a < b ∧ f a = f b
  | 0, f, h => absurd (h 0) (by omega)
  | K + 1, f, h => by
    by_cases hx : ∃ a, f a = K
    · obtain ⟨a, ha⟩ := hx
      by_cases hy : ∃ b, a < b ∧ f b = K
      · obtain ⟨b, hb, e⟩ := hy
        exact ⟨a, b, hb, ha.trans e.symm⟩
      · obtain ⟨x, y, hxy, e⟩ := pigeon K (fun t => f (t + a + 1)) fun t => by
          have h1 := h (t + a + 1)
          have h2 : f (t + a + 1) ≠ K := fun q => hy ⟨_, by omega, q⟩
          omega
        exact ⟨x + a + 1, y + a + 1, by omega, e⟩
    · exact pigeon K f fun t => by
        have h1 := h t
        have h2 : f t ≠ K := fun q => hx ⟨t, q⟩
        omega
def code (N : Nat) : List Nat → Nat
  | [] => 0
  | x :: r => x + N * code N r
theorem code_lt {N : Nat} : ∀ {l : List Nat}, (∀ x ∈ l, x < N) → code N l < N ^ l.length
  | [], _ => by show 0 < N ^ 0; rw [Nat.pow_zero]; omega
  | x :: r, h => by
    have h1 := h x List.mem_cons_self
    have ih := code_lt (l := r) fun y hy => h y (List.mem_cons_of_mem _ hy)
    show x + N * code N r < N ^ (r.length + 1)
    rw [Nat.pow_succ]
    have : N * (code N r + 1) ≤ N * N ^ r.length := Nat.mul_le_mul_left N ih
    rw [Nat.mul_add, Nat.mul_one, Nat.mul_comm N (N ^ r.length)] at this
    omega
theorem code_inj {N : Nat} : ∀ {l l' : List Nat}, l.length = l'.length → (∀ x ∈ l, x < N) → (∀ x ∈ l', x < N) → code N l = code N l' → l = l'
  | [], [], _, _, _, _ => rfl
  | [], _ :: _, h, _, _, _ => by simp at h
  | _ :: _, [], h, _, _, _ => by simp at h
  | x :: r, y :: t, hl, h, h', e => by
    have h1 := h x List.mem_cons_self
    have h2 := h' y List.mem_cons_self
    have e' : x + N * code N r = y + N * code N t := e
    have exy : x = y := by
      have a1 : (x + N * code N r) % N = x := by rw [Nat.add_mul_mod_self_left, Nat.mod_eq_of_lt h1]
      have a2 : (y + N * code N t) % N = y := by rw [Nat.add_mul_mod_self_left, Nat.mod_eq_of_lt h2]
      rw [← a1, e', a2]
    subst exy
    have e2 : N * code N r = N * code N t := by omega
    have ih := code_inj (l := r) (l' := t) (by simpa using hl) (fun z hz => h z (List.mem_cons_of_mem _ hz)) (fun z hz => h' z (List.mem_cons_of_mem _ hz)) (Nat.eq_of_mul_eq_mul_left (by omega) e2)
    rw [ih]

/-- n steps from s there is no further one -/
def Dn (m w : Nat) (c : List Rat) (cols : Nat) : Nat → Tab → Prop
  | 0, s => next m w c cols s = none
  | n + 1, s => ∃ s', next m w c cols s = some s' ∧ Dn m w c cols n s'

theorem Good.ends (h : Good m w M s) (hc : cols ≤ w) : ∃ n, Dn m w c cols n s := by
  apply Classical.byContradiction
  intro hno
  let f : Tab → Tab := fun s => (next m w c cols s).getD s
  let st : Nat → Tab := fun t => Nat.rec s (fun _ x => f x) t
  have st1 : ∀ t, st (t + 1) = f (st t) := fun _ => rfl
  have dn : ∀ t n, Dn m w c cols n (st t) → ∃ n, Dn m w c cols n s := by
    intro t
    induction t with
    | zero => intro n hn; exact ⟨n, hn⟩
    | succ t ih =>
      intro n hn
      cases hx : next m w c cols (st t) with
      | none => exact ih 0 hx
      | some s' =>
        refine ih (n + 1) ⟨s', hx, ?_⟩
        have e : st (t + 1) = s' := by rw [st1]; show (next m w c cols (st t)).getD _ = s'; rw [hx]; rfl
        rw [← e]; exact hn
  have go : ∀ t, ∃ s', next m w c cols (st t) = some s' := fun t => by
    cases hx : next m w c cols (st t) with
    | none => exact absurd (dn t 0 hx) hno
    | some s' => exact ⟨s', rfl⟩
  have tr : ∀ t, ∃ k q r, rise m (st t) c cols = some k ∧ bst m w (st t) k = some (q, r) ∧ st (t + 1) = trn (st t) r k := fun t => by
    obtain ⟨s', hs⟩ := go t
    obtain ⟨k, q, r, h1, h2, h3⟩ := next_some hs
    refine ⟨k, q, r, h1, h2, ?_⟩
    rw [st1]
    show (next m w c cols (st t)).getD _ = _
    rw [hs]; exact h3
  have good : ∀ t, Good m w M (st t) := by
    intro t
    induction t with
    | zero => exact h
    | succ t ih =>
      obtain ⟨k, q, r, h1, h2, h3⟩ := tr t
      rw [h3]
      exact ih.climb hc h1 h2
  let K : Nat → Nat := fun t => Classical.choose (tr t)
  let R : Nat → Nat := fun t => Classical.choose (Classical.choose_spec (Classical.choose_spec (tr t)))
  have spec : ∀ t, ∃ q, rise m (st t) c cols = some (K t) ∧ bst m w (st t) (K t) = some (q, R t) ∧ st (t + 1) = trn (st t) (R t) (K t) := fun t =>
    ⟨_, Classical.choose_spec (Classical.choose_spec (Classical.choose_spec (tr t)))⟩
  have run : Run m w cols M (gc c) (fun t => gt (st t).1) (fun t => gb (st t).2) K R := by
    refine ⟨fun t => (good t).tbl, fun t => (good t).feas, fun t => ?_, hc, fun t => ?_, fun t => ?_, fun t => ?_, fun t => ?_, fun t => ?_, fun t i j hi hj => ?_, fun t i hi => ?_⟩
    all_goals obtain ⟨q, h1, h2, h3⟩ := spec t
    · exact (rise_some h1).1
    · exact (bst_least (good t) h2).1
    · exact (rise_some h1).2.1
    · exact (rise_some h1).2.2
    · exact (bst_least (good t) h2).2.1
    · exact (bst_least (good t) h2).2.2
    · show gt (st (t + 1)).1 i j = _
      rw [h3]
      have := (rise_some h1).1
      exact trn_gt (good t).wf (bst_least (good t) h2).1 (by omega) hi hj
    · show gb (st (t + 1)).2 i = _
      rw [h3]
      exact trn_gb (good t).wf hi
  have ent : ∀ t, ∀ x ∈ (st t).2, x < w := fun t x hx => by
    obtain ⟨i, hi, e⟩ := List.getElem_of_mem hx
    have := (good t).tbl.lt i (by rw [← (good t).wf.blen]; exact hi)
    have e2 : gb (st t).2 i = x := by
      unfold gb
      rw [List.getD_eq_getElem?_getD, List.getElem?_eq_getElem hi]
      exact e
    rw [e2] at this
    omega
  obtain ⟨a, b, hab, e⟩ := pigeon (w ^ m) (fun t => code w (st t).2) fun t => by
    have := code_lt (ent t)
    rw [(good t).wf.blen] at this
    exact this
  have eB : (st a).2 = (st b).2 := code_inj (by rw [(good a).wf.blen, (good b).wf.blen]) (ent a) (ent b) e
  exact bland run hab (fun i _ => by show gb (st a).2 i = gb (st b).2 i; rw [eB]) fun i hi =>
    tbl_unique (good a).tbl (good b).tbl (good a).bd0 (fun l _ => by rw [eB]) hi (by omega)
end
end Smx
/-! The program of a paper: both climbs, the helping columns left, the answer. Plain Lean. -/
set_option linter.all false
set_option Elab.async false
namespace Smx

theorem sm_split (a b : Nat) (f : Nat → Rat) : sm (a + b) f = sm a f + sm b (fun i => f (a + i)) := by
  induction b with
  | zero => show sm a f = sm a f + 0; grind
  | succ b ih =>
    show sm (a + b) f + f (a + b) = sm a f + (sm b (fun i => f (a + i)) + f (a + b))
    rw [ih]; grind

/-- what a walk over a table leans on -/
structure Fit (m w : Nat) (s : Tab) : Prop where
  wf : Wf m (w + 1) s
  blt : ∀ i, i < m → gb s.2 i < w
  sz : ∀ i j, i < m → j < w → (gt s.1 i j).num.natAbs ≤ 120 ∧ (gt s.1 i j).den ≤ 120
  szw : ∀ i, i < m → (gt s.1 i w).num.natAbs ≤ 120000 ∧ (gt s.1 i w).den ≤ 120

/-- the first table's entries -/
structure Small (m w : Nat) (M : Mat) : Prop where
  m5 : m ≤ 5
  int : ∀ i j, i < m → j < w + 1 → IsI (M i j)
  one : ∀ i j, i < m → j < w → In 1 (M i j)
  top : ∀ i, i < m → In 1000 (M i w)

theorem fc5 (m : Nat) (h : m ≤ 5) : fc m ≤ 120 := by
  have e : m = 0 ∨ m = 1 ∨ m = 2 ∨ m = 3 ∨ m = 4 ∨ m = 5 := by omega
  have d : fc 0 ≤ 120 ∧ fc 1 ≤ 120 ∧ fc 2 ≤ 120 ∧ fc 3 ≤ 120 ∧ fc 4 ≤ 120 ∧ fc 5 ≤ 120 := by decide +kernel
  rcases e with e | e | e | e | e | e <;> subst e
  · exact d.1
  · exact d.2.1
  · exact d.2.2.1
  · exact d.2.2.2.1
  · exact d.2.2.2.2.1
  · exact d.2.2.2.2.2

theorem Good.fit {m w : Nat} {M : Mat} {s : Tab} (S : Small m w M) (h : Good m w M s) : Fit m w s := by
  have blt : ∀ i, i < m → gb s.2 i < w := fun i hi => by have := h.tbl.lt i hi; omega
  have f120 := fc5 m S.m5
  have dI : IsI (bd m M (gb s.2)) := det_int fun l i hl hi => S.int _ _ hi (by have := blt l hl; omega)
  have d1 : In ((120 : Nat) : Rat) (bd m M (gb s.2)) := by
    have := det_in (m := m) (p := m) (a := fun l i => M i (gb s.2 l)) (C := 1) Rat.le_refl (fun l i hl hi _ => S.one _ _ hi (blt l hl)) (fun i q _ => by omega)
    refine this.mono ?_
    have : ((120 : Nat) : Rat) = 120 := rfl
    rw [this]; grind
  have key : ∀ i j C, i < m → j < w + 1 → 1 ≤ C → (∀ r, r < m → In ((C : Nat) : Rat) (M r j)) → (gt s.1 i j).num.natAbs ≤ 120 * C ∧ (gt s.1 i j).den ≤ 120 := by
    intro i j C hi hj hC hM
    have cr := cramer h.tbl hj hi
    have C1 : (1 : Rat) ≤ ((C : Nat) : Rat) := by exact_mod_cast hC
    have nI : IsI (det m (putC (fun l i => M i (gb s.2 l)) i (fun i => M i j))) := det_int fun l r hl hr => by
      unfold putC
      split
      · exact S.int _ _ hr hj
      · exact S.int _ _ hr (by have := blt l hl; omega)
    have n1 := det_in (m := m) (p := i) (a := putC (fun l i => M i (gb s.2 l)) i (fun i => M i j)) (C := ((C : Nat) : Rat)) C1
      (fun l r hl hr hne => by rw [putC_ne hne]; exact S.one _ _ hr (blt l hl)) (fun r _ hr => by rw [putC_self]; exact hM r hr)
    have n2 : In ((120 * C : Nat) : Rat) (det m (putC (fun l i => M i (gb s.2 l)) i (fun i => M i j))) := n1.mono (by
      have e : ((120 * C : Nat) : Rat) = 120 * ((C : Nat) : Rat) := by push_cast; rfl
      rw [e]
      exact Rat.mul_le_mul_of_nonneg_right f120 (by grind))
    obtain ⟨d, n, eD, eN, h1, h2⟩ := size_of dI nI h.bd0 cr
    rw [eD] at d1
    rw [eN] at n2
    exact ⟨Nat.le_trans h2 (abs_of_in n2), Nat.le_trans h1 (abs_of_in d1)⟩
  refine ⟨h.wf, blt, fun i j hi hj => ?_, fun i hi => ?_⟩
  · have := key i j 1 hi (by omega) (by omega) fun r hr => S.one r j hr hj
    exact this
  · have := key i w 1000 hi (by omega) (by omega) fun r hr => S.top r hr
    exact ⟨by omega, this.2⟩

/-! ### the climb as a run -/
def ClRun (m w : Nat) (c : List Rat) (cols : Nat) : Nat → Tab → Tab → Prop
  | 0, s, s' => Fit m w s ∧ rise m s c cols = none ∧ s' = s
  | n + 1, s, s' => Fit m w s ∧ ∃ k q r, rise m s c cols = some k ∧ bst m w s k = some (q, r) ∧ ClRun m w c cols n (trn s r k) s'

/-- no way goes up for ever -/
def NoRay (m w : Nat) (M : Mat) : Prop := ∀ y, (∀ j, j < w → 0 ≤ y j) → y w = 0 → Ker m (w + 1) M y → ∀ j, j < w → y j = 0

theorem Good.some_best {m w : Nat} {M : Mat} {s : Tab} (h : Good m w M s) (N : NoRay m w M) {k : Nat} (hk : k < w) : bst m w s k ≠ none := by
  intro hb
  have hB := bst_n w s k m
  have hb' : (List.range m).foldl (bstep w s k) none = none := hb
  rw [hb'] at hB
  have hn : ∀ i, i < m → gt s.1 i k ≤ 0 := fun i hi => by have := hB i hi; grind
  have pos : ∀ j, 0 ≤ 0 - sm m (fun i => if gb s.2 i = j then gt s.1 i k else 0) := fun j => by
    have : sm m (fun i => if gb s.2 i = j then gt s.1 i k else 0) ≤ sm m (fun _ => 0) := sm_le fun i hi => by
      split
      · exact hn i hi
      · exact Rat.le_refl
    rw [sm_zero (f := fun _ => 0) fun _ _ => rfl] at this
    grind
  have z := N (dir m (gt s.1) (gb s.2) k) (fun j _ => by
    have := pos j
    unfold dir
    split <;> grind) (by
      unfold dir
      rw [if_neg (by omega), sm_zero fun i hi => if_neg (by have := h.tbl.lt i hi; omega)]
      grind) (h.tbl.back _ (dir_ker h.tbl (by omega))) k hk
  have p := pos k
  unfold dir at z
  rw [if_pos rfl] at z
  grind

theorem Good.run {m w : Nat} {M : Mat} (S : Small m w M) (N : NoRay m w M) {c : List Rat} {cols : Nat} (hc : cols ≤ w) : ∀ (n : Nat) (s : Tab), Good m w M s → Dn m w c cols n s →
    ∃ s', ClRun m w c cols n s s' ∧ Good m w M s' ∧ rise m s' c cols = none ∧ ∀ b, cols ≤ b → (∀ i, i < m → gb s.2 i < b) → ∀ i, i < m → gb s'.2 i < b
  | 0, s, h, hd => by
    have hr : rise m s c cols = none := by
      have hd' : next m w c cols s = none := hd
      unfold next at hd'
      cases hk : rise m s c cols with
      | none => rfl
      | some k =>
        rw [hk] at hd'
        have kc := (rise_some hk).1
        cases hb : bst m w s k with
        | none => exact absurd hb (h.some_best N (by omega))
        | some q =>
          obtain ⟨q, r⟩ := q
          simp only [hb] at hd'
          cases hd'
    exact ⟨s, ⟨h.fit S, hr, rfl⟩, h, hr, fun b _ hb => hb⟩
  | n + 1, s, h, hd => by
    obtain ⟨s1, hn, hd1⟩ := hd
    obtain ⟨k, q, r, hk, hb, rfl⟩ := next_some hn
    have h1 := h.climb hc hk hb
    obtain ⟨s', r1, r2, r3, r4⟩ := Good.run S N hc n _ h1 hd1
    refine ⟨s', ⟨h.fit S, k, q, r, hk, hb, r1⟩, r2, r3, fun b hcb hB => r4 b hcb fun i hi => ?_⟩
    rw [trn_gb h.wf hi]
    unfold pivB
    split
    · have := (rise_some hk).1; omega
    · exact hB i hi
theorem Good.climbs {m w : Nat} {M : Mat} {s : Tab} (h : Good m w M s) (S : Small m w M) (N : NoRay m w M) (c : List Rat) {cols : Nat} (hc : cols ≤ w) :
    ∃ n s', ClRun m w c cols n s s' ∧ Good m w M s' ∧ rise m s' c cols = none ∧ ∀ b, cols ≤ b → (∀ i, i < m → gb s.2 i < b) → ∀ i, i < m → gb s'.2 i < b := by
  obtain ⟨n, hd⟩ := h.ends (c := c) hc
  obtain ⟨s', r⟩ := Good.run S N hc n s h hd
  exact ⟨n, s', r⟩

/-! ### the paper's program -/
/-- n people, A who is near, b the costs: A | slack | help | b -/
def M0 (n : Nat) (A : Mat) (b : Nat → Rat) : Mat := fun i j =>
  if j < n then A i j else if j < 2 * n then (if j = n + i then 1 else 0) else if j < 3 * n then (if j = 2 * n + i then 1 else 0) else b i

structure Near (n : Nat) (A : Mat) (b : Nat → Rat) : Prop where
  n5 : n ≤ 5
  zo : ∀ i j, i < n → j < n → A i j = 0 ∨ A i j = 1
  dg : ∀ i, i < n → A i i = 1
  bI : ∀ i, i < n → IsI (b i)
  b0 : ∀ i, i < n → 0 ≤ b i
  bt : ∀ i, i < n → b i ≤ 1000

section
variable {n : Nat} {A : Mat} {b : Nat → Rat}
theorem M0_a {i j : Nat} (hj : j < n) : M0 n A b i j = A i j := if_pos hj
theorem M0_s {i j : Nat} (hj : j < n) : M0 n A b i (n + j) = if j = i then 1 else 0 := by
  unfold M0
  rw [if_neg (by omega), if_pos (by omega)]
  by_cases e : j = i
  · rw [if_pos (by omega), if_pos e]
  · rw [if_neg (by omega), if_neg e]
theorem M0_h {i j : Nat} (hj : j < n) : M0 n A b i (2 * n + j) = if j = i then 1 else 0 := by
  unfold M0
  rw [if_neg (by omega), if_neg (by omega), if_pos (by omega)]
  by_cases e : j = i
  · rw [if_pos (by omega), if_pos e]
  · rw [if_neg (by omega), if_neg e]
theorem M0_b {i : Nat} : M0 n A b i (3 * n) = b i := by
  unfold M0
  rw [if_neg (by omega), if_neg (by omega), if_neg (by omega)]

/-- a sum over all columns, in its four parts -/
theorem sm_parts (n : Nat) (f : Nat → Rat) : sm (3 * n + 1) f = sm n f + sm n (fun i => f (n + i)) + sm n (fun i => f (2 * n + i)) + f (3 * n) := by
  show sm (3 * n) f + f (3 * n) = _
  rw [show 3 * n = n + n + n by omega, sm_split, sm_split]
  have : (fun i => f (n + n + i)) = fun i => f (2 * n + i) := by funext i; rw [show n + n + i = 2 * n + i by omega]
  rw [this]
theorem M0_row {i : Nat} (hi : i < n) (y : Nat → Rat) : sm (3 * n + 1) (fun j => M0 n A b i j * y j) = sm n (fun j => A i j * y j) + y (n + i) + y (2 * n + i) + b i * y (3 * n) := by
  rw [sm_parts, M0_b]
  rw [sm_congr (f := fun j => M0 n A b i j * y j) (g := fun j => A i j * y j) fun j hj => by rw [M0_a hj]]
  rw [sm_one (f := fun j => M0 n A b i (n + j) * y (n + j)) hi fun j hj hne => by rw [M0_s hj, if_neg hne]; grind]
  rw [sm_one (f := fun j => M0 n A b i (2 * n + j) * y (2 * n + j)) hi fun j hj hne => by rw [M0_h hj, if_neg hne]; grind]
  rw [M0_s hi, M0_h hi, if_pos rfl]
  grind

theorem in_one {x : Rat} (h : x = 0 ∨ x = 1) : In 1 x := by
  unfold In
  rcases h with h | h <;> rw [h] <;> constructor <;> grind
theorem int_one {x : Rat} (h : x = 0 ∨ x = 1) : IsI x := by
  rcases h with h | h
  · exact ⟨0, by rw [h]; rfl⟩
  · exact ⟨1, by rw [h]; rfl⟩
theorem Near.zo3 (P : Near n A b) {i j : Nat} (hi : i < n) (hj : j < 3 * n) : M0 n A b i j = 0 ∨ M0 n A b i j = 1 := by
  unfold M0
  by_cases h1 : j < n
  · rw [if_pos h1]; exact P.zo i j hi h1
  · rw [if_neg h1]
    split
    · split
      · exact .inr rfl
      · exact .inl rfl
    · first | rw [if_pos hj] | skip
      split
      · exact .inr rfl
      · exact .inl rfl
theorem Near.small (P : Near n A b) : Small n (3 * n) (M0 n A b) where
  m5 := P.n5
  int := fun i j hi hj => by
    by_cases h : j < 3 * n
    · exact int_one (P.zo3 hi h)
    · rw [show j = 3 * n by omega, M0_b]; exact P.bI i hi
  one := fun i j hi hj => in_one (P.zo3 hi hj)
  top := fun i hi => by
    rw [M0_b]
    have := P.b0 i hi
    have := P.bt i hi
    unfold In
    constructor <;> grind
theorem Near.noRay (P : Near n A b) : NoRay n (3 * n) (M0 n A b) := by
  intro y hy hw hk
  have nnA : ∀ i j, i < n → j < n → 0 ≤ A i j * y j := fun i j hi hj => by
    rcases P.zo i j hi hj with e | e <;> rw [e]
    · grind
    · have := hy j (by omega); grind
  have row : ∀ i, i < n → sm n (fun j => A i j * y j) = 0 ∧ y (n + i) = 0 ∧ y (2 * n + i) = 0 := fun i hi => by
    have h := hk i hi
    rw [M0_row hi, hw] at h
    have h1 : 0 ≤ sm n (fun j => A i j * y j) := sm_nonneg fun j hj => nnA i j hi hj
    have h2 := hy (n + i) (by omega)
    have h3 := hy (2 * n + i) (by omega)
    exact ⟨by grind, by grind, by grind⟩
  intro j hj
  by_cases h1 : j < n
  · have := sm_zero_of (fun l hl => nnA j l h1 hl) (row j h1).1 j h1
    rw [P.dg j h1] at this
    grind
  · by_cases h2 : j < 2 * n
    · have := (row (j - n) (by omega)).2.1
      rw [show n + (j - n) = j by omega] at this
      exact this
    · have := (row (j - 2 * n) (by omega)).2.2
      rw [show 2 * n + (j - 2 * n) = j by omega] at this
      exact this

/-- the first table -/
def s0 (n : Nat) (A : Mat) (b : Nat → Rat) : Tab := ((List.range n).map fun i => (List.range (3 * n + 1)).map (M0 n A b i), (List.range n).map (2 * n + ·))
theorem s0_gt {i j : Nat} (hi : i < n) (hj : j < 3 * n + 1) : gt (s0 n A b).1 i j = M0 n A b i j := by
  unfold gt s0
  simp [List.getD_eq_getElem?_getD, List.getElem?_map, hi, hj]
theorem s0_gb {i : Nat} (hi : i < n) : gb (s0 n A b).2 i = 2 * n + i := by
  unfold gb s0
  simp [List.getD_eq_getElem?_getD, List.getElem?_map, hi]
theorem Near.good (P : Near n A b) : Good n (3 * n) (M0 n A b) (s0 n A b) := by
  have T : Tbl n (3 * n + 1) (M0 n A b) (M0 n A b) (fun i => 2 * n + i) := ⟨fun i l hi hl => by
      show M0 n A b i (2 * n + l) = _
      rw [M0_h hl]
      by_cases e : l = i
      · rw [if_pos e, if_pos e.symm]
      · rw [if_neg e, if_neg (fun q => e q.symm)], fun l hl => by show 2 * n + l + 1 < 3 * n + 1; omega, fun _ h => h, fun _ h => h⟩
  refine ⟨⟨by simp [s0], fun i hi => by simp [s0, List.getD_eq_getElem?_getD, List.getElem?_map, hi], by simp [s0]⟩, T.same (fun i j hi hj => s0_gt hi hj) (fun i hi => s0_gb hi), fun i hi => ?_, ?_⟩
  · rw [s0_gt hi (by omega), M0_b]; exact P.b0 i hi
  · have e : bd n (M0 n A b) (gb (s0 n A b).2) = det n (fun l i => if i = l then 1 else 0) := det_congr fun l i hl hi => by
      simp only [s0_gb hl]
      rw [M0_h hl]
      by_cases e : l = i
      · rw [if_pos e, if_pos e.symm]
      · rw [if_neg e, if_neg (fun q => e q.symm)]
    rw [e, det_id]; grind

/-! ### the first climb: the helping columns are worth nothing -/
def c1 (n : Nat) : List Rat := List.replicate (2 * n) 0 ++ List.replicate n (-1)
def c2 (n : Nat) : List Rat := List.replicate n 1 ++ List.replicate n 0 ++ List.replicate n 0
theorem c1_lo {j : Nat} (h : j < 2 * n) : gc (c1 n) j = 0 := by
  unfold gc c1
  simp [List.getD_eq_getElem?_getD, List.getElem?_append, List.getElem?_replicate, h]
theorem c1_hi {j : Nat} (h : 2 * n ≤ j) (h' : j < 3 * n) : gc (c1 n) j = -1 := by
  unfold gc c1
  have e1 : ¬ j < 2 * n := by omega
  have e2 : j - 2 * n < n := by omega
  simp [List.getD_eq_getElem?_getD, List.getElem?_append, List.getElem?_replicate, e1, e2]
theorem c1_end : gc (c1 n) (3 * n) = 0 := by
  unfold gc c1
  have e1 : ¬ 3 * n < 2 * n := by omega
  have e2 : ¬ 3 * n - 2 * n < n := by omega
  simp [List.getD_eq_getElem?_getD, List.getElem?_append, List.getElem?_replicate, e1, e2]
theorem c2_lo {j : Nat} (h : j < n) : gc (c2 n) j = 1 := by
  unfold gc c2
  simp [List.getD_eq_getElem?_getD, List.getElem?_append, List.getElem?_replicate, h]
theorem c2_hi {j : Nat} (h : n ≤ j) : gc (c2 n) j = 0 := by
  unfold gc c2
  have e1 : ¬ j < n := by omega
  simp only [List.getD_eq_getElem?_getD, List.append_assoc, List.getElem?_append, List.getElem?_replicate, List.length_replicate, e1, if_false]
  repeat' split
  all_goals rfl

theorem Near.help0 (P : Near n A b) {s : Tab} (h : Good n (3 * n) (M0 n A b) s) (hr : rise n s (c1 n) (2 * n) = none) :
    mul n s (c1 n) (3 * n) = 0 ∧ ∀ i, i < n → 2 * n ≤ gb s.2 i → gt s.1 i (3 * n) = 0 := by
  let y : Nat → Rat := fun j => if j < n then 0 else if j < 2 * n then b (j - n) else if j < 3 * n then 0 else -1
  have ya : ∀ j, j < n → y j = 0 := fun j hj => if_pos hj
  have ys : ∀ j, j < n → y (n + j) = b j := fun j hj => by
    show (if n + j < n then _ else _) = _
    rw [if_neg (by omega), if_pos (by omega), show n + j - n = j by omega]
  have yh : ∀ j, j < n → y (2 * n + j) = 0 := fun j hj => by
    show (if 2 * n + j < n then _ else _) = _
    rw [if_neg (by omega), if_neg (by omega), if_pos (by omega)]
  have yw : y (3 * n) = -1 := by
    show (if 3 * n < n then _ else _) = _
    rw [if_neg (by omega), if_neg (by omega), if_neg (by omega)]
  have ker : Ker n (3 * n + 1) (M0 n A b) y := fun i hi => by
    rw [M0_row hi, ys i hi, yh i hi, yw, sm_zero fun j hj => by rw [ya j hj]; grind]
    grind
  have e := red_ker (B := gb s.2) (gc (c1 n)) y (h.tbl.to y ker)
  rw [sm_parts, sm_parts, yw, c1_end] at e
  rw [sm_zero (f := fun j => red n (gt s.1) (gb s.2) (gc (c1 n)) j * y j) fun j hj => by rw [ya j hj]; grind] at e
  rw [sm_zero (f := fun j => red n (gt s.1) (gb s.2) (gc (c1 n)) (2 * n + j) * y (2 * n + j)) fun j hj => by rw [yh j hj]; grind] at e
  rw [sm_zero (f := fun j => gc (c1 n) j * y j) fun j hj => by rw [ya j hj]; grind] at e
  rw [sm_zero (f := fun j => gc (c1 n) (2 * n + j) * y (2 * n + j)) fun j hj => by rw [yh j hj]; grind] at e
  rw [sm_zero (f := fun j => gc (c1 n) (n + j) * y (n + j)) fun j hj => by rw [c1_lo (by omega)]; grind] at e
  have rn := rise_none hr
  have neg : sm n (fun j => red n (gt s.1) (gb s.2) (gc (c1 n)) (n + j) * y (n + j)) ≤ sm n (fun _ => 0) := sm_le fun j hj => by
    rw [ys j hj]
    have h1 := rn (n + j) (by omega)
    have h2 := mul_nn (show 0 ≤ 0 - red n (gt s.1) (gb s.2) (gc (c1 n)) (n + j) by grind) (P.b0 j hj)
    grind
  rw [sm_zero (f := fun _ => 0) fun _ _ => rfl] at neg
  have em : red n (gt s.1) (gb s.2) (gc (c1 n)) (3 * n) = 0 - mul n s (c1 n) (3 * n) := by
    show gc (c1 n) (3 * n) - _ = _
    rw [c1_end]; rfl
  have part : ∀ i, i < n → 0 ≤ 0 - gc (c1 n) (gb s.2 i) * gt s.1 i (3 * n) := fun i hi => by
    have hl := h.tbl.lt i hi
    have hf := h.feas i hi
    by_cases hb : gb s.2 i < 2 * n
    · rw [c1_lo hb]; grind
    · rw [c1_hi (by omega) (by omega)]; grind
  have tot : sm n (fun i => 0 - gc (c1 n) (gb s.2 i) * gt s.1 i (3 * n)) = 0 - mul n s (c1 n) (3 * n) := by
    rw [sm_sub, sm_zero (f := fun _ => 0) fun _ _ => rfl]; rfl
  have tn := sm_nonneg part
  rw [tot] at tn
  rw [em] at e
  have z : mul n s (c1 n) (3 * n) = 0 := by grind
  refine ⟨z, fun i hi hb => ?_⟩
  rw [z] at tot
  have := sm_zero_of part (by rw [tot]; grind) i hi
  rw [c1_hi hb (by have := h.tbl.lt i hi; omega)] at this
  grind

/-! ### the helping columns leave -/
def LvRun (m w many : Nat) : Nat → Tab → Tab → Prop
  | 0, s, s' => s' = s
  | j + 1, s, s' => Fit m w s ∧ ((gb s.2 j < many ∧ LvRun m w many j s s') ∨ (many ≤ gb s.2 j ∧ ∃ k, (List.range many).find? (fun k => decide (gt s.1 j k ≠ 0)) = some k ∧ LvRun m w many j (trn s j k) s'))

theorem Near.leave (P : Near n A b) : ∀ (j : Nat) (s : Tab), j ≤ n → Good n (3 * n) (M0 n A b) s → (∀ i, i < n → 2 * n ≤ gb s.2 i → gt s.1 i (3 * n) = 0) → (∀ i, j ≤ i → i < n → gb s.2 i < 2 * n) →
    ∃ s', LvRun n (3 * n) (2 * n) j s s' ∧ Good n (3 * n) (M0 n A b) s' ∧ ∀ i, i < n → gb s'.2 i < 2 * n
  | 0, s, _, h, _, hb => ⟨s, rfl, h, fun i hi => hb i (by omega) hi⟩
  | j + 1, s, hj, h, hz, hb => by
    by_cases hlt : gb s.2 j < 2 * n
    · obtain ⟨s', r1, r2, r3⟩ := Near.leave P j s (by omega) h hz fun i h1 h2 => by
        by_cases e : i = j
        · rw [e]; exact hlt
        · exact hb i (by omega) h2
      exact ⟨s', ⟨h.fit P.small, .inl ⟨hlt, r1⟩⟩, r2, r3⟩
    · have hjn : j < n := by omega
      have hl := h.tbl.lt j hjn
      -- the slack column beside it
      obtain ⟨l, hl2⟩ : ∃ l, gb s.2 j = 2 * n + l := ⟨gb s.2 j - 2 * n, by omega⟩
      have hln : l < n := by omega
      let y : Nat → Rat := fun q => (if q = 2 * n + l then 1 else 0) - (if q = n + l then 1 else 0)
      have ker : Ker n (3 * n + 1) (M0 n A b) y := fun i hi => by
        have ya : ∀ q, q < n → y q = 0 := fun q hq => by
          show (if q = 2 * n + l then (1 : Rat) else 0) - (if q = n + l then 1 else 0) = 0
          rw [if_neg (by omega), if_neg (by omega)]; grind
        have y1 : y (n + i) = 0 - (if i = l then 1 else 0) := by
          show (if n + i = 2 * n + l then (1 : Rat) else 0) - (if n + i = n + l then 1 else 0) = _
          rw [if_neg (by omega)]
          by_cases e : i = l
          · rw [if_pos (by omega), if_pos e]
          · rw [if_neg (by omega), if_neg e]
        have y2 : y (2 * n + i) = (if i = l then 1 else 0) := by
          show (if 2 * n + i = 2 * n + l then (1 : Rat) else 0) - (if 2 * n + i = n + l then 1 else 0) = _
          rw [if_neg (show ¬ 2 * n + i = n + l by omega)]
          by_cases e : i = l
          · rw [if_pos (by omega), if_pos e]; grind
          · rw [if_neg (by omega), if_neg e]; grind
        have y3 : y (3 * n) = 0 := by
          show (if 3 * n = 2 * n + l then (1 : Rat) else 0) - (if 3 * n = n + l then 1 else 0) = 0
          rw [if_neg (by omega), if_neg (by omega)]; grind
        rw [M0_row hi, y1, y2, y3, sm_zero fun q hq => by rw [ya q hq]; grind]
        grind
      have kt := h.tbl.to y ker j hjn
      have kt2 : sm (3 * n + 1) (fun q => gt s.1 j q * y q) = gt s.1 j (2 * n + l) - gt s.1 j (n + l) := by
        have e1 : sm (3 * n + 1) (fun q => gt s.1 j q * y q) = sm (3 * n + 1) (fun q => gt s.1 j q * (if q = 2 * n + l then 1 else 0) - gt s.1 j q * (if q = n + l then 1 else 0)) := sm_congr fun q _ => by
          show gt s.1 j q * ((if q = 2 * n + l then (1 : Rat) else 0) - (if q = n + l then 1 else 0)) = _
          grind
        rw [e1, sm_sub, sm_one (k := 2 * n + l) (by omega) fun q _ hne => by rw [if_neg hne]; grind, sm_one (k := n + l) (by omega) fun q _ hne => by rw [if_neg hne]; grind, if_pos rfl, if_pos rfl]
        grind
      have u := h.tbl.unit j j hjn hjn
      rw [hl2, if_pos rfl] at u
      rw [kt2, u] at kt
      have nz : gt s.1 j (n + l) ≠ 0 := by grind
      cases hf : (List.range (2 * n)).find? (fun k => decide (gt s.1 j k ≠ 0)) with
      | none =>
        have := List.find?_eq_none.mp hf (n + l) (List.mem_range.mpr (by omega))
        exact absurd (decide_eq_true nz) this
      | some k =>
        obtain ⟨k1, k2, _⟩ := find_range hf
        have k2' : gt s.1 j k ≠ 0 := of_decide_eq_true k2
        have zj := hz j hjn (by omega)
        have rhs : ∀ i, i < n → pivT (gt s.1) j k i (3 * n) = gt s.1 i (3 * n) := fun i hi => by
          unfold pivT
          rw [zj]
          have e0 : (0 : Rat) / gt s.1 j k = 0 := by grind
          split
          · rename_i e; rw [e, zj, e0]
          · rw [e0]; grind
        have g := h.turn hjn (show k < 3 * n by omega) k2' fun i hi => by rw [rhs i hi]; exact h.feas i hi
        obtain ⟨s', r1, r2, r3⟩ := Near.leave P j (trn s j k) (by omega) g (fun i hi hbi => by
            rw [trn_gt h.wf hjn (by omega) hi (by omega), rhs i hi]
            rw [trn_gb h.wf hi] at hbi
            unfold pivB at hbi
            split at hbi
            · rename_i e; rw [e]; exact zj
            · exact hz i hi hbi) fun i h1 h2 => by
            rw [trn_gb h.wf h2]
            unfold pivB
            split
            · exact k1
            · exact hb i (by omega) h2
        exact ⟨s', ⟨h.fit P.small, .inr ⟨by omega, k, hf, r1⟩⟩, r2, r3⟩

/-! ### the answer -/
/-- amounts that no cost is below -/
def Feas (n : Nat) (A : Mat) (b : Nat → Rat) (x : Nat → Rat) : Prop := (∀ j, j < n → 0 ≤ x j) ∧ ∀ i, i < n → sm n (fun j => A i j * x j) ≤ b i

theorem Near.best (P : Near n A b) {s : Tab} (h : Good n (3 * n) (M0 n A b) s) (hB : ∀ i, i < n → gb s.2 i < 2 * n) (hr : rise n s (c2 n) (2 * n) = none) :
    Feas n A b (val n (3 * n) (gt s.1) (gb s.2)) ∧ ∀ x, Feas n A b x → sm n x ≤ sm n (val n (3 * n) (gt s.1) (gb s.2)) := by
  have v0 : ∀ j, 0 ≤ val n (3 * n) (gt s.1) (gb s.2) j := fun j => sm_nonneg fun i hi => by
    split
    · exact h.feas i hi
    · exact Rat.le_refl
  have vh : ∀ j, 2 * n ≤ j → val n (3 * n) (gt s.1) (gb s.2) j = 0 := fun j hj => sm_zero fun i hi => if_neg (by have := hB i hi; omega)
  -- the basic amounts solve the equations
  let y : Nat → Rat := fun j => 0 - dir n (gt s.1) (gb s.2) (3 * n) j
  have yj : ∀ j, j < 3 * n → y j = val n (3 * n) (gt s.1) (gb s.2) j := fun j hj => by
    show 0 - dir _ _ _ _ _ = _
    unfold dir val
    rw [if_neg (by omega)]; grind
  have yw : y (3 * n) = -1 := by
    show 0 - dir _ _ _ _ _ = _
    rw [dir_self (W := 3 * n + 1) fun l hl => by have := hB l hl; omega]; grind
  have kerT : Ker n (3 * n + 1) (gt s.1) y := fun i hi => by
    have e : sm (3 * n + 1) (fun j => gt s.1 i j * y j) = sm (3 * n + 1) (fun j => 0 - gt s.1 i j * dir n (gt s.1) (gb s.2) (3 * n) j) := sm_congr fun j _ => by
      show gt s.1 i j * (0 - _) = _
      grind
    rw [e, sm_sub, sm_zero (f := fun _ => 0) fun _ _ => rfl, dir_ker h.tbl (by omega) i hi]
    grind
  have ker := h.tbl.back y kerT
  have fs : Feas n A b (val n (3 * n) (gt s.1) (gb s.2)) := ⟨fun j _ => v0 j, fun i hi => by
    have k := ker i hi
    rw [M0_row hi, yw, yj _ (by omega), yj _ (by omega), vh (2 * n + i) (by omega)] at k
    rw [sm_congr (f := fun j => A i j * y j) (g := fun j => A i j * val n (3 * n) (gt s.1) (gb s.2) j) fun j hj => by rw [yj j (by omega)]] at k
    have := v0 (n + i)
    grind⟩
  refine ⟨fs, fun x hx => ?_⟩
  have cw : gc (c2 n) (3 * n) = 0 := c2_hi (by omega)
  -- its sum
  have e1 := red_ker (B := gb s.2) (gc (c2 n)) y kerT
  have s1 : sm (3 * n + 1) (fun j => gc (c2 n) j * y j) = sm n (val n (3 * n) (gt s.1) (gb s.2)) := by
    rw [sm_parts, cw, sm_zero (f := fun j => gc (c2 n) (n + j) * y (n + j)) fun j hj => by rw [c2_hi (by omega)]; grind,
      sm_zero (f := fun j => gc (c2 n) (2 * n + j) * y (2 * n + j)) fun j hj => by rw [c2_hi (by omega)]; grind,
      sm_congr (f := fun j => gc (c2 n) j * y j) (g := val n (3 * n) (gt s.1) (gb s.2)) fun j hj => by rw [c2_lo hj, yj j (by omega)]; grind]
    grind
  have s2 : sm (3 * n + 1) (fun j => red n (gt s.1) (gb s.2) (gc (c2 n)) j * y j) = 0 - red n (gt s.1) (gb s.2) (gc (c2 n)) (3 * n) := by
    show sm (3 * n) _ + red n (gt s.1) (gb s.2) (gc (c2 n)) (3 * n) * y (3 * n) = _
    rw [yw, sm_zero fun j hj => ?_]
    · grind
    · by_cases hin : ∃ i, i < n ∧ gb s.2 i = j
      · obtain ⟨i, hi, e⟩ := hin
        rw [← e, red_basic h.tbl _ hi]; grind
      · rw [yj j hj]
        have : val n (3 * n) (gt s.1) (gb s.2) j = 0 := sm_zero fun i hi => if_neg fun q => hin ⟨i, hi, q⟩
        rw [this]; grind
  rw [s1, s2] at e1
  -- another's sum
  let z : Nat → Rat := fun j => if j < n then x j else if j < 2 * n then b (j - n) - sm n (fun l => A (j - n) l * x l) else if j < 3 * n then 0 else -1
  have za : ∀ j, j < n → z j = x j := fun j hj => if_pos hj
  have zs : ∀ j, j < n → z (n + j) = b j - sm n (fun l => A j l * x l) := fun j hj => by
    show (if n + j < n then _ else _) = _
    rw [if_neg (by omega), if_pos (by omega), show n + j - n = j by omega]
  have zh : ∀ j, j < n → z (2 * n + j) = 0 := fun j hj => by
    show (if 2 * n + j < n then _ else _) = _
    rw [if_neg (by omega), if_neg (by omega), if_pos (by omega)]
  have zw : z (3 * n) = -1 := by
    show (if 3 * n < n then _ else _) = _
    rw [if_neg (by omega), if_neg (by omega), if_neg (by omega)]
  have kz : Ker n (3 * n + 1) (M0 n A b) z := fun i hi => by
    rw [M0_row hi, zs i hi, zh i hi, zw, sm_congr (f := fun j => A i j * z j) (g := fun j => A i j * x j) fun j hj => by rw [za j hj]]
    grind
  have e2 := red_ker (B := gb s.2) (gc (c2 n)) z (h.tbl.to z kz)
  have s3 : sm (3 * n + 1) (fun j => gc (c2 n) j * z j) = sm n x := by
    rw [sm_parts, cw, sm_zero (f := fun j => gc (c2 n) (n + j) * z (n + j)) fun j hj => by rw [c2_hi (by omega)]; grind,
      sm_zero (f := fun j => gc (c2 n) (2 * n + j) * z (2 * n + j)) fun j hj => by rw [c2_hi (by omega)]; grind,
      sm_congr (f := fun j => gc (c2 n) j * z j) (g := x) fun j hj => by rw [c2_lo hj, za j hj]; grind]
    grind
  have rn := rise_none hr
  have s4 : sm (3 * n + 1) (fun j => red n (gt s.1) (gb s.2) (gc (c2 n)) j * z j) ≤ 0 - red n (gt s.1) (gb s.2) (gc (c2 n)) (3 * n) := by
    rw [sm_parts, zw, sm_zero (f := fun j => red n (gt s.1) (gb s.2) (gc (c2 n)) (2 * n + j) * z (2 * n + j)) fun j hj => by rw [zh j hj]; grind]
    have t1 : sm n (fun j => red n (gt s.1) (gb s.2) (gc (c2 n)) j * z j) ≤ sm n (fun _ => 0) := sm_le fun j hj => by
      rw [za j hj]
      have h1 := rn j (by omega)
      have h2 := mul_nn (show 0 ≤ 0 - red n (gt s.1) (gb s.2) (gc (c2 n)) j by grind) (hx.1 j hj)
      grind
    have t2 : sm n (fun j => red n (gt s.1) (gb s.2) (gc (c2 n)) (n + j) * z (n + j)) ≤ sm n (fun _ => 0) := sm_le fun j hj => by
      rw [zs j hj]
      have h1 := rn (n + j) (by omega)
      have h3 := hx.2 j hj
      have h2 := mul_nn (show 0 ≤ 0 - red n (gt s.1) (gb s.2) (gc (c2 n)) (n + j) by grind) (show 0 ≤ b j - sm n (fun l => A j l * x l) by grind)
      grind
    rw [sm_zero (f := fun _ => 0) fun _ _ => rfl] at t1 t2
    grind
  rw [s3] at e2
  grind

/-- THE PLAIN LAW of the solver: its three runs exist, and end at a greatest paper -/
theorem Near.solved (P : Near n A b) : ∃ n1 t1 t2 n2 t3, ClRun n (3 * n) (c1 n) (2 * n) n1 (s0 n A b) t1 ∧ Fit n (3 * n) t1 ∧ mul n t1 (c1 n) (3 * n) = 0 ∧ LvRun n (3 * n) (2 * n) n t1 t2 ∧
    ClRun n (3 * n) (c2 n) (2 * n) n2 t2 t3 ∧ Fit n (3 * n) t3 ∧ (∀ i, i < n → gb t3.2 i < 2 * n) ∧ (∀ i l, i < n → l < n → gb t3.2 i = gb t3.2 l → i = l) ∧ Feas n A b (val n (3 * n) (gt t3.1) (gb t3.2)) ∧ ∀ x, Feas n A b x → sm n x ≤ sm n (val n (3 * n) (gt t3.1) (gb t3.2)) := by
  obtain ⟨n1, t1, r1, g1, e1, _⟩ := P.good.climbs P.small P.noRay (c1 n) (show 2 * n ≤ 3 * n by omega)
  obtain ⟨z, hz⟩ := P.help0 g1 e1
  obtain ⟨t2, r2, g2, b2⟩ := P.leave n t1 (Nat.le_refl n) g1 hz fun i h1 h2 => by omega
  obtain ⟨n2, t3, r3, g3, e3, b3⟩ := g2.climbs P.small P.noRay (c2 n) (show 2 * n ≤ 3 * n by omega)
  have B3 := b3 (2 * n) (Nat.le_refl _) b2
  obtain ⟨f, o⟩ := P.best g3 B3 e3
  exact ⟨n1, t1, t2, n2, t3, r1, g1.fit P.small, z, r2, r3, g3.fit P.small, B3, fun i l hi hl e => g3.tbl.inj hi hl e, f, o⟩
end
end Smx
/-! Webs, lots, what goes. Plain Lean. -/
set_option linter.all false
set_option Elab.async false
namespace Smx
/-- a web of n people; ps the pairs of foes -/
structure Web (n : Nat) (ps : List (Nat × Nat)) : Prop where
  pos : 1 ≤ n
  le : n ≤ 5
  pr : ∀ p ∈ ps, p.1 < p.2 ∧ p.2 < n
  so : ps.Pairwise fun p q => p.1 < q.1 ∨ (p.1 = q.1 ∧ p.2 < q.2)
  few : ps.length ≤ 100
def foesL (n : Nat) (ps : List (Nat × Nat)) (i : Nat) : List Nat := (List.range n).filter fun j => decide ((min i j, max i j) ∈ ps)
/-- all lots, as they are made -/
def lotsN : Nat → List (List Nat)
  | 0 => [[]]
  | k + 1 => lotsN k ++ (lotsN k).map (· ++ [k])
/-- l is a lot of n people -/
structure Lot (n : Nat) (l : List Nat) : Prop where
  lt : ∀ i ∈ l, i < n
  up : l.Pairwise (· < ·)
theorem lots_mem : ∀ {n : Nat} {l : List Nat}, l ∈ lotsN n ↔ Lot n l
  | 0, l => by
    constructor
    · intro h
      rw [List.mem_singleton.mp h]
      exact ⟨by simp, List.Pairwise.nil⟩
    · intro h
      cases l with
      | nil => exact List.mem_singleton.mpr rfl
      | cons a l => exact absurd (h.lt a List.mem_cons_self) (by omega)
  | n + 1, l => by
    show l ∈ lotsN n ++ (lotsN n).map (· ++ [n]) ↔ _
    rw [List.mem_append, List.mem_map, lots_mem]
    constructor
    · rintro (h | ⟨k, h, rfl⟩)
      · exact ⟨fun i hi => by have := h.lt i hi; omega, h.up⟩
      · have h := lots_mem.mp h
        refine ⟨fun i hi => ?_, List.pairwise_append.mpr ⟨h.up, List.pairwise_singleton _ _, fun a ha b hb => ?_⟩⟩
        · rcases List.mem_append.mp hi with q | q
          · have := h.lt i q; omega
          · have := List.mem_singleton.mp q; omega
        · have := h.lt a ha
          have := List.mem_singleton.mp hb
          omega
    · intro h
      by_cases hn : n ∈ l
      · refine .inr ⟨l.dropLast, lots_mem.mpr ?_, ?_⟩
        all_goals
          have hne : l ≠ [] := by intro z; subst z; simp at hn
          have hl : l = l.dropLast ++ [l.getLast hne] := (List.dropLast_concat_getLast hne).symm
          have hp := h.up
          rw [hl] at hp
          have hp := List.pairwise_append.mp hp
          have hlast : l.getLast hne = n := by
            rw [hl] at hn
            rcases List.mem_append.mp hn with q | q
            · have := hp.2.2 n q _ (List.mem_singleton.mpr rfl)
              have := h.lt _ (List.getLast_mem hne)
              omega
            · exact (List.mem_singleton.mp q).symm
        · refine ⟨fun i hi => ?_, hp.1⟩
          have := hp.2.2 i hi _ (List.mem_singleton.mpr rfl)
          omega
        · rw [← hlast]; exact hl.symm
      · refine .inl ⟨fun i hi => ?_, h.up⟩
        have := h.lt i hi
        have : i ≠ n := fun z => hn (z ▸ hi)
        omega
theorem up_ge {l : List Nat} (h : l.Pairwise (· < ·)) : ∀ i (hi : i < l.length), i ≤ l[i]
  | 0, _ => Nat.zero_le _
  | i + 1, hi => by
    have := up_ge h i (by omega)
    have := List.pairwise_iff_getElem.mp h i (i + 1) (by omega) hi (by omega)
    omega
theorem Lot.len {n : Nat} {l : List Nat} (h : Lot n l) : l.length ≤ n := by
  rcases Nat.eq_zero_or_pos l.length with q | q
  · omega
  · have h1 := up_ge h.up (l.length - 1) (by omega)
    have h2 := h.lt _ (List.getElem_mem (by omega : l.length - 1 < l.length))
    omega
theorem lotsN_len : ∀ n, (lotsN n).length = 2 ^ n
  | 0 => rfl
  | n + 1 => by
    show (lotsN n ++ (lotsN n).map (· ++ [n])).length = _
    rw [List.length_append, List.length_map, lotsN_len, Nat.pow_succ]; omega
/-- who goes, when those of l come -/
def withF (n : Nat) (ps : List (Nat × Nat)) (l : List Nat) : List Nat := (List.range n).filter fun j => decide (j ∈ l) || l.any fun i => decide (j ∈ foesL n ps i)
def cov (n : Nat) (ps : List (Nat × Nat)) (l : List Nat) : Bool := decide ((withF n ps l).length = n)
def cost (cs : List Nat) (l : List Nat) : Nat := (l.map fun i => cs.getD i 0).sum
theorem cov_iff {n : Nat} {ps : List (Nat × Nat)} {l : List Nat} : cov n ps l = true ↔ ∀ j, j < n → j ∈ l ∨ ∃ i ∈ l, j ∈ foesL n ps i := by
  unfold cov withF
  rw [decide_eq_true_iff]
  have hr : (List.range n).length = n := List.length_range
  constructor
  · intro h j hj
    have e : ((List.range n).filter fun j => decide (j ∈ l) || l.any fun i => decide (j ∈ foesL n ps i)) = List.range n := List.filter_sublist.eq_of_length (by rw [h, hr])
    have hm : j ∈ List.range n := List.mem_range.mpr hj
    rw [← e] at hm
    have := (List.mem_filter.mp hm).2
    simpa using this
  · intro h
    have e : ((List.range n).filter fun j => decide (j ∈ l) || l.any fun i => decide (j ∈ foesL n ps i)) = List.range n := List.filter_eq_self.mpr fun j hj => by
      have := h j (List.mem_range.mp hj)
      simpa using this
    rw [e, hr]
theorem foes_lt {n : Nat} {ps : List (Nat × Nat)} {i j : Nat} (h : j ∈ foesL n ps i) : j < n := List.mem_range.mp (List.mem_filter.mp h).1
theorem foes_ne {n : Nat} {ps : List (Nat × Nat)} (W : Web n ps) {i j : Nat} (h : j ∈ foesL n ps i) : j ≠ i := by
  have h2 : (min i j, max i j) ∈ ps := by simpa using (List.mem_filter.mp h).2
  have := (W.pr _ h2).1
  intro z
  subst z
  simp at this
theorem foes_sym {n : Nat} {ps : List (Nat × Nat)} {i j : Nat} (hi : i < n) (h : j ∈ foesL n ps i) : i ∈ foesL n ps j := by
  have h2 : (min i j, max i j) ∈ ps := by simpa using (List.mem_filter.mp h).2
  refine List.mem_filter.mpr ⟨List.mem_range.mpr hi, ?_⟩
  rw [Nat.min_comm, Nat.max_comm] at h2
  simpa using h2
/-- law's: who stays -/
def stayAt (n : Nat) (ps : List (Nat × Nat)) (l : List Nat) (i : Nat) : Bool := decide (l.getD i 0 ∉ l.drop (i + 1)) && decide ((foesL n ps (l.getD i 0)).filter (fun j => decide (j ∈ l.drop (i + 1))) = [])
def stays (n : Nat) (ps : List (Nat × Nat)) (l : List Nat) (k : Nat) : List Nat := ((List.range k).filter (stayAt n ps l)).map fun i => l.getD i 0
def staysL (n : Nat) (ps : List (Nat × Nat)) (l : List Nat) : List Nat := stays n ps l l.length
/-- keys as they come -/
def addK (ks : List Nat) (k : Nat) : List Nat := if k ∈ ks then ks else ks ++ [k]
theorem addK_mem {ks : List Nat} {k j : Nat} : j ∈ addK ks k ↔ j ∈ ks ∨ j = k := by
  unfold addK
  by_cases h : k ∈ ks
  · rw [if_pos h]
    constructor
    · exact .inl
    · rintro (q | q)
      · exact q
      · rw [q]; exact h
  · rw [if_neg h, List.mem_append, List.mem_singleton]
theorem addK_nd {ks : List Nat} {k : Nat} (h : ks.Nodup) : (addK ks k).Nodup := by
  unfold addK
  by_cases q : k ∈ ks
  · rw [if_pos q]; exact h
  · rw [if_neg q]
    rw [List.nodup_append]
    exact ⟨h, by simp, fun a ha b hb => by rw [List.mem_singleton.mp hb]; exact fun z => q (z ▸ ha)⟩
/-- law's: all that are gone, in turn -/
def goneL (n : Nat) (ps : List (Nat × Nat)) (l : List Nat) : List Nat := (l.map fun a => a :: foesL n ps a).flatten
theorem gone_mem {n : Nat} {ps : List (Nat × Nat)} {l : List Nat} (hl : ∀ i ∈ l, i < n) {j : Nat} : j ∈ goneL n ps l ↔ j ∈ withF n ps l := by
  unfold goneL withF
  rw [List.mem_flatten, List.mem_filter, List.mem_range]
  constructor
  · rintro ⟨r, hr, hj⟩
    obtain ⟨a, ha, rfl⟩ := List.mem_map.mp hr
    rcases List.mem_cons.mp hj with q | q
    · subst q
      exact ⟨hl _ ha, by simp [ha]⟩
    · exact ⟨foes_lt q, by simp; exact .inr ⟨a, ha, q⟩⟩
  · rintro ⟨_, h⟩
    have h : j ∈ l ∨ ∃ i ∈ l, j ∈ foesL n ps i := by simpa using h
    rcases h with h | ⟨i, hi, h⟩
    · exact ⟨_, List.mem_map.mpr ⟨j, h, rfl⟩, List.mem_cons_self⟩
    · exact ⟨_, List.mem_map.mpr ⟨i, hi, rfl⟩, List.mem_cons_of_mem _ h⟩
theorem range_up (n : Nat) : (List.range n).Pairwise (· < ·) := List.pairwise_lt_range
theorem withF_up {n : Nat} {ps : List (Nat × Nat)} {l : List Nat} : (withF n ps l).Pairwise (· < ·) := (range_up n).sublist List.filter_sublist
theorem foes_up {n : Nat} {ps : List (Nat × Nat)} {i : Nat} : (foesL n ps i).Pairwise (· < ·) := (range_up n).sublist List.filter_sublist
theorem foes_len {n : Nat} {ps : List (Nat × Nat)} {i : Nat} : (foesL n ps i).length ≤ n := by
  have := List.length_filter_le (fun j => decide ((min i j, max i j) ∈ ps)) (List.range n)
  rwa [List.length_range] at this
end Smx
set_option Elab.async false
set_option linter.all false
set_option maxRecDepth 100000
set_option maxHeartbeats 4000000
/-! any, all, sum of a generator expression over anything that PI serves; the element any expression of the layer, calls of defs too. -/
namespace GX
open PySem PySem.Spec PyProof.Rows L2 GxR GenW

/-- where the generator's frame stands -/
def gcx (X : Cx) (s4 : Shared) (H4 : Hp) (A : Around) (N : List Str) (cenv : Env) (fp : List Addr) : Cx :=
  { X with A := A, N := N, s_0 := s4, H_0 := H4, env := cenv, outer := X.stack, stack := cenv :: X.stack, ex := fp, fn := fun _ => false, pn := [], xe := fun _ _ => False }

/-- its names: the walked one, then those that it takes from the def (caps: their places there) -/
structure GenK (X : Cx) (scope : Scope) (x : Str) (N : List Str) (caps : List Nat) : Prop where
  kind : scope.kind = .function
  co : scope.isCoroutine = false
  cell : ∀ y ∈ scope.names, y.2 ≠ .cell
  dot : scope.names.lookup (".0" : Str) = some NameKind.local
  loc : scope.names.lookup x = some .local
  free : ∀ y ∈ scope.names, y.2 = .free → X.env.scope.names.lookup y.1 = some .cell ∨ X.env.scope.names.lookup y.1 = some .free
  uniq : ∀ y ∈ scope.names, scope.names.lookup y.1 = some y.2
  nd : N.Nodup
  n0 : N[0]? = some x
  nl : N.length = caps.length + 1
  cap : ∀ j y, N[j + 1]? = some y → scope.names.lookup y = some .free ∧ ∃ i, caps[j]? = some i ∧ X.N[i]? = some y

section
variable {X : Cx} {pins : List (Addr × Obj)} {σ : L2.St} {H4 : Hp} {s4 : Shared} {scope : Scope} {x : Str} {N : List Str} {caps : List Nat}

theorem clo_mem (I : Inv X pins σ H4 s4) (S : GenK X scope x N caps) {y : Str} {c : Addr} (hm : (y, c) ∈ cloFrom X.env.cells scope.names []) : X.env.cells.lookup y = some c ∧ c < s4.heap.objs.size := by
  rcases cloFrom_mem hm with hm | ⟨h1, rfl⟩
  · cases hm
  · obtain ⟨c, hc⟩ := I.ok.has y ((S.free _ h1 rfl).elim (fun k => .inl k) fun k => .inr k)
    rw [hc]
    obtain ⟨v, z⟩ := I.cell _ _ hc
    exact ⟨rfl, z.lt⟩
theorem clo_look (I : Inv X pins σ H4 s4) (S : GenK X scope x N caps) {y : Str} (hl : scope.names.lookup y = some .free) : ∃ c, (cloFrom X.env.cells scope.names []).lookup y = some c ∧ X.env.cells.lookup y = some c := by
  have hy : (y, NameKind.free) ∈ scope.names := PySem.mem_of_lookup hl
  obtain ⟨c, e⟩ := mem_lookup (cloFrom_has (cells := X.env.cells) (acc := []) hy)
  exact ⟨c, e, (clo_mem I S (PySem.mem_of_lookup e)).1⟩
theorem clo_free (I : Inv X pins σ H4 s4) (S : GenK X scope x N caps) : closureFor scope X.env = pure (cloFrom X.env.cells scope.names []) :=
  closure_ok fun y hy e => by
    obtain ⟨c, _, h⟩ := clo_look I S (y := y.1) (by rw [S.uniq y hy, e])
    exact ⟨c, h⟩

/-- the frame's slots: x not yet, the taken names as the def has them -/
def tl (σ : L2.St) (caps : List Nat) : List (Option V) := caps.map fun i => (σ[i]?).join

theorem gcx_ok (I : Inv X pins σ H4 s4) (S : GenK X scope x N caps) {A : Around} {code : Value} {bi : Addr} {fp : List Addr} (hbi : bi = builtinsNs) (hh : A.handled = none)
    (hA : A.frames = some (genEnv scope (cloFrom X.env.cells scope.names []) s4.heap.objs.size code bi X.env :: X.stack)) (hfp : ∀ b ∈ fp, FpOk X pins H4 b ∧ b < s4.heap.objs.size) :
    (gcx X s4 H4 A N (genEnv scope (cloFrom X.env.cells scope.names []) s4.heap.objs.size code bi X.env) fp).Ok := by
  refine ⟨I.ok.mod, S.kind, I.ok.glob, hbi, Nat.le_refl _, fun y z c e1 e2 => ?_, fun y hy => ?_, fun y c z => ?_, fun _ => hh, hA, .inr ⟨rfl, rfl⟩, fun b hb => ⟨?_, fun y c e z => ?_⟩, I.bs, Nat.le_trans I.ok.bsz I.sz, fun b o e hb => ?_, fun b hb z => ?_, I.stack, I.stkFree⟩
  · exact I.ok.inj y z c (clo_mem I S (PySem.mem_of_lookup e1)).1 (clo_mem I S (PySem.mem_of_lookup e2)).1
  · rcases hy with hy | hy
    · exact absurd rfl (S.cell _ (PySem.mem_of_lookup (show scope.names.lookup y = some .cell from hy)))
    · obtain ⟨c, h, _⟩ := clo_look I S (show scope.names.lookup y = some .free from hy)
      exact ⟨c, h⟩
  · cases z
  · exact Nat.ne_of_lt (hfp b hb).2
  · exact (hfp b hb).1.2.2.2.2.1 y c (clo_mem I S (PySem.mem_of_lookup e)).1 z
  · rcases (hfp b hb).1.2.2.2.1 with z | z
    · exact I.ok.noex b o e z
    · exact absurd (Nat.lt_of_lt_of_le (Heap.lt_size e) (Nat.le_trans I.ok.bsz z)) (Nat.lt_irrefl _)
  · rcases List.mem_cons.mp (I.stkSub b z) with z | z
    · exact (hfp b hb).1.2.1 z
    · exact (hfp b hb).1.2.2.1 z

/-- the frame is made, the generator beside it -/
theorem gcx_start (I : Inv X pins σ H4 s4) (S : GenK X scope x N caps) {A : Around} {code : Value} {bi : Addr} {fp : List Addr} (ok : (gcx X s4 H4 A N (genEnv scope (cloFrom X.env.cells scope.names []) s4.heap.objs.size code bi X.env) fp).Ok)
    {h5 : Heap} {g5 : Array GenState} {t5 : Nat} {a : Addr} {go : Obj} {m : Str → Option Value} (hk : ∀ b o, s4.heap.get? b = some o → h5.get? b = some o) (hn : h5.Ns s4.heap.objs.size m)
    (ha : s4.heap.objs.size < a) (hgo : h5.get? a = some go) (hd : ∀ v, go.data ≠ .cell v) (hg : AllBare g5) :
    Inv (gcx X s4 H4 A N (genEnv scope (cloFrom X.env.cells scope.names []) s4.heap.objs.size code bi X.env) fp) [(a, go)] (none :: tl σ caps) H4 { s4 with heap := h5, gens := g5, toks := t5 } := by
  refine ⟨ok, rfl, hg, Un.kept hk, ⟨m, hn, fun i y v e1 e2 e3 => ?_⟩, fun y c e => ?_, I.hok.fresh (Nat.le_refl _), fun y c e => I.freeC y c (clo_mem I S (PySem.mem_of_lookup e)).1, fun p hp => ?_, I.hok.kept hk, ?_⟩
  · cases i with
    | zero => cases e2
    | succ j =>
      obtain ⟨hf, i, hi, hx⟩ := S.cap j y e1
      have e2' : (tl σ caps)[j]? = some (some v) := e2
      unfold tl at e2'
      rw [List.getElem?_map, hi] at e2'
      have e4 : (σ[i]?).join = some v := Option.some.inj e2'
      have e5 : σ[i]? = some (some v) := by
        cases q : σ[i]? with
        | none => rw [q] at e4; cases e4
        | some o => rw [q] at e4; exact congrArg some e4
      obtain ⟨m4, hn4, hl⟩ := I.loc
      have fr := S.free _ (PySem.mem_of_lookup hf) rfl
      obtain ⟨u, r, q⟩ := hl i y v hx e5 (fr.elim (fun k => .inr (.inl k)) fun k => .inr (.inr k))
      obtain ⟨c, h1, h2⟩ := clo_look I S hf
      refine ⟨u, r, .inr ⟨.inr hf, c, h1, ?_⟩⟩
      rcases q with ⟨k, _⟩ | ⟨_, c', e', z⟩
      · have k : X.env.scope.names.lookup y = some .local := k
        rcases fr with k' | k' <;> rw [show X.env.scope.names.lookup y = _ from k'] at k <;> cases k
      · rw [h2] at e'
        cases e'
        obtain ⟨o, ho, z⟩ := z
        exact ⟨o, hk _ o ho, z⟩
  · obtain ⟨h1, _⟩ := clo_mem I S (PySem.mem_of_lookup e)
    obtain ⟨v, o, ho, z⟩ := I.cell _ _ h1
    exact ⟨v, o, hk _ o ho, z⟩
  · obtain rfl : p = (a, go) := by simpa [gcx] using hp
    exact ⟨hgo, I.hok.fresh (Nat.le_of_lt ha), Nat.ne_of_gt ha, fun hb => by
      rcases List.mem_cons.mp (I.stkSub a hb) with z | z
      · exact absurd (Nat.lt_trans I.lt (by rw [← z]; exact ha)) (Nat.lt_irrefl _)
      · exact I.nofs (Nat.le_of_lt ha) z, hd⟩
  · show (none :: tl σ caps).length = N.length
    unfold tl
    rw [List.length_cons, List.length_map, S.nl]
end

/-! ### the items -/
section
variable (XG : Cx) (tls : List (Option V)) (tn : Nat → Heap → Prop) (fp : List Addr) (Pv : Nat → Hp → Prop)
/-- between two items, j of them out -/
def At (pins : List (Addr × Obj)) (j : Nat) (s : Shared) : Prop := ∃ H v0, Inv XG pins (v0 :: tls) H s ∧ tn j s.heap ∧ (∀ b ∈ fp, H b = none) ∧ Pv j H
variable (n : Nat) (val : Nat → V) (L : List Addr)
def YG : Protocol := fun m s₀ v s kap => ∃ i, m + i + 1 = n ∧ RelV (val i) v ∧ At XG tls tn fp Pv (pinsAt L s₀.heap) (i + 1) s ∧ ∀ s'', At XG tls tn fp Pv (pinsAt L s''.heap) (i + 1) s'' → kap (.send .none) s''
/-- the walk is over -/
def PG0 (m : Nat) (s₀ s : Shared) : Prop := m = 0 ∧ ∃ H v0, Inv XG (pinsAt L s₀.heap) (v0 :: tls) H s ∧ Pv n H
end

section
variable {X : Cx} {scope : Scope} {x : Str} {N : List Str} {caps : List Nat} {elt iter : Expr} {px gpos : Pos} {it : Addr} {cenv : Env} {s4 : Shared} {H4 : Hp} {fp : List Addr} {tn : Nat → Heap → Prop} {J : It} {A2 : Around} {tls : List (Option V)} {Pv : Nat → Hp → Prop} {n : Nat} {val : Nat → V} {te : TE}

/-- the frame's code -/
abbrev cLoop (elt iter : Expr) (x : Str) (px : Pos) (scope : Scope) (gpos : Pos) (it : Addr) (cenv : Env) : Code := .compLoop (.GeneratorExp elt [⟨.Name x px, iter, [], 0⟩] scope gpos) 0 (.ref it) .none cenv
abbrev cStart (elt iter : Expr) (x : Str) (px : Pos) (scope : Scope) (gpos : Pos) (it : Addr) (cenv : Env) : Code := .compStart (.GeneratorExp elt [⟨.Name x px, iter, [], 0⟩] scope gpos) 0 (.ref it) .none cenv

/-- what the frame does, item by item -/
structure Does (XG : Cx) (x : Str) (px : Pos) (elt : Expr) (J : It) (fp : List Addr) (it : Addr) (tn : Nat → Heap → Prop) (tls : List (Option V)) (Pv : Nat → Hp → Prop) (n : Nat) (val : Nat → V) (te : TE) : Prop where
  calm : XG.calm = true
  xe : ∀ e s, ¬ XG.xe e s
  turn : Turn XG.prog XG.w XG.K (.Name x px) J fp it tn
  fpk : ∀ pins s σ H, Inv XG pins σ H s → (∀ b ∈ fp, H b = none) → (∀ p ∈ pins, p.1 ∉ fp) → ∀ b ∈ fp, FpOk XG pins H b
  name : PG XG (.Name x px) (gName 0)
  item : PE XG elt te
  go : ∀ i H, i < n → Pv i H → J.go i H
  stop : ∀ H, Pv n H → J.stop n H
  yld : ∀ i H y H', i < n → Pv i H → J.yld i H y H' → te (some y :: tls) H' fun v H2 => v = val i ∧ Pv (i + 1) H2
  co : XG.env.scope.isCoroutine = false

theorem seg_loop {XG : Cx} (D : Does XG x px elt J fp it tn tls Pv n val te) (hA : XG.A = A2.over (cLoop elt iter x px scope gpos it XG.env) []) (L : List Addr) (hL : ∀ b ∈ L, b ∉ fp) :
    ∀ (i : Nat) (s : Shared), i ≤ n → At XG tls tn fp Pv (pinsAt L s.heap) i s →
      Seg (model XG.prog XG.w) A2 (fun m s₀ r s₁ => r = .ok .next ∧ PG0 XG tls Pv n L m s₀ s₁) (YG XG tls tn fp Pv n val L) (n - i) s
        (cLoop elt iter x px scope gpos it XG.env) ((model XG.prog XG.w).den (cLoop elt iter x px scope gpos it XG.env)) [] s := by
  have main : ∀ (k i : Nat) (s : Shared), n - i = k → i ≤ n → At XG tls tn fp Pv (pinsAt L s.heap) i s →
      Seg (model XG.prog XG.w) A2 (fun m s₀ r s₁ => r = .ok .next ∧ PG0 XG tls Pv n L m s₀ s₁) (YG XG tls tn fp Pv n val L) k s
        (cLoop elt iter x px scope gpos it XG.env) ((model XG.prog XG.w).den (cLoop elt iter x px scope gpos it XG.env)) [] s := by
    intro k
    induction k with
    | zero =>
      intro i s hk hi hat
      have hin : i = n := by omega
      subst hin
      obtain ⟨H, v0, I, st, fr, pv⟩ := hat
      show Seg _ A2 _ _ _ s _ ((compTurn (.GeneratorExp elt [⟨.Name x px, iter, [], 0⟩] scope gpos) 0 (.ref it) .none XG.env).onRaise (leaving XG.env)) [] s
      rw [compTurn_gen, Sem.onRaise_eq_wrap]
      refine seg_bind_wrap (wpAny_standAt ?_)
      refine seg_bind_wrap ?_
      rw [← hA]
      refine wpAny_mono (D.turn.done XG rfl rfl rfl D.calm i _ s _ H _ I (D.fpk _ _ _ _ I fr fun p hp => hL _ (of_pinsAt hp).1) st (D.stop H pv)) (fun r s1 h => ?_) fun _ _ e => e
      obtain ⟨rfl, I1⟩ := h
      exact seg_end (.ok .next) ⟨rfl, rfl, H, v0, I1, pv⟩
    | succ k ih =>
      intro i s hk hi hat
      have hlt : i < n := by omega
      obtain ⟨H, v0, I, st, fr, pv⟩ := hat
      have pnL : ∀ p ∈ pinsAt L s.heap, p.1 ∉ fp := fun p hp => hL _ (of_pinsAt hp).1
      show Seg _ A2 _ _ _ s _ ((compTurn (.GeneratorExp elt [⟨.Name x px, iter, [], 0⟩] scope gpos) 0 (.ref it) .none XG.env).onRaise (leaving XG.env)) [] s
      rw [compTurn_gen, Sem.onRaise_eq_wrap]
      refine seg_bind_wrap (wpAny_standAt ?_)
      refine seg_bind_wrap ?_
      rw [← hA]
      refine wpAny_mono (D.turn.item XG rfl rfl rfl D.calm i _ s _ H _ I (D.fpk _ _ _ _ I fr pnL) st (D.go i H hlt pv)) (fun r s1 h => ?_) fun _ _ e => e
      obtain ⟨u, rfl, h1⟩ := h
      refine seg_bind_wrap ?_
      rw [← hA]
      refine wpAny_mono h1 (fun _ s2 h2 => ?_) fun _ _ e => e
      obtain ⟨y, H2, I2, r2, y2, st2, fr2⟩ := h2
      refine seg_bind_wrap ?_
      rw [← hA]
      have I2' := I2.pinned (D.fpk _ _ _ _ I2 fr2 pnL) (D.turn.obj _ _ st2)
      refine wpAny_mono (D.name.run _ s2 _ H2 y u (fun σ3 H3 => σ3 = some y :: tls ∧ H3 = H2) I2' r2 ⟨rfl, rfl⟩) (fun _ s3 h3 => ?_) fun _ _ e => absurd e (D.xe _ _)
      obtain ⟨σ3, H3, I3, rfl, rfl⟩ := h3
      refine seg_bind_wrap ?_
      refine wpAny_tests_nil ?_
      simp only [if_true]
      have hy : ∀ v, yieldOut XG.env v = yieldValue v := fun v => by simp only [yieldOut, D.co, Bool.false_eq_true, if_false]
      simp only [hy]
      rw [Sem.bind_eq_wrap', Sem.bind_eq_wrap', Sem.wrap_wrap, Sem.wrap_wrap]
      refine seg_wrap ?_
      rw [← hA]
      refine wpAny_mono (D.item.run _ s3 _ H3 _ I3 (D.yld i H y H3 hlt pv y2)) (fun w s4 h4 => ?_) fun _ _ e => absurd e (D.xe _ _)
      obtain ⟨v, H4, I4, r4, rfl, pv4⟩ := h4
      have st4 : tn (i + 1) s4.heap := D.turn.keep _ _ _ st2 fun b hb o e => (I4.pin (b, o) (List.mem_append_right _ (List.mem_append_right _ (mem_pinsAt hb e)))).1
      have fr4 : ∀ b ∈ fp, H4 b = none := fun b hb => by
        obtain ⟨o, e, _⟩ := D.turn.obj _ _ st2 b hb
        exact (I4.pin (b, o) (List.mem_append_right _ (List.mem_append_right _ (mem_pinsAt hb e)))).2.1
      refine seg_at (seg_yield rfl rfl rfl ⟨i, by omega, r4, ⟨H4, some y, I4.unpinned, st4, fr4, pv4⟩, fun s'' hal => ?_⟩)
      exact seg_again rfl (ih (i + 1) s'' (by omega) hlt hal)
  exact fun i s hi h => main (n - i) i s rfl hi h

theorem seg_start {XG : Cx} (D : Does XG x px elt J fp it tn tls Pv n val te) (hA : XG.A = A2.over (cLoop elt iter x px scope gpos it XG.env) []) (L : List Addr) (hL : ∀ b ∈ L, b ∉ fp) (s : Shared)
    (h : At XG tls tn fp Pv (pinsAt L s.heap) 0 s) :
    Seg (model XG.prog XG.w) A2 (fun m s₀ r s₁ => r = .ok .next ∧ PG0 XG tls Pv n L m s₀ s₁) (YG XG tls tn fp Pv n val L) n s
      (cStart elt iter x px scope gpos it XG.env) ((model XG.prog XG.w).den (cStart elt iter x px scope gpos it XG.env)) [] s := by
  have loop := seg_loop (iter := iter) (scope := scope) (gpos := gpos) D hA L hL 0 s (Nat.zero_le _) h
  rw [Nat.sub_zero] at loop
  obtain ⟨H, v0, I, st, fr, pv⟩ := h
  show Seg _ A2 _ _ _ s _ ((compStart (.GeneratorExp elt [⟨.Name x px, iter, [], 0⟩] scope gpos) 0 (.ref it) .none XG.env).onRaise (leaving XG.env)) [] s
  unfold compStart
  rw [Sem.onRaise_eq_wrap]
  show Seg _ A2 _ _ _ s _ ((ask >>= _).wrap _ _ _ _) [] s
  refine seg_bind_wrap (wpAny_askSetting ?_)
  split
  · exact seg_again rfl loop
  · refine seg_bind_wrap (wpAny_rule ?_)
    show Seg _ A2 _ _ _ s _ ((standAt iter.pos >>= _).wrap _ _ _ _) [] s
    exact seg_bind_wrap (wpAny_standAt (seg_bind_wrap (D.turn.self _ 0 s _ _ st (seg_again rfl loop))))
end

/-! ### the generator asked for its next item -/
section
variable {XG : Cx} {tls : List (Option V)} {tn : Nat → Heap → Prop} {fp : List Addr} {Pv : Nat → Hp → Prop} {n : Nat} {val : Nat → V} {L : List Addr} {A : Around} {a : Addr} {g : Nat}
/-- asleep, j items out -/
structure StG (XG : Cx) (tls : List (Option V)) (tn : Nat → Heap → Prop) (fp : List Addr) (Pv : Nat → Hp → Prop) (n : Nat) (val : Nat → V) (A2 : Around) (a : Addr) (g : Nat) (L : List Addr) (j : Nat) (s : Shared) : Prop where
  gen : s.heap.IsGen a g
  at_ : At XG tls tn fp Pv (pinsAt L s.heap) j s
  ex : ∀ b ∈ L, ∃ o, s.heap.get? b = some o
  go : ∃ gs, s.gens[g]? = some gs ∧ ∀ s'', At XG tls tn fp Pv (pinsAt L s''.heap) j s'' →
    gs.Goes (model XG.prog XG.w) A2 (fun m s₀ r s₁ => r = .ok .next ∧ PG0 XG tls Pv n L m s₀ s₁) (YG XG tls tn fp Pv n val L) (n - j) (.send .none) s''

theorem At.gens {pins : List (Addr × Obj)} {j : Nat} {s : Shared} {g' : Array GenState} (h : At XG tls tn fp Pv pins j s) (hg : AllBare g') : At XG tls tn fp Pv pins j { s with gens := g' } := by
  obtain ⟨H, v0, I, st, fr, pv⟩ := h
  exact ⟨H, v0, I.call' (ch := []) rfl Un.refl I.hok hg (fun b z => absurd z (by simp)), st, fr, pv⟩
theorem repin {σ : L2.St} {H : Hp} {s₀ s : Shared} (I : Inv XG (pinsAt L s₀.heap) σ H s) (ex : ∀ b ∈ L, ∃ o, s₀.heap.get? b = some o) : (∀ b ∈ L, s.heap.get? b = s₀.heap.get? b) ∧ Inv XG (pinsAt L s.heap) σ H s := by
  have same : ∀ b ∈ L, s.heap.get? b = s₀.heap.get? b := fun b hb => by
    obtain ⟨o, e⟩ := ex b hb
    rw [e]
    exact (I.pin (b, o) (List.mem_append_right _ (mem_pinsAt hb e))).1
  refine ⟨same, I.pins_of fun p hp => ?_⟩
  obtain ⟨hb, e⟩ := of_pinsAt hp
  rw [same _ hb] at e
  exact I.pin p (List.mem_append_right _ (mem_pinsAt (o := p.2) hb e))
theorem isGen_keep {h h' : Heap} (x : h.IsGen a g) (e : h'.get? a = h.get? a) : h'.IsGen a g := by
  obtain ⟨o, nm, qn, ho, r⟩ := x
  exact ⟨o, nm, qn, e.trans ho, r⟩

theorem StG.next {j : Nat} {s : Shared} {Q : Option Value → Shared → Prop} {E : Value → Shared → Prop} (S : StG XG tls tn fp Pv n val A.in1 a g L j s) (ha : a ∈ L) (hj : j ≤ n) (hh : A.handled = none) (hroom : A.depth < recursionLimit)
    (hi : j < n → ∀ v s', RelV (val j) v → StG XG tls tn fp Pv n val A.in1 a g L (j + 1) s' → (∀ b ∈ L, s'.heap.get? b = s.heap.get? b) → Q (some v) s')
    (hd : j = n → ∀ s', (∃ H v0, Inv XG (pinsAt L s'.heap) (v0 :: tls) H s' ∧ Pv n H) → (∀ b ∈ L, s'.heap.get? b = s.heap.get? b) → Q none s') :
    wpAny (model XG.prog XG.w) A (pyNext (.ref a)) Q E s := by
  obtain ⟨gs, hgs, hgo⟩ := S.go
  have hgl : g < s.gens.size := (Array.getElem?_eq_some_iff.mp hgs).1
  have nl : s.heap.NoLimit := by
    obtain ⟨H, v0, I, _⟩ := S.at_
    exact I.nolimit
  have bare : AllBare s.gens := by
    obtain ⟨H, v0, I, _⟩ := S.at_
    exact I.bare
  refine wpAny_gsz (n := g + 1) hgl (wpAny_pyNext_genexpQ (A := A) (P := PG0 XG tls Pv n L) hh nl hroom S.gen hgs (hgo (s.setGen g .running) (At.gens S.at_ (allBare_setGen bare rfl))) (fun v s1 gs' hb hv hsz => ?_) (fun s1 hp h' hk hsz => ?_))
  · obtain ⟨i, hi1, hr, hat, hkap⟩ := hv
    have hlt : j < n := by
      rcases Nat.lt_or_ge j n with q | q
      · exact q
      · rw [show n - j = 0 by omega] at hkap
        exact (hkap s1 (by
          obtain ⟨H, v0, I, st, fr, pv⟩ := hat
          exact ⟨H, v0, (repin (s₀ := s.setGen g .running) I S.ex).2, st, fr, pv⟩)).elim
    have hij : i = j := by omega
    subst hij
    obtain ⟨H, v0, I, st, fr, pv⟩ := hat
    obtain ⟨same, I1⟩ := repin (s₀ := s.setGen g .running) I S.ex
    have hsz1 : g < s1.gens.size := by
      have q : (s1.setGen g gs').gens.size = s1.gens.size := setGen_size _ _ _
      have hsz' : g + 1 ≤ (s1.setGen g gs').gens.size := hsz
      omega
    refine hi hlt v (s1.setGen g gs') hr ⟨isGen_keep S.gen (same a ha), At.gens ⟨H, v0, I1, st, fr, pv⟩ (allBare_setGen I.bare hb), fun b hb => ?_, gs', setGen_at hsz1, fun s'' h'' => ?_⟩ same
    · obtain ⟨o, e⟩ := S.ex b hb
      exact ⟨o, (same b hb).trans e⟩
    · have q := hkap s'' h''
      obtain ⟨k, hk⟩ : ∃ k, n - i = k + 1 := ⟨n - i - 1, by omega⟩
      rw [hk] at q
      rw [show n - (i + 1) = k by omega]
      exact q
  · obtain ⟨hm, H, v0, I, pv⟩ := hp
    obtain ⟨same, I1⟩ := repin (s₀ := s.setGen g .running) I S.ex
    have keep : ∀ b ∈ L, h'.get? b = s.heap.get? b := fun b hb => by
      obtain ⟨o, e⟩ := S.ex b hb
      rw [e]
      exact hk b o ((same b hb).trans e)
    refine hd (by omega) _ ⟨H, v0, ?_, pv⟩ keep
    have I2 : Inv XG (pinsAt L s1.heap) (v0 :: tls) H { s1.setGen g .finished with heap := h' } := I1.call' (s' := { s1.setGen g .finished with heap := h' }) (ch := []) rfl (Un.kept hk) (I.hok.kept hk) (allBare_setGen I.bare rfl) (fun b z => absurd z (by simp))
    exact (repin (s₀ := s1) I2 fun b hb => by
      obtain ⟨o, e⟩ := S.ex b hb
      exact ⟨o, (same b hb).trans e⟩).2
end
end GX
set_option Elab.async false
set_option linter.all false
set_option maxRecDepth 100000
set_option maxHeartbeats 4000000
/-! all, any, sum drain a generator. -/
namespace GX
open PySem PySem.Spec PyProof.Rows L2 GxR GenW
section
variable {XG : Cx} {tls : List (Option V)} {tn : Nat → Heap → Prop} {fp : List Addr} {Pv : Nat → Hp → Prop} {n : Nat} {val : Nat → V} {L : List Addr} {A : Around} {a : Addr} {g : Nat} {R : Result → Shared → Prop}
/-- how it lies behind the walk -/
def Fin (XG : Cx) (tls : List (Option V)) (Pv : Nat → Hp → Prop) (n : Nat) (L : List Addr) (s : Shared) : Prop := ∃ j H v0, j ≤ n ∧ Inv XG (pinsAt L s.heap) (v0 :: tls) H s ∧ Pv j H
theorem fin_of {j : Nat} {s : Shared} (h : At XG tls tn fp Pv (pinsAt L s.heap) j s) (hj : j ≤ n) : Fin XG tls Pv n L s := by
  obtain ⟨H, v0, I, _, _, pv⟩ := h
  exact ⟨j, H, v0, hj, I, pv⟩

theorem drain_all (tr : Nat → Bool) (hv : ∀ i, val i = .bl (tr i)) (ha : a ∈ L) (hh : A.handled = none) (hroom : A.depth < recursionLimit) : ∀ (k j : Nat) (s : Shared), n - j = k → j ≤ n → StG XG tls tn fp Pv n val A.in1.in1 a g L j s →
    (∀ s', Fin XG tls Pv n L s' → R (.ok (.ret (.bool (((List.range n).drop j).all tr)))) s') → codeAny (model XG.prog XG.w) A (.builtin "all.loop" ⟨[.ref a], []⟩) R s := by
  intro k
  induction k with
  | zero =>
    intro j s hk hj S hR
    refine codeAny_builtin F.entry_all_loop ?_
    rw [Around.under_plainId F.plain_all_loop _]
    show wpAny _ A.in1 (pyNext (.ref a) >>= _) _ _ s
    refine wpAny_bind (S.next (A := A.in1) ha hj hh hroom (fun h => by omega) fun h s' hF _ => ?_)
    refine wpAny_bind (wpAny_rule (wpAny_pure ?_))
    obtain ⟨H, v0, I, pv⟩ := hF
    have := hR s' ⟨n, H, v0, Nat.le_refl _, I, pv⟩
    rw [List.drop_of_length_le (by simp; omega)] at this
    exact this
  | succ k ih =>
    intro j s hk hj S hR
    have hlt : j < n := by omega
    have hd : (List.range n).drop j = j :: (List.range n).drop (j + 1) := range_drop hlt
    refine codeAny_builtin F.entry_all_loop ?_
    rw [Around.under_plainId F.plain_all_loop _]
    show wpAny _ A.in1 (pyNext (.ref a) >>= _) _ _ s
    refine wpAny_bind (S.next (A := A.in1) ha hj hh hroom (fun _ v s' hr S' _ => ?_) fun h => by omega)
    rw [hv j] at hr
    obtain rfl : v = Value.bool (tr j) := hr
    refine wpAny_bind (wpAny_holding (wpAny_truthy_bool ?_))
    refine wpAny_bind (wpAny_letGo ?_)
    cases hb : tr j with
    | true =>
      simp only [if_true]
      refine wpAny_pure ⟨plainId_quiet F.plain_all_loop _, ih (j + 1) _ (by omega) hlt S' fun s'' hF => ?_⟩
      have := hR s'' hF
      rw [hd, List.all_cons, hb, Bool.true_and] at this
      exact this
    | false =>
      simp only [Bool.false_eq_true, if_false]
      refine wpAny_bind (wpAny_rule (wpAny_pure ?_))
      have := hR s' (fin_of S'.at_ hlt)
      rw [hd, List.all_cons, hb, Bool.false_and] at this
      exact this

theorem drain_any (tr : Nat → Bool) (hv : ∀ i, val i = .bl (tr i)) (ha : a ∈ L) (hh : A.handled = none) (hroom : A.depth < recursionLimit) : ∀ (k j : Nat) (s : Shared), n - j = k → j ≤ n → StG XG tls tn fp Pv n val A.in1.in1 a g L j s →
    (∀ s', Fin XG tls Pv n L s' → R (.ok (.ret (.bool (((List.range n).drop j).any tr)))) s') → codeAny (model XG.prog XG.w) A (.builtin "any.loop" ⟨[.ref a], []⟩) R s := by
  intro k
  induction k with
  | zero =>
    intro j s hk hj S hR
    refine codeAny_builtin F.entry_any_loop ?_
    rw [Around.under_plainId F.plain_any_loop _]
    show wpAny _ A.in1 (pyNext (.ref a) >>= _) _ _ s
    refine wpAny_bind (S.next (A := A.in1) ha hj hh hroom (fun h => by omega) fun h s' hF _ => ?_)
    refine wpAny_bind (wpAny_rule (wpAny_pure ?_))
    obtain ⟨H, v0, I, pv⟩ := hF
    have := hR s' ⟨n, H, v0, Nat.le_refl _, I, pv⟩
    rw [List.drop_of_length_le (by simp; omega)] at this
    exact this
  | succ k ih =>
    intro j s hk hj S hR
    have hlt : j < n := by omega
    have hd : (List.range n).drop j = j :: (List.range n).drop (j + 1) := range_drop hlt
    refine codeAny_builtin F.entry_any_loop ?_
    rw [Around.under_plainId F.plain_any_loop _]
    show wpAny _ A.in1 (pyNext (.ref a) >>= _) _ _ s
    refine wpAny_bind (S.next (A := A.in1) ha hj hh hroom (fun _ v s' hr S' _ => ?_) fun h => by omega)
    rw [hv j] at hr
    obtain rfl : v = Value.bool (tr j) := hr
    refine wpAny_bind (wpAny_holding (wpAny_truthy_bool ?_))
    refine wpAny_bind (wpAny_letGo ?_)
    cases hb : tr j with
    | false =>
      simp only [Bool.false_eq_true, if_false]
      refine wpAny_pure ⟨plainId_quiet F.plain_any_loop _, ih (j + 1) _ (by omega) hlt S' fun s'' hF => ?_⟩
      have := hR s'' hF
      rw [hd, List.any_cons, hb, Bool.false_or] at this
      exact this
    | true =>
      simp only [if_true]
      refine wpAny_bind (wpAny_rule (wpAny_pure ?_))
      have := hR s' (fin_of S'.at_ hlt)
      rw [hd, List.any_cons, hb, Bool.true_or] at this
      exact this

/-- the consumer's own object S is changed -/
theorem StG.stored {A2 : Around} {S : Addr} {o : Obj} {j : Nat} {s : Shared} {h' : Heap} {t' : Nat} (G : StG XG tls tn fp Pv n val A2 a g L j s) (ha : a ∈ L) (hSa : S ≠ a) (hSL : S ∈ L) (hS0 : XG.s_0.heap.objs.size ≤ S) (hpn : XG.pn = [])
    (hSf : S ∉ fp) (hcl : ∀ y c, XG.env.cells.lookup y = some c → c < XG.s_0.heap.objs.size) (T : ∀ i h h', tn i h → (∀ b ∈ fp, ∀ o, h.get? b = some o → h'.get? b = some o) → tn i h')
    (k : ∀ b o, b ≠ S → s.heap.get? b = some o → h'.get? b = some o) (ho : h'.get? S = some o) (hd : ∀ v, o.data ≠ .cell v) : StG XG tls tn fp Pv n val A2 a g L j { s with heap := h', toks := t' } := by
  obtain ⟨H, v0, I, st, fr, pv⟩ := G.at_
  obtain ⟨oS, eS⟩ := G.ex S hSL
  have pS := I.pin (S, oS) (List.mem_append_right _ (mem_pinsAt hSL eS))
  have others : Inv XG ((pinsAt L s.heap).filter fun p => decide (p.1 ≠ S)) (v0 :: tls) H s := I.pins_of fun p hp => I.pin p (List.mem_append_right _ (List.mem_filter.mp hp).1)
  have J : Inv XG ((pinsAt L s.heap).filter fun p => decide (p.1 ≠ S)) (v0 :: tls) H { s with heap := h', toks := t' } := others.turned k pS.2.1 pS.2.2.1 (.inr hS0) (fun y c e z => by
      have := hcl y c e
      rw [z] at this
      exact absurd (Nat.lt_of_lt_of_le this hS0) (Nat.lt_irrefl _)) fun p hp => by
    rw [hpn, List.nil_append] at hp
    exact of_decide_eq_true (p := p.1 ≠ S) (List.mem_filter.mp hp).2
  have J2 : Inv XG (pinsAt L h') (v0 :: tls) H { s with heap := h', toks := t' } := J.pins_of fun p hp => by
    obtain ⟨hb, e⟩ := of_pinsAt hp
    by_cases q : p.1 = S
    · obtain ⟨b, o'⟩ := p
      obtain rfl : b = S := q
      have e' : h'.get? b = some o' := e
      rw [ho] at e'
      cases e'
      exact ⟨ho, pS.2.1, pS.2.2.1, pS.2.2.2.1, hd⟩
    · obtain ⟨ob, eb⟩ := G.ex p.1 hb
      have e2 := k p.1 ob q eb
      rw [e] at e2
      have e3 : p.2 = ob := Option.some.inj e2
      have hm : p ∈ (pinsAt L s.heap).filter fun p => decide (p.1 ≠ S) := List.mem_filter.mpr ⟨mem_pinsAt (b := p.1) (o := p.2) hb (by rw [e3]; exact eb), decide_eq_true q⟩
      exact J.pin p (List.mem_append_right _ hm)
  refine ⟨isGen_keep G.gen ?_, ⟨H, v0, J2, T _ _ _ st fun b hb o e => k b o (fun z => hSf (by rw [← z]; exact hb)) e, fr, pv⟩, fun b hb => ?_, G.go⟩
  · obtain ⟨og, eg⟩ := G.ex a ha
    rw [eg]
    exact k a og (Ne.symm hSa) eg
  · by_cases q : b = S
    · exact ⟨o, by rw [q]; exact ho⟩
    · obtain ⟨ob, eb⟩ := G.ex b hb
      exact ⟨ob, k b ob q eb⟩

theorem drain_sum (vi : Nat → Int) (hv : ∀ i, val i = .int (vi i)) (hfit : ∀ j, j < n → InLong (vi j) ∧ InLong (preSum vi (j + 1))) {S : Addr} (ha : a ∈ L) (hSa : S ≠ a) (hSL : S ∈ L) (hS0 : XG.s_0.heap.objs.size ≤ S) (hpn : XG.pn = [])
    (hSf : S ∉ fp) (hcl : ∀ y c, XG.env.cells.lookup y = some c → c < XG.s_0.heap.objs.size) (T : ∀ i h h', tn i h → (∀ b ∈ fp, ∀ o, h.get? b = some o → h'.get? b = some o) → tn i h') (hh : A.handled = none) (hroom : A.depth < recursionLimit) :
    ∀ (k j : Nat) (s : Shared) (tA : Tok) (c : Nat), n - j = k → j ≤ n → StG XG tls tn fp Pv n val A.in1.in1 a g L j s → s.heap.get? S = some { cls := .type "list", dict := none, data := .seq #[.int (preSum vi j) tA] c, slots := #[] } →
    (∀ s' t', Fin XG tls Pv n L s' → R (.ok (.ret (.int (preSum vi n) t'))) s') → codeAny (model XG.prog XG.w) A (.builtin "sum.loop" ⟨[.ref a, .ref S, rawInt 0, rawInt 0], []⟩) R s := by
  intro k
  induction k with
  | zero =>
    intro j s tA c hk hj G hS hR
    refine codeAny_builtin F.entry_sum_loop ?_
    rw [Around.under_plainId F.plain_sum_loop _]
    show wpAny _ A.in1 (seqItems? (.ref S) >>= _) _ _ s
    refine wpAny_bind (wpAny_seqItems hS rfl ?_)
    show wpAny _ A.in1 (tryCatch (pyNext (.ref a)) _ >>= _) _ _ s
    refine wpAny_bind (wpAny_tryCatch (G.next (A := A.in1) ha hj hh hroom (fun h => by omega) fun h s' hF _ => ?_))
    obtain ⟨H, v0, I, pv⟩ := hF
    have hjn : j = n := by omega
    subst hjn
    exact wpAny_pure (hR s' tA ⟨j, H, v0, Nat.le_refl _, I, pv⟩)
  | succ k ih =>
    intro j s tA c hk hj G hS hR
    have hlt : j < n := by omega
    refine codeAny_builtin F.entry_sum_loop ?_
    rw [Around.under_plainId F.plain_sum_loop _]
    show wpAny _ A.in1 (seqItems? (.ref S) >>= _) _ _ s
    refine wpAny_bind (wpAny_seqItems hS rfl ?_)
    show wpAny _ A.in1 (tryCatch (pyNext (.ref a)) _ >>= _) _ _ s
    refine wpAny_bind (wpAny_tryCatch (G.next (A := A.in1) ha hj hh hroom (fun _ v s' hr G' same => ?_) fun h => by omega))
    rw [hv j] at hr
    obtain ⟨t, rfl⟩ : ∃ t, v = Value.int (vi j) t := hr
    have hS' := (same S hSL).trans hS
    obtain ⟨⟨f1, f2⟩, f3, f4⟩ := hfit j hlt
    have hc : ((decide (-(2 ^ 63) ≤ vi j) && decide (vi j < 2 ^ 63)) && (decide (-(2 ^ 63) ≤ preSum vi j + vi j) && decide (preSum vi j + vi j < 2 ^ 63))) = true := by
      simp only [preSum] at f3 f4
      simp only [Bool.and_eq_true, decide_eq_true_eq]
      exact ⟨⟨f1, f2⟩, f3, f4⟩
    show wpAny _ A.in1 (if (_ : Bool) = true then (mkInt (preSum vi j + vi j) >>= _) else _) _ _ _
    split
    · refine wpAny_bind (wpAny_mkInt ?_)
      show wpAny _ A.in1 (updateSeq S (fun _ => #[.int (preSum vi j + vi j) s'.toks]) >>= _) _ _ _
      refine wpAny_bind ?_
      refine wpAny_updateSeq hS' rfl (wpAny_pure ⟨plainId_quiet F.plain_sum_loop _, ih (j + 1) _ s'.toks _ (by omega) hlt (StG.stored (s := s') G' ha hSa hSL hS0 hpn hSf hcl T (fun b o hb e => ?_) (Heap.get?_update_self _ hS' rfl) (fun v q => by cases q)) (Heap.get?_update_self _ hS' rfl) fun s'' t'' hF => hR s'' t'' hF⟩)
      exact (Heap.get?_update_other _ _ (Ne.symm hb)).trans e
    · rename_i hneg
      exact absurd hc hneg
end
end GX
set_option Elab.async false
set_option linter.all false
set_option maxRecDepth 100000
set_option maxHeartbeats 4000000
/-! The rules: all(..), any(..), sum(..) of a generator expression. -/
namespace GX
open PySem PySem.Spec PyProof.Rows L2 GxR GenW

/-- what the reading asks of the walk: n items, val, an invariant by the turn; behind it fin -/
def gWalk (J : It) (te : TE) (σt : List (Option V)) (H2 : Hp) (n : Nat) (val : Nat → V) (Pv : Nat → Hp → Prop) : Prop :=
  Pv 0 H2 ∧ (∀ i H, i < n → Pv i H → J.go i H) ∧ (∀ H, Pv n H → J.stop n H) ∧ ∀ i H y H', i < n → Pv i H → J.yld i H y H' → te (some y :: σt) H' fun v H3 => v = val i ∧ Pv (i + 1) H3
def tAllG (P : Addr) (wi : TI) (te : TE) (caps : List Nat) : TE := fun σ H Q => wi σ H fun J H1 => TabG H1 P ∧ ∀ H2, Tabbed P H1 H2 → ∃ (n : Nat) (tr : Nat → Bool) (Pv : Nat → Hp → Prop),
  gWalk J te (tl σ caps) H2 n (fun i => .bl (tr i)) Pv ∧ ∀ j H, j ≤ n → Pv j H → Q (.bl ((List.range n).all tr)) H
def tAnyG (P : Addr) (wi : TI) (te : TE) (caps : List Nat) : TE := fun σ H Q => wi σ H fun J H1 => TabG H1 P ∧ ∀ H2, Tabbed P H1 H2 → ∃ (n : Nat) (tr : Nat → Bool) (Pv : Nat → Hp → Prop),
  gWalk J te (tl σ caps) H2 n (fun i => .bl (tr i)) Pv ∧ ∀ j H, j ≤ n → Pv j H → Q (.bl ((List.range n).any tr)) H
def tSumG (P : Addr) (wi : TI) (te : TE) (caps : List Nat) : TE := fun σ H Q => wi σ H fun J H1 => TabG H1 P ∧ ∀ H2, Tabbed P H1 H2 → ∃ (n : Nat) (vi : Nat → Int) (Pv : Nat → Hp → Prop),
  gWalk J te (tl σ caps) H2 n (fun i => .int (vi i)) Pv ∧ (∀ j, j < n → InLong (vi j) ∧ InLong (preSum vi (j + 1))) ∧ ∀ j H, j ≤ n → Pv j H → Q (.int (preSum vi n)) H

section
variable {X : Cx} {pins : List (Addr × Obj)} {σ : L2.St} {H : Hp} {s : Shared} {scope : Scope} {x : Str} {N : List Str} {caps : List Nat} {elt iter : Expr} {px gpos p pos : Pos} {c P : Addr} {wi : TI} {te : TE} {k : Nat}

theorem room_gen {A : Around} {k : Nat} {c : Code} (r : Room (k + 1) A) (hw : c.weight = 1) (hu : c.cUnits = 3) : Room k (A.in1.in1.over c []) := by
  have h1 := r.hd
  have h2 := r.dp
  have h3 := r.un
  refine ⟨h1, ?_, ?_⟩
  · show A.depth + 0 + c.weight + 3 * k + 5 < recursionLimit
    rw [hw]; omega
  · show A.units + 1 + 1 + 0 + c.cUnits + 16 * k + 200 < cLine
    rw [hu]; omega

theorem gen_obj {h : Heap} {a : Addr} {g : Nat} (x : h.IsGen a g) : ∃ o, h.get? a = some o ∧ ∀ v, o.data ≠ .cell v := by
  obtain ⟨o, nm, qn, ho, _, hd, _⟩ := x
  exact ⟨o, ho, fun v q => by rw [hd] at q; cases q⟩

/-- a generator, not begun: all that a drain wants -/
theorem gen_made {Q' : Value → Shared → Prop} {R : It → Hp → Prop} (hr : Room (k + 1) X.A) (hc : X.calm = true) (TB : TabB X.base X.mg c P) (hcode : X.env.code = .ref c) (S : GenK X scope x N caps) (hi : PI X (.Name x px) iter wi)
    (hel : ∀ (s4 : Shared) (H4 : Hp) (A : Around) (cl : List (Str × Addr)) (C : Addr) (code : Value) (bi : Addr) (fp : List Addr), Room k A → PE (gcx X s4 H4 A N (genEnv scope cl C code bi X.env) fp) elt te)
    (hs : ∀ v, genFold iter X.env v = pure v) (I : Inv X pins σ H s) (h : wi σ H fun J H1 => TabG H1 P ∧ ∀ H2, Tabbed P H1 H2 → R J H2)
    (hQ : ∀ (J : It) (H2 : Hp) (s4 s5 : Shared) (A : Around) (C : Addr) (code : Value) (bi : Addr) (fp : List Addr) (tn : Nat → Heap → Prop) (a : Addr) (g : Nat), R J H2 → s4.heap.objs.size < a → s5.heap.IsGen a g →
      (∀ b ∈ fp, b < s4.heap.objs.size) →
      (∀ y c, (cloFrom X.env.cells scope.names []).lookup y = some c → c < s4.heap.objs.size) →
      (∀ n val Pv, gWalk J te (tl σ caps) H2 n val Pv → ∀ L, (∀ b ∈ L, s4.heap.objs.size < b) → a ∈ L → ∀ s', (∀ b o, s5.heap.get? b = some o → s'.heap.get? b = some o) → (∀ b ∈ L, ∃ o, s'.heap.get? b = some o ∧ ∀ v, o.data ≠ .cell v) → (∀ b ∈ L, b = a ∨ s5.heap.objs.size ≤ b) → s'.gens = s5.gens → s'.os = s5.os → s'.drawn = s5.drawn →
        StG (gcx X s4 H2 A N (genEnv scope (cloFrom X.env.cells scope.names []) C code bi X.env) fp) (tl σ caps) tn fp Pv n val X.A.in1.in1 a g L 0 s') →
      (∀ i h h', tn i h → (∀ b ∈ fp, ∀ o, h.get? b = some o → h'.get? b = some o) → tn i h') →
      (∀ n Pv L s', Fin (gcx X s4 H2 A N (genEnv scope (cloFrom X.env.cells scope.names []) C code bi X.env) fp) (tl σ caps) Pv n L s' → ∃ j H', j ≤ n ∧ Inv X pins σ H' s' ∧ Pv j H') →
      Q' (.ref a) s5) :
    wpAny (model X.prog X.w) X.A (eval (.GeneratorExp elt [⟨.Name x px, iter, [], 0⟩] scope gpos) X.env) Q' X.xe s := by
  refine wpAny_GeneratorExp_make S.co (clo_free I S) S.cell S.dot S.kind (by have := hr.dp; omega) ?_ hs
  refine thn (hi.run pins s σ H _ I h) fun xv s1 h1 => thn h1 fun itv s2 h2 => ?_
  obtain ⟨it, fp, tn, J, H1, rfl, I1, T, st, fpk, ⟨ps, hP, ht⟩, hR⟩ := h2
  have hPs : s2.heap.get? P = some { cls := .none, data := .fields ps } := I1.hok P _ hP
  have hPlt : P < s2.heap.objs.size := Heap.lt_size hPs
  have cd : PySem.W.CodeHd s2.heap c P := TB.code.keeps fun b u e => I1.bk b u e
  have fnP : ∀ b ∈ fp, b ≠ P := fun b hb z => by
    have := (fpk b hb).1
    rw [z, hP] at this
    cases this
  have fpl : ∀ b ∈ fp, b < s2.heap.objs.size := fun b hb => by
    obtain ⟨o, e, _⟩ := T.obj _ _ st b hb
    exact Heap.lt_size e
  refine ⟨I1.nolimit, ?_⟩
  have cont : ∀ (code : Value) (h3 : Heap) (tk : Nat) (ps' : Array Value), Heap.ExtBut P s2.heap h3 → s2.heap.objs.size ≤ h3.objs.size → h3.get? P = some { cls := .none, data := .fields ps' } → (∃ more, ps' = ps ++ more) → TriplesOk ps'.toList →
      wpAny (model X.prog X.w) X.A (builtinsFor X.env.globals X.env.builtins) (fun bi s₄ => ∀ h', h'.Ns s₄.heap.objs.size (fun y => if y = ".0" then some (Value.ref it) else none) → Heap.SameBut s₄.heap.objs.size (s₄.heap.push { cls := .type "frame", data := .dict #[] }) h' →
          Q' (.ref h'.objs.size) { s₄ with
            gens := s₄.gens.push (.fresh (.compStart (.GeneratorExp elt [⟨.Name x px, iter, [], 0⟩] scope gpos) 0 (.ref it) .none (genEnv scope (cloFrom X.env.cells scope.names []) s₄.heap.objs.size code bi X.env))),
            toks := s₄.toks + 1 + 1 + 1,
            heap := h'.push { cls := .type "generator", data := .fields #[.int s₄.gens.size 0, .str "<genexpr>" (s₄.toks + 1), .str (X.env.qual ++ "<genexpr>") (s₄.toks + 1 + 1)] } }) X.xe { s2 with heap := h3, toks := tk } := by
    intro code h3 tk ps' hx hsz hP3 hmore ht3
    obtain ⟨more, rfl⟩ := hmore
    obtain ⟨bm, ob, e1, e2, e3, e4, e5, e6, e7, e8⟩ := TB.bm
    have I4 : Inv X pins σ (upd H1 P (.tbl (ps ++ more))) { s2 with heap := h3, toks := tk } := inv_tab (more := more) (h' := h3) (g' := s2.gens) (d' := s2.drawn) (t' := tk) I1 hP (fun b o hb e => hx b o hb e) hP3 I1.bare
    have keep3 : ∀ b u, b ≠ P → s2.heap.get? b = some u → h3.get? b = some u := fun b u hb e => hx b u hb e
    refine wpAny_builtinsFor (m := X.mg) (by rw [I1.ok.glob]; exact (I1.mod.glob.keeps I1.bk).extBut hx TB.gP) e1 e2 (keep3 _ _ e4 (I1.bk _ _ e5)) e6 e7 e8 ?_
    intro h' hn' hs'
    generalize hs4 : ({ s2 with heap := h3, toks := tk } : Shared) = s4 at I4 hn' hs' ⊢
    have eh4 : s4.heap = h3 := by rw [← hs4]
    have szh : h'.objs.size = s4.heap.objs.size + 1 := by rw [hs'.1, Heap.size_push]
    have fpk4 : ∀ b ∈ fp, FpOk X pins (upd H1 P (.tbl (ps ++ more))) b ∧ b < s4.heap.objs.size := fun b hb => by
      obtain ⟨q1, q2, q3, q4, q5, q6⟩ := fpk b hb
      exact ⟨⟨by rw [upd_ne (fnP b hb)]; exact q1, q2, q3, q4, q5, q6⟩, Nat.lt_of_lt_of_le (fpl b hb) (by rw [eh4]; exact hsz)⟩
    have st4 : tn 0 s4.heap := T.keep _ _ _ st fun b hb o e => by rw [eh4]; exact keep3 b o (fnP b hb) e
    have hA : (X.A.in1.in1.over (cLoop elt iter x px scope gpos it (genEnv scope (cloFrom X.env.cells scope.names []) s4.heap.objs.size code builtinsNs X.env)) []).frames = some (genEnv scope (cloFrom X.env.cells scope.names []) s4.heap.objs.size code builtinsNs X.env :: X.stack) := by
      have e : X.A.frames = some X.stack := I4.ok.frames
      unfold Around.over
      simp only []
      rw [e]
      rfl
    have rm : Room k (X.A.in1.in1.over (cLoop elt iter x px scope gpos it (genEnv scope (cloFrom X.env.cells scope.names []) s4.heap.objs.size code builtinsNs X.env)) []) := room_gen hr rfl rfl
    have okG := gcx_ok I4 S (code := code) (A := X.A.in1.in1.over (cLoop elt iter x px scope gpos it (genEnv scope (cloFrom X.env.cells scope.names []) s4.heap.objs.size code builtinsNs X.env)) []) rfl rm.hd hA fpk4
    have keepP : ∀ (o : Obj) b u, s4.heap.get? b = some u → (h'.push o).get? b = some u := fun o b u e => Heap.get?_push_of_some _ (hs'.extBut b u (Nat.ne_of_lt (Heap.lt_size e)) (Heap.get?_push_of_some _ e))
    refine hQ J (upd H1 P (.tbl (ps ++ more))) s4 _ (X.A.in1.in1.over (cLoop elt iter x px scope gpos it (genEnv scope (cloFrom X.env.cells scope.names []) s4.heap.objs.size code builtinsNs X.env)) []) s4.heap.objs.size code builtinsNs fp tn h'.objs.size s4.gens.size (hR _ ⟨⟨ps ++ more, upd_same, ht3⟩, fun b hb => upd_ne hb⟩) (by omega) ⟨_, _, _, Heap.get?_push_size _ rfl, rfl, rfl, rfl⟩ (fun b hb => (fpk4 b hb).2)
      (fun y c e => (clo_mem I4 S (PySem.mem_of_lookup e)).2) (fun n val Pv W L hL haL s' hk' hex hLn hg' ho' hd' => ?_) T.keep (fun n Pv L s' hF => ?_)
    · -- the state behind, with L pinned
      obtain ⟨w0, wgo, wstop, wy⟩ := W
      have barG : AllBare (s4.gens.push (.fresh (cStart elt iter x px scope gpos it (genEnv scope (cloFrom X.env.cells scope.names []) s4.heap.objs.size code builtinsNs X.env)))) := AllBare.push I4.bare rfl
      have goX : ∀ h : Heap, (h'.push { cls := .type "generator", data := .fields #[.int s4.gens.size 0, .str "<genexpr>" (s4.toks + 1), .str (X.env.qual ++ "<genexpr>") (s4.toks + 1 + 1)] }).get? h'.objs.size = some { cls := .type "generator", data := .fields #[.int s4.gens.size 0, .str "<genexpr>" (s4.toks + 1), .str (X.env.qual ++ "<genexpr>") (s4.toks + 1 + 1)] } := fun _ => Heap.get?_push_size _ rfl
      have kp5 : ∀ b o, s4.heap.get? b = some o → s'.heap.get? b = some o := fun b o e => hk' b o (keepP _ b o e)
      have ns5 : s'.heap.Ns s4.heap.objs.size (fun y => if y = ".0" then some (Value.ref it) else none) := (hn'.push _).keeps hk'
      have es' : s' = { s4 with heap := s'.heap, gens := s'.gens, toks := s'.toks } := by
        obtain ⟨a1, a2, a3, a4, a5⟩ := s'
        have z1 : a5 = s4.os := ho'
        have z2 : a3 = s4.drawn := hd'
        subst z1 z2
        rfl
      have gb' : AllBare s'.gens := by rw [hg']; exact barG
      have I5 := gcx_start (t5 := s'.toks) I4 S okG kp5 ns5 (show s4.heap.objs.size < h'.objs.size by omega) (hk' _ _ (goX s'.heap)) (fun v q => by cases q) gb'
      rw [← es'] at I5
      have IL : Inv (gcx X s4 (upd H1 P (.tbl (ps ++ more))) (X.A.in1.in1.over (cLoop elt iter x px scope gpos it (genEnv scope (cloFrom X.env.cells scope.names []) s4.heap.objs.size code builtinsNs X.env)) []) N (genEnv scope (cloFrom X.env.cells scope.names []) s4.heap.objs.size code builtinsNs X.env) fp) (pinsAt L s'.heap) (none :: tl σ caps) (upd H1 P (.tbl (ps ++ more))) s' := by
        refine I5.pins_of fun p hp => ?_
        obtain ⟨hb, e⟩ := of_pinsAt hp
        obtain ⟨o, eo, od⟩ := hex p.1 hb
        rw [e] at eo
        have eo' : p.2 = o := Option.some.inj eo
        have hlt := hL p.1 hb
        refine ⟨e, I4.hok.fresh (Nat.le_of_lt hlt), Nat.ne_of_gt hlt, fun z => ?_, fun v => by rw [eo']; exact od v⟩
        rcases List.mem_cons.mp (I4.stkSub p.1 z) with q | q
        · exact absurd (Nat.lt_trans I4.lt (by rw [← q]; exact hlt)) (Nat.lt_irrefl _)
        · exact I4.nofs (Nat.le_of_lt hlt) q
      have D : Does (gcx X s4 (upd H1 P (.tbl (ps ++ more))) (X.A.in1.in1.over (cLoop elt iter x px scope gpos it (genEnv scope (cloFrom X.env.cells scope.names []) s4.heap.objs.size code builtinsNs X.env)) []) N (genEnv scope (cloFrom X.env.cells scope.names []) s4.heap.objs.size code builtinsNs X.env) fp) x px elt J fp it tn (tl σ caps) Pv n val te :=
        ⟨hc, fun _ _ q => q, T, fun pins s σ H I fr hp b hb => ⟨fr b hb, (I.ok.exf b hb).1, I.ok.exfs b hb, .inl hb, (I.ok.exf b hb).2, fun p q z => by
            rcases List.mem_append.mp q with q | q
            · cases q
            · exact hp p q (by rw [z]; exact hb)⟩, pg_name S.nd S.n0 (.inl S.loc) (.inr S.loc), hel _ _ _ _ _ _ _ _ rm, wgo, wstop, wy, S.co⟩
      have hLf : ∀ b ∈ L, b ∉ fp := fun b hb z => absurd (Nat.lt_trans (fpk4 b z).2 (hL b hb)) (Nat.lt_irrefl _)
      refine ⟨⟨_, _, _, hk' _ _ (goX s'.heap), rfl, rfl, rfl⟩, ⟨_, none, IL, T.keep _ _ _ st4 fun b hb o e => kp5 b o e, fun b hb => (fpk4 b hb).1.1, w0⟩, fun b hb => (hex b hb).elim fun o h => ⟨o, h.1⟩, ?_⟩
      refine ⟨.fresh (cStart elt iter x px scope gpos it (genEnv scope (cloFrom X.env.cells scope.names []) s4.heap.objs.size code builtinsNs X.env)), by rw [hg']; exact Array.getElem?_push_size .., fun s'' hat => ⟨rfl, ?_⟩⟩
      rw [Nat.sub_zero]
      exact seg_start (gpos := gpos) (iter := iter) D rfl L hLf s'' hat
    · obtain ⟨j, Hf, v0, hj, If, pv⟩ := hF
      exact ⟨j, Hf, hj, I4.call' (s' := s') (ch := fp) If.os If.base If.hok If.bare (fun b hb => by
        obtain ⟨_, q2, _, q4, q5, q6⟩ := (fpk4 b hb).1
        exact ⟨q4, q2, q5, q6⟩), pv⟩
  cases hf : codeAmong gpos ps.toList with
  | none =>
    refine wpAny_genexprCodeX hcode (cd.code hPs ht) (cd.tab hPs) hf fun c' h' tk hx hge hlt hco' _ htab' _ => ?_
    obtain ⟨o1, vs, f1, tf, fl, tg, inF, tx, tt, op, _, _, _, _, _, _, _, _, _, htr, _⟩ := hco'
    exact cont _ h' tk _ hx (Nat.le_trans hge (Nat.le_of_lt hlt)) htab'.2 ⟨_, rfl⟩ htr
  | some cv =>
    refine wpAny_genexprCode_hit hcode (cd.code hPs ht) hf ?_
    exact cont cv s2.heap s2.toks ps (Heap.ExtBut.refl _ _) (Nat.le_refl _) hPs ⟨#[], by simp⟩ ht

theorem pe_allG {caps : List Nat} (hr : Room (k + 1) X.A) (hc : X.calm = true) (hg : Gl X "all") (hm : X.mg "all" = none) (TB : TabB X.base X.mg c P) (hcode : X.env.code = .ref c) (S : GenK X scope x N caps) (hi : PI X (.Name x px) iter wi)
    (hel : ∀ (s4 : Shared) (H4 : Hp) (A : Around) (cl : List (Str × Addr)) (C : Addr) (code : Value) (bi : Addr) (fp : List Addr), Room k A → PE (gcx X s4 H4 A N (genEnv scope cl C code bi X.env) fp) elt te)
    (hs : ∀ v, genFold iter X.env v = pure v := by intro _; rfl) (hb : bootBuiltins "all" = some (.builtin "all") := by decide +kernel)
    (he : starEach [.GeneratorExp elt [⟨.Name x px, iter, [], 0⟩] scope gpos] X.env = (false, eval (.GeneratorExp elt [⟨.Name x px, iter, [], 0⟩] scope gpos) X.env) :: starEach [] X.env := by rfl) :
    PE X (.Call (.Name "all" p) [.GeneratorExp elt [⟨.Name x px, iter, [], 0⟩] scope gpos] [] pos) (tAllG P wi te caps) := by
  refine ⟨fun pins s σ H Q I h => ?_⟩
  refine wpAny_Call_Name_kw (ld_blt I hg hm hb ?_)
  refine PyProof.Rows.callWith_builtin1 ?_ he (by rfl)
  rw [he]
  show wpAny _ _ (spliced ((false, eval (.GeneratorExp elt [⟨.Name x px, iter, [], 0⟩] scope gpos) X.env) :: backTo pos (starEach [] X.env))) _ _ s
  refine Calls.spliced_cons (gen_made hr hc TB hcode S hi hel hs I h fun J H2 s4 s5 A C code bi fp tn a g hR ha4 ha5 hfp hcl hst hT hfin => ?_)
  refine Calls.spliced_nil ?_
  obtain ⟨n, tr, Pv, W, hQ⟩ := hR
  have hgo := hst n _ Pv W [a] (fun b hb => by rw [List.mem_singleton.mp hb]; exact ha4) (List.mem_singleton.mpr rfl) s5 (fun _ _ e => e) (fun b hb => by rw [List.mem_singleton.mp hb]; exact gen_obj ha5) (fun b hb => .inl (List.mem_singleton.mp hb)) rfl rfl rfl
  refine call_function_tree F.kind_all F.plain_all F.entry_all (F.args_all1 _) ?_
  unfold Builtin.«all»
  refine wpAny_bind (m := oneArg "all" _) (wpAny_pure ?_)
  refine wpAny_bind (wpAny_pyIter_gen hgo.gen ?_)
  refine wpAny_pure ⟨plainId_quiet F.plain_all_loop _, drain_all (XG := (gcx X s4 H2 A N (genEnv scope (cloFrom X.env.cells scope.names []) C code bi X.env) fp)) tr (fun _ => rfl) (List.mem_singleton.mpr rfl) hr.hd hr.depth n 0 s5 rfl (Nat.zero_le _) hgo fun s' hF => ?_⟩
  obtain ⟨j, H', hj, I', pv⟩ := hfin _ _ _ _ hF
  rw [List.drop_zero]
  exact ⟨.bl _, H', I', rfl, hQ j H' hj pv⟩

theorem pe_anyG {caps : List Nat} (hr : Room (k + 1) X.A) (hc : X.calm = true) (hg : Gl X "any") (hm : X.mg "any" = none) (TB : TabB X.base X.mg c P) (hcode : X.env.code = .ref c) (S : GenK X scope x N caps) (hi : PI X (.Name x px) iter wi)
    (hel : ∀ (s4 : Shared) (H4 : Hp) (A : Around) (cl : List (Str × Addr)) (C : Addr) (code : Value) (bi : Addr) (fp : List Addr), Room k A → PE (gcx X s4 H4 A N (genEnv scope cl C code bi X.env) fp) elt te)
    (hs : ∀ v, genFold iter X.env v = pure v := by intro _; rfl) (hb : bootBuiltins "any" = some (.builtin "any") := by decide +kernel)
    (he : starEach [.GeneratorExp elt [⟨.Name x px, iter, [], 0⟩] scope gpos] X.env = (false, eval (.GeneratorExp elt [⟨.Name x px, iter, [], 0⟩] scope gpos) X.env) :: starEach [] X.env := by rfl) :
    PE X (.Call (.Name "any" p) [.GeneratorExp elt [⟨.Name x px, iter, [], 0⟩] scope gpos] [] pos) (tAnyG P wi te caps) := by
  refine ⟨fun pins s σ H Q I h => ?_⟩
  refine wpAny_Call_Name_kw (ld_blt I hg hm hb ?_)
  refine PyProof.Rows.callWith_builtin1 ?_ he (by rfl)
  rw [he]
  show wpAny _ _ (spliced ((false, eval (.GeneratorExp elt [⟨.Name x px, iter, [], 0⟩] scope gpos) X.env) :: backTo pos (starEach [] X.env))) _ _ s
  refine Calls.spliced_cons (gen_made hr hc TB hcode S hi hel hs I h fun J H2 s4 s5 A C code bi fp tn a g hR ha4 ha5 hfp hcl hst hT hfin => ?_)
  refine Calls.spliced_nil ?_
  obtain ⟨n, tr, Pv, W, hQ⟩ := hR
  have hgo := hst n _ Pv W [a] (fun b hb => by rw [List.mem_singleton.mp hb]; exact ha4) (List.mem_singleton.mpr rfl) s5 (fun _ _ e => e) (fun b hb => by rw [List.mem_singleton.mp hb]; exact gen_obj ha5) (fun b hb => .inl (List.mem_singleton.mp hb)) rfl rfl rfl
  refine call_function_tree F.kind_any F.plain_any F.entry_any (F.args_any1 _) ?_
  unfold Builtin.«any»
  refine wpAny_bind (m := oneArg "any" _) (wpAny_pure ?_)
  refine wpAny_bind (wpAny_pyIter_gen hgo.gen ?_)
  refine wpAny_pure ⟨plainId_quiet F.plain_any_loop _, drain_any (XG := (gcx X s4 H2 A N (genEnv scope (cloFrom X.env.cells scope.names []) C code bi X.env) fp)) tr (fun _ => rfl) (List.mem_singleton.mpr rfl) hr.hd hr.depth n 0 s5 rfl (Nat.zero_le _) hgo fun s' hF => ?_⟩
  obtain ⟨j, H', hj, I', pv⟩ := hfin _ _ _ _ hF
  rw [List.drop_zero]
  exact ⟨.bl _, H', I', rfl, hQ j H' hj pv⟩

theorem pe_sumG {caps : List Nat} (hr : Room (k + 1) X.A) (hc : X.calm = true) (hg : Gl X "sum") (hm : X.mg "sum" = none) (TB : TabB X.base X.mg c P) (hcode : X.env.code = .ref c) (S : GenK X scope x N caps) (hi : PI X (.Name x px) iter wi)
    (hel : ∀ (s4 : Shared) (H4 : Hp) (A : Around) (cl : List (Str × Addr)) (C : Addr) (code : Value) (bi : Addr) (fp : List Addr), Room k A → PE (gcx X s4 H4 A N (genEnv scope cl C code bi X.env) fp) elt te)
    (hs : ∀ v, genFold iter X.env v = pure v := by intro _; rfl) (hb : bootBuiltins "sum" = some (.builtin "sum") := by decide +kernel)
    (he : starEach [.GeneratorExp elt [⟨.Name x px, iter, [], 0⟩] scope gpos] X.env = (false, eval (.GeneratorExp elt [⟨.Name x px, iter, [], 0⟩] scope gpos) X.env) :: starEach [] X.env := by rfl) :
    PE X (.Call (.Name "sum" p) [.GeneratorExp elt [⟨.Name x px, iter, [], 0⟩] scope gpos] [] pos) (tSumG P wi te caps) := by
  refine ⟨fun pins s σ H Q I h => ?_⟩
  refine wpAny_Call_Name_kw (ld_blt I hg hm hb ?_)
  refine PyProof.Rows.callWith_builtin1 ?_ he (by rfl)
  rw [he]
  show wpAny _ _ (spliced ((false, eval (.GeneratorExp elt [⟨.Name x px, iter, [], 0⟩] scope gpos) X.env) :: backTo pos (starEach [] X.env))) _ _ s
  refine Calls.spliced_cons (gen_made hr hc TB hcode S hi hel hs I h fun J H2 s4 s5 A C code bi fp tn a g hR ha4 ha5 hfp hcl hst hT hfin => ?_)
  refine Calls.spliced_nil ?_
  obtain ⟨n, vi, Pv, W, hfit, hQ⟩ := hR
  refine call_function_tree F.kind_sum F.plain_sum F.entry_sum (F.args_sum1 _) ?_
  unfold Builtin.«sum»
  simp only [List.length_cons, List.length_nil]
  rw [if_neg (by decide)]
  refine wpAny_bind (wpAny_of_eq (show Builtin.Builtins.bindParams "sum" ["start"] 0 { } = pure [none] from rfl) ?_)
  refine wpAny_bind (wpAny_pyIter_gen ha5 ?_)
  refine wpAny_bind (wpAny_mkInt ?_)
  refine wpAny_bind (wpAny_pure ?_)
  simp only [List.forIn_cons, List.forIn_nil]
  refine wpAny_bind (wpAny_bind (wpAny_bind (wpAny_isInstance (T := "int") (b := false) (typeIs_int _ _ _) PySem.sub_int_str ?_)))
  simp only [Bool.false_eq_true, if_false]
  refine wpAny_pure (wpAny_bind (wpAny_bind (wpAny_isInstance (T := "int") (b := false) (typeIs_int _ _ _) PySem.sub_int_bytes ?_)))
  simp only [Bool.false_eq_true, if_false]
  refine wpAny_pure (wpAny_bind (wpAny_bind (wpAny_isInstance (T := "int") (b := false) (typeIs_int _ _ _) PySem.sub_int_bytearray ?_)))
  simp only [Bool.false_eq_true, if_false]
  refine wpAny_pure (wpAny_pure ?_)
  refine wpAny_bind (wpAny_newObj_type ?_)
  have haS : a < s5.heap.objs.size := by
    obtain ⟨o, e, _⟩ := gen_obj ha5
    exact Heap.lt_size e
  have hgo := fun t => hst n _ Pv W [a, s5.heap.objs.size] (fun b hb => by
      rcases List.mem_cons.mp hb with q | q
      · rw [q]; exact ha4
      · rw [List.mem_singleton.mp q]; exact Nat.lt_trans ha4 haS) List.mem_cons_self { s5 with heap := s5.heap.push { cls := .type "list", data := .seq #[.int 0 s5.toks] }, toks := t } (fun _ _ e => Heap.get?_push_of_some _ e) (fun b hb => by
      rcases List.mem_cons.mp hb with q | q
      · obtain ⟨o, e, d⟩ := gen_obj ha5
        rw [q]
        exact ⟨o, Heap.get?_push_of_some _ e, d⟩
      · rw [List.mem_singleton.mp q]
        exact ⟨_, Heap.get?_push_size _ rfl, fun v z => by cases z⟩) (fun b hb => by
      rcases List.mem_cons.mp hb with q | q
      · exact .inl q
      · exact .inr (Nat.le_of_eq (List.mem_singleton.mp q).symm)) rfl rfl rfl
  refine wpAny_pure ⟨plainId_quiet F.plain_sum_loop _, drain_sum (XG := (gcx X s4 H2 A N (genEnv scope (cloFrom X.env.cells scope.names []) C code bi X.env) fp)) vi (fun _ => rfl) hfit (S := s5.heap.objs.size) List.mem_cons_self (Ne.symm (Nat.ne_of_lt haS)) (List.mem_cons_of_mem _ (List.mem_singleton.mpr rfl)) (Nat.le_of_lt (Nat.lt_trans ha4 haS)) rfl
    (fun z => absurd (Nat.lt_trans (hfp _ z) (Nat.lt_trans ha4 haS)) (Nat.lt_irrefl _)) hcl hT hr.hd hr.depth n 0 _ s5.toks _ rfl (Nat.zero_le _) (hgo _) (Heap.get?_push_size _ rfl) fun s' t' hF => ?_⟩
  obtain ⟨j, H', hj, I', pv⟩ := hfin _ _ _ _ hF
  exact ⟨.int _, H', I', ⟨t', rfl⟩, hQ j H' hj pv⟩
end
end GX
set_option Elab.async false
set_option linter.all false
set_option maxRecDepth 100000
set_option maxHeartbeats 4000000
/-! sorted(xs) of tuples the first of which is empty. -/
namespace KS
open PySem PySem.W PySem.SeqAt PySem.Calls PyProof.Rows
section
variable {M : Model} {A : Around} {E : Value → Shared → Prop} {s : Shared}
inductive Tups (h : Heap) : List Value → List (Option Value) → Prop
  | nil : Tups h [] []
  | cons {a : Addr} {o : Obj} {xs : Array Value} {n : Nat} {vs : List Value} {fs : List (Option Value)} (ho : h.get? a = some o) (hc : o.cls = .type "tuple") (hd : o.data = .seq xs n) (r : Tups h vs fs) : Tups h (.ref a :: vs) (xs[0]? :: fs)
theorem firsts_of {vs : List Value} {fs : List (Option Value)} (t : Tups s.heap vs fs) : ∀ {Q : List (Option Value) → Shared → Prop}, Q fs s → wpAny M A (vs.mapM firstOfTuple') Q E s := by
  induction t with
  | nil => intro Q h; rw [List.mapM_nil]; exact wpAny_pure h
  | @cons a o xs n vs fs ho hc hd r ih =>
    intro Q h
    rw [List.mapM_cons]
    refine wpAny_bind ?_
    rw [kas_first_eq]
    refine wpAny_bind (Looks.here (show Looks M s.heap (typeOf (.ref a)) o.cls from (Looks.ld ho).andThen .now) ?_)
    rw [hc, if_neg (by first | decide | simp)]
    refine wpAny_bind (listItems_at ho hd (wpAny_pure ?_))
    exact wpAny_bind (ih (Q := fun bs s' => wpAny M A (pure (xs[0]? :: bs)) Q E s') (wpAny_pure h))
theorem kind_of {vs : List Value} {fs : List (Option Value)} {Q : SortKind → Shared → Prop} (t : Tups s.heap vs (none :: fs)) (hT : ∀ v ∈ vs, Looks M s.heap (typeOf v) (.type "tuple")) (h : Q oneType' s) : wpAny M A (keyKind' vs.toArray) Q E s := by
  rw [keyKind'_eq, List.mapM_toArray, map_eq_pure_bind]
  refine wpAny_bind (wpAny_bind (firsts_of t (wpAny_pure ?_)))
  rw [if_neg (by simp), if_neg (by simp)]
  rw [oneTypeOnly'_eq, List.mapM_toArray, map_eq_pure_bind]
  refine wpAny_bind (wpAny_bind (wpAny_bind (kas_mapM (r := Value.type "tuple") _ (fun v hv Q' hq => (hT v hv).here hq) (wpAny_pure ?_))))
  have hne : 0 < vs.length := by
    generalize ef : none :: fs = gs at t
    cases t with
    | nil => cases ef
    | cons _ _ _ _ => simp
  have hall : ((List.map (fun _ => Value.type "tuple") vs).toArray.all fun x => x == Value.type "tuple") = true := by
    simp only [List.all_toArray, List.all_map, List.all_eq_true]
    intro _ _
    exact beq_self_eq_true _
  have h0 : (List.map (fun _ => Value.type "tuple") vs).toArray[0]? = some (Value.type "tuple") := by
    simp only [List.getElem?_toArray, List.getElem?_map]
    rw [List.getElem?_eq_getElem hne]; rfl
  rw [h0]
  simp only [hall, if_true]
  exact wpAny_pure (wpAny_pure h)
end
section
variable {prog : Program} {w : World} {A : Around} {s : Shared} {E : Value → Shared → Prop}
theorem oneLt_tup {xs ys : List PyData} {a b : Value} {as bs : List Addr} {Q : Bool → Shared → Prop} (ra : Reads s.heap a (.tuple xs) as) (rb : Reads s.heap b (.tuple ys) bs) (h : alike (.tuple xs) (.tuple ys) = true)
    (hu : A.units + min (PyData.tuple xs).depth (PyData.tuple ys).depth < cLine) (hq : Q (dataLt (.tuple xs) (.tuple ys)) s) : wpAny (model prog w) A (oneLt' true a b) Q E s := by
  have hal : alikeAll xs ys = true := by simpa [alike] using h
  cases ra with
  | @tuple l o vs n _ as₁ h1 h2 h3 h4 =>
    cases rb with
    | @tuple l' o' vs' n' _ bs₁ k1 k2 k3 k4 =>
      have n1 : vs.size = xs.length := by simpa using ReadsAll.length _ _ _ h4
      have n2 : vs'.size = ys.length := by simpa using ReadsAll.length _ _ _ k4
      rw [dataLt_tuple, ← firstLt_toks xs ys hal, ← n1, ← n2] at hq
      rw [oneLt'_eq]
      simp only [if_true]
      refine wpAny_bind (wpAny_cRoomFor (room_here hu) ?_)
      obtain ⟨cls, dd, data, sl⟩ := o
      obtain ⟨cls', dd', data', sl'⟩ := o'
      simp only at h2 h3 k2 k3
      subst h2 h3 k2 k3
      refine wpAny_bind (wpAny_callSpecialIfBound?_slot (T := "tuple") ⟨_, h1, rfl⟩ F.slot_tuple_lt (call_meets F.slot_tuple_lt ⟨_, h1, rfl⟩ F.entry_tuple_lt (F.args_tuple_lt_2 _ _)
        (tuple_ltAt l l' vs vs' n n' dd dd' sl sl' (pairEq xs ys) (fun j => dataLt (xs.getD j .none) (ys.getD j .none))) ⟨h1, k1, fun j j1 j2 => ?_, fun j j1 j2 hj => ?_, ?_⟩))
      · have := eqAt_alikeAll xs ys A.in1 s vs.toList vs'.toList _ _ h4 k4 hal (room_in hu) j (by simpa using j1) (by simpa using j2)
        simpa using this
      · have := rcLt_alikeAll xs ys A.in1 s vs.toList vs'.toList _ _ h4 k4 hal (room_in hu) j (by simpa using j1) (by simpa using j2) hj
        simpa using this
      · exact wpAny_truthy_bool hq
theorem tups_of {h : Heap} : ∀ {vs : List Value} {ds : List PyData}, EachIs (fun v d => ∃ as, Reads h v d as) vs ds → (∀ d ∈ ds, ∃ xs, d = .tuple xs) → ∃ fs, Tups h vs fs
  | _, _, .nil, _ => ⟨[], .nil⟩
  | _, _, .cons ⟨as, r⟩ t, ht => by
    obtain ⟨fs, q⟩ := tups_of t fun d hd => ht d (List.mem_cons_of_mem _ hd)
    obtain ⟨xs, rfl⟩ := ht _ List.mem_cons_self
    cases r with
    | tuple ho hc hd hr => exact ⟨_, .cons ho hc hd q⟩
theorem SortsAt.lots {vs : List Value} {ds : List PyData} (e : EachIs (fun v d => ∃ as, Reads s.heap v d as) vs (.tuple [] :: ds)) (hal : AllAlike (.tuple [] :: ds)) (hk : ∀ d ∈ ds, ∃ xs, d = .tuple xs) (hu : ∀ d ∈ PyData.tuple [] :: ds, A.units + d.depth < cLine) :
    SortsAt prog w A s (dataKind s.heap (.tuple [] :: ds)) vs := by
  have hk' : ∀ d ∈ PyData.tuple [] :: ds, ∃ xs, d = .tuple xs := fun d hd => (List.mem_cons.mp hd).elim (fun q => ⟨[], q⟩) (hk d)
  have room : ∀ {d d' : PyData}, d ∈ PyData.tuple [] :: ds → A.units + min d.depth d'.depth < cLine := fun {d d'} hd => Nat.lt_of_le_of_lt (Nat.add_le_add_left (Nat.min_le_left _ _) _) (hu d hd)
  refine ⟨fun v hv => ?_, oneType', ?_, fun _ E Q hq => ?_⟩
  · obtain ⟨d, hd, as, r⟩ := e.left v hv
    exact ⟨_, dataKind_some hal hd r⟩
  · intro E x y a b Q ha hb hq
    obtain ⟨d, as, hd, ra, rfl⟩ := dataKind_inv ha
    obtain ⟨d', as', hd', rb, rfl⟩ := dataKind_inv hb
    have hr := room (d' := d') hd
    have hdd := hal d hd d' hd'
    obtain ⟨xs, rfl⟩ := hk' d hd
    obtain ⟨ys, rfl⟩ := hk' d' hd'
    rw [keyLt'_oneType]
    exact oneLt_tup ra rb hdd hr hq
  · obtain ⟨fs, t⟩ := tups_of e hk'
    have hT : ∀ v ∈ vs, Looks (model prog w) s.heap (typeOf v) (.type "tuple") := fun v hv => by
      obtain ⟨d, hd, as, r⟩ := e.left v hv
      obtain ⟨xs, rfl⟩ := hk' d hd
      exact looks_reads r
    cases e with
    | cons r0 e =>
      obtain ⟨as, r0⟩ := r0
      cases r0 with
      | tuple h1 h2 h3 h4 =>
        cases t with
        | cons ho hc hd r =>
          rw [h1] at ho
          cases Option.some.inj ho
          rw [h3] at hd
          cases hd
          have : ∀ {xs : Array Value} {as : List Addr}, ReadsAll s.heap xs.toList [] as → xs[0]? = none := fun {xs} {as} q => by
            cases e : xs.toList with
            | nil => rw [← Array.getElem?_toList, e]; rfl
            | cons a b => rw [e] at q; cases q
          have z := this h4
          have t' := Tups.cons h1 h2 h3 r
          rw [z] at t'
          exact kind_of t' hT hq
/-- sorted(xs), () the first -/
theorem sorted_lots {l : Addr} {vs : List Value} {ds : List PyData} {R : Value → PyData → Prop} {Q : Value → Shared → Prop} (hl : s.heap.IsList l vs.toArray) (e : EachIs R vs (.tuple [] :: ds)) (er : EachIs (fun v b => ∃ as, Reads s.heap v b as) vs (.tuple [] :: ds)) (hal : AllAlike (.tuple [] :: ds)) (hk : ∀ d ∈ ds, ∃ xs, d = .tuple xs) (hL : (PyData.tuple [] :: ds).length ≤ sizeLine)
    (hu : ∀ b ∈ PyData.tuple [] :: ds, A.units + 2 + b.depth < cLine) (h : ∀ out, out.length = (PyData.tuple [] :: ds).length → EachIs R out ((PyData.tuple [] :: ds).mergeSort (dataLe false id)) → Q (.ref (s.heap.objs.size + 1)) { s with heap := sortedAll s.heap vs (List.toArray out) }) :
    wpAny (model prog w) A (call (.builtin "sorted") [.ref l]) Q E s := by
  have er' : EachIs (fun v b => ∃ as, Reads (sortingHeap (copyHeap s.heap vs) (s.heap.objs.size + 1) vs) v b as) vs (.tuple [] :: ds) := er.mono fun _ _ ⟨as, r⟩ => ⟨as, PyProof.Rows.Reads.keeps (fun _ _ => sorting_copy_old) r⟩
  have S := SortsAt.lots (prog := prog) (w := w) (A := A.in1.in1) (s := { s with heap := sortingHeap (copyHeap s.heap vs) (s.heap.objs.size + 1) vs }) er' hal hk hu
  have hd := sortVals_data (enc := id) (bs := PyData.tuple [] :: ds) false e er' (by rw [List.map_id]; exact hal)
  rw [List.map_id] at hd
  exact sorted_vals hl S (by rw [e.length]; exact hL) (h _ (by rw [sortVals_length false rfl]; exact e.length) hd)
end
end KS
set_option Elab.async false
set_option linter.all false
set_option maxRecDepth 100000
set_option maxHeartbeats 4000000
/-! Operations on data that the library lacks. -/
namespace KO
open PySem PySem.Spec PyProof.Rows L2
open PySem.W (alike dataLt dataLe AllAlike Sortable AlikeAll minD EachIs)
section
variable {prog : Program} {w : World} {A : Around} {E : Value → Shared → Prop} {s : Shared}
/-! ### t[::-1] -/
theorem sliceApplied_rev {sl : Addr} {vs : Value} {n : Nat} {Q : Int × Int × Nat → Shared → Prop} (hs : s.heap.IsSliceOf sl .none .none vs) (pu : IsPart vs (some (-1)))
    (h : Q ((n : Int) - 1, -1, n) s) : wpAny (model prog w) A (Builtin.Slice.sliceApplied (.ref sl) (pure (n : Int))) Q E s := by
  obtain ⟨os, hos, hcs, hds⟩ := id hs
  unfold Builtin.Slice.sliceApplied Builtin.Slice.sliceFields
  refine wpAny_bind (wpAny_bind (wpAny_field hos hds (x := .none) rfl (wpAny_bind (wpAny_field hos hds (x := .none) rfl (wpAny_bind (wpAny_field hos hds (x := vs) rfl (wpAny_pure ?_)))))))
  refine wpAny_bind (HT.slicePart_ pu ?_)
  show wpAny _ _ (if ((-1 : Int) == 0) = true then _ else _) _ _ s
  rw [if_neg (by decide)]
  refine wpAny_bind (HT.slicePart_ .none (wpAny_bind (HT.slicePart_ .none (wpAny_bind (wpAny_pure ?_)))))
  have e1 : Builtin.Slice.sliceAdjust none none (-1) (n : Int) = ((n : Int) - 1, -1) := rfl
  have e2 : Builtin.Slice.slicePlaces ((n : Int) - 1) (-1) (-1) = n := by
    unfold Builtin.Slice.slicePlaces
    rw [if_neg (by decide)]
    by_cases hn : (n : Int) - 1 > -1
    · rw [if_pos hn, show (-(-1 : Int)) = 1 from rfl, Int.ediv_one]; omega
    · rw [if_neg hn]; omega
  show wpAny _ _ (match Builtin.Slice.sliceAdjust none none (-1) (n : Int) with | (lo, hi) => pure (lo, (-1 : Int), Builtin.Slice.slicePlaces lo hi (-1))) _ _ s
  rw [e1]
  show wpAny _ _ (pure ((n : Int) - 1, (-1 : Int), Builtin.Slice.slicePlaces ((n : Int) - 1) (-1) (-1))) _ _ s
  rw [e2]
  exact wpAny_pure h
theorem pick_rev (xs : Array Value) : ((List.range xs.size).filterMap fun (m : Nat) => xs[(((xs.size : Nat) : Int) - 1 + (m : Int) * (-1)).toNat]?).toArray = xs.toList.reverse.toArray := by
  congr 1
  have h := PySem.W.krv_all xs
  rw [← h, ← List.filterMap_reverse, ← PySem.W.krv_range, List.filterMap_map]
  have gen : ∀ l : List Nat, (∀ m ∈ l, m < xs.size) → l.filterMap (fun (m : Nat) => xs[(((xs.size : Nat) : Int) - 1 + (m : Int) * (-1)).toNat]?) = l.filterMap ((fun x => xs[x]?) ∘ fun k => xs.size - 1 - k) := by
    intro l
    induction l with
    | nil => intro _; rfl
    | cons m l ih =>
      intro hl
      have hm := hl m List.mem_cons_self
      have e : (((xs.size : Nat) : Int) - 1 + (m : Int) * (-1)).toNat = xs.size - 1 - m := by omega
      rw [List.filterMap_cons, List.filterMap_cons, ih fun k hk => hl k (List.mem_cons_of_mem _ hk), e]
      rfl
  exact gen _ fun m hm => List.mem_range.mp hm
theorem getItem_tuple_rev {t sl : Addr} {items : Array Value} {vs : Value} {Q : Value → Shared → Prop} (ht : IsTup s.heap t items) (hs : s.heap.IsSliceOf sl .none .none vs) (pu : IsPart vs (some (-1)))
    (h : Q (.ref s.heap.objs.size) { s with heap := s.heap.push { cls := .type "tuple", data := .seq items.toList.reverse.toArray } })
    (hsz : items.size ≤ sizeLine) : wpAny (model prog w) A (getItem (.ref t) (.ref sl)) Q E s := by
  have htake : sizeOk (.seq items.toList.reverse.toArray) := by
    show items.toList.reverse.toArray.size ≤ sizeLine
    rw [List.size_toArray, List.length_reverse, Array.length_toList]
    exact hsz
  obtain ⟨os, hos, hcs, hds⟩ := id hs
  have hTs : s.TypeIs (.ref sl) "slice" := ⟨os, hos, hcs⟩
  unfold getItem
  try with_reducible refine wpAny_holding ?_
  first | refine wpAny_bind (wpAny_pure ?_) | skip
  refine wpAny_bind (wpAny_sequenceKey ht.typeIs (by decide) ?_)
  refine wpAny_bind (wpAny_callSpecial?_slot (name := Str.ofString "__getitem__") ht.typeIs PyProof.Rows.slot_tuple_getitem
    (wpAny_call_entry PyProof.Rows.slot_tuple_getitem ht.typeIs entry_tuple_getitem ?_ (args_tuple_getitem _ _)))
  show wpAny _ _ (Builtin.Tuple.tupleItemsOf (.ref t) >>= _) _ _ s
  refine wpAny_bind (tupleItemsOf_ ht ?_)
  refine wpAny_bind (wpAny_typeOf hTs ?_)
  rw [if_pos (by decide)]
  refine wpAny_bind (sliceApplied_rev hs pu ?_)
  have hno : ¬ (((((items.size : Nat) : Int) - 1) == 0 && (-1 : Int) == 1 && items.size == items.size) = true) := by
    intro q
    rw [Bool.and_eq_true, Bool.and_eq_true] at q
    exact absurd (eq_of_beq q.1.2) (by decide)
  show wpAny _ _ (if ((((items.size : Nat) : Int) - 1) == 0 && (-1 : Int) == 1 && items.size == items.size) = true then _ else _) _ _ s
  rw [if_neg hno, pick_rev]
  first
    | exact wpAny_bind (m := Builtin.Tuple.tupleExact _) (wpAny_newObj_type (wpAny_pure ⟨_, rfl, wpAny_pure h⟩) htake)
    | exact wpAny_bind (m := Builtin.Tuple.tupleExact _) (wpAny_newObj_type (wpAny_bind (wpAny_pure (wpAny_pure ⟨_, rfl, wpAny_pure h⟩))) htake)
    | exact wpAny_bind (wpAny_bind (m := Builtin.Tuple.tupleExact _) (wpAny_newObj_type (wpAny_pure (wpAny_pure ⟨_, rfl, wpAny_pure h⟩)) htake))
    | exact wpAny_bind (wpAny_bind (m := Builtin.Tuple.tupleExact _) (wpAny_newObj_type (wpAny_pure ⟨_, rfl, wpAny_pure h⟩) htake))
end
section
variable {X : Cx}
def tRevT (K : PySem.W.Frag) (te : TE) : TE := fun σ H Q => te σ H fun x H1 => ∃ a xs, x = .ref a ∧ SqT K H1 a xs ∧ ∀ p, H1 p = none → Q (.ref p) (upd H1 p (.tup xs.reverse))
theorem pe_revT {e : Expr} {te : TE} {k : Nat} {p1 p2 p3 pos : Pos} (he : PE X e te) : PE X (.Subscript e (.Slice none none (some (.UnaryOp .USub (.Constant (.int 1) k p1) p2)) p3) pos) (tRevT X.K te) := by
  refine ⟨fun pins s σ H Q I h => ?_⟩
  refine Subscript_ (thn (he.run pins s σ H _ I h) fun v s1 ⟨x, H1, I1, r1, q1⟩ => ?_)
  obtain ⟨a, xs, ex, hx, q⟩ := q1
  subst ex
  cases r1
  have hst : PO X (some (.UnaryOp .USub (.Constant (.int 1) k p1) p2)) (tPart (tUn (rU fun i => .int (-i)) (tC (.int 1)))) := po_some (pe_un un_neg pe_int)
  refine wpAny_Slice (thn (po_none.run pins s1 σ H1 (fun o H2 => o = none ∧ H2 = H1) I1 ⟨rfl, rfl⟩) fun vl s2 ⟨l, H2, I2, pl, el, e2⟩ => ?_)
  subst el e2
  refine thn (po_none.run pins s2 σ H2 (fun o H3 => o = none ∧ H3 = H2) I2 ⟨rfl, rfl⟩) fun vu s3 ⟨u, H3, I3, pu, eu, e3⟩ => ?_
  subst eu e3
  refine thn (hst.run pins s3 σ H3 (fun o H4 => o = some (-1) ∧ H4 = H3) I3 ⟨1, rfl, -1, rfl, rfl, rfl⟩) fun vs s4 ⟨o, H4, I4, ps, eo, e4⟩ => ?_
  subst eo e4
  cases pl
  cases pu
  have I5 : Inv X pins σ H4 { s4 with heap := s4.heap.push { cls := .type "slice", data := .fields #[.none, .none, vs] } } := I4.kept (t' := s4.toks) fun b ob q => Heap.get?_push_of_some _ q
  obtain ⟨its, r, ht, hz⟩ := I5.tuple hx
  have hlen := r.length
  show wpAny (model X.prog X.w) X.A (subscriptTail e (.Slice none none (some (.UnaryOp .USub (.Constant (.int 1) k p1) p2)) p3) (.ref a) (.ref s4.heap.objs.size)) (EP X pins σ Q) X.xe { s4 with heap := s4.heap.push { cls := .type "slice", data := .fields #[.none, .none, vs] } }
  refine tail_any (ops := [.ref a, .ref s4.heap.objs.size]) ht.typeIs (PyProof.Rows.slot_tuple_getitem.lookup) ?_ (by with_unfolding_all rfl)
  refine getItem_tuple_rev ht (Heap.IsSliceOf.new _ .none .none vs) ps ?_ (by rw [List.size_toArray]; omega)
  refine ⟨.ref _, _, I5.laid (t' := s4.toks) (o := .tup xs.reverse) (fun b ob q => Heap.get?_push_of_some _ q) (Nat.le_refl _) ?_, rfl, q _ (I5.hok.fresh (Nat.le_refl _))⟩
  exact ⟨by rw [List.length_reverse]; exact hz, _, r.reverse, IsTup.new _ _⟩

/-! ### t * 1 -/
theorem tuple_mul1 (l : Addr) (items : Array Value) (n : Nat) (dd : Option Addr) (sl : Array (Option Value)) (u : Tok) (c1 : (items.isEmpty || (1 : Int) == 1) = true) :
    Meets (Builtin.«tuple.__mul__» ⟨[.ref l, .int 1 u], []⟩) (fun _ R s => s.heap.get? l = some { cls := .type "tuple", dict := dd, data := .seq items n, slots := sl } ∧ R (.ok (.ret (Value.ref l))) s) :=
  .of_wp fun prog w A R s h => by
    obtain ⟨hp, g, d, tk, os⟩ := s
    obtain ⟨hl, h⟩ := h
    have f1 := AutoSeq1.idx_int
    wp_walk using wpAny_loadPart' hl
    repeat (first
      | (refine wpAny_ite_false (decide_eq_false (by decide)) ?_; wp_walk using wpAny_loadPart' hl)
      | (refine wpAny_ite_true (decide_eq_true c1) ?_; wp_walk using wpAny_loadPart' hl))
    exact ⟨_, rfl, h⟩
def rOneT (K : PySem.W.Frag) : R2 := fun x y H Q => ∃ l xs, x = .ref l ∧ y = .int 1 ∧ SqT K H l xs ∧ Q (.ref l) H
theorem op_oneT : OpR X (binaryOp .Mult) (rOneT X.K) := by
  intro pins s σ H x y v u Q I rx ry h
  obtain ⟨l, xs, rfl, rfl, hT, q⟩ := h
  cases rx
  obtain ⟨t, rfl⟩ := ry
  obtain ⟨its, r, ⟨⟨cls, dd, data, sl⟩, ho, hc, n, hd⟩, hs⟩ := I.tuple hT
  simp only at hc hd
  subst hc hd
  refine wpAny_binaryOp_repeat_ref (T := "tuple") (U := "int") (by decide) ⟨_, ho, rfl⟩ (fun s' => typeIs_int s' 1 t) noFill_tuple_mul F.fills_int_mul F.slot_int_rmul repeat_tuple F.slot_int_index.lookup
    (call_meets F.slot_int_rmul (typeIs_int s 1 t) F.entry_int_rmul (F.args_int_rmul_2 _ _) (int_rmul_tuple 1 t l its.toArray n dd sl)
      ⟨ho, rfl, ⟨_, ho, rfl⟩, call_meets F.slot_tuple_mul ⟨_, ho, rfl⟩ F.entry_tuple_mul (F.args_tuple_mul_2 _ _) (tuple_mul1 l its.toArray n dd sl t (by simp)) ⟨ho, ?_⟩⟩)
  exact ⟨.ref l, H, I, rfl, q⟩

/-! ### ==, !=, in, not in, >= of data -/
def rEqP (K : PySem.W.Frag) : R2 := fun x y H Q => ∃ d e, Dp K H x d ∧ Dp K H y e ∧ d.plain = true ∧ e.plain = true ∧ min d.depth e.depth ≤ 60 ∧ Q (.bl (PyData.eqv d e)) H
def rNeP (K : PySem.W.Frag) : R2 := fun x y H Q => ∃ d e, Dp K H x d ∧ Dp K H y e ∧ d.plain = true ∧ e.plain = true ∧ min d.depth e.depth ≤ 60 ∧ Q (.bl (!PyData.eqv d e)) H
def rInP (K : PySem.W.Frag) : R2 := fun x y H Q => ∃ d ds, Dp K H x d ∧ (Dp K H y (.list ds) ∨ Dp K H y (.tuple ds)) ∧ d.plain = true ∧ PyData.plainAll ds = true ∧ d.depth ≤ 60 ∧ Q (.bl (ds.any fun z => PyData.eqv z d)) H
def rNiP (K : PySem.W.Frag) : R2 := fun x y H Q => ∃ d ds, Dp K H x d ∧ (Dp K H y (.list ds) ∨ Dp K H y (.tuple ds)) ∧ d.plain = true ∧ PyData.plainAll ds = true ∧ d.depth ≤ 60 ∧ Q (.bl (!ds.any fun z => PyData.eqv z d)) H
def rGeP (K : PySem.W.Frag) : R2 := fun x y H Q => ∃ d e, Dp K H x d ∧ Dp K H y e ∧ alike d e = true ∧ d ≠ .none ∧ d.depth ≤ 60 ∧ Q (.bl (!dataLt d e)) H
theorem op_eqP (hu : X.A.units + 64 < cLine) : OpR X (compareOp .Eq) (rEqP X.K) := by
  intro pins s σ H x y v u Q I rx ry h
  obtain ⟨d, e, hd, he, sd, se, dp, q⟩ := h
  obtain ⟨as, r1⟩ := Dp.reads I d x v hd rx
  obtain ⟨bs, r2⟩ := Dp.reads I e y u he ry
  exact SeqAt.eq_plain r1 r2 sd se (by omega) ⟨.bl _, H, I, rfl, q⟩
theorem op_neP (hu : X.A.units + 64 < cLine) : OpR X (compareOp .NotEq) (rNeP X.K) := by
  intro pins s σ H x y v u Q I rx ry h
  obtain ⟨d, e, hd, he, sd, se, dp, q⟩ := h
  obtain ⟨as, r1⟩ := Dp.reads I d x v hd rx
  obtain ⟨bs, r2⟩ := Dp.reads I e y u he ry
  exact SeqAt.ne_plain r1 r2 sd se (by omega) ⟨.bl _, H, I, rfl, q⟩
theorem op_inP (hu : X.A.units + 64 < cLine) : OpR X (compareOp .In) (rInP X.K) := by
  intro pins s σ H x y v u Q I rx ry h
  obtain ⟨d, ds, hd, he, sd, se, dp, q⟩ := h
  obtain ⟨as, r1⟩ := Dp.reads I d x v hd rx
  have hz : X.A.units + 1 + min (PyData.depthAll ds) d.depth < cLine := by have := Nat.min_le_right (PyData.depthAll ds) d.depth; omega
  rcases he with he | he
  · obtain ⟨bs, r2⟩ := Dp.reads I _ y u he ry
    exact SeqAt.in_list_data r2 r1 se sd hz ⟨.bl _, H, I, rfl, q⟩
  · obtain ⟨bs, r2⟩ := Dp.reads I _ y u he ry
    exact SeqAt.in_tuple_data r2 r1 se sd hz ⟨.bl _, H, I, rfl, q⟩
theorem op_niP (hu : X.A.units + 64 < cLine) : OpR X (compareOp .NotIn) (rNiP X.K) := by
  intro pins s σ H x y v u Q I rx ry h
  obtain ⟨d, ds, hd, he, sd, se, dp, q⟩ := h
  obtain ⟨as, r1⟩ := Dp.reads I d x v hd rx
  have hz : X.A.units + 1 + min (PyData.depthAll ds) d.depth < cLine := by have := Nat.min_le_right (PyData.depthAll ds) d.depth; omega
  rcases he with he | he
  · obtain ⟨bs, r2⟩ := Dp.reads I _ y u he ry
    exact SeqAt.notIn_list_data r2 r1 se sd hz ⟨.bl _, H, I, rfl, q⟩
  · obtain ⟨bs, r2⟩ := Dp.reads I _ y u he ry
    exact SeqAt.notIn_tuple_data r2 r1 se sd hz ⟨.bl _, H, I, rfl, q⟩
theorem op_geP (hu : X.A.units + 64 < cLine) : OpR X (compareOp .GtE) (rGeP X.K) := by
  intro pins s σ H x y v u Q I rx ry h
  obtain ⟨d, e, hd, he, ha, hn, dp, q⟩ := h
  obtain ⟨as, r1⟩ := Dp.reads I d x v hd rx
  obtain ⟨bs, r2⟩ := Dp.reads I e y u he ry
  exact PySem.W.ge_data r1 r2 ha hn (by have := Nat.min_le_left d.depth e.depth; omega) ⟨.bl _, H, I, rfl, q⟩

theorem plain_mem' : ∀ {xs : List PyData} {x : PyData}, PyData.plainAll xs = true → x ∈ xs → x.plain = true
  | _ :: _, _, h, hx => by
    rw [PyData.plainAll, Bool.and_eq_true] at h
    rcases List.mem_cons.mp hx with rfl | hx
    · exact h.1
    · exact plain_mem' h.2 hx
/-! ### min, sorted of data -/
theorem eachOf {R : V → PyData → Prop} : ∀ {xs : List V} {us : List Value} {ds : List PyData}, Vals xs us → Paired R xs ds → EachIs (fun u d => ∃ x, RelV x u ∧ R x d) us ds
  | _, _, _, .nil, .nil => .nil
  | _, _, _, .cons r t, .cons q t' => .cons ⟨_, r, q⟩ (eachOf t t')
theorem eachBack {R : V → PyData → Prop} : ∀ {us : List Value} {ds : List PyData}, EachIs (fun u d => ∃ x, RelV x u ∧ R x d) us ds → ∃ xs, Vals xs us ∧ Paired R xs ds
  | _, _, .nil => ⟨[], .nil, .nil⟩
  | _, _, .cons ⟨x, r, q⟩ t => by
    obtain ⟨xs, h1, h2⟩ := eachBack t
    exact ⟨x :: xs, .cons r h1, .cons q h2⟩
theorem eachReads {pins : List (Addr × Obj)} {σ : L2.St} {H : Hp} {s : Shared} (I : Inv X pins σ H s) : ∀ {ds : List PyData} {vs : List V} {us : List Value}, DpAll X.K H vs ds → Vals vs us → EachIs (fun v d => ∃ as, Reads s.heap v d as) us ds
  | [], _, _, h, r => by
    cases h
    cases r
    exact .nil
  | d :: ds, _, _, h, r => by
    cases h with
    | cons h1 h2 =>
      cases r with
      | cons r1 r2 => exact .cons (Dp.reads I d _ _ h1 r1) (eachReads I h2 r2)
def SortOk (ds : List PyData) : Prop := Sortable ds ∨ ∃ r, ds = .tuple [] :: r ∧ ∀ d ∈ r, ∃ xs, d = .tuple xs
def rSortP (K : PySem.W.Frag) : List V → Hp → VK → Prop := fun vs H Q => ∃ (a : Addr) (xs : List V) (ds : List PyData) (R : V → PyData → Prop), vs = [V.ref a] ∧ SqL K H a xs ∧ DpAll K H xs ds ∧ Paired R xs ds ∧ AllAlike ds ∧ SortOk ds ∧ (∀ d ∈ ds, d.depth ≤ 60) ∧
  ∀ ys p, Paired R ys (ds.mergeSort (dataLe false id)) → H p = none → Q (.ref p) (upd H p (.lst ys))
theorem cr_sortP (hu : X.A.units + 80 < cLine) : CallR X (.builtin "sorted") (rSortP X.K) := by
  intro pins s σ H xs us Q I r h
  obtain ⟨a, xs, ds, R, rfl, hq, hd, hR, hal, hk, hdp, q⟩ := h
  obtain ⟨u, rfl, rx⟩ := vals1 r
  cases rx
  obtain ⟨its, r', pl, hz⟩ := I.list hq
  have e := eachOf r' hR
  have er := eachReads I hd r'
  have hlen : ds.length = its.length := by rw [e.length]
  have fin : ∀ out : List Value, out.length = ds.length → EachIs (fun u d => ∃ x, RelV x u ∧ R x d) out (ds.mergeSort (dataLe false id)) → EP X pins σ Q (.ref (s.heap.objs.size + 1)) { s with heap := PyProof.Rows.sortedAll s.heap its (List.toArray out) } := fun out ho eo => by
    obtain ⟨ys, v1, v2⟩ := eachBack eo
    obtain ⟨c, hc⟩ := PyProof.Rows.sortedAll_at s.heap its (List.toArray out)
    have hsz := r'.length
    refine ⟨.ref _, _, I.laid (t' := s.toks) (o := .lst ys) (fun b o => PyProof.Rows.sortedAll_old) (Nat.le_succ _) ⟨by rw [v1.length, ho, hlen, ← hsz]; exact hz, out, c, v1, hc⟩, rfl, q ys _ v2 (I.hok.fresh (Nat.le_succ _))⟩
  rcases hk with hk | ⟨r0, rfl, hr0⟩
  · exact PySem.W.sorted_data (enc := id) (bs := ds) pl.isList e er (by rw [List.map_id]; exact hal) (by rw [List.map_id]; exact hk) (by rw [hlen, ← r'.length]; exact hz) (fun b hb => by have := hdp b hb; show X.A.units + 2 + b.depth < cLine; omega) fin
  · exact KS.sorted_lots pl.isList e er hal hr0 (by rw [hlen, ← r'.length]; exact hz) (fun b hb => by have := hdp b hb; omega) fin
def rMinP (K : PySem.W.Frag) : List V → Hp → VK → Prop := fun vs H Q => ∃ (a : Addr) (xs : List V) (d : PyData) (ds : List PyData), vs = [V.ref a] ∧ SqL K H a xs ∧ DpAll K H xs (d :: ds) ∧ AlikeAll (d :: ds) ∧ PyData.depthAll (d :: ds) ≤ 60 ∧ (PyData.plain (minD d ds) = true) ∧ (PyData.plainAll (d :: ds) = true) ∧
  ∀ (i : Nat) x, xs[i]? = some x → (d :: ds)[i]? = some (minD d ds) → Q x H
theorem cr_minP (hc : X.calm = true) (hu : X.A.units + 80 < cLine) : CallR X (.builtin "min") (rMinP X.K) := by
  intro pins s σ H xs us Q I r h
  obtain ⟨a, xs, d, ds, rfl, hq, hd, hal, hdp, hpl, hpa, q⟩ := h
  obtain ⟨u, rfl, rx⟩ := vals1 r
  cases rx
  obtain ⟨its, r', pl, hz⟩ := I.list hq
  obtain ⟨as, hr⟩ := Dp.readsAll I (d :: ds) _ its hd r'
  refine PySem.W.min_list_data (vs := its.toArray) (I.ok.hd hc) pl.isList hr hal (by omega) fun i v h' tk bs hv hrd hkeep => ?_
  have hv' : its[i]? = some v := by simpa using hv
  obtain ⟨x, hx, rx⟩ : ∃ x, xs[i]? = some x ∧ RelV x v := by
    cases e : xs[i]? with
    | none => rw [Vals.none_of r' e] at hv'; cases hv'
    | some x =>
      obtain ⟨u, h1, h2⟩ := r'.get e
      rw [hv'] at h1
      cases h1
      exact ⟨x, rfl, h2⟩
  have hi : (d :: ds)[i]? = some (minD d ds) := by
    obtain ⟨bs2, r2, h1, h2, h3⟩ := PySem.W.readsAll_at hr i v hv'
    have := SeqAt.plain_unique _ _ v _ _ (by
      have hm := h2
      exact plain_mem' hpa hm) (PySem.W.reads_keeps hkeep r2) hrd
    rw [← this, List.getD_eq_getElem?_getD, List.getElem?_eq_getElem h1]
    rfl
  exact ⟨x, H, I.kept (t' := tk) hkeep, rx, q i x hx hi⟩
end
end KO
set_option Elab.async false
set_option linter.all false
set_option maxRecDepth 100000
set_option maxHeartbeats 4000000
/-! set(xs) of a list of ints. -/
namespace KO
open PySem PySem.Spec PyProof.Rows L2
/-- the empty set's object -/
def sNew (w : World) : Obj := { cls := .type "set", dict := none, data := .set #[] 0 (.fresh 0 0 (!w.params.followText "set-order")) }
section
variable {P : Program} {w : World} {A : Around} {E : Value → Shared → Prop} {s : Shared}
theorem set_of_list {l : Addr} {items : Array Value} (ns : List Int) {Q : Value → Shared → Prop} (hh : A.handled = none) (hl : s.heap.IsList l items) (hit : IntsAre items.toList ns) (hb : ns.length + 1 < scanBound)
    (h : ∀ (h' : Heap) (tk c : Nat), SetR w h' s.heap.objs.size (fun j => decide (j ∈ ns)) c → c ≤ ns.length → (∀ b o, s.heap.get? b = some o → h'.get? b = some o) → Q (.ref s.heap.objs.size) { s with heap := h', toks := tk }) :
    wpAny (model P w) A (call (.type "set") [.ref l]) Q E s := by
  have hisz : items.size = ns.length := by rw [← Array.length_toList]; exact IntsAre.length hit
  obtain ⟨c, tl, hmro⟩ := F.called_set.mro
  have hmade := F.called_set.made
  have hsub := F.called_set.sub
  have h1 := F.called_set.notType
  have h2 := F.called_set.canCreate
  have hct := F.typeCall_set_1 (.ref l)
  refine wpAny_call (codeAny_of_tree ?_)
  show wpAny _ _ (callAny (.type "set") _) _ _ _
  refine wpAny_pure ⟨Code.quiet_builtin _ (by decide +kernel), codeAny_builtin F.entry_type_call ?_⟩
  rw [Around.under_plain (weight_type_call_type "set" [.ref l] []) rfl]
  repeat (any_goals (first | assumption | wp_step))
  refine codeAny_mono (code_set_led1 (.ref l) (E := E) (Q₁ := fun ob s₁ => ob = .ref s.heap.objs.size ∧ s₁ = { s with heap := s.heap.push (sNew w) }) ⟨rfl, rfl⟩) fun r s₁ hr => ?_
  cases r with
  | error e => exact hr
  | ok fl =>
    cases fl with
    | ret ob =>
      obtain ⟨rfl, rfl⟩ := hr
      have hS : (s.heap.push (sNew w)).get? s.heap.objs.size = some (sNew w) := Heap.get?_push_size _ rfl
      have hT : Shared.TypeIs { s with heap := s.heap.push (sNew w) } (.ref s.heap.objs.size) "set" := ⟨_, hS, rfl⟩
      have hli := F.called_set.init.lookup
      have hbi := F.called_set.init.bind (.ref s.heap.objs.size)
      repeat (any_goals (first | assumption | wp_step))
      refine codeAny_mono (codeAny_call_builtin (R := wants (fun r s₂ => r = .none ∧ ∃ h' tk c, s₂ = { s with heap := h', toks := tk } ∧ SetR w h' s.heap.objs.size (fun j => decide (j ∈ ns)) c ∧ c ≤ ns.length ∧
          (∀ b o, s.heap.get? b = some o → h'.get? b = some o)) E) F.called_set.init.plain F.entry_set_init (check_set_init_1 hT ?_)) fun r₂ s₂ hr₂ => ?_
      · obtain ⟨⟨ocls, odict, odata, oslots⟩, hol, hcl, nl, hdl⟩ := hl
        simp only at hcl hdl
        subst hcl hdl
        have hol' : (s.heap.push (sNew w)).get? l = some { cls := .type "list", dict := odict, data := .seq items nl, slots := oslots } := Heap.get?_push_of_some _ hol
        have hsls := F.sub_list_set
        have hslf := F.sub_list_frozenset
        have hne : (Value.type "list" == Value.type "dict") = false := by decide
        have hl1 : (s.heap.push (sNew w)).IsList l items := ⟨_, hol', rfl, nl, rfl⟩
        unfold Builtin.«set.__init__» noKeywords Builtin.Frozenset.updateFrom
        generalize hPI : pyIter = PI
        wp_walk
        subst hPI
        refine wpAny_pyIter_list hl1 ?_
        refine wpAny_bind (wpAny_runValue ?_)
        have hlS : l < s.heap.objs.size := Heap.lt_size hol
        have hh3 : A.in1.in1.in1.handled = none := by simp [hh]
        have hpz : (s.heap.push (sNew w)).objs.size = s.heap.objs.size + 1 := Heap.size_push ..
        have hneI : l ≠ (s.heap.push (sNew w)).objs.size := by rw [hpz]; exact Nat.ne_of_lt (Nat.lt_succ_of_lt hlS)
        have hSf : s.heap.objs.size ∉ [(s.heap.push (sNew w)).objs.size, l] := by
          rw [hpz]; simp only [List.mem_cons, List.not_mem_nil, or_false, not_or]
          exact ⟨Nat.ne_of_lt (Nat.lt_succ_self _), Nat.ne_of_gt hlS⟩
        have hval : ∀ (i : Nat) (v : Value), items[i]? = some v → ∃ k t, ns[i]? = some k ∧ v = .int k t := fun i v hv => by
          have hi : i < ns.length := by rw [← hisz]; exact (Array.getElem?_eq_some_iff.mp hv).1
          obtain ⟨t, e⟩ := PyProof.Rows.IntsAre.int_at hit i v (by rw [Array.getElem?_toList]; exact hv)
          exact ⟨ns[i], t, List.getElem?_eq_getElem hi, by rw [e, List.getD_eq_getElem?_getD, List.getElem?_eq_getElem hi] <;> rfl⟩
        refine set_update_ints ((Walks.list hh3 _ l hneI items).toS) s.heap.objs.size
          hSf ns hisz hb hval (items.size - 0) 0 _ (by omega) (Nat.zero_le _)
          ⟨⟨_, Heap.get?_push_size _ rfl, rfl, rfl⟩, (hl1.push _)⟩ ?first ?last
        case first =>
          exact ⟨0, Nat.le_refl 0, setR_new_at (Heap.get?_push_of_some _ hS)⟩
        case last =>
          intro s' c' hm hc' hS'
          obtain ⟨h', g2, d', tk', os'⟩ := s'
          obtain rfl : g2 = s.gens := hm.gens
          obtain rfl : d' = s.drawn := hm.drawn
          obtain rfl : os' = s.os := hm.os
          show wpAny _ _ _ _ _ _
          refine wpAny_pure ?_
          show wpAny _ _ (ret Value.none) _ _ _
          rw [hisz] at hc'
          refine wpAny_pure ⟨rfl, h', tk', c', rfl, hS', hc', fun b o e => ?_⟩
          have hb0 : b < s.heap.objs.size := Heap.lt_size e
          exact hm.heap b o (by rw [hpz]; simp only [List.mem_cons, List.not_mem_nil, or_false, not_or]; exact ⟨Nat.ne_of_lt hb0, Nat.ne_of_lt (Nat.lt_succ_of_lt hb0)⟩) (Heap.get?_push_of_some _ (Heap.get?_push_of_some _ e))
      · cases r₂ with
        | error e => exact hr₂
        | ok fl₂ =>
          cases fl₂ with
          | ret r =>
            obtain ⟨rfl, h', tk, c', rfl, hS', hc', hk'⟩ := hr₂
            repeat (any_goals (first | assumption | wp_step))
            exact h _ _ _ hS' hc' hk'
          | _ => exact hr₂.elim
    | _ => exact hr.elim
end
section
variable {X : Cx}
def rSetI (K : PySem.W.Frag) (w : World) : List V → Hp → VK → Prop := fun xs H Q => ∃ (l : Addr) (ns : List Int), xs = [V.ref l] ∧ SqL K H l (ns.map V.int) ∧ ns.length < 64 ∧
  ∀ p c, H p = none → c ≤ ns.length → Q (.ref p) (upd H p (SetO w p (fun j => decide (j ∈ ns)) c))
theorem cr_setI (hc : X.calm = true) : CallR X (.type "set") (rSetI X.K X.w) := by
  intro pins s σ H xs us Q I r h
  obtain ⟨l, ns, rfl, hq, h64, q⟩ := h
  obtain ⟨u, rfl, rx⟩ := vals1 r
  cases rx
  obtain ⟨its, r', pl, hz⟩ := I.list hq
  refine set_of_list ns (I.ok.hd hc) pl.isList (by simpa using Vals.ints r') (by show _ < 4096; omega) fun h' tk c R hcn hk => ?_
  exact ⟨.ref _, _, I.laid (t' := tk) hk (Nat.le_refl _) (setO_new R), rfl, q _ c (I.hok.fresh (Nat.le_refl _)) hcn⟩
end
end KO
set_option Elab.async false
set_option linter.all false
set_option maxRecDepth 100000
set_option maxHeartbeats 4000000
/-! Data in the heap, and what a reading evaluates to. -/
namespace KV
open PySem PySem.Spec PyProof.Rows L2 GxR

mutual
/-- v is the datum d (a dict of the one item None: a stands for the bare reference to the object at a) -/
inductive Rp (H : Hp) : V → PyData → Prop
  | non : Rp H .non .none
  | bl (b : Bool) : Rp H (.bl b) (.bool b)
  | int (i : Int) : Rp H (.int i) (.int i)
  | str (x : Str) : Rp H (.str x) (.str x)
  | raw (a : Addr) : Rp H (.ref a) (.dict [(.none, .int (a : Nat))])
  | lst {a : Addr} {xs : List V} {ds : List PyData} : H a = some (.lst xs) → Rps H xs ds → Rp H (.ref a) (.list ds)
  | tup {a : Addr} {xs : List V} {ds : List PyData} : H a = some (.tup xs) → Rps H xs ds → Rp H (.ref a) (.tuple ds)
inductive Rps (H : Hp) : List V → List PyData → Prop
  | nil : Rps H [] []
  | cons {v : V} {vs : List V} {d : PyData} {ds : List PyData} : Rp H v d → Rps H vs ds → Rps H (v :: vs) (d :: ds)
end
section
variable {H H' : Hp}
theorem Rps.len {vs : List V} {ds : List PyData} (h : Rps H vs ds) : vs.length = ds.length := by
  induction ds generalizing vs with
  | nil => cases h; rfl
  | cons d ds ih => cases h with | cons h1 h2 => simp [ih h2]
theorem Rps.get {vs : List V} {ds : List PyData} (h : Rps H vs ds) {i : Nat} {d : PyData} (e : ds[i]? = some d) : ∃ v, vs[i]? = some v ∧ Rp H v d := by
  induction ds generalizing vs i with
  | nil => simp at e
  | cons d' ds ih =>
    cases h with
    | cons h1 h2 =>
      cases i with
      | zero =>
        have e' : d' = d := by simpa using e
        subst e'
        exact ⟨_, rfl, h1⟩
      | succ i => exact ih h2 (by simpa using e)
theorem Rps.at {vs : List V} {ds : List PyData} (h : Rps H vs ds) {i : Nat} {v : V} (e : vs[i]? = some v) : ∃ d, ds[i]? = some d ∧ Rp H v d := by
  induction ds generalizing vs i with
  | nil => cases h; simp at e
  | cons d' ds ih =>
    cases h with
    | cons h1 h2 =>
      cases i with
      | zero =>
        have e' := Option.some.inj (show some _ = some v from e)
        subst e'
        exact ⟨_, rfl, h1⟩
      | succ i => exact ih h2 (by simpa using e)
theorem Rps.app {vs ws : List V} {ds es : List PyData} (h : Rps H vs ds) (h' : Rps H ws es) : Rps H (vs ++ ws) (ds ++ es) := by
  induction ds generalizing vs with
  | nil => cases h; exact h'
  | cons d ds ih => cases h with | cons h1 h2 => exact .cons h1 (ih h2)
theorem Rps.take {vs : List V} {ds : List PyData} (h : Rps H vs ds) (n : Nat) : Rps H (vs.take n) (ds.take n) := by
  induction ds generalizing vs n with
  | nil => cases h; simp; exact .nil
  | cons d ds ih =>
    cases h with
    | cons h1 h2 =>
      cases n with
      | zero => exact .nil
      | succ n => exact .cons h1 (ih h2 n)
theorem Rps.drop {vs : List V} {ds : List PyData} (h : Rps H vs ds) (n : Nat) : Rps H (vs.drop n) (ds.drop n) := by
  induction ds generalizing vs n with
  | nil => cases h; simp; exact .nil
  | cons d ds ih =>
    cases h with
    | cons h1 h2 =>
      cases n with
      | zero => exact .cons h1 h2
      | succ n => exact ih h2 n
theorem Rps.one {v : V} {d : PyData} (h : Rp H v d) : Rps H [v] [d] := .cons h .nil
theorem Rps.rev {vs : List V} {ds : List PyData} (h : Rps H vs ds) : Rps H vs.reverse ds.reverse := by
  induction ds generalizing vs with
  | nil => cases h; exact .nil
  | cons d ds ih =>
    cases h with
    | cons h1 h2 =>
      rw [List.reverse_cons, List.reverse_cons]
      exact (ih h2).app (.one h1)
theorem Rps.set {vs : List V} {ds : List PyData} (h : Rps H vs ds) {v : V} {d : PyData} (r : Rp H v d) (i : Nat) : Rps H (vs.set i v) (ds.set i d) := by
  induction ds generalizing vs i with
  | nil => cases h; exact .nil
  | cons d' ds ih =>
    cases h with
    | cons h1 h2 =>
      cases i with
      | zero => exact .cons r h2
      | succ i => exact .cons h1 (ih h2 i)
theorem Rps.rep {vs : List V} {ds : List PyData} (h : Rps H vs ds) : ∀ n, Rps H (List.replicate n vs).flatten (List.replicate n ds).flatten
  | 0 => .nil
  | n + 1 => by
    rw [List.replicate_succ, List.replicate_succ, List.flatten_cons, List.flatten_cons]
    exact h.app (Rps.rep h n)
theorem Rps.ints (H : Hp) : ∀ ns : List Int, Rps H (ns.map V.int) (ns.map PyData.int)
  | [] => .nil
  | n :: r => .cons (.int n) (Rps.ints H r)
theorem Rps.of_ints {vs : List V} : ∀ {ns : List Int}, Rps H vs (ns.map PyData.int) → vs = ns.map V.int := by
  intro ns
  induction ns generalizing vs with
  | nil => intro h; cases h; rfl
  | cons n r ih =>
    intro h
    cases h with
    | cons h1 h2 =>
      cases h1
      rw [List.map_cons, ih h2]
end

/-! ### heaps that grow -/
/-- all that was tracked is as it was; a table may have grown -/
def Gr (H H' : Hp) : Prop := ∀ b o, H b = some o → H' b = some o ∨ ∃ ps ps' : Array Value, o = .tbl ps ∧ H' b = some (.tbl ps') ∧ (TriplesOk ps.toList → TriplesOk ps'.toList)
theorem Gr.refl (H : Hp) : Gr H H := fun _ _ h => .inl h
theorem Gr.trans {H H1 H2 : Hp} (a : Gr H H1) (b : Gr H1 H2) : Gr H H2 := fun c o h => by
  rcases a c o h with h1 | ⟨ps, ps', rfl, h1, t1⟩
  · exact b c o h1
  · rcases b c _ h1 with h2 | ⟨qs, qs', e, h2, t2⟩
    · exact .inr ⟨ps, ps', rfl, h2, t1⟩
    · cases e
      exact .inr ⟨ps, qs', rfl, h2, fun z => t2 (t1 z)⟩
theorem Gr.keep {H H' : Hp} (g : Gr H H') {b : Addr} {o : HO} (h : H b = some o) (n : ∀ ps, o ≠ .tbl ps) : H' b = some o := by
  rcases g b o h with h1 | ⟨ps, _, e, _⟩
  · exact h1
  · exact absurd e (n ps)
theorem Gr.lst {H H' : Hp} (g : Gr H H') {b : Addr} {xs : List V} (h : H b = some (.lst xs)) : H' b = some (.lst xs) := g.keep h fun _ q => by cases q
theorem Gr.tup {H H' : Hp} (g : Gr H H') {b : Addr} {xs : List V} (h : H b = some (.tup xs)) : H' b = some (.tup xs) := g.keep h fun _ q => by cases q
theorem Gr.some {H H' : Hp} (g : Gr H H') {b : Addr} (h : H b ≠ none) : H' b ≠ none := fun z => by
  cases e : H b with
  | none => exact h e
  | some o =>
    rcases g b o e with h1 | ⟨_, _, _, h1, _⟩ <;> rw [z] at h1 <;> cases h1
theorem Gr.back {H H' : Hp} (g : Gr H H') {b : Addr} (h : H' b = none) : H b = none := by
  cases e : H b with
  | none => rfl
  | some o => exact absurd h (g.some (by rw [e]; simp))
theorem Gr.new {H : Hp} {p : Addr} {o : HO} (h : H p = none) : Gr H (upd H p o) := fun b u e => by
  rw [upd_ne (ne_of_none e h)]
  exact .inl e
theorem Gr.tabbed {H H' : Hp} {P : Addr} (t : TabG H P) (h : Tabbed P H H') : Gr H H' := fun b o e => by
  by_cases q : b = P
  · obtain ⟨ps, h1, h2⟩ := t
    obtain ⟨⟨ps', h3, h4⟩, _⟩ := h
    rw [q, h1] at e
    cases e
    exact .inr ⟨ps, ps', rfl, by rw [q]; exact h3, fun _ => h4⟩
  · exact .inl (by rw [h.2 b q]; exact e)
theorem Gr.tab {H H' : Hp} (g : Gr H H') {P : Addr} (t : TabG H P) : TabG H' P := by
  obtain ⟨ps, h1, h2⟩ := t
  rcases g P _ h1 with h | ⟨_, ps', e, h, z⟩
  · exact ⟨ps, h, h2⟩
  · cases e
    exact ⟨ps', h, z h2⟩
def Tbs (Ts : List Addr) (H : Hp) : Prop := ∀ P ∈ Ts, TabG H P
theorem Gr.tbs {H H' : Hp} (g : Gr H H') {Ts : List Addr} (t : Tbs Ts H) : Tbs Ts H' := fun P hP => g.tab (t P hP)

mutual
theorem Rp.mono {H H' : Hp} (g : Gr H H') {v : V} : ∀ {d : PyData}, Rp H v d → Rp H' v d
  | _, .non => .non
  | _, .bl b => .bl b
  | _, .int i => .int i
  | _, .str x => .str x
  | _, .raw a => .raw a
  | _, .lst h r => .lst (g.lst h) (r.mono g)
  | _, .tup h r => .tup (g.tup h) (r.mono g)
theorem Rps.mono {H H' : Hp} (g : Gr H H') {vs : List V} : ∀ {ds : List PyData}, Rps H vs ds → Rps H' vs ds
  | _, .nil => .nil
  | _, .cons h r => .cons (h.mono g) (r.mono g)
end
theorem plain_cons {d : PyData} {ds : List PyData} (h : PyData.plainAll (d :: ds) = true) : d.plain = true ∧ PyData.plainAll ds = true := by
  rw [PyData.plainAll, Bool.and_eq_true] at h
  exact h
mutual
theorem Rp.dp {K : PySem.W.Frag} {H : Hp} {v : V} : ∀ {d : PyData}, Rp H v d → d.plain = true → Dp K H v d
  | _, .non, _ => .non
  | _, .bl b, _ => .bl b
  | _, .int i, _ => .int i
  | _, .str x, _ => .str x
  | _, .raw _, q => nomatch q
  | _, .lst h r, q => .lst (.inl (.inl h)) (r.dp q)
  | _, .tup h r, q => .tup (.inl (.inl h)) (r.dp q)
theorem Rps.dp {K : PySem.W.Frag} {H : Hp} {vs : List V} : ∀ {ds : List PyData}, Rps H vs ds → PyData.plainAll ds = true → DpAll K H vs ds
  | _, .nil, _ => .nil
  | _, .cons h r, q => .cons (h.dp (plain_cons q).1) (r.dp (plain_cons q).2)
end
theorem Rps.paired {H : Hp} : ∀ {vs : List V} {ds : List PyData}, Rps H vs ds → Paired (Rp H) vs ds
  | _, _, .nil => .nil
  | _, _, .cons h r => .cons h r.paired
theorem Rps.ofPaired {H : Hp} : ∀ {vs : List V} {ds : List PyData}, Paired (Rp H) vs ds → Rps H vs ds
  | _, _, .nil => .nil
  | _, _, .cons h r => .cons h (Rps.ofPaired r)

/-- what is being written: where; what of it stands as it is -/
structure Hs where
  ad : List Addr
  fz : Hp
def Hs.add (S : Hs) (p : Addr) : Hs := ⟨p :: S.ad, S.fz⟩
def Hs.nul : Hs := ⟨[], fun _ => none⟩
/-- what is known: code tables; data of the items of lists that are being written -/
structure Ks where
  ts : List Addr
  ow : List (List V × List PyData)
structure Kn (T : Ks) (H : Hp) : Prop where
  ts : Tbs T.ts H
  ow : ∀ p ∈ T.ow, Rps H p.1 p.2
theorem Kn.mono {T : Ks} {H H' : Hp} (k : Kn T H) (g : Gr H H') : Kn T H' := ⟨g.tbs k.ts, fun p hp => (k.ow p hp).mono g⟩

/-! ### what is written aside -/
/-- H without the objects that are being written -/
def hid (S : Hs) (H : Hp) : Hp := fun b => if b ∈ S.ad then none else H b
theorem hid_in {S : Hs} {H : Hp} {b : Addr} (h : b ∈ S.ad) : hid S H b = none := if_pos h
theorem hid_out {S : Hs} {H : Hp} {b : Addr} (h : b ∉ S.ad) : hid S H b = H b := if_neg h
theorem hid_le {S : Hs} {H : Hp} : Gr (hid S H) H := fun b o e => by
  by_cases h : b ∈ S.ad
  · rw [hid_in h] at e; cases e
  · rw [hid_out h] at e; exact .inl e
theorem hid_some {S : Hs} {H : Hp} {b : Addr} {o : HO} (e : hid S H b = some o) : b ∉ S.ad ∧ H b = some o := by
  by_cases h : b ∈ S.ad
  · rw [hid_in h] at e; cases e
  · rw [hid_out h] at e; exact ⟨h, e⟩
theorem Gr.hid {H H' : Hp} (g : Gr H H') (S : Hs) : Gr (hid S H) (hid S H') := fun b o e => by
  obtain ⟨h, e⟩ := hid_some e
  rcases g b o e with q | ⟨ps, ps', q1, q2, q3⟩
  · exact .inl (by rw [hid_out h]; exact q)
  · exact .inr ⟨ps, ps', q1, by rw [hid_out h]; exact q2, q3⟩
theorem hid_sub {S S' : Hs} (h : ∀ b ∈ S.ad, b ∈ S'.ad) {H : Hp} : Gr (hid S' H) (hid S H) := fun b o e => by
  obtain ⟨q, e⟩ := hid_some e
  exact .inl (by rw [hid_out fun z => q (h b z)]; exact e)
theorem hid_upd {S : Hs} {H : Hp} {p : Addr} {o : HO} (h : p ∈ S.ad) : hid S (upd H p o) = hid S H := by
  funext b
  by_cases q : b ∈ S.ad
  · rw [hid_in q, hid_in q]
  · rw [hid_out q, hid_out q, upd_ne fun z => q (by rw [z]; exact h)]
theorem hid_new {S : Hs} {H : Hp} {p : Addr} {o : HO} (h : p ∉ S.ad) : hid S (upd H p o) p = some o := by rw [hid_out h, upd_same]
theorem hid_nil {H : Hp} {f : Hp} : hid ⟨[], f⟩ H = H := by funext b; exact hid_out (by simp)

/-- H goes on from the known part B, but for the objects S that are being written -/
structure Ext (S : Hs) (B H : Hp) : Prop where
  gr : Gr B (hid S H)
  fr : Gr S.fz H
  trk : ∀ b ∈ S.ad, H b ≠ none
section
variable {S : Hs} {B B' H H' : Hp}
theorem Ext.go (e : Ext S B H) (g : Gr H H') : Ext S B H' := ⟨e.gr.trans (g.hid S), e.fr.trans g, fun b hb => g.some (e.trk b hb)⟩
theorem Ext.down (e : Ext S B' H) (g : Gr B B') : Ext S B H := ⟨g.trans e.gr, e.fr, e.trk⟩
theorem Ext.self (h : ∀ b ∈ S.ad, H b ≠ none) (f : Gr S.fz H) : Ext S (hid S H) H := ⟨Gr.refl _, f, h⟩
theorem Ext.here (e : Ext S B H) : Ext S (hid S H) H := .self e.trk e.fr
theorem Ext.fresh (e : Ext S B H) {p : Addr} (h : H p = none) : p ∉ S.ad := fun z => e.trk p z h
theorem Ext.new (e : Ext S B H) {p : Addr} {o : HO} (h : H p = none) : Ext S B (upd H p o) := e.go (.new h)
theorem Ext.put (e : Ext S B H) {p : Addr} {o : HO} (h : p ∈ S.ad) (hz : S.fz p = none) : Ext S B (upd H p o) := ⟨by rw [hid_upd h]; exact e.gr, fun b u hb => by rw [upd_ne (ne_of_none hb hz)]; exact e.fr b u hb, fun b hb => by
  by_cases q : b = p
  · rw [q, upd_same]; simp
  · rw [upd_ne q]; exact e.trk b hb⟩
/-- a new object that is to be written -/
theorem Ext.take (e : Ext S B H) {p : Addr} {o : HO} (h : H p = none) : Ext (S.add p) B (upd H p o) := by
  have hB : B p = none := by
    cases q : B p with
    | none => rfl
    | some u =>
      have := e.gr.some (b := p) (by rw [q]; simp)
      rw [hid_out (e.fresh h)] at this
      exact absurd h this
  refine ⟨fun b u hb => ?_, e.fr.trans (.new h), fun b hb => ?_⟩
  · have hbp : b ≠ p := ne_of_none hb hB
    rcases e.gr b u hb with q | ⟨ps, ps', q1, q2, q3⟩
    · obtain ⟨q4, q5⟩ := hid_some q
      exact .inl (by rw [hid_out (fun z => (List.mem_cons.mp z).elim hbp q4), upd_ne hbp]; exact q5)
    · obtain ⟨q4, q5⟩ := hid_some q2
      exact .inr ⟨ps, ps', q1, by rw [hid_out (fun z => (List.mem_cons.mp z).elim hbp q4), upd_ne hbp]; exact q5, q3⟩
  · rcases List.mem_cons.mp hb with q | q
    · rw [q, upd_same]; simp
    · by_cases z : b = p
      · rw [z, upd_same]; simp
      · rw [upd_ne z]; exact e.trk b q
/-- it is written no more -/
theorem Ext.drop {p : Addr} (e : Ext (S.add p) B H) : Ext S B H := ⟨e.gr.trans (hid_sub fun b hb => List.mem_cons_of_mem _ hb), e.fr, fun b hb => e.trk b (List.mem_cons_of_mem _ hb)⟩
theorem Ext.tbs (e : Ext S B H) {Ts : List Addr} (t : Tbs Ts B) : Tbs Ts (KV.hid S H) := e.gr.tbs t
end

/-! ### evaluation -/
def Sl (σ : L2.St) (i : Nat) (B : Hp) (d : PyData) : Prop := ∃ v, σ[i]? = some (some v) ∧ Rp B v d
theorem Sl.mono {σ : L2.St} {i : Nat} {B B' : Hp} {d : PyData} (h : Sl σ i B d) (g : Gr B B') : Sl σ i B' d := by
  obtain ⟨v, e, r⟩ := h
  exact ⟨v, e, r.mono g⟩
def Ev (S : Hs) (te : TE) (σ : L2.St) (B : Hp) (d : PyData) : Prop := ∀ H1, Ext S B H1 → ∀ Q : VK, (∀ v H2, Gr H1 H2 → Rp (hid S H2) v d → Q v H2) → te σ H1 Q
def EvA (S : Hs) (ta : TA) (σ : L2.St) (B : Hp) (ds : List PyData) : Prop := ∀ H1, Ext S B H1 → ∀ Q : List V → Hp → Prop, (∀ vs H2, Gr H1 H2 → Rps (hid S H2) vs ds → Q vs H2) → ta σ H1 Q
def EvT (S : Hs) (tt : TT) (σ : L2.St) (B : Hp) (b : Bool) : Prop := ∀ H1, Ext S B H1 → ∀ Q : Bool → Hp → Prop, (∀ H2, Gr H1 H2 → Q b H2) → tt σ H1 Q
def EvO (S : Hs) (to : TO) (σ : L2.St) (B : Hp) (o : Option Int) : Prop := ∀ H1, Ext S B H1 → ∀ Q : Option Int → Hp → Prop, (∀ H2, Gr H1 H2 → Q o H2) → to σ H1 Q
/-- an operation on values -/
def RV (S : Hs) (r : R2) (x y : PyData) (B : Hp) (z : PyData) : Prop := ∀ v u H1, Ext S B H1 → Rp (hid S H1) v x → Rp (hid S H1) u y → ∀ Q : VK, (∀ w H2, Gr H1 H2 → Rp (hid S H2) w z → Q w H2) → r v u H1 Q
def RU (S : Hs) (r : V → Hp → VK → Prop) (x : PyData) (B : Hp) (z : PyData) : Prop := ∀ v H1, Ext S B H1 → Rp (hid S H1) v x → ∀ Q : VK, (∀ w H2, Gr H1 H2 → Rp (hid S H2) w z → Q w H2) → r v H1 Q
def RC (S : Hs) (r : List V → Hp → VK → Prop) (xs : List PyData) (B : Hp) (z : PyData) : Prop := ∀ vs H1, Ext S B H1 → Rps (hid S H1) vs xs → ∀ Q : VK, (∀ w H2, Gr H1 H2 → Rp (hid S H2) w z → Q w H2) → r vs H1 Q
section
variable {S : Hs} {K : PySem.W.Frag} {σ : L2.St} {B B' : Hp} {ta tb tc te : TE} {t u : TT} {x y z d : PyData} {r : R2}
theorem Ev.mono (h : Ev S te σ B d) (g : Gr B B') : Ev S te σ B' d := fun H1 e Q q => h H1 (e.down g) Q q
theorem EvA.mono {ta : TA} {ds : List PyData} (h : EvA S ta σ B ds) (g : Gr B B') : EvA S ta σ B' ds := fun H1 e Q q => h H1 (e.down g) Q q
theorem EvT.mono {b : Bool} (h : EvT S t σ B b) (g : Gr B B') : EvT S t σ B' b := fun H1 e Q q => h H1 (e.down g) Q q
theorem ev_is (h : Ev S te σ B x) (e : x = y) : Ev S te σ B y := e ▸ h
theorem et_is {a b : Bool} (h : EvT S t σ B a) (e : a = b) : EvT S t σ B b := e ▸ h
theorem ev_var {i : Nat} (h : Sl σ i B d) : Ev S (tVar i) σ B d := fun H1 e Q q => by
  obtain ⟨v, e1, r⟩ := h
  exact ⟨v, e1, q v H1 (Gr.refl _) (r.mono e.gr)⟩
theorem ev_int {i : Int} : Ev S (tC (.int i)) σ B (.int i) := fun H1 _ Q q => q _ H1 (Gr.refl _) (.int i)
theorem ev_bl {i : Bool} : Ev S (tC (.bl i)) σ B (.bool i) := fun H1 _ Q q => q _ H1 (Gr.refl _) (.bl i)
theorem ev_non : Ev S (tC .non) σ B .none := fun H1 _ Q q => q _ H1 (Gr.refl _) .non
theorem ev_op (ha : Ev S ta σ B x) (hb : Ev S tb σ B y) (hr : RV S r x y B z) : Ev S (tOp r ta tb) σ B z := fun H1 e Q q =>
  ha H1 e _ fun v H2 g2 r2 => hb H2 (e.go g2) _ fun u H3 g3 r3 => hr v u H3 ((e.go g2).go g3) (r2.mono (g3.hid S)) r3 Q fun w H4 g4 r4 => q w H4 ((g2.trans g3).trans g4) r4
theorem ev_un {r : V → Hp → VK → Prop} (ha : Ev S ta σ B x) (hr : RU S r x B z) : Ev S (tUn r ta) σ B z := fun H1 e Q q =>
  ha H1 e _ fun v H2 g2 r2 => hr v H2 (e.go g2) r2 Q fun w H4 g4 r4 => q w H4 (g2.trans g4) r4
theorem rv_I0i {g : Int → Int → Int} {i j : Int} : RV S (rI0 fun i j => .int (g i j)) (.int i) (.int j) B (.int (g i j)) := fun v u H1 _ r1 r2 Q q => by
  cases r1; cases r2
  exact ⟨i, j, rfl, rfl, q _ H1 (Gr.refl _) (.int _)⟩
theorem rv_I0b {g : Int → Int → Bool} {i j : Int} : RV S (rI0 fun i j => .bl (g i j)) (.int i) (.int j) B (.bool (g i j)) := fun v u H1 _ r1 r2 Q q => by
  cases r1; cases r2
  exact ⟨i, j, rfl, rfl, q _ H1 (Gr.refl _) (.bl _)⟩
theorem rv_Ii {C : Int → Int → Prop} {g : Int → Int → Int} {i j : Int} (hc : C i j) : RV S (rI C fun i j => .int (g i j)) (.int i) (.int j) B (.int (g i j)) := fun v u H1 _ r1 r2 Q q => by
  cases r1; cases r2
  exact ⟨i, j, rfl, rfl, hc, q _ H1 (Gr.refl _) (.int _)⟩
theorem rv_orL {r' : R2} (h : RV S r x y B z) : RV S (fun a b H Q => r a b H Q ∨ r' a b H Q) x y B z := fun v u H1 e r1 r2 Q q => .inl (h v u H1 e r1 r2 Q q)
theorem rv_orR {r' : R2} (h : RV S r' x y B z) : RV S (fun a b H Q => r a b H Q ∨ r' a b H Q) x y B z := fun v u H1 e r1 r2 Q q => .inr (h v u H1 e r1 r2 Q q)
/-- an item -/
theorem rv_ixT {ds : List PyData} {i : Int} (h : atI ds i = some z) : RV S (rIx K) (.tuple ds) (.int i) B z := fun v u H1 _ r1 r2 Q q => by
  cases r2
  cases r1 with
  | tup ha rs =>
    obtain ⟨j, h1, h2, h3, h4, h5⟩ := atI_get h
    obtain ⟨w, e, rw'⟩ := rs.get h2
    have hl := rs.len
    refine .inr (.inl ⟨_, _, i, w, rfl, rfl, .inl (.inl (hid_some ha).2), ?_, q w H1 (Gr.refl _) rw'⟩)
    unfold atI at h ⊢
    rw [hl]
    cases e2 : ixN ds.length i with
    | none => rw [e2] at h; cases h
    | some k =>
      have e3 := ixN_seq e2
      rw [h1] at e3
      have : j = k := Option.some.inj e3.1
      rw [← this]
      exact e
theorem rv_ixL {ds : List PyData} {i : Int} (h : atI ds i = some z) : RV S (rIx K) (.list ds) (.int i) B z := fun v u H1 _ r1 r2 Q q => by
  cases r2
  cases r1 with
  | lst ha rs =>
    obtain ⟨j, h1, h2, h3, h4, h5⟩ := atI_get h
    obtain ⟨w, e, rw'⟩ := rs.get h2
    have hl := rs.len
    refine .inl ⟨_, _, i, w, rfl, rfl, .inl (.inl (hid_some ha).2), ?_, q w H1 (Gr.refl _) rw'⟩
    unfold atI at h ⊢
    rw [hl]
    cases e2 : ixN ds.length i with
    | none => rw [e2] at h; cases h
    | some k =>
      have e3 := ixN_seq e2
      rw [h1] at e3
      have : j = k := Option.some.inj e3.1
      rw [← this]
      exact e
theorem et_test {b : Bool} (h : Ev S te σ B (.bool b)) : EvT S (tTest te) σ B b := fun H1 e Q q => h H1 e _ fun v H2 g r => by
  cases r
  exact ⟨b, rfl, q H2 g⟩
theorem et_B {b : Bool} (h : Ev S te σ B (.bool b)) : EvT S (tB te) σ B b := fun H1 e Q q => h H1 e _ fun v H2 g r => by
  cases r
  exact ⟨b, rfl, q H2 g⟩
theorem et_not {b : Bool} (h : EvT S t σ B b) : EvT S (tNot t) σ B (!b) := fun H1 e Q q => h H1 e _ fun H2 g => q H2 g
theorem et_and {a b : Bool} (h1 : EvT S t σ B a) (h2 : a = true → EvT S u σ B b) : EvT S (tAnd t u) σ B (a && b) := fun H1 e Q q => h1 H1 e _ fun H2 g => by
  cases a with
  | true =>
    show u σ H2 Q
    exact h2 rfl H2 (e.go g) Q fun H3 g3 => q H3 (g.trans g3)
  | false =>
    show Q false H2
    exact q H2 g
theorem et_or {a b : Bool} (h1 : EvT S t σ B a) (h2 : a = false → EvT S u σ B b) : EvT S (tOr t u) σ B (a || b) := fun H1 e Q q => h1 H1 e _ fun H2 g => by
  cases a with
  | true =>
    show Q true H2
    exact q H2 g
  | false =>
    show u σ H2 Q
    exact h2 rfl H2 (e.go g) Q fun H3 g3 => q H3 (g.trans g3)
theorem ev_and {a : Bool} {b : Bool} (h1 : Ev S ta σ B (.bool a)) (h2 : a = true → Ev S tb σ B (.bool b)) : Ev S (tAndV ta tb) σ B (.bool (a && b)) := fun H1 e Q q => h1 H1 e _ fun v H2 g r => by
  cases r
  refine ⟨a, rfl, ?_⟩
  cases a with
  | true =>
    show tb σ H2 Q
    exact h2 rfl H2 (e.go g) Q fun w H3 g3 r3 => q w H3 (g.trans g3) r3
  | false =>
    show Q (.bl false) H2
    exact q _ H2 g (.bl _)
theorem ev_or {a : Bool} {b : Bool} (h1 : Ev S ta σ B (.bool a)) (h2 : a = false → Ev S tb σ B (.bool b)) : Ev S (tOrV ta tb) σ B (.bool (a || b)) := fun H1 e Q q => h1 H1 e _ fun v H2 g r => by
  cases r
  refine ⟨a, rfl, ?_⟩
  cases a with
  | true =>
    show Q (.bl true) H2
    exact q _ H2 g (.bl _)
  | false =>
    show tb σ H2 Q
    exact h2 rfl H2 (e.go g) Q fun w H3 g3 r3 => q w H3 (g.trans g3) r3
theorem ev_not {a : Bool} (h1 : Ev S ta σ B (.bool a)) : Ev S (tNotV ta) σ B (.bool (!a)) := fun H1 e Q q => h1 H1 e _ fun v H2 g r => by
  cases r
  exact ⟨a, rfl, q _ H2 g (.bl _)⟩
theorem ev_if {b : Bool} (h : EvT S t σ B b) (h1 : b = true → Ev S ta σ B d) (h2 : b = false → Ev S tb σ B d) : Ev S (tIf t ta tb) σ B d := fun H1 e Q q => h H1 e _ fun H2 g => by
  cases b with
  | true =>
    show ta σ H2 Q
    exact h1 rfl H2 (e.go g) Q fun w H3 g3 r3 => q w H3 (g.trans g3) r3
  | false =>
    show tb σ H2 Q
    exact h2 rfl H2 (e.go g) Q fun w H3 g3 r3 => q w H3 (g.trans g3) r3
/-- a op b op' c -/
theorem ev_chain {r r' : R2} {a b : Bool} (ha : Ev S ta σ B x) (hb : Ev S tb σ B y) (hc : Ev S tc σ B z) (hr : RV S r x y B (.bool a)) (hr' : RV S r' y z B (.bool b)) : Ev S (tChain r r' ta tb tc) σ B (.bool (a && b)) := fun H1 e Q q =>
  ha H1 e _ fun v H2 g2 r2 => hb H2 (e.go g2) _ fun u H3 g3 r3 => hr v u H3 ((e.go g2).go g3) (r2.mono (g3.hid S)) r3 _ fun w H4 g4 r4 => by
    cases r4
    refine ⟨a, rfl, ?_⟩
    have g14 := (g2.trans g3).trans g4
    cases a with
    | true =>
      show tc σ H4 _
      exact hc H4 (e.go g14) _ fun w H5 g5 r5 => hr' u w H5 ((e.go g14).go g5) (r3.mono ((g4.trans g5).hid S)) r5 Q fun w' H6 g6 r6 => q w' H6 ((g14.trans g5).trans g6) r6
    | false =>
      show Q (.bl false) H4
      exact q _ H4 g14 (.bl _)
theorem ea_nil : EvA S tNil σ B [] := fun H1 _ Q q => q _ H1 (Gr.refl _) .nil
theorem ea_cons {tr : TA} {ds : List PyData} (h : Ev S te σ B d) (hr : EvA S tr σ B ds) : EvA S (tCons te tr) σ B (d :: ds) := fun H1 e Q q =>
  h H1 e _ fun v H2 g2 r2 => hr H2 (e.go g2) _ fun vs H3 g3 r3 => q (v :: vs) H3 (g2.trans g3) (.cons (r2.mono (g3.hid S)) r3)
theorem ea_starT {tr : TA} {ds es : List PyData} (h : Ev S te σ B (.tuple es)) (hr : EvA S tr σ B ds) : EvA S (StX.tStar K te tr) σ B (es ++ ds) := fun H1 e Q q =>
  h H1 e _ fun v H2 g2 r2 => by
    cases r2 with
    | tup ha rs => exact ⟨_, _, rfl, .inl (.inl (.inl (hid_some ha).2)), hr H2 (e.go g2) _ fun vs H3 g3 r3 => q _ H3 (g2.trans g3) ((rs.mono (g3.hid S)).app r3)⟩
theorem ea_starL {tr : TA} {ds es : List PyData} (h : Ev S te σ B (.list es)) (hr : EvA S tr σ B ds) : EvA S (StX.tStar K te tr) σ B (es ++ ds) := fun H1 e Q q =>
  h H1 e _ fun v H2 g2 r2 => by
    cases r2 with
    | lst ha rs => exact ⟨_, _, rfl, .inr (.inl (.inl (hid_some ha).2)), hr H2 (e.go g2) _ fun vs H3 g3 r3 => q _ H3 (g2.trans g3) ((rs.mono (g3.hid S)).app r3)⟩
theorem Ext.isNew {S : Hs} {B H : Hp} (e : Ext S B H) {p : Addr} {o : HO} (h : H p = none) : hid S (upd H p o) p = some o := hid_new (e.fresh h)
theorem sz5 {n : Nat} (h : n ≤ 100000) : n ≤ sizeLine := Nat.le_trans h (by decide)
theorem ev_tup {ta : TA} {ds : List PyData} (h : EvA S ta σ B ds) (hl : ds.length ≤ 100000) : Ev S (tTup ta) σ B (.tuple ds) := fun H1 e Q q =>
  h H1 e _ fun vs H2 g2 r2 => ⟨by rw [r2.len]; exact sz5 hl, fun p hp => q _ _ (g2.trans (.new hp)) (.tup ((e.go g2).isNew hp) (r2.mono ((Gr.new hp).hid S)))⟩
theorem ev_lst {ta : TA} {ds : List PyData} (h : EvA S ta σ B ds) (hl : ds.length ≤ 100000) : Ev S (tLst ta) σ B (.list ds) := fun H1 e Q q =>
  h H1 e _ fun vs H2 g2 r2 => ⟨by rw [r2.len]; exact sz5 hl, fun p hp => q _ _ (g2.trans (.new hp)) (.lst ((e.go g2).isNew hp) (r2.mono ((Gr.new hp).hid S)))⟩
theorem ev_cb {r : List V → Hp → VK → Prop} {ta : TA} {ds : List PyData} (h : EvA S ta σ B ds) (hr : RC S r ds B z) : Ev S (tCB r ta) σ B z := fun H1 e Q q =>
  h H1 e _ fun vs H2 g2 r2 => hr vs H2 (e.go g2) r2 Q fun w H3 g3 r3 => q w H3 (g2.trans g3) r3
theorem eo_none : EvO S tNoPart σ B none := fun H1 _ Q q => q H1 (Gr.refl _)
theorem eo_some {i : Int} (h : Ev S te σ B (.int i)) : EvO S (tPart te) σ B (some i) := fun H1 e Q q => h H1 e _ fun v H2 g r => by
  cases r
  exact ⟨i, rfl, q H2 g⟩
end
end KV
set_option Elab.async false
set_option linter.all false
set_option maxRecDepth 100000
set_option maxHeartbeats 4000000
/-! Environments of data: expressions, statements, loops, calls, comprehensions. -/
namespace KV
open PySem PySem.Spec PyProof.Rows L2 GxR

abbrev Es := List (Option PyData)
/-- the slots hold these data -/
structure Inn (Ts : Ks) (σ : L2.St) (B : Hp) (es : Es) : Prop where
  len : σ.length = es.length
  get : ∀ i d, es[i]? = some (some d) → Sl σ i B d
  tbs : Kn Ts B
section
variable {Ts : Ks} {S : Hs} {σ : L2.St} {B B' : Hp} {es es' : Es} {K : PySem.W.Frag}
theorem Inn.mono (h : Inn Ts σ B es) (g : Gr B B') : Inn Ts σ B' es := ⟨h.len, fun i d e => (h.get i d e).mono g, h.tbs.mono g⟩
theorem Inn.set (h : Inn Ts σ B es) {v : V} {d : PyData} (r : Rp B v d) (i : Nat) : Inn Ts (σ.set i (some v)) B (es.set i (some d)) := by
  refine ⟨by rw [List.length_set, List.length_set]; exact h.len, fun j e q => ?_, h.tbs⟩
  rw [List.getElem?_set] at q
  by_cases hij : i = j
  · subst hij
    rw [if_pos rfl] at q
    by_cases hl : i < es.length
    · rw [if_pos hl] at q
      cases q
      exact ⟨v, by rw [List.getElem?_set_self (by rw [h.len]; exact hl)], r⟩
    · rw [if_neg hl] at q; cases q
  · rw [if_neg hij] at q
    obtain ⟨u, e1, r1⟩ := h.get j e q
    exact ⟨u, by rw [List.getElem?_set_ne hij]; exact e1, r1⟩
/-- a slot whose datum is not followed -/
theorem Inn.setN (h : Inn Ts σ B es) (v : Option V) (i : Nat) : Inn Ts (σ.set i v) B (es.set i none) := by
  refine ⟨by rw [List.length_set, List.length_set]; exact h.len, fun j e q => ?_, h.tbs⟩
  rw [List.getElem?_set] at q
  by_cases hij : i = j
  · subst hij
    rw [if_pos rfl] at q
    split at q <;> cases q
  · rw [if_neg hij] at q
    obtain ⟨u, e1, r1⟩ := h.get j e q
    exact ⟨u, by rw [List.getElem?_set_ne hij]; exact e1, r1⟩
theorem Inn.weak (h : Inn Ts σ B es) (hl : es'.length = es.length) (hw : ∀ (i : Nat) (d : PyData), es'[i]? = some (some d) → es[i]? = some (some d)) : Inn Ts σ B es' := ⟨h.len.trans hl.symm, fun i d e => h.get i d (hw i d e), h.tbs⟩
def wipeE (es : Es) : List Nat → Es
  | [] => es
  | v :: vs => (wipeE es vs).set v none
theorem Inn.wipe (h : Inn Ts σ B es) : ∀ vs, Inn Ts (L2.wipe σ vs) B (wipeE es vs)
  | [] => h
  | v :: vs => (Inn.wipe h vs).setN none v
theorem Inn.start {H : Hp} {vs : List V} {ds : List PyData} (r : Rps H vs ds) (t : Kn Ts H) (N : List Str) : Inn Ts (L2.start N vs) H (ds.map some ++ List.replicate (N.length - ds.length) none) := by
  have hl := r.len
  refine ⟨by unfold L2.start; simp [hl], fun i d e => ?_, t⟩
  rw [List.getElem?_append] at e
  by_cases hi : i < (ds.map some).length
  · rw [if_pos hi, List.getElem?_map] at e
    cases q : ds[i]? with
    | none => rw [q] at e; cases e
    | some d' =>
      rw [q] at e
      cases e
      obtain ⟨v, e1, r1⟩ := r.get q
      refine ⟨v, ?_, r1⟩
      unfold L2.start
      rw [List.getElem?_append_left (by rw [List.length_map, hl]; simpa using hi), List.getElem?_map, e1]
      rfl
  · rw [if_neg hi, List.getElem?_replicate] at e
    split at e <;> cases e
end

/-! ### expressions -/
def EE (S : Hs) (Ts : Ks) (te : TE) (es : Es) (d : PyData) : Prop := ∀ σ B, Inn Ts σ B es → Ev S te σ B d
def EA (S : Hs) (Ts : Ks) (ta : TA) (es : Es) (ds : List PyData) : Prop := ∀ σ B, Inn Ts σ B es → EvA S ta σ B ds
def ET (S : Hs) (Ts : Ks) (t : TT) (es : Es) (b : Bool) : Prop := ∀ σ B, Inn Ts σ B es → EvT S t σ B b
def EO (S : Hs) (Ts : Ks) (t : TO) (es : Es) (o : Option Int) : Prop := ∀ σ B, Inn Ts σ B es → EvO S t σ B o
section
variable {S : Hs} {Ts : Ks} {K : PySem.W.Frag} {es : Es} {ta tb tc te : TE} {t u : TT} {x y z d : PyData} {r r' : R2} {i : Nat} {tr : TA} {ds xs : List PyData}
theorem ee_is (h : EE S Ts te es x) (e : x = y) : EE S Ts te es y := e ▸ h
theorem et_is' {a b : Bool} (h : ET S Ts t es a) (e : a = b) : ET S Ts t es b := e ▸ h
theorem ee_var (h : es[i]? = some (some d)) : EE S Ts (tVar i) es d := fun σ B I => ev_var (I.get i d h)
theorem ee_int {i : Int} : EE S Ts (tC (.int i)) es (.int i) := fun _ _ _ => ev_int
theorem ee_bl {b : Bool} : EE S Ts (tC (.bl b)) es (.bool b) := fun _ _ _ => ev_bl
theorem ee_non : EE S Ts (tC .non) es .none := fun _ _ _ => ev_non
theorem ee_str {x : Str} : EE S Ts (tC (.str x)) es (.str x) := fun _ _ _ H1 _ Q q => q _ H1 (Gr.refl _) (.str x)
theorem ee_op (ha : EE S Ts ta es x) (hb : EE S Ts tb es y) (hr : ∀ B, RV S r x y B z) : EE S Ts (tOp r ta tb) es z := fun σ B I => ev_op (ha σ B I) (hb σ B I) (hr B)
theorem ee_un {r : V → Hp → VK → Prop} (ha : EE S Ts ta es x) (hr : ∀ B, RU S r x B z) : EE S Ts (tUn r ta) es z := fun σ B I => ev_un (ha σ B I) (hr B)
theorem ee_and {a b : Bool} (h1 : EE S Ts ta es (.bool a)) (h2 : a = true → EE S Ts tb es (.bool b)) : EE S Ts (tAndV ta tb) es (.bool (a && b)) := fun σ B I => ev_and (h1 σ B I) fun q => h2 q σ B I
theorem ee_or {a b : Bool} (h1 : EE S Ts ta es (.bool a)) (h2 : a = false → EE S Ts tb es (.bool b)) : EE S Ts (tOrV ta tb) es (.bool (a || b)) := fun σ B I => ev_or (h1 σ B I) fun q => h2 q σ B I
theorem ee_not {a : Bool} (h1 : EE S Ts ta es (.bool a)) : EE S Ts (tNotV ta) es (.bool (!a)) := fun σ B I => ev_not (h1 σ B I)
theorem ee_if {b : Bool} (h : ET S Ts t es b) (h1 : b = true → EE S Ts ta es d) (h2 : b = false → EE S Ts tb es d) : EE S Ts (tIf t ta tb) es d := fun σ B I => ev_if (h σ B I) (fun q => h1 q σ B I) fun q => h2 q σ B I
theorem ee_chain {a b : Bool} (ha : EE S Ts ta es x) (hb : EE S Ts tb es y) (hc : EE S Ts tc es z) (hr : ∀ B, RV S r x y B (.bool a)) (hr' : ∀ B, RV S r' y z B (.bool b)) : EE S Ts (tChain r r' ta tb tc) es (.bool (a && b)) :=
  fun σ B I => ev_chain (ha σ B I) (hb σ B I) (hc σ B I) (hr B) (hr' B)
theorem tt_test {b : Bool} (h : EE S Ts te es (.bool b)) : ET S Ts (tTest te) es b := fun σ B I => et_test (h σ B I)
theorem tt_B {b : Bool} (h : EE S Ts te es (.bool b)) : ET S Ts (tB te) es b := fun σ B I => et_B (h σ B I)
theorem tt_not {b : Bool} (h : ET S Ts t es b) : ET S Ts (tNot t) es (!b) := fun σ B I => et_not (h σ B I)
theorem tt_and {a b : Bool} (h1 : ET S Ts t es a) (h2 : a = true → ET S Ts u es b) : ET S Ts (tAnd t u) es (a && b) := fun σ B I => et_and (h1 σ B I) fun q => h2 q σ B I
theorem tt_or {a b : Bool} (h1 : ET S Ts t es a) (h2 : a = false → ET S Ts u es b) : ET S Ts (tOr t u) es (a || b) := fun σ B I => et_or (h1 σ B I) fun q => h2 q σ B I
theorem aa_nil : EA S Ts tNil es [] := fun _ _ _ => ea_nil
theorem aa_cons (h : EE S Ts te es d) (hr : EA S Ts tr es ds) : EA S Ts (tCons te tr) es (d :: ds) := fun σ B I => ea_cons (h σ B I) (hr σ B I)
theorem aa_starL (h : EE S Ts te es (.list xs)) (hr : EA S Ts tr es ds) : EA S Ts (StX.tStar K te tr) es (xs ++ ds) := fun σ B I => ea_starL (h σ B I) (hr σ B I)
theorem aa_starT (h : EE S Ts te es (.tuple xs)) (hr : EA S Ts tr es ds) : EA S Ts (StX.tStar K te tr) es (xs ++ ds) := fun σ B I => ea_starT (h σ B I) (hr σ B I)
theorem ee_tup (h : EA S Ts tr es ds) (hl : ds.length ≤ 100000) : EE S Ts (tTup tr) es (.tuple ds) := fun σ B I => ev_tup (h σ B I) hl
theorem ee_lst (h : EA S Ts tr es ds) (hl : ds.length ≤ 100000) : EE S Ts (tLst tr) es (.list ds) := fun σ B I => ev_lst (h σ B I) hl
theorem ee_cb {r : List V → Hp → VK → Prop} (h : EA S Ts tr es ds) (hr : ∀ B, RC S r ds B z) : EE S Ts (tCB r tr) es z := fun σ B I => ev_cb (h σ B I) (hr B)
theorem oo_none : EO S Ts tNoPart es none := fun _ _ _ => eo_none
theorem oo_some {i : Int} (h : EE S Ts te es (.int i)) : EO S Ts (tPart te) es (some i) := fun σ B I => eo_some (h σ B I)
end

/-! ### promises of defs on data -/
/-- called with data it gives a datum, and leaves all as it was -/
def spR (P : List Addr) (R : List PyData → PyData → Prop) : Sp := fun vs H Q _ => ∃ (S : Hs) (ds : List PyData) (d : PyData), Rps (hid S H) vs ds ∧ (∀ b ∈ S.ad, H b ≠ none) ∧ R ds d ∧ Tbs P (hid S H) ∧ ∀ v H', Gr H H' → Rp (hid S H') v d → Q v H'
theorem ee_call {S : Hs} {Ts : Ks} {P : List Addr} {R : List PyData → PyData → Prop} {es : Es} {ta : TA} {ds : List PyData} {d : PyData} {E : XK} (h : EA S Ts ta es ds) (hR : R ds d) (hT : ∀ b ∈ P, b ∈ Ts.ts) : EE S Ts (tCall (spR P R) [] E ta) es d := fun σ B I H1 e Q q =>
  h σ B I H1 e _ fun vs H2 g2 r2 => ⟨S, ds, d, by rw [List.append_nil]; exact r2, (e.go g2).trk, hR, fun P hP => (e.go g2).tbs I.tbs.ts P (hT P hP), fun v H3 g3 r3 => q v H3 (g2.trans g3) r3⟩

/-! ### statements -/
inductive Out where
  | nx (es : Es) | rt (d : PyData)
def OutK (S : Hs) (Ts : Ks) (H0 : Hp) (D : Ends) : Out → Prop
  | .nx es => ∀ σ H, Gr H0 H → Inn Ts σ (hid S H) es → D.nx σ H
  | .rt d => ∀ v H, Gr H0 H → Rp (hid S H) v d → D.rt v H
/-- from the data es the statement comes to the end o; nothing but new objects is written -/
def ES (S : Hs) (Ts : Ks) (t : TS) (es : Es) (o : Out) : Prop := ∀ H0 σ H, (∀ b ∈ S.ad, H0 b ≠ none) ∧ Gr S.fz H0 → Gr H0 H → Inn Ts σ (hid S H) es → ∀ D, OutK S Ts H0 D o → t D σ H
section
variable {S : Hs} {Ts : Ks} {K : PySem.W.Frag} {es es1 : Es} {te : TE} {c : TT} {t u : TS} {d : PyData} {o : Out} {i : Nat} {g : TG}
theorem trkG {H0 H : Hp} (t : (∀ b ∈ S.ad, H0 b ≠ none) ∧ Gr S.fz H0) (g : Gr H0 H) : (∀ b ∈ S.ad, H b ≠ none) ∧ Gr S.fz H := ⟨fun b hb => g.some (t.1 b hb), t.2.trans g⟩
theorem extG {H0 H : Hp} (t : (∀ b ∈ S.ad, H0 b ≠ none) ∧ Gr S.fz H0) (g : Gr H0 H) : Ext S (hid S H) H := .self (trkG t g).1 (trkG t g).2
/-- storing a datum by a target -/
def EG (S : Hs) (Ts : Ks) (g : TG) (d : PyData) (es es' : Es) : Prop := ∀ σ H v, Inn Ts σ (hid S H) es → Rp (hid S H) v d → ∀ Q : L2.St → Hp → Prop, (∀ σ', Inn Ts σ' (hid S H) es' → Q σ' H) → g v σ H Q
theorem eg_name : EG S Ts (gName i) d es (es.set i (some d)) := fun σ H v I r Q q => q _ (I.set r i)
theorem eg_name' (h : es.set i (some d) = es1) : EG S Ts (gName i) d es es1 := h ▸ eg_name
theorem eg_pair {i j : Nat} {a b : PyData} : EG S Ts (gTup K 2 (gCons (gName i) (gCons (gName j) gNil))) (.tuple [a, b]) es ((es.set i (some a)).set j (some b)) := fun σ H v I r Q q => by
  cases r with
  | tup ha rs =>
    cases rs with
    | cons r1 rs =>
      cases rs with
      | cons r2 rs =>
        cases rs
        exact ⟨_, _, rfl, .inl (.inl (hid_some ha).2), rfl, _, _, rfl, _, _, rfl, rfl, q _ ((I.set r1 i).set r2 j)⟩
theorem es_asg (h : EE S Ts te es d) (hg : EG S Ts g d es es1) : ES S Ts (tAsg te g) es (.nx es1) := fun H0 σ H t gr I D k =>
  h σ _ I H (extG t gr) _ fun v H1 g1 r1 => hg σ H1 v (I.mono (g1.hid S)) r1 _ fun σ' I' => k σ' H1 (gr.trans g1) I'
theorem es_set (h : EE S Ts te es d) : ES S Ts (tAsg te (gName i)) es (.nx (es.set i (some d))) := es_asg h eg_name
theorem es_ret (h : EE S Ts te es d) : ES S Ts (tRet te) es (.rt d) := fun H0 σ H t gr I D k => h σ _ I H (extG t gr) _ fun v H1 g1 r1 => k v H1 (gr.trans g1) r1
theorem es_seq (h1 : ES S Ts t es (.nx es1)) (h2 : ES S Ts u es1 o) : ES S Ts (tSeq t u) es o := fun H0 σ H tk gr I D k => h1 H0 σ H tk gr I _ fun σ1 H1 g1 I1 => h2 H0 σ1 H1 tk g1 I1 D k
theorem es_seq' (h1 : ES S Ts t es (.rt d)) : ES S Ts (tSeq t u) es (.rt d) := fun H0 σ H tk gr I D k => h1 H0 σ H tk gr I _ k
theorem es_if {b : Bool} (h : ET S Ts c es b) (h1 : b = true → ES S Ts t es o) (h2 : b = false → ES S Ts u es o) : ES S Ts (tIfS c t u) es o := fun H0 σ H tk gr I D k =>
  h σ _ I H (extG tk gr) _ fun H1 g1 => by
    cases b with
    | true =>
      show t D σ H1
      exact h1 rfl H0 σ H1 tk (gr.trans g1) (I.mono (g1.hid S)) D k
    | false =>
      show u D σ H1
      exact h2 rfl H0 σ H1 tk (gr.trans g1) (I.mono (g1.hid S)) D k
theorem es_skip : ES S Ts tNext es (.nx es) := fun H0 σ H tk gr I D k => k σ H gr I
theorem es_drop (h : EE S Ts te es d) : ES S Ts (tDrop te) es (.nx es) := fun H0 σ H tk gr I D k => h σ _ I H (extG tk gr) _ fun v H1 g1 _ => k σ H1 (gr.trans g1) (I.mono (g1.hid S))
theorem es_o {o' : Out} (h : ES S Ts t es o) (e : o = o') : ES S Ts t es o' := e ▸ h
theorem es_par {i j : Nat} {ta : TA} {a b : PyData} (h : EA S Ts ta es [a, b]) : ES S Ts (tPar i j ta) es (.nx ((es.set i (some a)).set j (some b))) := fun H0 σ H tk gr I D k =>
  h σ _ I H (extG tk gr) _ fun vs H1 g1 r1 => by
    cases r1 with
    | cons r1 rs =>
      cases rs with
      | cons r2 rs =>
        cases rs
        exact ⟨_, _, rfl, k _ H1 (gr.trans g1) (((I.mono (g1.hid S)).set r1 i).set r2 j)⟩

/-! ### walks -/
/-- J gives the data ys, one after another, while what Bw knows stands -/
structure WalkD (S : Hs) (J : It) (ys : List PyData) (Bw : Hp) : Prop where
  go : ∀ i H, Ext S Bw H → i < ys.length → J.go i H
  stop : ∀ H, Ext S Bw H → J.stop ys.length H
  yld : ∀ i H x H', Ext S Bw H → i < ys.length → J.yld i H x H' → ∃ d, ys[i]? = some d ∧ Gr H H' ∧ Rp (hid S H') x d
def EI (S : Hs) (Ts : Ks) (wi : TI) (es : Es) (ys : List PyData) : Prop := ∀ σ B, Inn Ts σ B es → ∀ H1, Ext S B H1 → ∀ R : It → Hp → Prop, (∀ J H2, Gr H1 H2 → (∀ S', Gr S.fz S'.fz → WalkD S' J ys (hid S H2)) → R J H2) → wi σ H1 R
theorem WalkD.at {J : It} {ys : List PyData} {B1 B2 : Hp} (w : WalkD S J ys B1) (g : Gr B1 B2) : WalkD S J ys B2 := ⟨fun i H e => w.go i H (e.down g), fun H e => w.stop H (e.down g), fun i H x H' e => w.yld i H x H' (e.down g)⟩
theorem walkD_list {a : Addr} {xs : List V} {ys : List PyData} {B : Hp} (h : B a = some (.lst xs)) (r : Rps B xs ys) : WalkD S (Itl K a) ys B := by
  have sq : ∀ H, Ext S B H → SqL K H a xs := fun H e => .inl (.inl (hid_some (e.gr.lst h)).2)
  refine ⟨fun i H e hi => ?_, fun H e => ⟨xs, sq H e, by rw [r.len]; exact Nat.le_refl _⟩, fun i H x H' e hi y => ?_⟩
  · have hi' : i < xs.length := by rw [r.len]; exact hi
    exact ⟨xs, xs[i], sq H e, List.getElem?_eq_getElem hi'⟩
  · obtain ⟨rfl, y⟩ := y
    obtain ⟨d, e1, r1⟩ := r.at (y xs (sq _ e))
    exact ⟨d, e1, Gr.refl _, r1.mono e.gr⟩
theorem walkD_tup {a : Addr} {xs : List V} {ys : List PyData} {B : Hp} (h : B a = some (.tup xs)) (r : Rps B xs ys) : WalkD S (Itt K a) ys B := by
  have sq : ∀ H, Ext S B H → SqT K H a xs := fun H e => .inl (.inl (hid_some (e.gr.tup h)).2)
  refine ⟨fun i H e hi => ?_, fun H e => ⟨xs, sq H e, by rw [r.len]; exact Nat.le_refl _⟩, fun i H x H' e hi y => ?_⟩
  · have hi' : i < xs.length := by rw [r.len]; exact hi
    exact ⟨xs, xs[i], sq H e, List.getElem?_eq_getElem hi'⟩
  · obtain ⟨rfl, y⟩ := y
    obtain ⟨d, e1, r1⟩ := r.at (y xs (sq _ e))
    exact ⟨d, e1, Gr.refl _, r1.mono e.gr⟩
def rangeD (lo : Int) (n : Nat) : List PyData := (List.range n).map fun (i : Nat) => PyData.int (lo + (i : Int))
theorem walkD_range {lo : Int} {n : Nat} {B : Hp} : WalkD S (Itr lo n) (rangeD lo n) B := by
  have hl : (rangeD lo n).length = n := by simp [rangeD]
  refine ⟨fun i H _ hi => by rw [hl] at hi; exact hi, fun H _ => by rw [hl]; exact Nat.le_refl _, fun i H x H' e hi y => ?_⟩
  obtain ⟨rfl, rfl⟩ := y
  rw [hl] at hi
  exact ⟨.int (lo + i), by simp [rangeD, hi], Gr.refl _, .int _⟩
def enumD (ys : List PyData) : List PyData := ys.mapIdx fun i d => .tuple [.int (i : Nat), d]
theorem walkD_enum {a : Addr} {xs : List V} {ys : List PyData} {B : Hp} (h : B a = some (.lst xs)) (r : Rps B xs ys) : WalkD S (Ite K a) (enumD ys) B := by
  have sq : ∀ H, Ext S B H → SqL K H a xs := fun H e => .inl (.inl (hid_some (e.gr.lst h)).2)
  have hl : (enumD ys).length = xs.length := by rw [r.len]; simp [enumD]
  refine ⟨fun i H e hi => ?_, fun H e => ⟨xs, sq H e, by rw [hl]; exact Nat.le_refl _⟩, fun i H x H' e hi y => ?_⟩
  · have hi' : i < xs.length := by rw [← hl]; exact hi
    exact ⟨xs, xs[i], sq H e, List.getElem?_eq_getElem hi'⟩
  · obtain ⟨T, z, rfl, hT, rfl, y⟩ := y
    obtain ⟨d, e1, r1⟩ := r.at (y xs (sq _ e))
    refine ⟨.tuple [.int (i : Nat), d], by simp [enumD, List.getElem?_mapIdx, e1], .new hT, .tup (e.isNew hT) (.cons (.int _) (.cons ((r1.mono e.gr).mono ((Gr.new hT).hid S)) .nil))⟩
def zipD (ys zs : List PyData) : List PyData := List.zipWith (fun a b => .tuple [a, b]) ys zs
theorem walkD_zip {a b : Addr} {xs xs' : List V} {ys zs : List PyData} {B : Hp} (h : B a = some (.lst xs)) (r : Rps B xs ys) (h' : B b = some (.lst xs')) (r' : Rps B xs' zs) : WalkD S (Itz K a b) (zipD ys zs) B := by
  have sq : ∀ H, Ext S B H → SqL K H a xs := fun H e => .inl (.inl (hid_some (e.gr.lst h)).2)
  have sq' : ∀ H, Ext S B H → SqL K H b xs' := fun H e => .inl (.inl (hid_some (e.gr.lst h')).2)
  have hl : (zipD ys zs).length = min xs.length xs'.length := by rw [r.len, r'.len]; simp [zipD]
  refine ⟨fun i H e hi => ?_, fun H e => ⟨xs, xs', sq H e, sq' H e, by rw [hl]; omega⟩, fun i H x H' e hi y => ?_⟩
  · rw [hl] at hi
    have h1 : i < xs.length := by omega
    have h2 : i < xs'.length := by omega
    exact ⟨xs, xs', xs[i], xs'[i], sq H e, sq' H e, List.getElem?_eq_getElem h1, List.getElem?_eq_getElem h2⟩
  · obtain ⟨T, z, z', rfl, hT, rfl, y, y'⟩ := y
    obtain ⟨d, e1, r1⟩ := r.at (y xs (sq _ e))
    obtain ⟨d', e2, r2⟩ := r'.at (y' xs' (sq' _ e))
    refine ⟨.tuple [d, d'], by simp [zipD, List.getElem?_zipWith, e1, e2], .new hT, .tup (e.isNew hT) (.cons ((r1.mono e.gr).mono ((Gr.new hT).hid S)) (.cons ((r2.mono e.gr).mono ((Gr.new hT).hid S)) .nil))⟩

/-- what a list or tuple is walked as -/
def iSeq (K : PySem.W.Frag) (tl : TE) : TI := fun σ H R => tl σ H fun x H1 => (∃ a, x = .ref a ∧ (∃ xs, SqL K H1 a xs) ∧ R (Itl K a) H1) ∨ ∃ a, x = .ref a ∧ (∃ xs, SqT K H1 a xs) ∧ R (Itt K a) H1
theorem pi_seq {X : Cx} {tg l : Expr} {tl : TE} (hl : PE X l tl) : PI X tg l (iSeq X.K tl) := by
  refine ⟨fun pins s σ H R I h => ?_⟩
  refine thn (hl.run pins s σ H _ I h) fun v s1 ⟨x, H1, I1, r1, q1⟩ => ?_
  have one : PE X l tl := hl
  rcases q1 with ⟨a, rfl, ⟨xs, hq⟩, q⟩ | ⟨a, rfl, ⟨xs, hq⟩, q⟩
  · cases r1
    obtain ⟨its, rv, p, hz⟩ := I1.list hq
    refine wpAny_pyIter_list p.isList ?_
    refine ⟨s1.heap.objs.size, [s1.heap.objs.size], _, _, H1, rfl, I1.kept (t' := s1.toks) fun b o e => Heap.get?_push_of_some _ e, turn_list a _, ⟨_, Heap.get?_push_size _ rfl, rfl, rfl⟩, fun b hb => ?_, q⟩
    rw [List.mem_singleton.mp hb]
    exact I1.fpOk (Nat.le_refl _) (I1.hok.fresh (Nat.le_refl _))
  · cases r1
    obtain ⟨its, rv, p, hz⟩ := I1.tuple hq
    refine wpAny_pyIter_tuple (show s1.heap.IsTuple a its.toArray from p) ?_
    refine ⟨s1.heap.objs.size, [s1.heap.objs.size], _, _, H1, rfl, I1.kept (t' := s1.toks) fun b o e => Heap.get?_push_of_some _ e, turn_tuple a _, ⟨_, Heap.get?_push_size _ rfl, rfl, rfl⟩, fun b hb => ?_, q⟩
    rw [List.mem_singleton.mp hb]
    exact I1.fpOk (Nat.le_refl _) (I1.hok.fresh (Nat.le_refl _))
theorem ei_seqL {ys : List PyData} (h : EE S Ts te es (.list ys)) : EI S Ts (iSeq K te) es ys := fun σ B I H1 e R q => h σ B I H1 e _ fun v H2 g r => by
  cases r with
  | lst ha rs => exact .inl ⟨_, rfl, ⟨_, .inl (.inl (hid_some ha).2)⟩, q _ H2 g fun _ _ => walkD_list ha rs⟩
theorem ei_seqT {ys : List PyData} (h : EE S Ts te es (.tuple ys)) : EI S Ts (iSeq K te) es ys := fun σ B I H1 e R q => h σ B I H1 e _ fun v H2 g r => by
  cases r with
  | tup ha rs => exact .inr ⟨_, rfl, ⟨_, .inl (.inl (hid_some ha).2)⟩, q _ H2 g fun _ _ => walkD_tup ha rs⟩
theorem ei_range1 {ta : TA} {n : Int} (h : EA S Ts ta es [.int n]) (h1 : -(2 ^ 62) ≤ n) (h2 : n < 2 ^ 62) : EI S Ts (iRng1 ta) es (rangeD 0 n.toNat) := fun σ B I H1 e R q => h σ B I H1 e _ fun vs H2 g r => by
  cases r with
  | cons r rs => cases rs; cases r; exact ⟨n, rfl, h1, h2, q _ H2 g fun _ _ => walkD_range⟩
theorem ei_range2 {ta : TA} {m n : Int} (h : EA S Ts ta es [.int m, .int n]) (h0 : -(2 ^ 62) ≤ m ∧ m < 2 ^ 62 ∧ -(2 ^ 62) ≤ n ∧ n < 2 ^ 62) : EI S Ts (iRng2 ta) es (rangeD m (n - m).toNat) := fun σ B I H1 e R q => h σ B I H1 e _ fun vs H2 g r => by
  cases r with
  | cons r rs =>
    cases rs with
    | cons r' rs => cases rs; cases r; cases r'; exact ⟨m, n, rfl, h0, q _ H2 g fun _ _ => walkD_range⟩
theorem ei_enum {ta : TA} {ys : List PyData} (h : EA S Ts ta es [.list ys]) : EI S Ts (iEnum K ta) es (enumD ys) := fun σ B I H1 e R q => h σ B I H1 e _ fun vs H2 g r => by
  cases r with
  | cons r rs =>
    cases rs
    cases r with
    | lst ha rs => exact ⟨_, _, rfl, .inl (.inl (hid_some ha).2), q _ H2 g fun _ _ => walkD_enum ha rs⟩
theorem ei_zip {ta : TA} {ys zs : List PyData} (h : EA S Ts ta es [.list ys, .list zs]) : EI S Ts (iZip K ta) es (zipD ys zs) := fun σ B I H1 e R q => h σ B I H1 e _ fun vs H2 g r => by
  cases r with
  | cons r rs =>
    cases rs with
    | cons r' rs =>
      cases rs
      cases r with
      | lst ha r1 =>
        cases r' with
        | lst hb r2 => exact ⟨_, _, _, _, rfl, .inl (.inl (hid_some ha).2), .inl (.inl (hid_some hb).2), q _ H2 g fun _ _ => walkD_zip ha r1 hb r2⟩

/-- a for: how the turns go -/
inductive ForO (step : Es → PyData → Out → Prop) : List PyData → Es → Out → Prop
  | nil {es : Es} : ForO step [] es (.nx es)
  | go {es es1 : Es} {y : PyData} {ys : List PyData} {o : Out} : step es y (.nx es1) → ForO step ys es1 o → ForO step (y :: ys) es o
  | out {es : Es} {y : PyData} {ys : List PyData} {d : PyData} : step es y (.rt d) → ForO step (y :: ys) es (.rt d)
theorem es_for {wi : TI} {tb : TS} {ys : List PyData} (h : EI S Ts wi es ys) (hf : ForO (fun es y o => ∃ es1, EG S Ts g y es es1 ∧ ES S Ts tb es1 o) ys es o) : ES S Ts (tFor wi g tb) es o := fun H0 σ H tk gr I D k =>
  h σ _ I H (extG tk gr) _ fun J H1 g1 w' => by
    have w := w' S (Gr.refl _)
    refine ⟨fun i m σ H => Gr H0 H ∧ Gr H1 H ∧ m = ys.length - i ∧ ((∃ es, i ≤ ys.length ∧ Inn Ts σ (hid S H) es ∧ ForO (fun es y o => ∃ es1, EG S Ts g y es es1 ∧ ES S Ts tb es1 o) (ys.drop i) es o)), ⟨ys.length, gr.trans g1, Gr.refl _, rfl, es, Nat.zero_le _, I.mono (g1.hid S), hf⟩, ?_⟩
    rintro i m σ H ⟨q0, q1, rfl, es, hi, I, hf⟩
    have tk1 := trkG tk (gr.trans g1)
    have ex : Ext S (hid S H1) H := ⟨q1.hid S, tk1.2.trans q1, (trkG tk1 q1).1⟩
    by_cases hlt : i < ys.length
    · refine .inr ⟨w.go i H ex hlt, fun σ' H' => Gr H0 H' ∧ Gr H1 H' ∧ ∃ es', Inn Ts σ' (hid S H') es' ∧ ForO (fun es y o => ∃ es1, EG S Ts g y es es1 ∧ ES S Ts tb es1 o) (ys.drop (i + 1)) es' o, fun σ' H' n' => ?_, fun x H' y => ?_⟩
      · obtain ⟨a0, a1, es', I', f'⟩ := n'
        exact ⟨ys.length - (i + 1), by omega, a0, a1, rfl, es', hlt, I', f'⟩
      · obtain ⟨d, e1, g2, r2⟩ := w.yld i H x H' ex hlt y
        have ed : ys.drop i = d :: ys.drop (i + 1) := by
          rw [List.drop_eq_getElem_cons hlt]
          rw [List.getElem?_eq_getElem hlt] at e1
          rw [Option.some.inj e1]
        rw [ed] at hf
        cases hf with
        | go st rest =>
          obtain ⟨es1, hg, hb⟩ := st
          exact hg σ H' x (I.mono (g2.hid S)) r2 _ fun σ' I' => hb H' σ' H' (trkG ⟨ex.trk, ex.fr⟩ g2) (Gr.refl _) I' _ fun σ2 H2 g3 I2 => ⟨(q0.trans g2).trans g3, (q1.trans g2).trans g3, _, I2, rest⟩
        | out st =>
          obtain ⟨es1, hg, hb⟩ := st
          exact hg σ H' x (I.mono (g2.hid S)) r2 _ fun σ' I' => hb H' σ' H' (trkG ⟨ex.trk, ex.fr⟩ g2) (Gr.refl _) I' _ fun v H2 g3 r3 => k v H2 ((q0.trans g2).trans g3) r3
    · have e : i = ys.length := by omega
      subst e
      rw [List.drop_length] at hf
      cases hf with
      | nil => exact .inl ⟨w.stop H ex, k σ H q0 I⟩

theorem wipe_get (σ : L2.St) (j : Nat) : ∀ vs : List Nat, (L2.wipe σ vs)[j]? = if j ∈ vs then (if j < σ.length then some none else none) else σ[j]?
  | [] => by simp [L2.wipe]
  | v :: vs => by
    unfold L2.wipe
    rw [List.getElem?_set, wipe_get σ j vs, wipe_length]
    by_cases h : v = j
    · subst h; simp
    · have h' : ¬ j = v := fun q => h q.symm
      simp [h, h']
theorem wipe_idem (σ : L2.St) (vs : List Nat) : L2.wipe (L2.wipe σ vs) vs = L2.wipe σ vs := by
  apply List.ext_getElem?
  intro j
  rw [wipe_get, wipe_get, wipe_length]
  by_cases h : j ∈ vs <;> simp [h]
theorem wipe_set (σ : L2.St) (vs : List Nat) {i : Nat} (hi : i ∈ vs) (x : Option V) : L2.wipe (σ.set i x) vs = L2.wipe σ vs := by
  apply List.ext_getElem?
  intro j
  rw [wipe_get, wipe_get, List.length_set]
  by_cases h : j ∈ vs
  · simp [h]
  · have : i ≠ j := fun q => h (q ▸ hi)
    simp [h, List.getElem?_set_ne this]

/-- a new list: nobody else holds it -/
def EN (S : Hs) (Ts : Ks) (te : TE) (es : Es) (ds : List PyData) : Prop := ∀ σ B, Inn Ts σ B es → ∀ H1, Ext S B H1 → ∀ Q : VK, (∀ a xs H2, Gr H1 H2 → H1 a = none → H2 a = some (.lst xs) → Rps (hid (S.add a) H2) xs ds → Q (.ref a) H2) → te σ H1 Q
theorem EN.ee {ds : List PyData} (h : EN S Ts te es ds) : EE S Ts te es (.list ds) := fun σ B I H1 e Q q => h σ B I H1 e Q fun a xs H2 g n ha r => q _ H2 g (.lst (by rw [hid_out (fun z => e.trk a z n)]; exact ha) (r.mono (hid_sub fun b hb => List.mem_cons_of_mem _ hb)))
theorem en_lst {ta : TA} {ds : List PyData} (h : EA S Ts ta es ds) (hl : ds.length ≤ 100000) : EN S Ts (tLst ta) es ds := fun σ B I H1 e Q q =>
  h σ B I H1 e _ fun vs H2 g2 r2 => ⟨by rw [r2.len]; exact sz5 hl, fun p hp => q p vs _ (g2.trans (.new hp)) (g2.back hp) upd_same (by
    rw [hid_upd (show p ∈ (S.add p).ad from List.mem_cons_self)]
    exact r2.mono (fun b o hb => by
      obtain ⟨h1, h2⟩ := hid_some hb
      refine .inl ?_
      rw [hid_out fun z => (List.mem_cons.mp z).elim (fun q => by rw [q, hp] at h2; cases h2) h1]
      exact h2))⟩
/-- a list comprehension -/
theorem en_lc {α : Type} {wi : TI} {tt : TT} {vs : List Nat} {l : List α} {F : α → PyData} (f : α → PyData) (p : α → Bool) (h : EI S Ts wi es (l.map F))
    (hs : ∀ y ∈ l, ∃ es1, ∀ S', S'.fz = S.fz → (∀ σ H v, Inn Ts σ (hid S' H) (wipeE es vs) → Rp (hid S' H) v (F y) → ∀ Q : L2.St → Hp → Prop, (∀ σ', Inn Ts σ' (hid S' H) es1 → L2.wipe σ' vs = L2.wipe σ vs → Q σ' H) → g v σ H Q) ∧ ET S' Ts tt es1 (p y) ∧ (p y = true → EE S' Ts te es1 (f y)))
    (hl : l.length ≤ 100000) : EN S Ts (tLc wi g tt te vs) es ((l.filter p).map f) := fun σ B I H1 e Q q =>
  h σ B I H1 e _ fun J H2 g2 w' D hD => by
    have w := w' (S.add D) (Gr.refl _)
    have e2 := e.go g2
    have I2 : Inn Ts σ (hid S H2) es := (I.mono e.gr).mono (g2.hid S)
    have ed := e2.here.take (o := HO.lst []) hD
    refine ⟨fun i m H => m = l.length - i ∧ i ≤ l.length ∧ Gr H2 (hid ⟨[D], S.fz⟩ H) ∧ Ext (S.add D) (hid S H2) H ∧ ∃ xs, H D = some (.lst xs) ∧ Rps (hid (S.add D) H) xs (((l.take i).filter p).map f), ⟨l.length, rfl, Nat.zero_le _, ?_, ed, [], upd_same, by rw [List.take_zero]; exact .nil⟩, ?_⟩
    · intro b o hb
      exact .inl (by rw [hid_out (by simpa using ne_of_none hb hD), upd_ne (ne_of_none hb hD)]; exact hb)
    rintro i m H ⟨rfl, hi, gH, eH, xs, hxs, rx⟩
    by_cases hlt : i < l.length
    · have hlt' : i < (l.map F).length := by rw [List.length_map]; exact hlt
      refine .inr ⟨w.go i H eH hlt', fun H' => Gr H2 (hid ⟨[D], S.fz⟩ H') ∧ Ext (S.add D) (hid S H2) H' ∧ ∃ xs, H' D = some (.lst xs) ∧ Rps (hid (S.add D) H') xs (((l.take (i + 1)).filter p).map f), fun H' n' => ⟨l.length - (i + 1), by omega, rfl, hlt, n'⟩, fun x H' y => ?_⟩
      obtain ⟨d', e0, g3, r3⟩ := w.yld i H x H' eH hlt' y
      obtain ⟨d, e1, rfl⟩ : ∃ d, l[i]? = some d ∧ F d = d' := by
        rw [List.getElem?_map, List.getElem?_eq_getElem hlt] at e0
        exact ⟨_, List.getElem?_eq_getElem hlt, Option.some.inj e0⟩
      have hd : d ∈ l := List.mem_of_getElem? e1
      have et : l.take (i + 1) = l.take i ++ [d] := by rw [List.take_add_one, e1]; rfl
      obtain ⟨es1, hS⟩ := hs d hd
      obtain ⟨hg, ht, he⟩ := hS (S.add D) rfl
      have eH' := eH.go g3
      refine hg _ H' x ((I2.mono eH'.gr).wipe vs) r3 _ fun σ' I' wq => ⟨wq.trans (wipe_idem σ vs), ?_⟩
      refine ht σ' _ I' H' eH'.here _ fun H4 g4 => ?_
      have g34 := g3.trans g4
      cases hp : p d with
      | false =>
        rw [if_neg (by simp)]
        refine ⟨gH.trans (g34.hid _), eH'.go g4, xs, g34.lst hxs, ?_⟩
        rw [et, List.filter_append, List.filter_cons_of_neg (by simp [hp]), List.filter_nil, List.append_nil]
        exact rx.mono (g34.hid _)
      | true =>
        rw [if_pos rfl]
        refine he hp σ' _ I' H4 (eH'.here.go g4) _ fun v H5 g5 r5 => ?_
        have g35 := g34.trans g5
        have D5 : H5 D = some (.lst xs) := g35.lst hxs
        have hm : D ∈ (S.add D).ad := List.mem_cons_self
        have hz : (S.add D).fz D = none := e2.fr.back hD
        refine ⟨xs, D5, ?_, ?_, ((eH'.go g4).go g5).put hm hz, xs ++ [v], upd_same, ?_⟩
        · have h1 := rx.len
          have h2 : (((l.take i).filter p).map f).length ≤ l.length := by
            rw [List.length_map]
            exact Nat.le_trans (List.length_filter_le _ _) (by rw [List.length_take]; omega)
          exact Nat.lt_of_lt_of_le (show xs.length < 100001 by omega) (by decide)
        · rw [hid_upd (List.mem_singleton.mpr rfl)]
          exact gH.trans (g35.hid _)
        · rw [et, List.filter_append, List.filter_cons_of_pos hp, List.filter_nil, List.map_append, hid_upd hm]
          exact (rx.mono (g35.hid _)).app (.one r5)
    · have ei : i = l.length := by omega
      subst ei
      have hst := w.stop H eH
      rw [List.length_map] at hst
      refine .inl ⟨hst, ?_⟩
      rw [List.take_length] at rx
      exact q D xs H (g2.trans (gH.trans hid_le)) (g2.back hD) hxs rx
theorem ee_lcM {α : Type} {wi : TI} {tt : TT} {vs : List Nat} {l : List α} {F : α → PyData} {f : α → PyData} {p : α → Bool} (h : EI S Ts wi es (l.map F))
    (hs : ∀ y ∈ l, ∃ es1, ∀ S', S'.fz = S.fz → (∀ σ H v, Inn Ts σ (hid S' H) (wipeE es vs) → Rp (hid S' H) v (F y) → ∀ Q : L2.St → Hp → Prop, (∀ σ', Inn Ts σ' (hid S' H) es1 → L2.wipe σ' vs = L2.wipe σ vs → Q σ' H) → g v σ H Q) ∧ ET S' Ts tt es1 (p y) ∧ (p y = true → EE S' Ts te es1 (f y)))
    (hl : l.length ≤ 100000) : EE S Ts (tLc wi g tt te vs) es (.list ((l.filter p).map f)) := (en_lc f p h hs hl).ee
theorem ee_lc {wi : TI} {tt : TT} {vs : List Nat} {ys : List PyData} (f : PyData → PyData) (p : PyData → Bool) (h : EI S Ts wi es ys)
    (hs : ∀ y ∈ ys, ∃ es1, ∀ S', S'.fz = S.fz → (∀ σ H v, Inn Ts σ (hid S' H) (wipeE es vs) → Rp (hid S' H) v y → ∀ Q : L2.St → Hp → Prop, (∀ σ', Inn Ts σ' (hid S' H) es1 → L2.wipe σ' vs = L2.wipe σ vs → Q σ' H) → g v σ H Q) ∧ ET S' Ts tt es1 (p y) ∧ (p y = true → EE S' Ts te es1 (f y)))
    (hl : ys.length ≤ 100000) : EE S Ts (tLc wi g tt te vs) es (.list ((ys.filter p).map f)) := ee_lcM (F := id) (by rw [List.map_id]; exact h) hs hl
theorem tt_yes : ET S Ts tYes es true := fun σ B I H1 e Q q => q H1 (Gr.refl _)
/-- the target a name, a pair of names -/
theorem lc_name {i : Nat} {vs : List Nat} {S' : Hs} {es0 es1 : Es} {y : PyData} (hi : i ∈ vs) (he : es0.set i (some y) = es1) : ∀ σ H v, Inn Ts σ (hid S' H) es0 → Rp (hid S' H) v y → ∀ Q : L2.St → Hp → Prop, (∀ σ', Inn Ts σ' (hid S' H) es1 → L2.wipe σ' vs = L2.wipe σ vs → Q σ' H) → gName i v σ H Q := by
  intro σ H v I r Q q
  subst he
  exact q _ (I.set r i) (wipe_set _ _ hi _)
theorem lc_pair {i j : Nat} {vs : List Nat} {S' : Hs} {es0 es1 : Es} {a b : PyData} (hi : i ∈ vs) (hj : j ∈ vs) (he : (es0.set i (some a)).set j (some b) = es1) : ∀ σ H v, Inn Ts σ (hid S' H) es0 → Rp (hid S' H) v (.tuple [a, b]) → ∀ Q : L2.St → Hp → Prop, (∀ σ', Inn Ts σ' (hid S' H) es1 → L2.wipe σ' vs = L2.wipe σ vs → Q σ' H) →
    gTup K 2 (gCons (gName i) (gCons (gName j) gNil)) v σ H Q := by
  intro σ H v I r Q q
  subst he
  cases r with
  | tup ha rs =>
    cases rs with
    | cons r1 rs =>
      cases rs with
      | cons r2 rs =>
        cases rs
        refine ⟨_, _, rfl, .inl (.inl (hid_some ha).2), rfl, _, _, rfl, _, _, rfl, rfl, q _ ((I.set r1 i).set r2 j) ?_⟩
        rw [wipe_set _ _ hj, wipe_set _ _ hi]
end

/-! ### generator expressions -/
section
variable {S : Hs} {Ts : Ks} {es : Es} {te : TE} {wi : TI} {caps : List Nat} {ys : List PyData} {P : Addr}
/-- the frame's data: the walked one, the taken ones -/
def capE (es : Es) (caps : List Nat) : Es := caps.map fun i => (es[i]?).join
theorem Inn.capd {σ : L2.St} {B : Hp} (h : Inn Ts σ B es) {v : V} {d : PyData} (r : Rp B v d) : Inn Ts (some v :: GX.tl σ caps) B (some d :: capE es caps) := by
  refine ⟨by simp [GX.tl, capE], fun i e q => ?_, h.tbs⟩
  cases i with
  | zero =>
    have q' : some d = some e := by simpa using q
    cases q'
    exact ⟨v, rfl, r⟩
  | succ j =>
    have q' : (capE es caps)[j]? = some (some e) := by simpa using q
    unfold capE at q'
    rw [List.getElem?_map] at q'
    cases hc : caps[j]? with
    | none => rw [hc] at q'; cases q'
    | some i =>
      rw [hc] at q'
      have q2 : (es[i]?).join = some e := Option.some.inj q'
      have q3 : es[i]? = some (some e) := by
        cases z : es[i]? with
        | none => rw [z] at q2; cases q2
        | some o => rw [z] at q2; exact congrArg some q2
      obtain ⟨u, e1, r1⟩ := h.get i e q3
      refine ⟨u, ?_, r1⟩
      show (GX.tl σ caps)[j]? = _
      unfold GX.tl
      rw [List.getElem?_map, hc]
      show some (σ[i]?).join = _
      rw [e1]; rfl
theorem gen_walk (I : ∀ σ B, Inn Ts σ B es → True) {σ : L2.St} {H2 : Hp} {J : It} {val : Nat → V} {dv : Nat → PyData} (tk : (∀ b ∈ S.ad, H2 b ≠ none) ∧ Gr S.fz H2) (In : Inn Ts σ (hid S H2) es) (w : WalkD S J ys (hid S H2))
    (he : ∀ i y, ys[i]? = some y → EE S Ts te (some y :: capE es caps) (dv i)) (hv : ∀ i v H, Rp H v (dv i) → v = val i) :
    GX.gWalk J te (GX.tl σ caps) H2 ys.length val (fun _ H => Gr H2 H) := by
  have ex : ∀ H, Gr H2 H → Ext S (hid S H2) H := fun H g => ⟨g.hid S, tk.2.trans g, (trkG tk g).1⟩
  refine ⟨Gr.refl _, fun i H hi g => w.go i H (ex H g) hi, fun H g => w.stop H (ex H g), fun i H y H' hi g yy => ?_⟩
  obtain ⟨d, e1, g3, r3⟩ := w.yld i H y H' (ex H g) hi yy
  have eH' := (ex H g).go g3
  exact he i d e1 _ _ ((In.mono eH'.gr).capd r3) H' eH'.here _ fun v H3 g4 r4 => ⟨hv i v _ r4, (g.trans g3).trans g4⟩
def gB (f : PyData → Bool) (ys : List PyData) (i : Nat) : Bool := match ys[i]? with | some y => f y | none => false
def gI (f : PyData → Int) (ys : List PyData) (i : Nat) : Int := match ys[i]? with | some y => f y | none => 0
theorem gB_at {f : PyData → Bool} {ys : List PyData} {i : Nat} (h : i < ys.length) : gB f ys i = f ys[i] := by
  unfold gB
  rw [List.getElem?_eq_getElem h]
theorem gI_at {f : PyData → Int} {ys : List PyData} {i : Nat} (h : i < ys.length) : gI f ys i = f ys[i] := by
  unfold gI
  rw [List.getElem?_eq_getElem h]
theorem ee_all (f : PyData → Bool) (hP : P ∈ Ts.ts) (h : EI S Ts wi es ys) (he : ∀ y ∈ ys, EE S Ts te (some y :: capE es caps) (.bool (f y))) : EE S Ts (GX.tAllG P wi te caps) es (.bool (ys.all f)) := fun σ B I H1 e Q q =>
  h σ B I H1 e _ fun J H2 g2 w => by
    have e2 := e.go g2
    have t2 : TabG H2 P := hid_le.tab (e2.gr.tab (I.tbs.ts P hP))
    refine ⟨t2, fun H3 t3 => ?_⟩
    have g3 : Gr H2 H3 := .tabbed t2 t3
    have e3 := e2.go g3
    refine ⟨ys.length, gB f ys, fun _ H => Gr H3 H, gen_walk (dv := fun i => .bool (gB f ys i)) (fun _ _ _ => trivial) ⟨e3.trk, e3.fr⟩ (I.mono e3.gr) ((w S (Gr.refl _)).at (g3.hid S)) (fun i y hy => ?_) (fun i v H r => by cases r; rfl), fun j H hj g => ?_⟩
    · simp only [gB, gI, hy]
      exact he y (List.mem_of_getElem? hy)
    · have : (List.range ys.length).all (gB f ys) = ys.all f := by
        rw [Bool.eq_iff_iff, List.all_eq_true, List.all_eq_true]
        constructor
        · intro h y hy
          obtain ⟨i, hi, e⟩ := List.getElem_of_mem hy
          have := h i (List.mem_range.mpr hi)
          rw [gB_at hi, e] at this
          exact this
        · intro h i hi
          rw [gB_at (List.mem_range.mp hi)]
          exact h _ (List.getElem_mem _)
      rw [this]
      exact q _ H ((g2.trans g3).trans g) (.bl _)
theorem ee_any (f : PyData → Bool) (hP : P ∈ Ts.ts) (h : EI S Ts wi es ys) (he : ∀ y ∈ ys, EE S Ts te (some y :: capE es caps) (.bool (f y))) : EE S Ts (GX.tAnyG P wi te caps) es (.bool (ys.any f)) := fun σ B I H1 e Q q =>
  h σ B I H1 e _ fun J H2 g2 w => by
    have e2 := e.go g2
    have t2 : TabG H2 P := hid_le.tab (e2.gr.tab (I.tbs.ts P hP))
    refine ⟨t2, fun H3 t3 => ?_⟩
    have g3 : Gr H2 H3 := .tabbed t2 t3
    have e3 := e2.go g3
    refine ⟨ys.length, gB f ys, fun _ H => Gr H3 H, gen_walk (dv := fun i => .bool (gB f ys i)) (fun _ _ _ => trivial) ⟨e3.trk, e3.fr⟩ (I.mono e3.gr) ((w S (Gr.refl _)).at (g3.hid S)) (fun i y hy => ?_) (fun i v H r => by cases r; rfl), fun j H hj g => ?_⟩
    · simp only [gB, gI, hy]
      exact he y (List.mem_of_getElem? hy)
    · have : (List.range ys.length).any (gB f ys) = ys.any f := by
        rw [Bool.eq_iff_iff, List.any_eq_true, List.any_eq_true]
        constructor
        · rintro ⟨i, hi, h⟩
          rw [gB_at (List.mem_range.mp hi)] at h
          exact ⟨_, List.getElem_mem _, h⟩
        · rintro ⟨y, hy, h⟩
          obtain ⟨i, hi, e⟩ := List.getElem_of_mem hy
          exact ⟨i, List.mem_range.mpr hi, by rw [gB_at hi, e]; exact h⟩
      rw [this]
      exact q _ H ((g2.trans g3).trans g) (.bl _)
theorem preSum_map (f : Nat → Int) : ∀ n, preSum f n = ((List.range n).map f).sum
  | 0 => rfl
  | n + 1 => by
    rw [List.range_succ, List.map_append, List.sum_append, List.map_singleton, List.sum_singleton, ← preSum_map f n]
    rfl
theorem ee_sum (f : PyData → Int) (hP : P ∈ Ts.ts) (h : EI S Ts wi es ys) (he : ∀ y ∈ ys, EE S Ts te (some y :: capE es caps) (.int (f y))) (hb : ∀ y ∈ ys, 0 ≤ f y ∧ f y ≤ 1000000) (hl : ys.length ≤ 100) : EE S Ts (GX.tSumG P wi te caps) es (.int (ys.map f).sum) := fun σ B I H1 e Q q =>
  h σ B I H1 e _ fun J H2 g2 w => by
    have e2 := e.go g2
    have t2 : TabG H2 P := hid_le.tab (e2.gr.tab (I.tbs.ts P hP))
    refine ⟨t2, fun H3 t3 => ?_⟩
    have g3 : Gr H2 H3 := .tabbed t2 t3
    have e3 := e2.go g3
    have bd : ∀ i, 0 ≤ gI f ys i ∧ gI f ys i ≤ 1000000 := fun i => by
      unfold gI
      cases q : ys[i]? with
      | none => simp
      | some y => exact hb y (List.mem_of_getElem? q)
    have pre : ∀ j, 0 ≤ preSum (gI f ys) j ∧ preSum (gI f ys) j ≤ (j : Int) * 1000000 := by
      intro j
      induction j with
      | zero => exact ⟨Int.le_refl _, by show (0 : Int) ≤ _; omega⟩
      | succ j ih =>
        have := bd j
        show 0 ≤ preSum _ j + _ ∧ preSum _ j + _ ≤ _
        constructor
        · omega
        · push_cast; omega
    refine ⟨ys.length, gI f ys, fun _ H => Gr H3 H, gen_walk (dv := fun i => .int (gI f ys i)) (fun _ _ _ => trivial) ⟨e3.trk, e3.fr⟩ (I.mono e3.gr) ((w S (Gr.refl _)).at (g3.hid S)) (fun i y hy => ?_) (fun i v H r => by cases r; rfl), fun j hj => ?_, fun j H hj g => ?_⟩
    · simp only [gB, gI, hy]
      exact he y (List.mem_of_getElem? hy)
    · have h1 := bd j
      have h2 := pre (j + 1)
      unfold InLong
      constructor <;> constructor <;> omega
    · have : preSum (gI f ys) ys.length = (ys.map f).sum := by
        rw [preSum_map]
        have e1 : (List.range ys.length).map (gI f ys) = ys.map f := by
          apply List.ext_getElem
          · simp
          · intro i h1 h2
            simp only [List.getElem_map, List.getElem_range]
            exact gI_at (by simpa using h2)
        rw [e1]
      rw [this]
      exact q _ H ((g2.trans g3).trans g) (.int _)
end
end KV
set_option Elab.async false
set_option linter.all false
set_option maxRecDepth 100000
set_option maxHeartbeats 4000000
/-! Operations and calls on data, one reading for each place of the text; what is owned. -/
namespace KV
open PySem PySem.Spec PyProof.Rows L2 GxR KO
open PySem.W (alike dataLt dataLe AllAlike AlikeAll minD kitOne kitAny)
abbrev orR (r r' : R2) : R2 := fun x y H Q => r x y H Q ∨ r' x y H Q
abbrev orC (r r' : List V → Hp → VK → Prop) : List V → Hp → VK → Prop := fun xs H Q => r xs H Q ∨ r' xs H Q
def uAdd (K : PySem.W.Frag) : R2 := orR (rI0 fun i j => .int (i + j)) (orR rCat (rCatA K))
def uMul (K : PySem.W.Frag) : R2 := orR (rI CMulW fun i j => .int (i * j)) (orR rRep (orR (rRepT K) (rOneT K)))
def uFdv : R2 := orR (rI CDivW fun i j => .int (i / j)) (rI CDivN fun i j => .int (i.fdiv j))
def uSub : R2 := rI0 fun i j => .int (i - j)
def uMod : R2 := rI (fun _ j => 0 < j) fun i j => .int (i % j)
def uPow : R2 := rI CPow fun i j => .int (i ^ j.toNat)
def uLt : R2 := rI0 fun i j => .bl (decide (i < j))
def uLe : R2 := rI0 fun i j => .bl (decide (i ≤ j))
def uGt : R2 := rI0 fun i j => .bl (decide (j < i))
def uNeg : V → Hp → VK → Prop := rU fun i => .int (-i)
def uIsN : R2 := fun x y H Q => y = .non ∧ Q (.bl (decide (x = .non))) H
def uGe (K : PySem.W.Frag) : R2 := orR (rI0 fun i j => .bl (decide (j ≤ i))) (rGeP K)
def uSl (K : PySem.W.Frag) : V → Option Int → Option Int → Hp → VK → Prop := fun x lo hi H Q => rSlA K x lo hi H Q ∨ rSlL K x lo hi H Q
def uLen (K : PySem.W.Frag) : List V → Hp → VK → Prop := fun xs H Q => ∃ p ys, xs = [.ref p] ∧ (SqL K H p ys ∨ SqT K H p ys) ∧ Q (.int ys.length) H
def uLst (K : PySem.W.Frag) : List V → Hp → VK → Prop := fun xs H Q => ∃ p ys, xs = [.ref p] ∧ (SqL K H p ys ∨ SqT K H p ys) ∧ ∀ l, H l = none → Q (.ref l) (upd H l (.lst ys))
def uTup (K : PySem.W.Frag) : List V → Hp → VK → Prop := fun xs H Q => ∃ p ys, xs = [.ref p] ∧ ((SqL K H p ys ∧ ∀ l, H l = none → Q (.ref l) (upd H l (.tup ys))) ∨ (SqT K H p ys ∧ Q (.ref p) H))
def uAbs : List V → Hp → VK → Prop := fun xs H Q => ∃ i, xs = [.int i] ∧ Q (.int (if i < 0 then -i else i)) H
def uInt : List V → Hp → VK → Prop := fun xs H Q => (∃ i, xs = [.int i] ∧ Q (.int i) H) ∨ ∃ k, xs = [.bl k] ∧ Q (.int (if k then 1 else 0)) H
def rMin2 : List V → Hp → VK → Prop := fun xs H Q => ∃ i j, xs = [.int i, .int j] ∧ Q (.int (if j < i then j else i)) H
def uMax : List V → Hp → VK → Prop := fun xs H Q => ∃ i j, xs = [.int i, .int j] ∧ Q (.int (if j > i then j else i)) H
def uMin (K : PySem.W.Frag) : List V → Hp → VK → Prop := orC rMin2 (orC (rMin K) (rMinP K))
def rSrtD : List V → Hp → VK → Prop := fun xs H Q => ∃ (a : Addr) (kvs : List (Key × V)) (ks : List Int), xs = [.ref a] ∧ Rd H a (.dK kvs) ∧ kvs.map (·.1) = ks.map Sum.inl ∧ ks.length < 64 ∧
    ∀ (ys : List Int) (p : Addr), ys.Perm ks → ys.Pairwise (· ≤ ·) → H p = none → Q (.ref p) (upd H p (.lst (ys.map V.int)))
def uSrt (K : PySem.W.Frag) (w : World) : List V → Hp → VK → Prop := orC (rSortP K) (orC (rSortedSet w) rSrtD)
def uIsi (K : PySem.W.Frag) : List V → Hp → VK → Prop := orC (rIsi K) (rIsiT K)
section
variable {X : Cx}
theorem op_uAdd : OpR X (binaryOp .Add) (uAdd X.K) := op_add.or (op_cat.or op_catA)
theorem op_uMul : OpR X (binaryOp .Mult) (uMul X.K) := op_mulW.or (op_rep.or (op_repT.or op_oneT))
theorem op_uFdv : OpR X (binaryOp .FloorDiv) uFdv := op_fdivW.or op_fdivN
theorem op_uGe (hu : X.A.units + 64 < cLine) : OpR X (compareOp .GtE) (uGe X.K) := op_ge.or (op_geP hu)
theorem op_uSub : OpR X (binaryOp .Sub) uSub := op_sub
theorem op_uMod : OpR X (binaryOp .Mod) uMod := op_mod
theorem op_uPow : OpR X (binaryOp .Pow) uPow := op_pow
theorem op_uLt : OpR X (compareOp .Lt) uLt := op_lt
theorem op_uLe : OpR X (compareOp .LtE) uLe := op_le
theorem op_uGt : OpR X (compareOp .Gt) uGt := op_gt
theorem un_uNeg : UnR X (unaryOp .USub) uNeg := un_neg
theorem op_uIsN : OpR X (compareOp .Is) uIsN := op_isN
theorem sl_u : SlR X (uSl X.K) := sl_tupA.or sl_list
theorem call_uLen : CallR X (.builtin "len") (uLen X.K) := call_len_seq
theorem call_uLst : CallR X (.type "list") (uLst X.K) := call_list_of
theorem call_uTup : CallR X (.type "tuple") (uTup X.K) := call_tuple_of
theorem call_uAbs : CallR X (.builtin "abs") uAbs := call_abs
theorem call_uInt : CallR X (.type "int") uInt := call_int1
theorem call_uMax (hc : X.calm = true) : CallR X (.builtin "max") uMax := call_max2 hc
theorem call_uMin (hc : X.calm = true) (hu : X.A.units + 80 < cLine) : CallR X (.builtin "min") (uMin X.K) := CallR.or (call_min2 hc) (CallR.or (cr_min hc) (cr_minP hc hu))
theorem call_uSrt (hc : X.calm = true) (hu : X.A.units + 80 < cLine) : CallR X (.builtin "sorted") (uSrt X.K X.w) := CallR.or (cr_sortP hu) (CallR.or (cr_sortedSet hc) (call_sortedDI hc))
theorem call_uIsi : CallR X (.builtin "isinstance") (uIsi X.K) := CallR.or call_isi call_isiT
theorem Room.u65 {k : Nat} {A : Around} (r : Room k A) : A.units + 65 < cLine := by have := r.un; omega
theorem Room.u1 {k : Nat} {A : Around} (r : Room k A) : A.units + 1 < cLine := by have := r.un; omega
theorem Room.u80 {k : Nat} {A : Around} (r : Room k A) : A.units + 80 < cLine := by have := r.un; omega
end

/-! ### operations on data -/
section
variable {S : Hs} {Ts : Ks} {K : PySem.W.Frag} {B : Hp} {es : Es} {x y z d : PyData} {te ta tb : TE} {tl th : TO} {xs ys ds : List PyData} {i j : Int}
theorem rv_addI : RV S (uAdd K) (.int i) (.int j) B (.int (i + j)) := rv_orL (rv_I0i (g := fun i j => i + j))
theorem rv_addL (h : xs.length + ys.length ≤ 100000) : RV S (uAdd K) (.list xs) (.list ys) B (.list (xs ++ ys)) := fun v u H1 e r1 r2 Q q => by
  cases r1 with
  | lst ha rs =>
    cases r2 with
    | lst hb rs' => exact .inr (.inl ⟨_, _, _, _, rfl, rfl, (hid_some ha).2, (hid_some hb).2, by rw [rs.len, rs'.len]; exact sz5 h, fun p hp => q _ _ (.new hp) (.lst (e.isNew hp) ((rs.app rs').mono ((Gr.new hp).hid S)))⟩)
theorem rv_addT (h : xs.length + ys.length ≤ 100000) : RV S (uAdd K) (.tuple xs) (.tuple ys) B (.tuple (xs ++ ys)) := fun v u H1 e r1 r2 Q q => by
  cases r1 with
  | tup ha rs =>
    cases r2 with
    | tup hb rs' =>
      refine .inr (.inr ⟨_, _, _, _, rfl, rfl, .inl (.inl (hid_some ha).2), .inl (.inl (hid_some hb).2), by rw [rs.len, rs'.len]; exact sz5 h, fun e1 => ?_, fun _ e2 => ?_, fun _ _ p hp => q _ _ (.new hp) (.tup (e.isNew hp) ((rs.app rs').mono ((Gr.new hp).hid S)))⟩)
      · subst e1
        cases rs
        exact q _ H1 (Gr.refl _) (.tup hb rs')
      · subst e2
        cases rs'
        rw [List.append_nil] at q
        exact q _ H1 (Gr.refl _) (.tup ha rs)
theorem rv_sub : RV S uSub (.int i) (.int j) B (.int (i - j)) := rv_I0i (g := fun i j => i - j)
theorem rv_mod (h : 0 < j) : RV S uMod (.int i) (.int j) B (.int (i % j)) := rv_Ii (g := fun i j => i % j) h
theorem rv_pow (h : CPow i j) : RV S uPow (.int i) (.int j) B (.int (i ^ j.toNat)) := rv_Ii (g := fun i j => i ^ j.toNat) h
theorem rv_lt : RV S uLt (.int i) (.int j) B (.bool (decide (i < j))) := rv_I0b (g := fun i j => decide (i < j))
theorem rv_le : RV S uLe (.int i) (.int j) B (.bool (decide (i ≤ j))) := rv_I0b (g := fun i j => decide (i ≤ j))
theorem rv_gt : RV S uGt (.int i) (.int j) B (.bool (decide (j < i))) := rv_I0b (g := fun i j => decide (j < i))
theorem rv_mulI (h : CMulW i j) : RV S (uMul K) (.int i) (.int j) B (.int (i * j)) := rv_orL (rv_Ii (g := fun i j => i * j) h)
theorem rv_mulL (h0 : 0 ≤ j) (h1 : j ≤ 1000) (h : xs.length ≤ 100) : RV S (uMul K) (.list xs) (.int j) B (.list (List.replicate j.toNat xs).flatten) := fun v u H1 e r1 r2 Q q => by
  cases r2
  cases r1 with
  | lst ha rs =>
    refine .inr (.inl ⟨_, _, _, rfl, rfl, (hid_some ha).2, by omega, by omega, ?_, fun p hp => q _ _ (.new hp) (.lst (e.isNew hp) ((rs.rep _).mono ((Gr.new hp).hid S)))⟩)
    have := rs.len
    exact sz5 (Nat.le_trans (Nat.mul_le_mul (show _ ≤ 100 by omega) (show j.toNat ≤ 1000 by omega)) (by decide))
theorem rv_mulT (h0 : 1 ≤ j) (h1 : j ≤ 1000) (h : xs.length ≤ 1000) (hne : xs ≠ []) : RV S (uMul K) (.tuple xs) (.int j) B (.tuple (List.replicate j.toNat xs).flatten) := fun v u H1 e r1 r2 Q q => by
  cases r2
  cases r1 with
  | tup ha rs =>
    have hl := rs.len
    by_cases hj : j = 1
    · subst hj
      refine .inr (.inr (.inr ⟨_, _, rfl, rfl, .inl (.inl (hid_some ha).2), q _ H1 (Gr.refl _) (.tup ha ?_)⟩))
      have : (List.replicate (1 : Int).toNat xs).flatten = xs := by simp
      rw [this]
      exact rs
    · refine .inr (.inr (.inl ⟨_, _, _, rfl, rfl, .inl (.inl (hid_some ha).2), fun z => ?_, by omega, h1, by omega, fun p hp => q _ _ (.new hp) (.tup (e.isNew hp) ((rs.rep _).mono ((Gr.new hp).hid S)))⟩))
      rw [z] at hl
      exact hne (List.eq_nil_of_length_eq_zero hl.symm)
theorem rv_fdvP (h : CDivW i j) : RV S uFdv (.int i) (.int j) B (.int (i / j)) := rv_orL (rv_Ii (g := fun i j => i / j) h)
theorem rv_fdvN (h : CDivN i j) : RV S uFdv (.int i) (.int j) B (.int (i.fdiv j)) := rv_orR (rv_Ii (g := fun i j => i.fdiv j) h)
theorem rv_geI : RV S (uGe K) (.int i) (.int j) B (.bool (decide (j ≤ i))) := rv_orL (rv_I0b (g := fun i j => decide (j ≤ i)))
theorem rv_geD (ha : alike x y = true) (hn : x ≠ .none) (hx : x.plain = true) (hy : y.plain = true) (hd : x.depth ≤ 60) : RV S (uGe K) x y B (.bool (!dataLt x y)) := fun v u H1 _ r1 r2 Q q =>
  .inr ⟨x, y, (r1.mono hid_le).dp hx, (r2.mono hid_le).dp hy, ha, hn, hd, q _ H1 (Gr.refl _) (.bl _)⟩
theorem rv_eq (hx : x.plain = true) (hy : y.plain = true) (hd : min x.depth y.depth ≤ 60) : RV S (rEqP K) x y B (.bool (PyData.eqv x y)) := fun v u H1 _ r1 r2 Q q =>
  ⟨x, y, (r1.mono hid_le).dp hx, (r2.mono hid_le).dp hy, hx, hy, hd, q _ H1 (Gr.refl _) (.bl _)⟩
theorem rv_ne (hx : x.plain = true) (hy : y.plain = true) (hd : min x.depth y.depth ≤ 60) : RV S (rNeP K) x y B (.bool (!PyData.eqv x y)) := fun v u H1 _ r1 r2 Q q =>
  ⟨x, y, (r1.mono hid_le).dp hx, (r2.mono hid_le).dp hy, hx, hy, hd, q _ H1 (Gr.refl _) (.bl _)⟩
theorem rv_eqI : RV S (rEqP K) (.int i) (.int j) B (.bool (decide (i = j))) := by
  have := rv_eq (S := S) (K := K) (B := B) (x := .int i) (y := .int j) rfl rfl (Nat.zero_le _)
  rwa [show PyData.eqv (.int i) (.int j) = decide (i = j) by rw [PyData.eqv]; exact Bool.beq_eq_decide_eq i j] at this
theorem rv_neI : RV S (rNeP K) (.int i) (.int j) B (.bool (!decide (i = j))) := by
  have := rv_ne (S := S) (K := K) (B := B) (x := .int i) (y := .int j) rfl rfl (Nat.zero_le _)
  rwa [show PyData.eqv (.int i) (.int j) = decide (i = j) by rw [PyData.eqv]; exact Bool.beq_eq_decide_eq i j] at this
theorem rv_inL (hx : x.plain = true) (hy : PyData.plainAll ys = true) (hd : x.depth ≤ 60) : RV S (rInP K) x (.list ys) B (.bool (ys.any fun z => PyData.eqv z x)) := fun v u H1 _ r1 r2 Q q =>
  ⟨x, ys, (r1.mono hid_le).dp hx, .inl ((r2.mono hid_le).dp (by rw [PyData.plain]; exact hy)), hx, hy, hd, q _ H1 (Gr.refl _) (.bl _)⟩
theorem rv_inT (hx : x.plain = true) (hy : PyData.plainAll ys = true) (hd : x.depth ≤ 60) : RV S (rInP K) x (.tuple ys) B (.bool (ys.any fun z => PyData.eqv z x)) := fun v u H1 _ r1 r2 Q q =>
  ⟨x, ys, (r1.mono hid_le).dp hx, .inr ((r2.mono hid_le).dp (by rw [PyData.plain]; exact hy)), hx, hy, hd, q _ H1 (Gr.refl _) (.bl _)⟩
theorem rv_niL (hx : x.plain = true) (hy : PyData.plainAll ys = true) (hd : x.depth ≤ 60) : RV S (rNiP K) x (.list ys) B (.bool (!ys.any fun z => PyData.eqv z x)) := fun v u H1 _ r1 r2 Q q =>
  ⟨x, ys, (r1.mono hid_le).dp hx, .inl ((r2.mono hid_le).dp (by rw [PyData.plain]; exact hy)), hx, hy, hd, q _ H1 (Gr.refl _) (.bl _)⟩
theorem rv_niT (hx : x.plain = true) (hy : PyData.plainAll ys = true) (hd : x.depth ≤ 60) : RV S (rNiP K) x (.tuple ys) B (.bool (!ys.any fun z => PyData.eqv z x)) := fun v u H1 _ r1 r2 Q q =>
  ⟨x, ys, (r1.mono hid_le).dp hx, .inr ((r2.mono hid_le).dp (by rw [PyData.plain]; exact hy)), hx, hy, hd, q _ H1 (Gr.refl _) (.bl _)⟩
theorem rv_isY : RV S uIsN .none .none B (.bool true) := fun v u H1 _ r1 r2 Q q => by
  cases r1; cases r2
  exact ⟨rfl, q _ H1 (Gr.refl _) (.bl true)⟩
theorem rv_isX (hx : x ≠ .none) : RV S uIsN x .none B (.bool false) := fun v u H1 _ r1 r2 Q q => by
  cases r2
  have : decide (v = V.non) = false := decide_eq_false fun e => by subst e; cases r1; exact hx rfl
  exact ⟨rfl, by rw [this]; exact q _ H1 (Gr.refl _) (.bl false)⟩
theorem ru_neg : RU S uNeg (.int i) B (.int (-i)) := fun v H1 _ r1 Q q => by
  cases r1
  exact ⟨i, rfl, q _ H1 (Gr.refl _) (.int _)⟩
/-- xs[lo:hi] -/
def cutD (xs : List PyData) (lo hi : Option Int) : List PyData := (xs.drop (HT.sIx xs.length 0 lo)).take (HT.sIx xs.length xs.length hi - HT.sIx xs.length 0 lo)
theorem rps_cut {H : Hp} {vs : List V} (r : Rps H vs xs) (lo hi : Option Int) : Rps H (cutV vs lo hi) (cutD xs lo hi) := by
  unfold cutV cutD
  rw [r.len]
  exact (r.drop _).take _
theorem ee_slT {lo hi : Option Int} (h : EE S Ts te es (.tuple xs)) (h1 : EO S Ts tl es lo) (h2 : EO S Ts th es hi) : EE S Ts (tSl (uSl K) te tl th) es (.tuple (cutD xs lo hi)) := fun σ B I H1 e Q q =>
  h σ B I H1 e _ fun v H2 g2 r => h1 σ B I H2 (e.go g2) _ fun H3 g3 => h2 σ B I H3 ((e.go g2).go g3) _ fun H4 g4 => by
    have e4 := ((e.go g2).go g3).go g4
    have r4 := r.mono ((g3.trans g4).hid S)
    cases r4 with
    | tup ha rs =>
      refine .inl ⟨_, _, rfl, .inl (.inl (hid_some ha).2), fun hw => ?_, fun _ p hp => q _ _ ((g2.trans (g3.trans g4)).trans (.new hp)) (.tup (e4.isNew hp) ((rps_cut rs lo hi).mono ((Gr.new hp).hid S)))⟩
      refine q _ _ (g2.trans (g3.trans g4)) ?_
      have : cutD xs lo hi = xs := by
        unfold cutD
        rw [rs.len] at hw
        rw [hw.1, hw.2]
        simp
      rw [this]
      exact .tup ha rs
theorem ee_slL {lo hi : Option Int} (h : EE S Ts te es (.list xs)) (h1 : EO S Ts tl es lo) (h2 : EO S Ts th es hi) : EE S Ts (tSl (uSl K) te tl th) es (.list (cutD xs lo hi)) := fun σ B I H1 e Q q =>
  h σ B I H1 e _ fun v H2 g2 r => h1 σ B I H2 (e.go g2) _ fun H3 g3 => h2 σ B I H3 ((e.go g2).go g3) _ fun H4 g4 => by
    have e4 := ((e.go g2).go g3).go g4
    have r4 := r.mono ((g3.trans g4).hid S)
    cases r4 with
    | lst ha rs => exact .inr ⟨_, _, rfl, .inl (.inl (hid_some ha).2), fun p hp => q _ _ ((g2.trans (g3.trans g4)).trans (.new hp)) (.lst (e4.isNew hp) ((rps_cut rs lo hi).mono ((Gr.new hp).hid S)))⟩
theorem ee_revT (h : EE S Ts te es (.tuple xs)) : EE S Ts (tRevT K te) es (.tuple xs.reverse) := fun σ B I H1 e Q q =>
  h σ B I H1 e _ fun v H2 g2 r => by
    cases r with
    | tup ha rs => exact ⟨_, _, rfl, .inl (.inl (hid_some ha).2), fun p hp => q _ _ (g2.trans (.new hp)) (.tup ((e.go g2).isNew hp) (rs.rev.mono ((Gr.new hp).hid S)))⟩

/-! ### calls -/
theorem rc_lenL : RC S (uLen K) [.list xs] B (.int xs.length) := fun vs H1 e r Q q => by
  cases r with
  | cons r r0 =>
    cases r0
    cases r with
    | lst ha rs => exact ⟨_, _, rfl, .inl (.inl (.inl (hid_some ha).2)), by rw [rs.len]; exact q _ H1 (Gr.refl _) (.int _)⟩
theorem rc_lenT : RC S (uLen K) [.tuple xs] B (.int xs.length) := fun vs H1 e r Q q => by
  cases r with
  | cons r r0 =>
    cases r0
    cases r with
    | tup ha rs => exact ⟨_, _, rfl, .inr (.inl (.inl (hid_some ha).2)), by rw [rs.len]; exact q _ H1 (Gr.refl _) (.int _)⟩
theorem rc_lstL : RC S (uLst K) [.list xs] B (.list xs) := fun vs H1 e r Q q => by
  cases r with
  | cons r r0 =>
    cases r0
    cases r with
    | lst ha rs => exact ⟨_, _, rfl, .inl (.inl (.inl (hid_some ha).2)), fun p hp => q _ _ (.new hp) (.lst (e.isNew hp) (rs.mono ((Gr.new hp).hid S)))⟩
theorem rc_lstT : RC S (uLst K) [.tuple xs] B (.list xs) := fun vs H1 e r Q q => by
  cases r with
  | cons r r0 =>
    cases r0
    cases r with
    | tup ha rs => exact ⟨_, _, rfl, .inr (.inl (.inl (hid_some ha).2)), fun p hp => q _ _ (.new hp) (.lst (e.isNew hp) (rs.mono ((Gr.new hp).hid S)))⟩
theorem rc_tupL : RC S (uTup K) [.list xs] B (.tuple xs) := fun vs H1 e r Q q => by
  cases r with
  | cons r r0 =>
    cases r0
    cases r with
    | lst ha rs => exact ⟨_, _, rfl, .inl ⟨.inl (.inl (hid_some ha).2), fun p hp => q _ _ (.new hp) (.tup (e.isNew hp) (rs.mono ((Gr.new hp).hid S)))⟩⟩
theorem rc_abs : RC S uAbs [.int i] B (.int (if i < 0 then -i else i)) := fun vs H1 e r Q q => by
  cases r with
  | cons r r0 => cases r0; cases r; exact ⟨i, rfl, q _ H1 (Gr.refl _) (.int _)⟩
theorem rc_int : RC S uInt [.int i] B (.int i) := fun vs H1 e r Q q => by
  cases r with
  | cons r r0 => cases r0; cases r; exact .inl ⟨i, rfl, q _ H1 (Gr.refl _) (.int _)⟩
theorem rc_intB {b : Bool} : RC S uInt [.bool b] B (.int (if b then 1 else 0)) := fun vs H1 e r Q q => by
  cases r with
  | cons r r0 => cases r0; cases r; exact .inr ⟨b, rfl, q _ H1 (Gr.refl _) (.int _)⟩
theorem rc_min2 : RC S (uMin K) [.int i, .int j] B (.int (if j < i then j else i)) := fun vs H1 e r Q q => by
  cases r with
  | cons r r0 =>
    cases r0 with
    | cons r' r1 => cases r1; cases r; cases r'; exact .inl ⟨i, j, rfl, q _ H1 (Gr.refl _) (.int _)⟩
theorem rc_max2 : RC S uMax [.int i, .int j] B (.int (if j > i then j else i)) := fun vs H1 e r Q q => by
  cases r with
  | cons r r0 =>
    cases r0 with
    | cons r' r1 => cases r1; cases r; cases r'; exact ⟨i, j, rfl, q _ H1 (Gr.refl _) (.int _)⟩
theorem rc_gcd : RC S rGcd [.int i, .int j] B (.int ((Nat.gcd i.natAbs j.natAbs : Nat) : Int)) := fun vs H1 e r Q q => by
  cases r with
  | cons r r0 =>
    cases r0 with
    | cons r' r1 => cases r1; cases r; cases r'; exact ⟨i, j, rfl, q _ H1 (Gr.refl _) (.int _)⟩
theorem rc_minI {ns : List Int} {m : Int} (h1 : m ∈ ns) (h2 : ∀ y ∈ ns, m ≤ y) : RC S (uMin K) [.list (ns.map .int)] B (.int m) := fun vs H1 e r Q q => by
  cases r with
  | cons r r0 =>
    cases r0
    cases r with
    | lst ha rs =>
      have := Rps.of_ints rs
      subst this
      refine .inr (.inl ⟨_, ns, rfl, .inl (.inl (hid_some ha).2), List.length_pos_of_mem h1, fun m' a1 a2 => ?_⟩)
      have : m' = m := by have := a2 m h1; have := h2 m' a1; omega
      subst this
      exact q _ H1 (Gr.refl _) (.int _)
theorem rc_minD (hal : AlikeAll (d :: ds)) (hd : PyData.depthAll (d :: ds) ≤ 60) (hp : PyData.plainAll (d :: ds) = true) (hm : PyData.plain (minD d ds) = true) : RC S (uMin K) [.list (d :: ds)] B (minD d ds) := fun vs H1 e r Q q => by
  cases r with
  | cons r r0 =>
    cases r0
    cases r with
    | lst ha rs =>
      refine .inr (.inr ⟨_, _, d, ds, rfl, .inl (.inl (hid_some ha).2), (rs.mono hid_le).dp hp, hal, hd, hm, hp, fun i x hx hz => ?_⟩)
      obtain ⟨z, e1, r1⟩ := rs.at hx
      rw [hz] at e1
      cases e1
      exact q x H1 (Gr.refl _) r1
theorem rc_sumI {ns : List Int} : RC S (rSum K) [.list (ns.map .int)] B (.int ns.sum) := fun vs H1 e r Q q => by
  cases r with
  | cons r r0 =>
    cases r0
    cases r with
    | lst ha rs =>
      have := Rps.of_ints rs
      subst this
      exact ⟨_, ns, rfl, .inl (.inl (hid_some ha).2), q _ H1 (Gr.refl _) (.int _)⟩
theorem rc_srt {w : World} (hal : AllAlike xs) (hk : SortOk xs) (hd : ∀ d ∈ xs, d.depth ≤ 60) (hp : PyData.plainAll xs = true) : RC S (uSrt K w) [.list xs] B (.list (xs.mergeSort (dataLe false id))) := fun vs H1 e r Q q => by
  cases r with
  | cons r r0 =>
    cases r0
    cases r with
    | lst ha rs =>
      exact .inl ⟨_, _, xs, Rp (hid S H1), rfl, .inl (.inl (hid_some ha).2), (rs.mono hid_le).dp hp, rs.paired, hal, hk, hd, fun ys p hy hp => q _ _ (.new hp) (.lst (e.isNew hp) ((Rps.ofPaired hy).mono ((Gr.new hp).hid S)))⟩
/-- sorted(set(xs)) of ints -/
theorem ee_srtSet {w : World} {ta : TA} {ns ms : List Int} (h : EA S Ts ta es [.list (ns.map .int)]) (hl : ns.length < 64) (hs : ms.Pairwise (· < ·)) (hm : ∀ k, k ∈ ms ↔ k ∈ ns) : EE S Ts (tCB (uSrt K w) (tCons (tCB (rSetI K w) ta) tNil)) es (.list (ms.map .int)) := fun σ B I H1 e Q q =>
  h σ B I H1 e _ fun vs H2 g2 r => by
    cases r with
    | cons r r0 =>
      cases r0
      cases r with
      | lst ha rs =>
        have := Rps.of_ints rs
        subst this
        refine ⟨_, ns, rfl, .inl (.inl (hid_some ha).2), hl, fun p c hp hc => ?_⟩
        refine .inr (.inl ⟨p, _, c, rfl, upd_same, by omega, fun ns' p' s1 s2 s3 hp' => ?_⟩)
        have : ns' = ms := by
          have a : ∀ {l : List Int}, l.Pairwise (· < ·) → ∀ {l' : List Int}, l'.Pairwise (· < ·) → (∀ k, k ∈ l ↔ k ∈ l') → l = l' := by
            intro l
            induction l with
            | nil =>
              intro _ l' _ he
              cases l' with
              | nil => rfl
              | cons b l' => exact absurd ((he b).mpr List.mem_cons_self) (by simp)
            | cons a l ih =>
              intro hl l' hl' he
              cases l' with
              | nil => exact absurd ((he a).mp List.mem_cons_self) (by simp)
              | cons b l' =>
                have ha := List.pairwise_cons.mp hl
                have hb := List.pairwise_cons.mp hl'
                have hab : a = b := by
                  have h1 := (he a).mp List.mem_cons_self
                  have h2 := (he b).mpr List.mem_cons_self
                  rcases List.mem_cons.mp h1 with h1 | h1
                  · exact h1
                  · rcases List.mem_cons.mp h2 with h2 | h2
                    · exact h2.symm
                    · have := hb.1 a h1; have := ha.1 b h2; omega
                subst hab
                rw [ih ha.2 hb.2 fun k => ⟨fun hk => by
                  rcases List.mem_cons.mp ((he k).mp (List.mem_cons_of_mem _ hk)) with z | z
                  · have := ha.1 k hk; omega
                  · exact z, fun hk => by
                  rcases List.mem_cons.mp ((he k).mpr (List.mem_cons_of_mem _ hk)) with z | z
                  · have := hb.1 k hk; omega
                  · exact z⟩]
          exact a s1 hs fun k => by rw [s2, decide_eq_true_iff, hm]
        subst this
        have g3 := g2.trans (Gr.new (o := SetO w p (fun j => decide (j ∈ ns)) c) hp)
        exact q _ _ (g3.trans (.new hp')) (.lst ((e.go g3).isNew hp') (Rps.ints _ _))

/-- the class of a datum -/
def tyN : PyData → String
  | .none => "NoneType"
  | .bool _ => "bool"
  | .int _ => "int"
  | .str _ => "str"
  | .list _ => "list"
  | .tuple _ => "tuple"
  | .dict _ => "dict"
theorem tyx_of {H : Hp} {v : V} (r : Rp H v d) (hp : d.plain = true) : TyX K H v (.type (tyN d)) := by
  cases r with
  | non => exact .base .non
  | bl b => exact .base (.bl b)
  | int i => exact .base (.int i)
  | str x => exact .base (.str x)
  | raw a => exact nomatch hp
  | lst ha _ => exact .base (.lst ha)
  | tup ha _ => exact .base (.tup ha)
/-- isinstance(e, n) -/
theorem ee_isi {n : String} {b : Bool} (h : EE S Ts te es d) (hp : d.plain = true) (hb : kitB (tyN d) n = some b) : EE S Ts (tCB (uIsi K) (tCons te (tCons (tC (.ty n)) tNil))) es (.bool b) := fun σ B I H1 e Q q =>
  h σ B I H1 e _ fun v H2 g2 r => .inl ⟨v, .ty n, _, .type n, b, rfl, .ty n, tyx_of (r.mono hid_le) hp, kit_ty hb, q _ H2 g2 (.bl b)⟩
/-- isinstance(e, (n, m)) -/
theorem ee_isi2 {n m : String} {b c : Bool} (h : EE S Ts te es d) (hp : d.plain = true) (hb : kitB (tyN d) n = some b) (hc : kitB (tyN d) m = some c) : EE S Ts (tCB (uIsi K) (tCons te (tCons (tTup (tCons (tC (.ty n)) (tCons (tC (.ty m)) tNil))) tNil))) es (.bool (b || c)) := fun σ B I H1 e Q q =>
  h σ B I H1 e _ fun v H2 g2 r => ⟨sz5 (show 2 ≤ 100000 by omega), fun p hp' => .inr ⟨v, p, _, _, [.type n, .type m], b || c, rfl, upd_same, .cons (.ty n) (.cons (.ty m) .nil), tyx_of ((r.mono hid_le).mono (.new hp')) hp, kitAny_cons (kit_ty hb) (fun e => by
    subst e
    exact kitAny_cons (kit_ty hc) (fun e => by subst e; rfl) (fun e => by subst e; rfl)) (fun e => by subst e; rfl), q _ _ (g2.trans (.new hp')) (.bl _)⟩⟩
/-- l.index(x) -/
theorem ee_index {tx : TE} {j : Nat} {z : PyData} (h : EE S Ts te es (.list xs)) (hx : EE S Ts tx es x) (s1 : SeqAt.shaped (.list xs) = true) (s2 : SeqAt.shaped x = true) (hp : PyData.plain (.list xs) = true) (hpx : x.plain = true) (hz : xs[j]? = some z) (hj : PyData.eqv z x = true)
    (hno : ∀ (m : Nat) (z' : PyData), m < j → xs[m]? = some z' → PyData.eqv z' x = false) : EE S Ts (tBM K "list" (rIndexD K) te (tCons tx tNil)) es (.int (j : Nat)) := fun σ B I H1 e Q q =>
  h σ B I H1 e _ fun v H2 g2 r => by
    have r0 := r
    cases r with
    | lst ha rs =>
      refine ⟨.inl ⟨rfl, _, .inl (.inl (hid_some ha).2)⟩, hx σ B I H2 (e.go g2) _ fun u H3 g3 r3 => ?_⟩
      exact ⟨_, u, x, xs, j, z, rfl, rfl, (r0.mono ((g3.hid S).trans hid_le)).dp hp, (r3.mono hid_le).dp hpx, s1, s2, hz, hj, hno, q _ H3 (g2.trans g3) (.int _)⟩

/-! ### what is owned: a bare reference -/
abbrev rawD (a : Addr) : PyData := .dict [(.none, .int (a : Nat))]
theorem raw_inv {H : Hp} {v : V} {a : Addr} (r : Rp H v (rawD a)) : v = .ref a := by
  generalize e : rawD a = d at r
  cases r with
  | raw b =>
    injection e with e
    injection e with e _
    injection e with _ e
    injection e with e
    rw [Int.ofNat.inj e]
  | _ => cases e
theorem ee_fld {p C dx : Addr} {fs : List (Str × V)} {f : Str} {v : V} (h : EE S Ts te es (rawD p)) (hf : S.fz p = some (.ins C dx fs)) (c : Cls K C) (n : NoAttr K C f) (l : fs.lookup f = some v) (hv : ∀ B, Kn Ts B → Rp B v d) : EE S Ts (tFld K te f) es d := fun σ B I H1 e Q q =>
  h σ B I H1 e _ fun u H2 g2 r => by
    have e2 := e.go g2
    exact ⟨p, C, dx, fs, v, raw_inv r, e2.fr.keep hf (fun _ z => by cases z), c, n, l, q _ H2 g2 ((hv B I.tbs).mono e2.gr)⟩
theorem kn_int {i : Int} : ∀ B, Kn Ts B → Rp B (.int i) (.int i) := fun _ _ => .int i
theorem kn_raw {a : Addr} : ∀ B, Kn Ts B → Rp B (.ref a) (rawD a) := fun _ _ => .raw a
theorem kn_ow {v : V} (h : ([v], [d]) ∈ Ts.ow) : ∀ B, Kn Ts B → Rp B v d := fun B k => by
  have := k.ow _ h
  cases this with
  | cons r _ => exact r
theorem ee_ixR {rl : Addr} {vs : List V} (h : EE S Ts te es (rawD rl)) (hl : S.fz rl = some (.lst vs)) (hk : (vs, ds) ∈ Ts.ow) (hi : EE S Ts ta es (.int i)) (hz : atI ds i = some z) : EE S Ts (tOp (rIx K) te ta) es z := fun σ B I H1 e Q q =>
  h σ B I H1 e _ fun u H2 g2 r => hi σ B I H2 (e.go g2) _ fun w H3 g3 r3 => by
    cases r3
    have e3 := (e.go g2).go g3
    have rs := (I.tbs.ow _ hk).mono e3.gr
    obtain ⟨j, h1, h2, h3, h4, h5⟩ := atI_get hz
    obtain ⟨w, ew, rw'⟩ := rs.get h2
    have hlen := rs.len
    refine .inl ⟨rl, vs, i, w, raw_inv r, rfl, .inl (.inl (e3.fr.lst hl)), ?_, q w H3 (g2.trans g3) rw'⟩
    unfold atI at hz ⊢
    rw [hlen]
    cases e2 : ixN ds.length i with
    | none => rw [e2] at hz; cases hz
    | some k =>
      have q3 := ixN_seq e2
      rw [h1] at q3
      have : j = k := Option.some.inj q3.1
      rw [← this]
      exact ew
theorem ee_lenR {rl : Addr} {vs : List V} (h : EE S Ts te es (rawD rl)) (hl : S.fz rl = some (.lst vs)) : EE S Ts (tCB (uLen K) (tCons te tNil)) es (.int vs.length) := fun σ B I H1 e Q q =>
  h σ B I H1 e _ fun u H2 g2 r => ⟨rl, vs, by rw [raw_inv r], .inl (.inl (.inl ((e.go g2).fr.lst hl))), q _ H2 g2 (.int _)⟩
theorem walkR_list {S' : Hs} {a : Addr} {vs : List V} {B : Hp} (h : S'.fz a = some (.lst vs)) (r : Rps B vs ys) : WalkD S' (Itl K a) ys B := by
  have sq : ∀ H, Ext S' B H → SqL K H a vs := fun H e => .inl (.inl (e.fr.lst h))
  refine ⟨fun i H e hi => ?_, fun H e => ⟨vs, sq H e, by rw [r.len]; exact Nat.le_refl _⟩, fun i H x H' e hi y => ?_⟩
  · have hi' : i < vs.length := by rw [r.len]; exact hi
    exact ⟨vs, vs[i], sq H e, List.getElem?_eq_getElem hi'⟩
  · obtain ⟨rfl, y⟩ := y
    obtain ⟨d, e1, r1⟩ := r.at (y vs (sq _ e))
    exact ⟨d, e1, Gr.refl _, r1.mono e.gr⟩
theorem walkR_enum {S' : Hs} {a : Addr} {vs : List V} {B : Hp} (h : S'.fz a = some (.lst vs)) (r : Rps B vs ys) : WalkD S' (Ite K a) (enumD ys) B := by
  have sq : ∀ H, Ext S' B H → SqL K H a vs := fun H e => .inl (.inl (e.fr.lst h))
  have hl : (enumD ys).length = vs.length := by rw [r.len]; simp [enumD]
  refine ⟨fun i H e hi => ?_, fun H e => ⟨vs, sq H e, by rw [hl]; exact Nat.le_refl _⟩, fun i H x H' e hi y => ?_⟩
  · have hi' : i < vs.length := by rw [← hl]; exact hi
    exact ⟨vs, vs[i], sq H e, List.getElem?_eq_getElem hi'⟩
  · obtain ⟨T, z, rfl, hT, rfl, y⟩ := y
    obtain ⟨d, e1, r1⟩ := r.at (y vs (sq _ e))
    refine ⟨.tuple [.int (i : Nat), d], by simp [enumD, List.getElem?_mapIdx, e1], .new hT, .tup (e.isNew hT) (.cons (.int _) (.cons ((r1.mono e.gr).mono ((Gr.new hT).hid S')) .nil))⟩
theorem ei_seqR {rl : Addr} {vs : List V} (h : EE S Ts te es (rawD rl)) (hl : S.fz rl = some (.lst vs)) (hk : (vs, ds) ∈ Ts.ow) : EI S Ts (iSeq K te) es ds := fun σ B I H1 e R q => h σ B I H1 e _ fun v H2 g r => by
  have e2 := e.go g
  exact .inl ⟨rl, raw_inv r, ⟨_, .inl (.inl (e2.fr.lst hl))⟩, q _ H2 g fun S' gS => walkR_list (gS.lst hl) ((I.tbs.ow _ hk).mono e2.gr)⟩
theorem ei_enumR {rl : Addr} {vs : List V} (h : EE S Ts te es (rawD rl)) (hl : S.fz rl = some (.lst vs)) (hk : (vs, ds) ∈ Ts.ow) : EI S Ts (iEnum K (tCons te tNil)) es (enumD ds) := fun σ B I H1 e R q => h σ B I H1 e _ fun v H2 g r => by
  have e2 := e.go g
  exact ⟨rl, vs, by rw [raw_inv r], .inl (.inl (e2.fr.lst hl)), q _ H2 g fun S' gS => walkR_enum (gS.lst hl) ((I.tbs.ow _ hk).mono e2.gr)⟩
end
end KV
set_option Elab.async false
set_option linter.all false
set_option maxRecDepth 100000
set_option maxHeartbeats 4000000
/-! What each def promises. -/
namespace KV
open PySem PySem.Spec PyProof.Rows L2 GxR KO Smx
open PySem.W (alike dataLt dataLe AllAlike AlikeAll minD)
/-! ### the data -/
abbrev natD (k : Nat) : PyData := .int (k : Int)
def pairD (p : Nat × Nat) : PyData := .tuple [natD p.1, natD p.2]
def webD (n : Nat) (ps : List (Nat × Nat)) : PyData := .tuple [natD n, .tuple (ps.map pairD)]
def lotD (l : List Nat) : PyData := .tuple (l.map natD)
def ratD (q : Rat) : PyData := .tuple [.int q.num, .int q.den]
def papD (qs : List Rat) : PyData := .tuple (qs.map ratD)
/-- a whole number between two -/
def isIn : PyData → Int → Int → Bool
  | .int i, a, b => decide (a ≤ i) && decide (i ≤ b)
  | _, _, _ => false
/-- the persons that data are -/
def natsOf (n : Nat) : List PyData → Option (List Nat)
  | [] => some []
  | .int i :: r => if 0 ≤ i ∧ i < n then (natsOf n r).map (i.toNat :: ·) else none
  | _ :: _ => none
/-- the lot that a datum is -/
def lotOf (n : Nat) : PyData → Option (List Nat)
  | .tuple xs => (natsOf n xs).bind fun l => if l.Pairwise (· < ·) then some l else none
  | _ => none
def lots (n : Nat) : List (List Nat) := (lotsN n).mergeSort fun a b => dataLe false id (lotD a) (lotD b)
def lotsC (n : Nat) (ps : List (Nat × Nat)) : List (List Nat) := (lots n).filter (cov n ps)
def fewOf (n : Nat) (ps : List (Nat × Nat)) : Nat := ((lotsC n ps).map List.length).min?.getD 0
def leastL (n : Nat) (ps : List (Nat × Nat)) : List (List Nat) := (lotsC n ps).filter fun l => decide (l.length = fewOf n ps)
/-- a cheapest one, as min gives it -/
def chp (n : Nat) (ps : List (Nat × Nat)) (cs : List Nat) : PyData := match (lotsC n ps).map fun l => PyData.tuple [natD (cost cs l), lotD l] with
  | d :: ds => minD d ds
  | [] => .none
def bestC (n : Nat) (ps : List (Nat × Nat)) (cs : List Nat) : Nat := ((lotsC n ps).map (cost cs)).min?.getD 0
def showsC (n : Nat) (ps : List (Nat × Nat)) (cs : List Nat) : PyData → Bool
  | .tuple [.int b, u] => decide (b = bestC n ps cs) && match lotOf n u with
    | some l => cov n ps l && decide (cost cs l = bestC n ps cs)
    | none => false
  | _ => false
def Few (v : PyData) : Prop := ∀ xs, v = .tuple xs → xs.length ≤ 1000
structure Csts (n : Nat) (cs : List Nat) : Prop where
  len : cs.length = n
  le : ∀ c ∈ cs, c ≤ 1000
/-! ### the promises -/
structure Gd where
  K : PySem.W.Frag
  w : World
  C : Addr
  ps : List Addr
  p_need_web : Addr
  p_is_lot : Addr
  p_is_ratio : Addr
  p_need_costs : Addr
  p_cost_of : Addr
  p_shows_forget_paper : Addr
structure GOk (G : Gd) : Prop where
  cls : Cls G.K G.C
  nM : NoAttr G.K G.C "many"
  nS : NoAttr G.K G.C "signs"
  nR : NoAttr G.K G.C "rows"
  nB : NoAttr G.K G.C "basis"
  web : G.p_need_web ∈ G.ps
  lot : G.p_is_lot ∈ G.ps
  rat : G.p_is_ratio ∈ G.ps
  cst : G.p_need_costs ∈ G.ps
  cof : G.p_cost_of ∈ G.ps
  shw : G.p_shows_forget_paper ∈ G.ps
def tTru (K : PySem.W.Frag) (ta : TE) : TT := fun σ H Q => ta σ H fun x H' => ∃ k, TruV K x H' k ∧ Q k H'
abbrev Rel := List PyData → PyData → Prop
def R_is_in : Rel := fun ds d => ∃ v a b, ds = [v, .int a, .int b] ∧ v.plain = true ∧ d = .bool (isIn v a b)
def R_need_web : Rel := fun ds d => ∃ n ps, ds = [webD n ps] ∧ Web n ps ∧ d = .none
def R_are_foes : Rel := fun ds d => ∃ n ps i j, ds = [webD n ps, natD i, natD j] ∧ Web n ps ∧ d = .bool (decide ((min i j, max i j) ∈ ps))
def R_foes : Rel := fun ds d => ∃ n ps i, ds = [webD n ps, natD i] ∧ Web n ps ∧ d = .list ((foesL n ps i).map natD)
def R_is_lot : Rel := fun ds d => ∃ n ps v, ds = [webD n ps, v] ∧ Web n ps ∧ v.plain = true ∧ Few v ∧ d = .bool (lotOf n v).isSome
def R_all_lots : Rel := fun ds d => ∃ n ps, ds = [webD n ps] ∧ Web n ps ∧ d = .list ((lots n).map lotD)
def R_with_foes : Rel := fun ds d => ∃ n ps l, ds = [webD n ps, lotD l] ∧ Web n ps ∧ Lot n l ∧ d = .tuple ((withF n ps l).map natD)
/-- numbers that are not too large -/
def Sz (e : Nat) (i : Int) : Prop := i.natAbs < 2 ^ e
def SzR (e : Nat) (q : Rat) : Prop := q.num.natAbs < 2 ^ e ∧ q.den < 2 ^ e
def R_ratio : Rel := fun ds d => ∃ a b : Int, ds = [.int a, .int b] ∧ b ≠ 0 ∧ Sz 4000 b ∧ (b < 0 → Sz 29 b) ∧ d = ratD (Rat.divInt a b)
def R_plus : Rel := fun ds d => ∃ q r, ds = [ratD q, ratD r] ∧ SzR 1000 q ∧ SzR 1000 r ∧ d = ratD (q + r)
def R_minus : Rel := fun ds d => ∃ q r, ds = [ratD q, ratD r] ∧ SzR 1000 q ∧ SzR 1000 r ∧ d = ratD (q - r)
def R_by : Rel := fun ds d => ∃ q r, ds = [ratD q, ratD r] ∧ SzR 1000 q ∧ SzR 1000 r ∧ d = ratD (q * r)
def R_over : Rel := fun ds d => ∃ q r, ds = [ratD q, ratD r] ∧ SzR 20 q ∧ SzR 8 r ∧ r ≠ 0 ∧ d = ratD (q / r)
def R_less : Rel := fun ds d => ∃ q r, ds = [ratD q, ratD r] ∧ SzR 1000 q ∧ SzR 1000 r ∧ d = .bool (decide (q < r))
def R_sum_of : Rel := fun ds d => ∃ qs : List Rat, ds = [.list (qs.map ratD)] ∧ (∀ q ∈ qs, SzR 40 q) ∧ qs.length ≤ 20 ∧ d = ratD qs.sum
def R_is_ratio : Rel := fun ds d => ∃ q : Rat, ds = [ratD q] ∧ SzR 1000 q ∧ d = .bool true
def R_covers : Rel := fun ds d => ∃ n ps l, ds = [webD n ps, lotD l] ∧ Web n ps ∧ Lot n l ∧ d = .bool (cov n ps l)
def R_least_lots : Rel := fun ds d => ∃ n ps, ds = [webD n ps] ∧ Web n ps ∧ d = .list ((leastL n ps).map lotD)
def R_forget_row : Rel := fun ds d => ∃ n ps l, ds = [webD n ps] ∧ Web n ps ∧ (leastL n ps)[0]? = some l ∧ d = lotD l
def R_forget_length : Rel := fun ds d => ∃ n ps, ds = [webD n ps] ∧ Web n ps ∧ d = natD (fewOf n ps)
def R_forget_lots : Rel := fun ds d => ∃ n ps, ds = [webD n ps] ∧ Web n ps ∧ d = .tuple ((leastL n ps).map lotD)
def R_need_costs : Rel := fun ds d => ∃ n ps cs, ds = [webD n ps, lotD cs] ∧ Web n ps ∧ Csts n cs ∧ d = .none
def R_cost_of : Rel := fun ds d => ∃ n cs l, ds = [lotD cs, lotD l] ∧ Csts n cs ∧ n ≤ 5 ∧ Lot n l ∧ d = natD (cost cs l)
def R_cheapest : Rel := fun ds d => ∃ n ps cs, ds = [webD n ps, lotD cs] ∧ Web n ps ∧ Csts n cs ∧ d = chp n ps cs
def R_shows_cheap_forget : Rel := fun ds d => ∃ n ps cs v, ds = [webD n ps, lotD cs, v] ∧ Web n ps ∧ Csts n cs ∧ v.plain = true ∧ (∀ a u, v = .tuple [a, u] → Few u) ∧ Few v ∧ d = .bool (showsC n ps cs v)
abbrev sp_is_in (G : Gd) : Sp := spR G.ps R_is_in
abbrev sp_need_web (G : Gd) : Sp := spR G.ps R_need_web
abbrev sp_are_foes (G : Gd) : Sp := spR G.ps R_are_foes
abbrev sp_foes (G : Gd) : Sp := spR G.ps R_foes
abbrev sp_is_lot (G : Gd) : Sp := spR G.ps R_is_lot
abbrev sp_all_lots (G : Gd) : Sp := spR G.ps R_all_lots
abbrev sp_with_foes (G : Gd) : Sp := spR G.ps R_with_foes
abbrev sp_ratio (G : Gd) : Sp := spR G.ps R_ratio
abbrev sp_plus (G : Gd) : Sp := spR G.ps R_plus
abbrev sp_minus (G : Gd) : Sp := spR G.ps R_minus
abbrev sp_by (G : Gd) : Sp := spR G.ps R_by
abbrev sp_over (G : Gd) : Sp := spR G.ps R_over
abbrev sp_less (G : Gd) : Sp := spR G.ps R_less
abbrev sp_sum_of (G : Gd) : Sp := spR G.ps R_sum_of
abbrev sp_is_ratio (G : Gd) : Sp := spR G.ps R_is_ratio
abbrev sp_covers (G : Gd) : Sp := spR G.ps R_covers
abbrev sp_least_lots (G : Gd) : Sp := spR G.ps R_least_lots
abbrev sp_forget_row (G : Gd) : Sp := spR G.ps R_forget_row
abbrev sp_forget_length (G : Gd) : Sp := spR G.ps R_forget_length
abbrev sp_forget_lots (G : Gd) : Sp := spR G.ps R_forget_lots
abbrev sp_need_costs (G : Gd) : Sp := spR G.ps R_need_costs
abbrev sp_cost_of (G : Gd) : Sp := spR G.ps R_cost_of
abbrev sp_cheapest (G : Gd) : Sp := spR G.ps R_cheapest
abbrev sp_cheap_forget (G : Gd) : Sp := spR G.ps R_cheapest
abbrev sp_shows_cheap_forget (G : Gd) : Sp := spR G.ps R_shows_cheap_forget
def R_w_ratio : Rel := fun ds d => ∃ a b : Int, ds = [.int a, .int b] ∧ 0 < b ∧ Sz 4000 b ∧ d = ratD (Rat.divInt a b)
abbrev sp_w_ratio (G : Gd) : Sp := spR G.ps R_w_ratio
abbrev sp_w_plus (G : Gd) : Sp := spR G.ps R_plus
abbrev sp_w_sum (G : Gd) : Sp := spR G.ps R_sum_of
abbrev sp_w_less (G : Gd) : Sp := spR G.ps R_less
abbrev sp_w_is_ratio (G : Gd) : Sp := spR G.ps R_is_ratio
def isTupD : PyData → Bool
  | .tuple _ => true
  | _ => false
/-- the sum about a person -/
def nearQ (n : Nat) (ps : List (Nat × Nat)) (qs : List Rat) (i : Nat) : Rat := ((i :: foesL n ps i).map fun j => qs.getD j 0).sum
def fitsQ (n : Nat) (ps : List (Nat × Nat)) (cs : List Nat) (qs : List Rat) : Bool := decide (qs.length = n) && (qs.all fun q => decide (0 ≤ q)) && (List.range n).all fun i => decide (nearQ n ps qs i ≤ ((cs.getD i 0 : Nat) : Rat))
def R_w_deed : Rel := fun ds d => ∃ n ps l, ds = [webD n ps, lotD l] ∧ Web n ps ∧ Lot n l ∧ d = .tuple [.tuple (((staysL n ps l).map natD).mergeSort (dataLe false id)), .tuple ((withF n ps l).map natD)]
def R_w_fits : Rel := fun ds d => ∃ n ps cs v, ds = [webD n ps, lotD cs, v] ∧ Web n ps ∧ Csts n cs ∧ ((∃ qs : List Rat, v = papD qs ∧ (∀ q ∈ qs, SzR 40 q) ∧ qs.length ≤ 20 ∧ d = .bool (fitsQ n ps cs qs)) ∨ (isTupD v = false ∧ v.plain = true ∧ d = .bool false))
abbrev sp_w_foes (G : Gd) : Sp := spR G.ps R_foes
abbrev sp_w_lots (G : Gd) : Sp := spR G.ps R_all_lots
abbrev sp_w_deed (G : Gd) : Sp := spR G.ps R_w_deed
abbrev sp_w_covers (G : Gd) : Sp := spR G.ps R_covers
abbrev sp_w_fits (G : Gd) : Sp := spR G.ps R_w_fits
/-! ### the class Program -/
def rowD (r : List Rat) : PyData := .list (r.map ratD)
abbrev natV (k : Nat) : V := .int (k : Int)
def pfs (n : Nat) (sg rl bl : Addr) : List (Str × V) := [("many", natV (2 * n)), ("signs", .ref sg), ("rows", .ref rl), ("basis", .ref bl)]
/-- a program with the table s stands at p -/
structure PAt (G : Gd) (S : Hs) (T : Ks) (p dx sg rl bl : Addr) (vs : List V) (n : Nat) (s : Tab) : Prop where
  at_ : S.fz p = some (.ins G.C dx (pfs n sg rl bl))
  rows : S.fz rl = some (.lst vs)
  rk : (vs, s.1.map rowD) ∈ T.ow
  basis : S.fz bl = some (.lst (s.2.map natV))
  bk : (s.2.map natV, s.2.map natD) ∈ T.ow
  sk : ([V.ref sg], [PyData.list (List.replicate n (ratD 1))]) ∈ T.ow
  pr : p ≠ rl
  pb : p ≠ bl
  rb : rl ≠ bl
  vl : vs.length = s.1.length
/-- costs of a program's columns -/
structure CsOk (n : Nat) (cs : List Rat) : Prop where
  len : cs.length = 3 * n
  sz : ∀ c ∈ cs, SzR 2 c
/-- readers of a program -/
def spF (P : List Addr) (R : Hs → Ks → List PyData → PyData → Prop) : Sp := fun vs H Q _ => ∃ (S : Hs) (T : Ks) (ds : List PyData) (d : PyData), Rps (hid S H) vs ds ∧ (∀ b ∈ S.ad, H b ≠ none) ∧ Gr S.fz H ∧ Kn T (hid S H) ∧ T.ts = P ∧ R S T ds d ∧ ∀ v H', Gr H H' → Rp (hid S H') v d → Q v H'
/-- writers: where H' goes on from -/
structure Fr (S : Hs) (H : Hp) (S' : Hs) (H' : Hp) : Prop where
  gr : Gr (hid S H) (hid S H')
  new : ∀ b ∈ S'.ad, b ∈ S.ad ∨ H b = none
structure RtK (S : Hs) (T : Ks) (v : V) (d : PyData) (H : Hp) : Prop where
  trk : ∀ b ∈ S.ad, H b ≠ none
  fz : Gr S.fz H
  kn : Kn T (hid S H)
  rp : Rp (hid S H) v d
def spW (P : List Addr) (R : Hs → Ks → List PyData → (Hs → Ks → PyData → Prop) → Prop) : Sp := fun vs H Q _ => ∃ (S : Hs) (T : Ks) (ds : List PyData) (Post : Hs → Ks → PyData → Prop), Rps (hid S H) vs ds ∧ (∀ b ∈ S.ad, H b ≠ none) ∧ Gr S.fz H ∧ Kn T (hid S H) ∧ T.ts = P ∧ R S T ds Post ∧
  ∀ S' T' d v H', Post S' T' d → Fr S H S' H' → RtK S' T' v d H' → Q v H'
def R_mul (G : Gd) (S : Hs) (T : Ks) : Rel := fun ds d => ∃ p dx sg rl bl vs n s cs k, ds = [rawD p, .list (cs.map ratD), natD k] ∧ PAt G S T p dx sg rl bl vs n s ∧ Fit n (3 * n) s ∧ n ≤ 5 ∧ CsOk n cs ∧ k ≤ 3 * n ∧ d = ratD (mul n s cs k)
def optD : Option Nat → PyData
  | some k => natD k
  | none => .none
def R_rising (G : Gd) (S : Hs) (T : Ks) : Rel := fun ds d => ∃ p dx sg rl bl vs n s cs cols, ds = [rawD p, .list (cs.map ratD), natD cols] ∧ PAt G S T p dx sg rl bl vs n s ∧ Fit n (3 * n) s ∧ n ≤ 5 ∧ CsOk n cs ∧ cols ≤ 3 * n ∧ d = optD (rise n s cs cols)
def amtsL (n : Nat) (s : Tab) : List Rat := (List.range (2 * n)).map (val n (3 * n) (gt s.1) (gb s.2))
def R_amounts (G : Gd) (S : Hs) (T : Ks) : Rel := fun ds d => ∃ p dx sg rl bl vs n s, ds = [rawD p] ∧ PAt G S T p dx sg rl bl vs n s ∧ Fit n (3 * n) s ∧ n ≤ 5 ∧ (∀ i, i < n → gb s.2 i < 2 * n) ∧ (∀ i l, i < n → l < n → gb s.2 i = gb s.2 l → i = l) ∧ d = .list ((amtsL n s).map ratD)
def R_prices (G : Gd) (S : Hs) (T : Ks) : Rel := fun ds d => ∃ p dx sg rl bl vs n s cs, ds = [rawD p, .list (cs.map ratD)] ∧ PAt G S T p dx sg rl bl vs n s ∧ Fit n (3 * n) s ∧ n ≤ 5 ∧ CsOk n cs ∧ d = .list ((List.range n).map fun j => ratD (mul n s cs (2 * n + j)))
def W_turn (G : Gd) (S : Hs) (T : Ks) (ds : List PyData) (Post : Hs → Ks → PyData → Prop) : Prop := ∃ p dx sg rl bl vs n s r k, ds = [rawD p, natD r, natD k] ∧ PAt G S T p dx sg rl bl vs n s ∧ Fit n (3 * n) s ∧ n ≤ 5 ∧ r < n ∧ k < 3 * n ∧ gt s.1 r k ≠ 0 ∧ rl ∈ S.ad ∧ bl ∈ S.ad ∧
  ∀ S' T' vs', S'.ad = S.ad → (∀ b, b ≠ rl → b ≠ bl → S'.fz b = S.fz b) → T'.ts = T.ts → PAt G S' T' p dx sg rl bl vs' n (trn s r k) → Post S' T' .none
def W_climb (G : Gd) (S : Hs) (T : Ks) (ds : List PyData) (Post : Hs → Ks → PyData → Prop) : Prop := ∃ p dx sg rl bl vs n s cs cols m s', ds = [rawD p, .list (cs.map ratD), natD cols] ∧ PAt G S T p dx sg rl bl vs n s ∧ n ≤ 5 ∧ CsOk n cs ∧ cols ≤ 3 * n ∧ ClRun n (3 * n) cs cols m s s' ∧ rl ∈ S.ad ∧ bl ∈ S.ad ∧
  ∀ S' T' vs', S'.ad = S.ad → (∀ b, b ≠ rl → b ≠ bl → S'.fz b = S.fz b) → T'.ts = T.ts → PAt G S' T' p dx sg rl bl vs' n s' → Post S' T' (.bool true)
def W_leave (G : Gd) (S : Hs) (T : Ks) (ds : List PyData) (Post : Hs → Ks → PyData → Prop) : Prop := ∃ p dx sg rl bl vs n s s', ds = [rawD p] ∧ PAt G S T p dx sg rl bl vs n s ∧ 1 ≤ n ∧ n ≤ 5 ∧ LvRun n (3 * n) (2 * n) n s s' ∧ rl ∈ S.ad ∧ bl ∈ S.ad ∧
  ∀ S' T' vs', S'.ad = S.ad → (∀ b, b ≠ rl → b ≠ bl → S'.fz b = S.fz b) → T'.ts = T.ts → PAt G S' T' p dx sg rl bl vs' n s' → Post S' T' .none
/-- the rows that a program is made of: n rows, an entry for each amount, then the slack -/
def rows0 (n : Nat) (A : Mat) : List (List Rat) := (List.range n).map fun i => (List.range n).map (A i) ++ (List.range n).map fun j => if j = i then 1 else 0
def W_mk (G : Gd) (S : Hs) (T : Ks) (ds : List PyData) (Post : Hs → Ks → PyData → Prop) : Prop := ∃ (x dx : Addr) (n : Nat) (A : Mat) (cs : List Nat), ds = [rawD x, .list ((rows0 n A).map rowD), .list (cs.map fun c => ratD ((c : Nat) : Rat))] ∧ S.fz x = some (.ins G.C dx []) ∧ x ∈ S.ad ∧ 1 ≤ n ∧ n ≤ 5 ∧ (∀ i j, A i j = 0 ∨ A i j = 1) ∧ Csts n cs ∧
  ∀ S' T' sg rl bl vs, S'.ad = bl :: rl :: S.ad → rl ∉ S.ad → bl ∉ S.ad → (∀ b, b ≠ x → b ≠ rl → b ≠ bl → S'.fz b = S.fz b) → S.fz rl = none → S.fz bl = none → T'.ts = T.ts → PAt G S' T' x dx sg rl bl vs n (s0 n A fun i => ((cs.getD i 0 : Nat) : Rat)) → Post S' T' .none
abbrev sp_mk (G : Gd) : Sp := spW G.ps (W_mk G)
abbrev sp_m_turn (G : Gd) : Sp := spW G.ps (W_turn G)
abbrev sp_m_multiplier (G : Gd) : Sp := spF G.ps (R_mul G)
abbrev sp_m_rising (G : Gd) : Sp := spF G.ps (R_rising G)
abbrev sp_m_climb (G : Gd) : Sp := spW G.ps (W_climb G)
abbrev sp_m_leave_help (G : Gd) : Sp := spW G.ps (W_leave G)
abbrev sp_m_amounts (G : Gd) : Sp := spF G.ps (R_amounts G)
abbrev sp_m_prices (G : Gd) : Sp := spF G.ps (R_prices G)
/-! ### the solver and the papers -/
/-- the solver's three runs -/
def Solv (n : Nat) (A : Mat) (b : Nat → Rat) (t3 : Tab) : Prop := ∃ n1 t1 t2 n2, ClRun n (3 * n) (c1 n) (2 * n) n1 (s0 n A b) t1 ∧ Fit n (3 * n) t1 ∧ mul n t1 (c1 n) (3 * n) = 0 ∧ LvRun n (3 * n) (2 * n) n t1 t2 ∧ ClRun n (3 * n) (c2 n) (2 * n) n2 t2 t3 ∧ Fit n (3 * n) t3 ∧ (∀ i, i < n → gb t3.2 i < 2 * n) ∧ ∀ i l, i < n → l < n → gb t3.2 i = gb t3.2 l → i = l
def costR (cs : List Nat) (i : Nat) : Rat := ((cs.getD i 0 : Nat) : Rat)
def R_solved : Rel := fun ds d => ∃ n A cs t3, ds = [.list ((rows0 n A).map rowD), .list (cs.map fun c => ratD ((c : Nat) : Rat)), .list ((List.replicate n (1 : Rat) ++ List.replicate n 0).map ratD)] ∧ 1 ≤ n ∧ n ≤ 5 ∧ (∀ i j, A i j = 0 ∨ A i j = 1) ∧ Csts n cs ∧ Solv n A (costR cs) t3 ∧ d = .tuple [.str "best", .list ((amtsL n t3).map ratD), .list ((List.range n).map fun j => ratD (mul n t3 (c2 n) (2 * n + j)))]
/-- who is near -/
def nearA (n : Nat) (ps : List (Nat × Nat)) : Mat := fun i j => if j ∈ i :: foesL n ps i then 1 else 0
def Best (n : Nat) (ps : List (Nat × Nat)) (cs : List Nat) (t3 : Tab) : Prop := Solv n (nearA n ps) (costR cs) t3 ∧ Feas n (nearA n ps) (costR cs) (val n (3 * n) (gt t3.1) (gb t3.2)) ∧ ∀ x, Feas n (nearA n ps) (costR cs) x → sm n x ≤ sm n (val n (3 * n) (gt t3.1) (gb t3.2))
open Classical in
/-- the paper -/
noncomputable def paperQ (n : Nat) (ps : List (Nat × Nat)) (cs : List Nat) : List Rat := if h : ∃ t3, Best n ps cs t3 then (amtsL n h.choose).take n else []
def R_paper_of : Rel := fun ds d => ∃ n ps cs, ds = [webD n ps, lotD cs] ∧ Web n ps ∧ Csts n cs ∧ d = .list ((paperQ n ps cs).map ratD)
def R_forget_paper : Rel := fun ds d => ∃ n ps cs, ds = [webD n ps, lotD cs] ∧ Web n ps ∧ Csts n cs ∧ d = papD (paperQ n ps cs)
def R_shows_forget_paper : Rel := fun ds d => ∃ n ps cs v, ds = [webD n ps, lotD cs, v] ∧ Web n ps ∧ Csts n cs ∧ ((∃ qs : List Rat, v = papD qs ∧ (∀ q ∈ qs, SzR 40 q) ∧ qs.length ≤ 20 ∧ d = .bool (fitsQ n ps cs qs && decide (qs.sum = (paperQ n ps cs).sum))) ∨ (isTupD v = false ∧ v.plain = true ∧ d = .bool false))
abbrev sp_solved (G : Gd) : Sp := spR G.ps R_solved
abbrev sp_paper_of (G : Gd) : Sp := spR G.ps R_paper_of
abbrev sp_forget_paper (G : Gd) : Sp := spR G.ps R_forget_paper
abbrev sp_shows_forget_paper (G : Gd) : Sp := spR G.ps R_shows_forget_paper
/-! ### the law's own -/
/-- the script stands at b -/
def ScrAt (K : PySem.W.Frag) (S : Hs) (T : Ks) (b : Addr) (sc : List Int) : Prop := (∃ o, S.fz b = some (.frz o (.lst (sc.map V.int)))) ∨ ([V.ref b], [PyData.list (sc.map .int)]) ∈ T.ow ∨
  ∃ (o : Obj) (its : Array Value) (n : Nat), K.lookup b = some o ∧ o.cls = .type "list" ∧ o.dict = none ∧ o.data = .seq its n ∧ its.size ≤ sizeLine ∧ Vals (sc.map V.int) its.toList
/-- the row of draws stands at a -/
def RowAt (K : PySem.W.Frag) (S : Hs) (T : Ks) (a : Addr) (sc : List Int) : Prop := ∃ (b : Addr) (vs : List V) (k : Nat) (seed rest : Int), a ∈ S.ad ∧ S.fz a = some (.lst vs) ∧ vs.length = 4 ∧ (vs, [rawD b, natD k, .int seed, .int rest]) ∈ T.ow ∧ ScrAt K S T b sc ∧ 0 ≤ seed ∧ seed < 2147483647 ∧ 0 ≤ rest
def W_taken (K : PySem.W.Frag) (S : Hs) (T : Ks) (ds : List PyData) (Post : Hs → Ks → PyData → Prop) : Prop := ∃ (a : Addr) (sc : List Int) (many : Int), ds = [rawD a, .int many] ∧ RowAt K S T a sc ∧ 1 ≤ many ∧ many ≤ 1000 ∧
  ∀ S' T' (r : Int), S'.ad = S.ad → (∀ b, b ≠ a → S'.fz b = S.fz b) → T'.ts = T.ts → (∀ q ∈ T.ow, q ∈ T'.ow) → RowAt K S' T' a sc → 0 ≤ r → r < many → Post S' T' (.int r)
def W_web (K : PySem.W.Frag) (S : Hs) (T : Ks) (ds : List PyData) (Post : Hs → Ks → PyData → Prop) : Prop := ∃ (a : Addr) (sc : List Int), ds = [rawD a, .int 5] ∧ RowAt K S T a sc ∧
  ∀ S' T' n ps, S'.ad = S.ad → (∀ b, b ≠ a → S'.fz b = S.fz b) → T'.ts = T.ts → (∀ q ∈ T.ow, q ∈ T'.ow) → RowAt K S' T' a sc → Web n ps → Post S' T' (webD n ps)
abbrev sp_w_taken (G : Gd) : Sp := spW G.ps (W_taken G.K)
abbrev sp_w_web (G : Gd) : Sp := spW G.ps (W_web G.K)
/-- data of so many levels -/
def Alk : Nat → PyData → Prop
  | _, .int _ => True
  | _, .bool _ => True
  | k + 1, .tuple xs => xs.length ≤ 1000 ∧ ∀ x ∈ xs, Alk k x
  | _, _ => False
def R_alike (k : Nat) : Rel := fun ds d => ∃ x, ds = [x, x] ∧ Alk k x ∧ d = .bool true
abbrev sp_w_alike (G : Gd) : Sp := spR G.ps (R_alike 2)
def W_law (K : PySem.W.Frag) (S : Hs) (T : Ks) (ds : List PyData) (Post : Hs → Ks → PyData → Prop) : Prop := ∃ (b : Addr) (sc : List Int), ds = [rawD b] ∧ ScrAt K S T b sc ∧ ∀ S' T', Post S' T' (.bool true)
abbrev sp_law (G : Gd) : Sp := spW G.ps (W_law G.K)
end KV
set_option Elab.async false
set_option linter.all false
set_option maxRecDepth 100000
set_option maxHeartbeats 4000000
/-! What the text of each def asks of the data (written by gen8.py). -/
namespace KV
open PySem PySem.Spec PyProof.Rows L2 GxR KO
-- is_in: level 1, N = ['value', 'least', 'most'], cells []
def t_is_in (G : Gd) : TS := (tRet (tAndV (tCB (uIsi G.K) (tCons (tVar 0) (tCons (tC (.ty "int")) tNil))) (tAndV (tNotV (tCB (uIsi G.K) (tCons (tVar 0) (tCons (tC (.ty "bool")) tNil)))) (tChain (uLe) (uLe) (tVar 1) (tVar 0) (tVar 2)))))
-- need_web: level 2, N = ['web', 'pair'], cells ['web']
def t_need_web (G : Gd) : TS := (tSeq (tIfS (tOr (tNot (tB (tCB (uIsi G.K) (tCons (tVar 0) (tCons (tC (.ty "tuple")) tNil))))) (tOr (tTest (tOp (rNeP G.K) (tCB (uLen G.K) (tCons (tVar 0) tNil)) (tC (.int 2)))) (tNot (tB (tCall (sp_is_in G) [] C8.E0 (tCons (tOp (rIx G.K) (tVar 0) (tC (.int 0))) (tCons (tC (.int 1)) (tCons (tC (.int 7)) tNil)))))))) tNever tNext) (tSeq (tIfS (tNot (tB (tCB (uIsi G.K) (tCons (tOp (rIx G.K) (tVar 0) (tC (.int 1))) (tCons (tC (.ty "tuple")) tNil))))) tNever tNext) (tSeq (tFor (iSeq G.K (tOp (rIx G.K) (tVar 0) (tC (.int 1)))) (gName 1) (tSeq (tIfS (tOr (tNot (tB (tCB (uIsi G.K) (tCons (tVar 1) (tCons (tC (.ty "tuple")) tNil))))) (tOr (tTest (tOp (rNeP G.K) (tCB (uLen G.K) (tCons (tVar 1) tNil)) (tC (.int 2)))) (tNot (tB (tCall (sp_is_in G) [] C8.E0 (tCons (tOp (rIx G.K) (tVar 1) (tC (.int 0))) (tCons (tC (.int 0)) (tCons (tOp (uSub) (tOp (rIx G.K) (tVar 0) (tC (.int 0))) (tC (.int 1))) tNil)))))))) tNever tNext) (tIfS (tNot (tB (tCall (sp_is_in G) [] C8.E0 (tCons (tOp (rIx G.K) (tVar 1) (tC (.int 1))) (tCons (tOp (uAdd G.K) (tOp (rIx G.K) (tVar 1) (tC (.int 0))) (tC (.int 1))) (tCons (tOp (uSub) (tOp (rIx G.K) (tVar 0) (tC (.int 0))) (tC (.int 1))) tNil)))))) tNever tNext))) (tIfS (tB (GX.tAnyG (G.p_need_web) (iRng1 (tCons (tOp (uSub) (tCB (uLen G.K) (tCons (tOp (rIx G.K) (tVar 0) (tC (.int 1))) tNil)) (tC (.int 1))) tNil)) (tOp (uGe G.K) (tOp (rIx G.K) (tOp (rIx G.K) (tVar 1) (tC (.int 1))) (tVar 0)) (tOp (rIx G.K) (tOp (rIx G.K) (tVar 1) (tC (.int 1))) (tOp (uAdd G.K) (tVar 0) (tC (.int 1))))) [0])) tNever tNext))))
-- are_foes: level 1, N = ['web', 'one', 'other'], cells []
def t_are_foes (G : Gd) : TS := (tRet (tOp (rInP G.K) (tTup (tCons (tCB (uMin G.K) (tCons (tVar 1) (tCons (tVar 2) tNil))) (tCons (tCB (uMax) (tCons (tVar 1) (tCons (tVar 2) tNil))) tNil))) (tOp (rIx G.K) (tVar 0) (tC (.int 1)))))
-- foes: level 2, N = ['web', 'person', 'other'], cells ['person', 'web']
def t_foes (G : Gd) : TS := (tRet (tLc (iRng1 (tCons (tOp (rIx G.K) (tVar 0) (tC (.int 0))) tNil)) (gName 2) (tB (tCall (sp_are_foes G) [] C8.E0 (tCons (tVar 0) (tCons (tVar 1) (tCons (tVar 2) tNil))))) (tVar 2) [2]))
-- is_lot: level 3, N = ['web', 'value'], cells ['value', 'web']
def t_is_lot (G : Gd) : TS := (tSeq (tIfS (tOr (tNot (tB (tCB (uIsi G.K) (tCons (tVar 1) (tCons (tC (.ty "tuple")) tNil))))) (tNot (tB (GX.tAllG (G.p_is_lot) (iSeq G.K (tVar 1)) (tCall (sp_is_in G) [] C8.E0 (tCons (tVar 0) (tCons (tC (.int 0)) (tCons (tOp (uSub) (tOp (rIx G.K) (tVar 1) (tC (.int 0))) (tC (.int 1))) tNil)))) [0])))) (tRet (tC (.bl false))) tNext) (tRet (GX.tAllG (G.p_is_lot) (iRng1 (tCons (tOp (uSub) (tCB (uLen G.K) (tCons (tVar 1) tNil)) (tC (.int 1))) tNil)) (tOp (uLt) (tOp (rIx G.K) (tVar 1) (tVar 0)) (tOp (rIx G.K) (tVar 1) (tOp (uAdd G.K) (tVar 0) (tC (.int 1))))) [1])))
-- all_lots: level 1, N = ['web', 'found', 'person', 'one'], cells ['person']
def t_all_lots (G : Gd) : TS := (tSeq (tAsg (tLst (tCons (tTup tNil) tNil)) (gName 1)) (tSeq (tFor (iRng1 (tCons (tOp (rIx G.K) (tVar 0) (tC (.int 0))) tNil)) (gName 2) (tAsg (tOp (uAdd G.K) (tVar 1) (tLc (iSeq G.K (tVar 1)) (gName 3) tYes (tTup (StX.tStar G.K (tVar 3) (tCons (tVar 2) tNil))) [3])) (gName 1))) (tRet (tCB (uSrt G.K G.w) (tCons (tVar 1) tNil)))))
-- with_foes: level 3, N = ['web', 'people', 'found', 'person', 'other'], cells []
def t_with_foes (G : Gd) : TS := (tSeq (tAsg (tDc (iSeq G.K (tVar 1)) (gName 3) tYes (tVar 3) (tC (.bl true)) [3]) (gName 2)) (tSeq (tFor (iSeq G.K (tVar 1)) (gName 3) (tFor (iSeq G.K (tCall (sp_foes G) [] C8.E0 (tCons (tVar 0) (tCons (tVar 3) tNil)))) (gName 4) (tAsg (tC (.bl true)) (gSub (tVar 2) (tVar 4) rSetD)))) (tRet (tCB (uTup G.K) (tCons (tCB (uSrt G.K G.w) (tCons (tVar 2) tNil)) tNil)))))
-- ratio: level 1, N = ['top', 'bottom', 'common'], cells []
def t_ratio (G : Gd) : TS := (tSeq (tAsg (tIf (tTest (tOp (uGt) (tVar 1) (tC (.int 0)))) (tCB rGcd (tCons (tVar 0) (tCons (tVar 1) tNil))) (tOp (uSub) (tC (.int 0)) (tCB rGcd (tCons (tVar 0) (tCons (tVar 1) tNil))))) (gName 2)) (tRet (tTup (tCons (tOp (uFdv) (tVar 0) (tVar 2)) (tCons (tOp (uFdv) (tVar 1) (tVar 2)) tNil)))))
-- plus: level 2, N = ['one', 'other'], cells []
def t_plus (G : Gd) : TS := (tRet (tCall (sp_ratio G) [] C8.E0 (tCons (tOp (uAdd G.K) (tOp (uMul G.K) (tOp (rIx G.K) (tVar 0) (tC (.int 0))) (tOp (rIx G.K) (tVar 1) (tC (.int 1)))) (tOp (uMul G.K) (tOp (rIx G.K) (tVar 1) (tC (.int 0))) (tOp (rIx G.K) (tVar 0) (tC (.int 1))))) (tCons (tOp (uMul G.K) (tOp (rIx G.K) (tVar 0) (tC (.int 1))) (tOp (rIx G.K) (tVar 1) (tC (.int 1)))) tNil))))
-- minus: level 2, N = ['one', 'other'], cells []
def t_minus (G : Gd) : TS := (tRet (tCall (sp_ratio G) [] C8.E0 (tCons (tOp (uSub) (tOp (uMul G.K) (tOp (rIx G.K) (tVar 0) (tC (.int 0))) (tOp (rIx G.K) (tVar 1) (tC (.int 1)))) (tOp (uMul G.K) (tOp (rIx G.K) (tVar 1) (tC (.int 0))) (tOp (rIx G.K) (tVar 0) (tC (.int 1))))) (tCons (tOp (uMul G.K) (tOp (rIx G.K) (tVar 0) (tC (.int 1))) (tOp (rIx G.K) (tVar 1) (tC (.int 1)))) tNil))))
-- by: level 2, N = ['one', 'other'], cells []
def t_by (G : Gd) : TS := (tRet (tCall (sp_ratio G) [] C8.E0 (tCons (tOp (uMul G.K) (tOp (rIx G.K) (tVar 0) (tC (.int 0))) (tOp (rIx G.K) (tVar 1) (tC (.int 0)))) (tCons (tOp (uMul G.K) (tOp (rIx G.K) (tVar 0) (tC (.int 1))) (tOp (rIx G.K) (tVar 1) (tC (.int 1)))) tNil))))
-- over: level 2, N = ['one', 'other'], cells []
def t_over (G : Gd) : TS := (tRet (tCall (sp_ratio G) [] C8.E0 (tCons (tOp (uMul G.K) (tOp (rIx G.K) (tVar 0) (tC (.int 0))) (tOp (rIx G.K) (tVar 1) (tC (.int 1)))) (tCons (tOp (uMul G.K) (tOp (rIx G.K) (tVar 0) (tC (.int 1))) (tOp (rIx G.K) (tVar 1) (tC (.int 0)))) tNil))))
-- less: level 1, N = ['one', 'other'], cells []
def t_less (G : Gd) : TS := (tRet (tOp (uLt) (tOp (uMul G.K) (tOp (rIx G.K) (tVar 0) (tC (.int 0))) (tOp (rIx G.K) (tVar 1) (tC (.int 1)))) (tOp (uMul G.K) (tOp (rIx G.K) (tVar 1) (tC (.int 0))) (tOp (rIx G.K) (tVar 0) (tC (.int 1))))))
-- sum_of: level 3, N = ['some', 'found', 'one'], cells []
def t_sum_of (G : Gd) : TS := (tSeq (tAsg (tTup (tCons (tC (.int 0)) (tCons (tC (.int 1)) tNil))) (gName 1)) (tSeq (tFor (iSeq G.K (tVar 0)) (gName 2) (tAsg (tCall (sp_plus G) [] C8.E0 (tCons (tVar 1) (tCons (tVar 2) tNil))) (gName 1))) (tRet (tVar 1))))
-- is_ratio: level 2, N = ['value'], cells []
def t_is_ratio (G : Gd) : TS := (tSeq (tIfS (tOr (tNot (tB (tCB (uIsi G.K) (tCons (tVar 0) (tCons (tC (.ty "tuple")) tNil))))) (tTest (tOp (rNeP G.K) (tCB (uLen G.K) (tCons (tVar 0) tNil)) (tC (.int 2))))) (tRet (tC (.bl false))) tNext) (tSeq (tIfS (tNot (tB (GX.tAllG (G.p_is_ratio) (iSeq G.K (tVar 0)) (tAndV (tCB (uIsi G.K) (tCons (tVar 0) (tCons (tC (.ty "int")) tNil))) (tNotV (tCB (uIsi G.K) (tCons (tVar 0) (tCons (tC (.ty "bool")) tNil))))) []))) (tRet (tC (.bl false))) tNext) (tRet (tAndV (tOp (uGt) (tOp (rIx G.K) (tVar 0) (tC (.int 1))) (tC (.int 0))) (tOp (rEqP G.K) (tCB rGcd (tCons (tOp (rIx G.K) (tVar 0) (tC (.int 0))) (tCons (tOp (rIx G.K) (tVar 0) (tC (.int 1))) tNil))) (tC (.int 1)))))))
-- Program.__init__: level 3, N = ['self', 'rows', 'goals', 'j', 'row', 'helping', 'goal', 'k', 'one'], cells ['j', 'self']
def t_mk (G : Gd) : TS := (tSeq (sFld G.K (tVar 0) (tCB (uLen G.K) (tCons (tOp (rIx G.K) (tVar 1) (tC (.int 0))) tNil)) "many") (tSeq (sFld G.K (tVar 0) (tLc (iSeq G.K (tVar 2)) (gName 6) tYes (tIf (tTest (tOp (uLt) (tOp (rIx G.K) (tVar 6) (tC (.int 0))) (tC (.int 0)))) (tTup (tCons (tUn uNeg (tC (.int 1))) (tCons (tC (.int 1)) tNil))) (tTup (tCons (tC (.int 1)) (tCons (tC (.int 1)) tNil)))) [6]) "signs") (tSeq (sFld G.K (tVar 0) (tLst tNil) "rows") (tSeq (sFld G.K (tVar 0) (tLst tNil) "basis") (tFor (iEnum G.K (tCons (tVar 1) tNil)) (gTup G.K 2 (gCons (gName 3) (gCons (gName 4) gNil))) (tSeq (tAsg (tLc (iRng1 (tCons (tCB (uLen G.K) (tCons (tVar 1) tNil)) tNil)) (gName 7) tYes (tIf (tTest (tOp (rEqP G.K) (tVar 7) (tVar 3))) (tTup (tCons (tC (.int 1)) (tCons (tC (.int 1)) tNil))) (tTup (tCons (tC (.int 0)) (tCons (tC (.int 1)) tNil)))) [7]) (gName 5)) (tSeq (tDrop (tBM G.K "list" rAppend (tFld G.K (tVar 0) "rows") (tCons (tOp (uAdd G.K) (tOp (uAdd G.K) (tLc (iSeq G.K (tVar 4)) (gName 8) tYes (tCall (sp_by G) [] C8.E0 (tCons (tVar 8) (tCons (tOp (rIx G.K) (tFld G.K (tVar 0) "signs") (tVar 3)) tNil))) [8]) (tVar 5)) (tLst (tCons (tCall (sp_by G) [] C8.E0 (tCons (tOp (rIx G.K) (tVar 2) (tVar 3)) (tCons (tOp (rIx G.K) (tFld G.K (tVar 0) "signs") (tVar 3)) tNil))) tNil))) tNil))) (tDrop (tBM G.K "list" rAppend (tFld G.K (tVar 0) "basis") (tCons (tOp (uAdd G.K) (tFld G.K (tVar 0) "many") (tVar 3)) tNil))))))))))
-- Program.turn: level 3, N = ['self', 'j', 'k', 'pivot', 'i', 'factor', 'one', 'a', 'b'], cells ['factor', 'pivot']
def t_m_turn (G : Gd) : TS := (tSeq (tAsg (tOp (rIx G.K) (tOp (rIx G.K) (tFld G.K (tVar 0) "rows") (tVar 1)) (tVar 2)) (gName 3)) (tSeq (tAsg (tLc (iSeq G.K (tOp (rIx G.K) (tFld G.K (tVar 0) "rows") (tVar 1))) (gName 6) tYes (tCall (sp_over G) [] C8.E0 (tCons (tVar 6) (tCons (tVar 3) tNil))) [6]) (gSub (tFld G.K (tVar 0) "rows") (tVar 1) rSetL)) (tSeq (tFor (iRng1 (tCons (tCB (uLen G.K) (tCons (tFld G.K (tVar 0) "rows") tNil)) tNil)) (gName 4) (tSeq (tAsg (tOp (rIx G.K) (tOp (rIx G.K) (tFld G.K (tVar 0) "rows") (tVar 4)) (tVar 2)) (gName 5)) (tIfS (tAnd (tTest (tOp (rNeP G.K) (tVar 4) (tVar 1))) (tTest (tOp (rNeP G.K) (tOp (rIx G.K) (tVar 5) (tC (.int 0))) (tC (.int 0))))) (tAsg (tLc (iZip G.K (tCons (tOp (rIx G.K) (tFld G.K (tVar 0) "rows") (tVar 4)) (tCons (tOp (rIx G.K) (tFld G.K (tVar 0) "rows") (tVar 1)) tNil))) (gTup G.K 2 (gCons (gName 7) (gCons (gName 8) gNil))) tYes (tCall (sp_minus G) [] C8.E0 (tCons (tVar 7) (tCons (tCall (sp_by G) [] C8.E0 (tCons (tVar 5) (tCons (tVar 8) tNil))) tNil))) [7, 8]) (gSub (tFld G.K (tVar 0) "rows") (tVar 4) rSetL)) tNext))) (tAsg (tVar 2) (gSub (tFld G.K (tVar 0) "basis") (tVar 1) rSetL)))))
-- Program.multiplier: level 4, N = ['self', 'costs', 'k', 'some', 'j', 'row'], cells ['costs', 'k', 'self']
def t_m_multiplier (G : Gd) : TS := (tSeq (tAsg (tLc (iEnum G.K (tCons (tFld G.K (tVar 0) "rows") tNil)) (gTup G.K 2 (gCons (gName 4) (gCons (gName 5) gNil))) (tAnd (tTest (tOp (rNeP G.K) (tOp (rIx G.K) (tOp (rIx G.K) (tVar 5) (tVar 2)) (tC (.int 0))) (tC (.int 0)))) (tTest (tOp (rNeP G.K) (tOp (rIx G.K) (tOp (rIx G.K) (tVar 1) (tOp (rIx G.K) (tFld G.K (tVar 0) "basis") (tVar 4))) (tC (.int 0))) (tC (.int 0))))) (tVar 4) [4, 5]) (gName 3)) (tRet (tCall (sp_sum_of G) [] C8.E0 (tCons (tLc (iSeq G.K (tVar 3)) (gName 4) tYes (tCall (sp_by G) [] C8.E0 (tCons (tOp (rIx G.K) (tVar 1) (tOp (rIx G.K) (tFld G.K (tVar 0) "basis") (tVar 4))) (tCons (tOp (rIx G.K) (tOp (rIx G.K) (tFld G.K (tVar 0) "rows") (tVar 4)) (tVar 2)) tNil))) [4]) tNil))))
-- Program.rising: level 5, N = ['self', 'costs', 'columns', 'k'], cells []
def t_m_rising (G : Gd) : TS := (tSeq (tFor (iRng1 (tCons (tVar 2) tNil)) (gName 3) (tIfS (tB (tCall (sp_less G) [] C8.E0 (tCons (tMeth G.C "multiplier" (sp_m_multiplier G) [] C8.E0 (tVar 0) (tCons (tVar 1) (tCons (tVar 3) tNil))) (tCons (tOp (rIx G.K) (tVar 1) (tVar 3)) tNil)))) (tRet (tVar 3)) tNext)) (tRet (tC .non)))
-- Program.climb: level 6, N = ['self', 'costs', 'columns', 'k', 'best', 'j', 'row', 'here'], cells []
def t_m_climb (G : Gd) : TS := (tWhile (tB (tC (.bl true))) (tSeq (tPar 3 4 (tCons (tMeth G.C "rising" (sp_m_rising G) [] C8.E0 (tVar 0) (tCons (tVar 1) (tCons (tVar 2) tNil))) (tCons (tC .non) tNil))) (tSeq (tIfS (tTest (tOp (uIsN) (tVar 3) (tC .non))) (tRet (tC (.bl true))) tNext) (tSeq (tFor (iEnum G.K (tCons (tFld G.K (tVar 0) "rows") tNil)) (gTup G.K 2 (gCons (gName 5) (gCons (gName 6) gNil))) (tIfS (tTest (tOp (uGt) (tOp (rIx G.K) (tOp (rIx G.K) (tVar 6) (tVar 3)) (tC (.int 0))) (tC (.int 0)))) (tSeq (tAsg (tCall (sp_over G) [] C8.E0 (tCons (tOp (rIx G.K) (tVar 6) (tUn uNeg (tC (.int 1)))) (tCons (tOp (rIx G.K) (tVar 6) (tVar 3)) tNil))) (gName 7)) (tIfS (tOr (tTest (tOp (uIsN) (tVar 4) (tC .non))) (tOr (tB (tCall (sp_less G) [] C8.E0 (tCons (tVar 7) (tCons (tOp (rIx G.K) (tVar 4) (tC (.int 0))) tNil)))) (tAnd (tTest (tOp (rEqP G.K) (tVar 7) (tOp (rIx G.K) (tVar 4) (tC (.int 0))))) (tTest (tOp (uLt) (tOp (rIx G.K) (tFld G.K (tVar 0) "basis") (tVar 5)) (tOp (rIx G.K) (tFld G.K (tVar 0) "basis") (tOp (rIx G.K) (tVar 4) (tC (.int 1))))))))) (tAsg (tTup (tCons (tVar 7) (tCons (tVar 5) tNil))) (gName 4)) tNext)) tNext)) (tSeq (tIfS (tTest (tOp (uIsN) (tVar 4) (tC .non))) (tRet (tC (.bl false))) tNext) (tDrop (tMeth G.C "turn" (sp_m_turn G) [] C8.E0 (tVar 0) (tCons (tOp (rIx G.K) (tVar 4) (tC (.int 1))) (tCons (tVar 3) tNil)))))))))
-- Program.leave_help: level 4, N = ['self', 'j', 'some', 'k'], cells ['j', 'self']
def t_m_leave_help (G : Gd) : TS := (tFor (iRng3 (tCons (tOp (uSub) (tCB (uLen G.K) (tCons (tFld G.K (tVar 0) "rows") tNil)) (tC (.int 1))) (tCons (tUn uNeg (tC (.int 1))) (tCons (tUn uNeg (tC (.int 1))) tNil)))) (gName 1) (tIfS (tTest (tOp (uGe G.K) (tOp (rIx G.K) (tFld G.K (tVar 0) "basis") (tVar 1)) (tFld G.K (tVar 0) "many"))) (tSeq (tAsg (tLc (iRng1 (tCons (tFld G.K (tVar 0) "many") tNil)) (gName 3) (tTest (tOp (rNeP G.K) (tOp (rIx G.K) (tOp (rIx G.K) (tOp (rIx G.K) (tFld G.K (tVar 0) "rows") (tVar 1)) (tVar 3)) (tC (.int 0))) (tC (.int 0)))) (tVar 3) [3]) (gName 2)) (tIfS (tTru G.K (tVar 2)) (tDrop (tMeth G.C "turn" (sp_m_turn G) [] C8.E0 (tVar 0) (tCons (tVar 1) (tCons (tOp (rIx G.K) (tVar 2) (tC (.int 0))) tNil)))) tNever)) tNext))
-- Program.amounts: level 1, N = ['self', 'found', 'j', 'row', 'k'], cells []
def t_m_amounts (G : Gd) : TS := (tSeq (tAsg (tLc (iRng1 (tCons (tFld G.K (tVar 0) "many") tNil)) (gName 4) tYes (tTup (tCons (tC (.int 0)) (tCons (tC (.int 1)) tNil))) [4]) (gName 1)) (tSeq (tFor (iEnum G.K (tCons (tFld G.K (tVar 0) "rows") tNil)) (gTup G.K 2 (gCons (gName 2) (gCons (gName 3) gNil))) (tIfS (tTest (tOp (uLt) (tOp (rIx G.K) (tFld G.K (tVar 0) "basis") (tVar 2)) (tFld G.K (tVar 0) "many"))) (tAsg (tOp (rIx G.K) (tVar 3) (tUn uNeg (tC (.int 1)))) (gSub (tVar 1) (tOp (rIx G.K) (tFld G.K (tVar 0) "basis") (tVar 2)) rSetL)) tNext)) (tRet (tVar 1))))
-- Program.prices: level 5, N = ['self', 'costs', 'j', 'sign'], cells ['costs', 'self']
def t_m_prices (G : Gd) : TS := (tRet (tLc (iEnum G.K (tCons (tFld G.K (tVar 0) "signs") tNil)) (gTup G.K 2 (gCons (gName 2) (gCons (gName 3) gNil))) tYes (tCall (sp_by G) [] C8.E0 (tCons (tVar 3) (tCons (tMeth G.C "multiplier" (sp_m_multiplier G) [] C8.E0 (tVar 0) (tCons (tVar 1) (tCons (tOp (uAdd G.K) (tFld G.K (tVar 0) "many") (tVar 2)) tNil))) tNil))) [2, 3]))
-- solved: level 7, N = ['rows', 'goals', 'costs', 'program', 'helping', 'all_costs', 'k', 'row'], cells []
def t_solved (G : Gd) : TS := (tSeq (tAsg (tMake G.C (sp_mk G) [] C8.E0 (tCons (tVar 0) (tCons (tVar 1) tNil))) (gName 3)) (tSeq (tAsg (tOp (uAdd G.K) (tLc (iSeq G.K (tVar 2)) (gName 6) tYes (tTup (tCons (tC (.int 0)) (tCons (tC (.int 1)) tNil))) [6]) (tLc (iSeq G.K (tVar 0)) (gName 7) tYes (tTup (tCons (tUn uNeg (tC (.int 1))) (tCons (tC (.int 1)) tNil))) [7])) (gName 4)) (tSeq (tDrop (tMeth G.C "climb" (sp_m_climb G) [] C8.E0 (tVar 3) (tCons (tVar 4) (tCons (tFld G.K (tVar 3) "many") tNil)))) (tSeq (tIfS (tTest (tOp (uLt) (tOp (rIx G.K) (tMeth G.C "multiplier" (sp_m_multiplier G) [] C8.E0 (tVar 3) (tCons (tVar 4) (tCons (tOp (uAdd G.K) (tFld G.K (tVar 3) "many") (tCB (uLen G.K) (tCons (tVar 0) tNil))) tNil))) (tC (.int 0))) (tC (.int 0)))) tNever tNext) (tSeq (tDrop (tMeth G.C "leave_help" (sp_m_leave_help G) [] C8.E0 (tVar 3) tNil)) (tSeq (tAsg (tOp (uAdd G.K) (tCB (uLst G.K) (tCons (tVar 2) tNil)) (tLc (iSeq G.K (tVar 0)) (gName 7) tYes (tTup (tCons (tC (.int 0)) (tCons (tC (.int 1)) tNil))) [7])) (gName 5)) (tSeq (tIfS (tNot (tB (tMeth G.C "climb" (sp_m_climb G) [] C8.E0 (tVar 3) (tCons (tVar 5) (tCons (tFld G.K (tVar 3) "many") tNil))))) tNever tNext) (tRet (tTup (tCons (tC (.str "best")) (tCons (tMeth G.C "amounts" (sp_m_amounts G) [] C8.E0 (tVar 3) tNil) (tCons (tMeth G.C "prices" (sp_m_prices G) [] C8.E0 (tVar 3) (tCons (tVar 5) tNil)) tNil))))))))))))
-- covers: level 4, N = ['web', 'lot'], cells []
def t_covers (G : Gd) : TS := (tRet (tOp (rEqP G.K) (tCB (uLen G.K) (tCons (tCall (sp_with_foes G) [] C8.E0 (tCons (tVar 0) (tCons (tVar 1) tNil))) tNil)) (tOp (rIx G.K) (tVar 0) (tC (.int 0)))))
-- least_lots: level 5, N = ['web', 'some', 'few', 'lot'], cells ['few', 'web']
def t_least_lots (G : Gd) : TS := (tSeq (tAsg (tLc (iSeq G.K (tCall (sp_all_lots G) [] C8.E0 (tCons (tVar 0) tNil))) (gName 3) (tB (tCall (sp_covers G) [] C8.E0 (tCons (tVar 0) (tCons (tVar 3) tNil)))) (tVar 3) [3]) (gName 1)) (tSeq (tAsg (tCB (uMin G.K) (tCons (tLc (iSeq G.K (tVar 1)) (gName 3) tYes (tCB (uLen G.K) (tCons (tVar 3) tNil)) [3]) tNil)) (gName 2)) (tRet (tLc (iSeq G.K (tVar 1)) (gName 3) (tTest (tOp (rEqP G.K) (tCB (uLen G.K) (tCons (tVar 3) tNil)) (tVar 2))) (tVar 3) [3]))))
-- forget_row: level 6, N = ['web'], cells []
def t_forget_row (G : Gd) : TS := (tSeq (tDrop (tCall (sp_need_web G) [] C8.E0 (tCons (tVar 0) tNil))) (tRet (tOp (rIx G.K) (tCall (sp_least_lots G) [] C8.E0 (tCons (tVar 0) tNil)) (tC (.int 0)))))
-- forget_length: level 6, N = ['web'], cells []
def t_forget_length (G : Gd) : TS := (tSeq (tDrop (tCall (sp_need_web G) [] C8.E0 (tCons (tVar 0) tNil))) (tRet (tCB (uLen G.K) (tCons (tOp (rIx G.K) (tCall (sp_least_lots G) [] C8.E0 (tCons (tVar 0) tNil)) (tC (.int 0))) tNil))))
-- forget_lots: level 6, N = ['web'], cells []
def t_forget_lots (G : Gd) : TS := (tSeq (tDrop (tCall (sp_need_web G) [] C8.E0 (tCons (tVar 0) tNil))) (tRet (tCB (uTup G.K) (tCons (tCall (sp_least_lots G) [] C8.E0 (tCons (tVar 0) tNil)) tNil))))
-- need_costs: level 3, N = ['web', 'costs'], cells []
def t_need_costs (G : Gd) : TS := (tSeq (tDrop (tCall (sp_need_web G) [] C8.E0 (tCons (tVar 0) tNil))) (tIfS (tOr (tNot (tB (tCB (uIsi G.K) (tCons (tVar 1) (tCons (tC (.ty "tuple")) tNil))))) (tOr (tTest (tOp (rNeP G.K) (tCB (uLen G.K) (tCons (tVar 1) tNil)) (tOp (rIx G.K) (tVar 0) (tC (.int 0))))) (tNot (tB (GX.tAllG (G.p_need_costs) (iSeq G.K (tVar 1)) (tCall (sp_is_in G) [] C8.E0 (tCons (tVar 0) (tCons (tC (.int 0)) (tCons (tC (.int 1000)) tNil)))) []))))) tNever tNext))
-- cost_of: level 2, N = ['costs', 'lot'], cells ['costs']
def t_cost_of (G : Gd) : TS := (tRet (GX.tSumG (G.p_cost_of) (iSeq G.K (tVar 1)) (tOp (rIx G.K) (tVar 1) (tVar 0)) [0]))
-- cheapest: level 5, N = ['web', 'costs', 'lot'], cells ['costs', 'web']
def t_cheapest (G : Gd) : TS := (tRet (tCB (uMin G.K) (tCons (tLc (iSeq G.K (tCall (sp_all_lots G) [] C8.E0 (tCons (tVar 0) tNil))) (gName 2) (tB (tCall (sp_covers G) [] C8.E0 (tCons (tVar 0) (tCons (tVar 2) tNil)))) (tTup (tCons (tCall (sp_cost_of G) [] C8.E0 (tCons (tVar 1) (tCons (tVar 2) tNil))) (tCons (tVar 2) tNil))) [2]) tNil)))
-- cheap_forget: level 6, N = ['web', 'costs'], cells []
def t_cheap_forget (G : Gd) : TS := (tSeq (tDrop (tCall (sp_need_costs G) [] C8.E0 (tCons (tVar 0) (tCons (tVar 1) tNil)))) (tRet (tCall (sp_cheapest G) [] C8.E0 (tCons (tVar 0) (tCons (tVar 1) tNil)))))
-- shows_cheap_forget: level 6, N = ['web', 'costs', 'value', 'best'], cells []
def t_shows_cheap_forget (G : Gd) : TS := (tSeq (tDrop (tCall (sp_need_costs G) [] C8.E0 (tCons (tVar 0) (tCons (tVar 1) tNil)))) (tSeq (tAsg (tOp (rIx G.K) (tCall (sp_cheapest G) [] C8.E0 (tCons (tVar 0) (tCons (tVar 1) tNil))) (tC (.int 0))) (gName 3)) (tSeq (tIfS (tOr (tNot (tB (tCB (uIsi G.K) (tCons (tVar 2) (tCons (tC (.ty "tuple")) tNil))))) (tOr (tTest (tOp (rNeP G.K) (tCB (uLen G.K) (tCons (tVar 2) tNil)) (tC (.int 2)))) (tNot (tB (tCall (sp_is_in G) [] C8.E0 (tCons (tOp (rIx G.K) (tVar 2) (tC (.int 0))) (tCons (tVar 3) (tCons (tVar 3) tNil)))))))) (tRet (tC (.bl false))) tNext) (tRet (tAndV (tCall (sp_is_lot G) [] C8.E0 (tCons (tVar 0) (tCons (tOp (rIx G.K) (tVar 2) (tC (.int 1))) tNil))) (tAndV (tCall (sp_covers G) [] C8.E0 (tCons (tVar 0) (tCons (tOp (rIx G.K) (tVar 2) (tC (.int 1))) tNil))) (tOp (rEqP G.K) (tCall (sp_cost_of G) [] C8.E0 (tCons (tVar 1) (tCons (tOp (rIx G.K) (tVar 2) (tC (.int 1))) tNil))) (tVar 3))))))))
-- paper_of: level 8, N = ['web', 'costs', 'size', 'rows', 'person', 'near', 'slack', 'aims', 'k', 'cost'], cells ['near', 'person', 'size']
def t_paper_of (G : Gd) : TS := (tSeq (tAsg (tTup (tCons (tOp (rIx G.K) (tVar 0) (tC (.int 0))) (tCons (tLst tNil) tNil))) (gTup G.K 2 (gCons (gName 2) (gCons (gName 3) gNil)))) (tSeq (tFor (iRng1 (tCons (tVar 2) tNil)) (gName 4) (tSeq (tAsg (tLst (tCons (tVar 4) (StX.tStar G.K (tCall (sp_foes G) [] C8.E0 (tCons (tVar 0) (tCons (tVar 4) tNil))) tNil))) (gName 5)) (tSeq (tAsg (tLc (iRng1 (tCons (tVar 2) tNil)) (gName 8) tYes (tTup (tCons (tIf (tTest (tOp (rEqP G.K) (tVar 8) (tVar 4))) (tC (.int 1)) (tC (.int 0))) (tCons (tC (.int 1)) tNil))) [8]) (gName 6)) (tDrop (tBM G.K "list" rAppend (tVar 3) (tCons (tOp (uAdd G.K) (tLc (iRng1 (tCons (tVar 2) tNil)) (gName 8) tYes (tTup (tCons (tIf (tTest (tOp (rInP G.K) (tVar 8) (tVar 5))) (tC (.int 1)) (tC (.int 0))) (tCons (tC (.int 1)) tNil))) [8]) (tVar 6)) tNil)))))) (tSeq (tAsg (tLc (iRng1 (tCons (tOp (uMul G.K) (tC (.int 2)) (tVar 2)) tNil)) (gName 8) tYes (tTup (tCons (tIf (tTest (tOp (uLt) (tVar 8) (tVar 2))) (tC (.int 1)) (tC (.int 0))) (tCons (tC (.int 1)) tNil))) [8]) (gName 7)) (tRet (tSl (uSl G.K) (tOp (rIx G.K) (tCall (sp_solved G) [] C8.E0 (tCons (tVar 3) (tCons (tLc (iSeq G.K (tVar 1)) (gName 9) tYes (tTup (tCons (tVar 9) (tCons (tC (.int 1)) tNil))) [9]) (tCons (tVar 7) tNil)))) (tC (.int 1))) tNoPart (tPart (tVar 2)))))))
-- forget_paper: level 9, N = ['web', 'costs'], cells []
def t_forget_paper (G : Gd) : TS := (tSeq (tDrop (tCall (sp_need_costs G) [] C8.E0 (tCons (tVar 0) (tCons (tVar 1) tNil)))) (tRet (tCB (uTup G.K) (tCons (tCall (sp_paper_of G) [] C8.E0 (tCons (tVar 0) (tCons (tVar 1) tNil))) tNil))))
-- shows_forget_paper: level 9, N = ['web', 'costs', 'value', 'person', 'near', 'other'], cells ['value']
def t_shows_forget_paper (G : Gd) : TS := (tSeq (tDrop (tCall (sp_need_costs G) [] C8.E0 (tCons (tVar 0) (tCons (tVar 1) tNil)))) (tSeq (tIfS (tOr (tNot (tB (tCB (uIsi G.K) (tCons (tVar 2) (tCons (tC (.ty "tuple")) tNil))))) (tOr (tTest (tOp (rNeP G.K) (tCB (uLen G.K) (tCons (tVar 2) tNil)) (tOp (rIx G.K) (tVar 0) (tC (.int 0))))) (tNot (tB (GX.tAllG (G.p_shows_forget_paper) (iSeq G.K (tVar 2)) (tAndV (tCall (sp_is_ratio G) [] C8.E0 (tCons (tVar 0) tNil)) (tOp (uGe G.K) (tOp (rIx G.K) (tVar 0) (tC (.int 0))) (tC (.int 0)))) []))))) (tRet (tC (.bl false))) tNext) (tSeq (tFor (iRng1 (tCons (tOp (rIx G.K) (tVar 0) (tC (.int 0))) tNil)) (gName 3) (tSeq (tAsg (tCall (sp_sum_of G) [] C8.E0 (tCons (tLst (tCons (tOp (rIx G.K) (tVar 2) (tVar 3)) (StX.tStar G.K (tLc (iSeq G.K (tCall (sp_foes G) [] C8.E0 (tCons (tVar 0) (tCons (tVar 3) tNil)))) (gName 5) tYes (tOp (rIx G.K) (tVar 2) (tVar 5)) [5]) tNil))) tNil)) (gName 4)) (tIfS (tB (tCall (sp_less G) [] C8.E0 (tCons (tTup (tCons (tOp (rIx G.K) (tVar 1) (tVar 3)) (tCons (tC (.int 1)) tNil))) (tCons (tVar 4) tNil)))) (tRet (tC (.bl false))) tNext))) (tRet (tOp (rEqP G.K) (tCall (sp_sum_of G) [] C8.E0 (tCons (tCB (uLst G.K) (tCons (tVar 2) tNil)) tNil)) (tCall (sp_sum_of G) [] C8.E0 (tCons (tCall (sp_paper_of G) [] C8.E0 (tCons (tVar 0) (tCons (tVar 1) tNil))) tNil)))))))
-- _law_taken: level 1, N = ['_law_row_here', '_law_many', '_law_found', '_law_cell'], cells []
def t_w_taken (G : Gd) : TS := (tSeq (tIfS (tTest (tOp (uGt) (tOp (rIx G.K) (tVar 0) (tC (.int 3))) (tC (.int 0)))) (tSeq (tAsg (tOp (uMod) (tCB (uInt) (tCons (tOp (rIx G.K) (tVar 0) (tC (.int 3))) tNil)) (tVar 1)) (gName 2)) (tSeq (tAsg (tOp (uFdv) (tOp (rIx G.K) (tVar 0) (tC (.int 3))) (tVar 1)) (gSub (tVar 0) (tC (.int 3)) rSetL)) (tRet (tVar 2)))) tNext) (tSeq (tAsg (tOp (uAdd G.K) (tOp (rIx G.K) (tVar 0) (tC (.int 1))) (tC (.int 1))) (gSub (tVar 0) (tC (.int 1)) rSetL)) (tSeq (tIfS (tTest (tOp (uGt) (tOp (rIx G.K) (tVar 0) (tC (.int 1))) (tCB (uLen G.K) (tCons (tOp (rIx G.K) (tVar 0) (tC (.int 0))) tNil)))) (tSeq (tAsg (tOp (uMod) (tCB (uInt) (tCons (tOp (uAdd G.K) (tOp (uMul G.K) (tOp (rIx G.K) (tVar 0) (tC (.int 2))) (tC (.int 48271))) (tC (.int 11))) tNil)) (tC (.int 2147483647))) (gSub (tVar 0) (tC (.int 2)) rSetL)) (tRet (tOp (uMod) (tCB (uInt) (tCons (tOp (uFdv) (tOp (rIx G.K) (tVar 0) (tC (.int 2))) (tC (.int 7))) tNil)) (tVar 1)))) tNext) (tSeq (tAsg (tOp (rIx G.K) (tOp (rIx G.K) (tVar 0) (tC (.int 0))) (tOp (uSub) (tOp (rIx G.K) (tVar 0) (tC (.int 1))) (tC (.int 1)))) (gName 3)) (tSeq (tAsg (tOp (uMod) (tCB (uInt) (tCons (tOp (uAdd G.K) (tOp (uAdd G.K) (tOp (uMul G.K) (tOp (rIx G.K) (tVar 0) (tC (.int 2))) (tC (.int 48271))) (tVar 3)) (tC (.int 11))) tNil)) (tC (.int 2147483647))) (gSub (tVar 0) (tC (.int 2)) rSetL)) (tSeq (tIfS (tTest (tOp (uGe G.K) (tVar 3) (tOp (uPow) (tC (.int 10)) (tC (.int 18))))) (tAsg (tOp (uFdv) (tVar 3) (tVar 1)) (gSub (tVar 0) (tC (.int 3)) rSetL)) tNext) (tRet (tOp (uMod) (tCB (uInt) (tCons (tVar 3) tNil)) (tVar 1)))))))))
-- _law_alike: level 3, N = ['_law_found', '_law_due', '_law_k'], cells ['_law_due', '_law_found']
def t_w_alike (G : Gd) (spr : Sp) : TS := (tSeq (tIfS (tB (tCB (uIsi G.K) (tCons (tVar 1) (tCons (tTup (tCons (tC (.ty "tuple")) (tCons (tC (.ty "list")) tNil))) tNil)))) (tSeq (tIfS (tOr (tNot (tB (tCB (uIsi G.K) (tCons (tVar 0) (tCons (tTup (tCons (tC (.ty "tuple")) (tCons (tC (.ty "list")) tNil))) tNil))))) (tTest (tOp (rNeP G.K) (tCB (uIsi G.K) (tCons (tVar 0) (tCons (tC (.ty "list")) tNil))) (tCB (uIsi G.K) (tCons (tVar 1) (tCons (tC (.ty "list")) tNil)))))) (tRet (tC (.bl false))) tNext) (tSeq (tIfS (tTest (tOp (rNeP G.K) (tCB (uLen G.K) (tCons (tVar 0) tNil)) (tCB (uLen G.K) (tCons (tVar 1) tNil)))) (tRet (tC (.bl false))) tNext) (tRet (tOp (rEqP G.K) (tLc (iRng1 (tCons (tCB (uLen G.K) (tCons (tVar 1) tNil)) tNil)) (gName 2) (tNot (tB (tCall spr [] C8.E0 (tCons (tOp (rIx G.K) (tVar 0) (tVar 2)) (tCons (tOp (rIx G.K) (tVar 1) (tVar 2)) tNil))))) (tVar 2) [2]) (tLst tNil))))) tNext) (tSeq (tIfS (tOr (tTest (tOp (uIsN) (tVar 1) (tC .non))) (tB (tCB (uIsi G.K) (tCons (tVar 1) (tCons (tC (.ty "str")) tNil))))) (tRet (tAndV (tOp (rEqP G.K) (tVar 0) (tVar 1)) (tOp (rEqP G.K) (tCB (uIsi G.K) (tCons (tVar 0) (tCons (tC (.ty "str")) tNil))) (tCB (uIsi G.K) (tCons (tVar 1) (tCons (tC (.ty "str")) tNil)))))) tNext) (tRet (tAndV (tCB (uIsi G.K) (tCons (tVar 0) (tCons (tC (.ty "int")) tNil))) (tAndV (tOp (rEqP G.K) (tCB (uIsi G.K) (tCons (tVar 0) (tCons (tC (.ty "bool")) tNil))) (tCB (uIsi G.K) (tCons (tVar 1) (tCons (tC (.ty "bool")) tNil)))) (tOp (rEqP G.K) (tVar 0) (tVar 1)))))))
-- _law_alike0: level 1, N = ['_law_found', '_law_due', '_law_k'], cells ['_law_due', '_law_found']
def t_w_alike0 (G : Gd) : TS := (tSeq (tIfS (tB (tCB (uIsi G.K) (tCons (tVar 1) (tCons (tTup (tCons (tC (.ty "tuple")) (tCons (tC (.ty "list")) tNil))) tNil)))) tNever tNext) (tSeq (tIfS (tOr (tTest (tOp (uIsN) (tVar 1) (tC .non))) (tB (tCB (uIsi G.K) (tCons (tVar 1) (tCons (tC (.ty "str")) tNil))))) (tRet (tAndV (tOp (rEqP G.K) (tVar 0) (tVar 1)) (tOp (rEqP G.K) (tCB (uIsi G.K) (tCons (tVar 0) (tCons (tC (.ty "str")) tNil))) (tCB (uIsi G.K) (tCons (tVar 1) (tCons (tC (.ty "str")) tNil)))))) tNext) (tRet (tAndV (tCB (uIsi G.K) (tCons (tVar 0) (tCons (tC (.ty "int")) tNil))) (tAndV (tOp (rEqP G.K) (tCB (uIsi G.K) (tCons (tVar 0) (tCons (tC (.ty "bool")) tNil))) (tCB (uIsi G.K) (tCons (tVar 1) (tCons (tC (.ty "bool")) tNil)))) (tOp (rEqP G.K) (tVar 0) (tVar 1)))))))
-- _law_ratio: level 1, N = ['_law_top', '_law_bottom', '_law_one', '_law_other'], cells []
def t_w_ratio (G : Gd) : TS := (tSeq (tPar 2 3 (tCons (tCB (uAbs) (tCons (tVar 0) tNil)) (tCons (tCB (uAbs) (tCons (tVar 1) tNil)) tNil))) (tSeq (tWhile (tTest (tOp (rNeP G.K) (tVar 3) (tC (.int 0)))) (tPar 2 3 (tCons (tVar 3) (tCons (tOp (uMod) (tCB (uInt) (tCons (tVar 2) tNil)) (tVar 3)) tNil)))) (tRet (tIf (tTest (tOp (uGt) (tVar 1) (tC (.int 0)))) (tTup (tCons (tOp (uFdv) (tVar 0) (tVar 2)) (tCons (tOp (uFdv) (tVar 1) (tVar 2)) tNil))) (tTup (tCons (tOp (uSub) (tC (.int 0)) (tOp (uFdv) (tVar 0) (tVar 2))) (tCons (tOp (uSub) (tC (.int 0)) (tOp (uFdv) (tVar 1) (tVar 2))) tNil)))))))
-- _law_plus: level 2, N = ['_law_one', '_law_other'], cells []
def t_w_plus (G : Gd) : TS := (tRet (tCall (sp_w_ratio G) [] C8.E0 (tCons (tOp (uAdd G.K) (tOp (uMul G.K) (tOp (rIx G.K) (tVar 0) (tC (.int 0))) (tOp (rIx G.K) (tVar 1) (tC (.int 1)))) (tOp (uMul G.K) (tOp (rIx G.K) (tVar 1) (tC (.int 0))) (tOp (rIx G.K) (tVar 0) (tC (.int 1))))) (tCons (tOp (uMul G.K) (tOp (rIx G.K) (tVar 0) (tC (.int 1))) (tOp (rIx G.K) (tVar 1) (tC (.int 1)))) tNil))))
-- _law_sum: level 3, N = ['_law_some', '_law_found', '_law_one'], cells []
def t_w_sum (G : Gd) : TS := (tSeq (tAsg (tTup (tCons (tC (.int 0)) (tCons (tC (.int 1)) tNil))) (gName 1)) (tSeq (tFor (iSeq G.K (tVar 0)) (gName 2) (tAsg (tCall (sp_w_plus G) [] C8.E0 (tCons (tVar 1) (tCons (tVar 2) tNil))) (gName 1))) (tRet (tVar 1))))
-- _law_less: level 1, N = ['_law_one', '_law_other'], cells []
def t_w_less (G : Gd) : TS := (tRet (tOp (uLt) (tOp (uMul G.K) (tOp (rIx G.K) (tVar 0) (tC (.int 0))) (tOp (rIx G.K) (tVar 1) (tC (.int 1)))) (tOp (uMul G.K) (tOp (rIx G.K) (tVar 1) (tC (.int 0))) (tOp (rIx G.K) (tVar 0) (tC (.int 1))))))
-- _law_is_ratio: level 2, N = ['_law_value', '_law_one'], cells []
def t_w_is_ratio (G : Gd) : TS := (tSeq (tIfS (tOr (tNot (tB (tCB (uIsi G.K) (tCons (tVar 0) (tCons (tC (.ty "tuple")) tNil))))) (tOr (tTest (tOp (rNeP G.K) (tCB (uLen G.K) (tCons (tVar 0) tNil)) (tC (.int 2)))) (tTest (tOp (rNeP G.K) (tLc (iSeq G.K (tVar 0)) (gName 1) (tOr (tNot (tB (tCB (uIsi G.K) (tCons (tVar 1) (tCons (tC (.ty "int")) tNil))))) (tB (tCB (uIsi G.K) (tCons (tVar 1) (tCons (tC (.ty "bool")) tNil))))) (tVar 1) [1]) (tLst tNil))))) (tRet (tC (.bl false))) tNext) (tRet (tAndV (tOp (uGt) (tOp (rIx G.K) (tVar 0) (tC (.int 1))) (tC (.int 0))) (tOp (rEqP G.K) (tCall (sp_w_ratio G) [] C8.E0 (tCons (tOp (rIx G.K) (tVar 0) (tC (.int 0))) (tCons (tOp (rIx G.K) (tVar 0) (tC (.int 1))) tNil))) (tVar 0)))))
-- _law_web: level 2, N = ['_law_row_here', '_law_most', '_law_size', '_law_pairs', '_law_way', '_law_one', '_law_other', '_law_near'], cells []
def t_w_web (G : Gd) : TS := (tSeq (tPar 2 3 (tCons (tOp (uAdd G.K) (tC (.int 1)) (tCall (sp_w_taken G) [] C8.E0 (tCons (tVar 0) (tCons (tVar 1) tNil)))) (tCons (tLst tNil) tNil))) (tSeq (tAsg (tCall (sp_w_taken G) [] C8.E0 (tCons (tVar 0) (tCons (tC (.int 4)) tNil))) (gName 4)) (tSeq (tFor (iRng1 (tCons (tVar 2) tNil)) (gName 5) (tFor (iRng2 (tCons (tOp (uAdd G.K) (tVar 5) (tC (.int 1))) (tCons (tVar 2) tNil))) (gName 6) (tSeq (tAsg (tOrV (tOp (rEqP G.K) (tVar 6) (tOp (uAdd G.K) (tVar 5) (tC (.int 1)))) (tAndV (tOp (rEqP G.K) (tVar 5) (tC (.int 0))) (tAndV (tOp (rEqP G.K) (tVar 6) (tOp (uSub) (tVar 2) (tC (.int 1)))) (tOp (rEqP G.K) (tVar 4) (tC (.int 1)))))) (gName 7)) (tIfS (tOr (tAnd (tTest (tOp (rEqP G.K) (tCall (sp_w_taken G) [] C8.E0 (tCons (tVar 0) (tCons (tC (.int 3)) tNil))) (tC (.int 0)))) (tTest (tOp (uGt) (tVar 4) (tC (.int 1))))) (tOr (tAnd (tB (tVar 7)) (tTest (tOp (uLt) (tVar 4) (tC (.int 2))))) (tAnd (tTest (tOp (rEqP G.K) (tVar 4) (tC (.int 3)))) (tTest (tOp (rEqP G.K) (tCall (sp_w_taken G) [] C8.E0 (tCons (tVar 0) (tCons (tC (.int 2)) tNil))) (tC (.int 0))))))) (tDrop (tBM G.K "list" rAppend (tVar 3) (tCons (tTup (tCons (tVar 5) (tCons (tVar 6) tNil))) tNil))) tNext)))) (tRet (tTup (tCons (tVar 2) (tCons (tCB (uTup G.K) (tCons (tVar 3) tNil)) tNil)))))))
-- _law_foes: level 1, N = ['_law_web_here', '_law_person', '_law_found', '_law_one', '_law_other'], cells []
def t_w_foes (G : Gd) : TS := (tSeq (tAsg (tLst tNil) (gName 2)) (tSeq (tFor (iSeq G.K (tOp (rIx G.K) (tVar 0) (tC (.int 1)))) (gTup G.K 2 (gCons (gName 3) (gCons (gName 4) gNil))) (tAsg (tOp (uAdd G.K) (tOp (uAdd G.K) (tVar 2) (tOp (uMul G.K) (tLst (tCons (tVar 4) tNil)) (tCB (uInt) (tCons (tOp (rEqP G.K) (tVar 3) (tVar 1)) tNil)))) (tOp (uMul G.K) (tLst (tCons (tVar 3) tNil)) (tCB (uInt) (tCons (tOp (rEqP G.K) (tVar 4) (tVar 1)) tNil)))) (gName 2))) (tRet (tCB (uSrt G.K G.w) (tCons (tVar 2) tNil)))))
-- _law_lots: level 1, N = ['_law_web_here', '_law_found', '_law_person', '_law_one'], cells ['_law_person']
def t_w_lots (G : Gd) : TS := (tSeq (tAsg (tLst (tCons (tTup tNil) tNil)) (gName 1)) (tSeq (tFor (iRng1 (tCons (tOp (rIx G.K) (tVar 0) (tC (.int 0))) tNil)) (gName 2) (tAsg (tOp (uAdd G.K) (tVar 1) (tLc (iSeq G.K (tVar 1)) (gName 3) tYes (tOp (uAdd G.K) (tVar 3) (tTup (tCons (tVar 2) tNil))) [3])) (gName 1))) (tRet (tCB (uSrt G.K G.w) (tCons (tVar 1) tNil)))))
-- _law_deed: level 2, N = ['_law_web_here', '_law_comers', '_law_stays', '_law_gone', '_law_k', '_law_later', '_law_bad', '_law_one'], cells ['_law_later']
def t_w_deed (G : Gd) : TS := (tSeq (tPar 2 3 (tCons (tLst tNil) (tCons (tLst tNil) tNil))) (tSeq (tFor (iRng1 (tCons (tCB (uLen G.K) (tCons (tVar 1) tNil)) tNil)) (gName 4) (tSeq (tAsg (tSl (uSl G.K) (tVar 1) (tPart (tOp (uAdd G.K) (tVar 4) (tC (.int 1)))) tNoPart) (gName 5)) (tSeq (tAsg (tCall (sp_w_foes G) [] C8.E0 (tCons (tVar 0) (tCons (tOp (rIx G.K) (tVar 1) (tVar 4)) tNil))) (gName 6)) (tSeq (tAsg (tOp (uAdd G.K) (tOp (uAdd G.K) (tVar 3) (tLst (tCons (tOp (rIx G.K) (tVar 1) (tVar 4)) tNil))) (tVar 6)) (gName 3)) (tIfS (tAnd (tTest (tOp (rNiP G.K) (tOp (rIx G.K) (tVar 1) (tVar 4)) (tVar 5))) (tTest (tOp (rEqP G.K) (tLc (iSeq G.K (tVar 6)) (gName 7) (tTest (tOp (rInP G.K) (tVar 7) (tVar 5))) (tVar 7) [7]) (tLst tNil)))) (tDrop (tBM G.K "list" rAppend (tVar 2) (tCons (tOp (rIx G.K) (tVar 1) (tVar 4)) tNil))) tNext))))) (tRet (tTup (tCons (tCB (uTup G.K) (tCons (tCB (uSrt G.K G.w) (tCons (tVar 2) tNil)) tNil)) (tCons (tCB (uTup G.K) (tCons (tCB (uSrt G.K G.w) (tCons (tCB (rSetI G.K G.w) (tCons (tVar 3) tNil)) tNil)) tNil)) tNil))))))
-- _law_covers: level 3, N = ['_law_web_here', '_law_lot'], cells []
def t_w_covers (G : Gd) : TS := (tRet (tOp (rEqP G.K) (tCB (uLen G.K) (tCons (tOp (rIx G.K) (tCall (sp_w_deed G) [] C8.E0 (tCons (tVar 0) (tCons (tVar 1) tNil))) (tC (.int 1))) tNil)) (tOp (rIx G.K) (tVar 0) (tC (.int 0)))))
-- _law_fits: level 4, N = ['_law_web_here', '_law_costs', '_law_value', '_law_one', '_law_person', '_law_near', '_law_other'], cells ['_law_value']
def t_w_fits (G : Gd) : TS := (tSeq (tIfS (tOr (tNot (tB (tCB (uIsi G.K) (tCons (tVar 2) (tCons (tC (.ty "tuple")) tNil))))) (tTest (tOp (rNeP G.K) (tCB (uLen G.K) (tCons (tVar 2) tNil)) (tOp (rIx G.K) (tVar 0) (tC (.int 0)))))) (tRet (tC (.bl false))) tNext) (tSeq (tFor (iSeq G.K (tVar 2)) (gName 3) (tIfS (tOr (tNot (tB (tCall (sp_w_is_ratio G) [] C8.E0 (tCons (tVar 3) tNil)))) (tTest (tOp (uLt) (tOp (rIx G.K) (tVar 3) (tC (.int 0))) (tC (.int 0))))) (tRet (tC (.bl false))) tNext)) (tSeq (tFor (iRng1 (tCons (tOp (rIx G.K) (tVar 0) (tC (.int 0))) tNil)) (gName 4) (tSeq (tAsg (tCall (sp_w_sum G) [] C8.E0 (tCons (tLc (iSeq G.K (tOp (uAdd G.K) (tLst (tCons (tVar 4) tNil)) (tCall (sp_w_foes G) [] C8.E0 (tCons (tVar 0) (tCons (tVar 4) tNil))))) (gName 6) tYes (tOp (rIx G.K) (tVar 2) (tVar 6)) [6]) tNil)) (gName 5)) (tIfS (tB (tCall (sp_w_less G) [] C8.E0 (tCons (tTup (tCons (tOp (rIx G.K) (tVar 1) (tVar 4)) (tCons (tC (.int 1)) tNil))) (tCons (tVar 5) tNil)))) (tRet (tC (.bl false))) tNext))) (tRet (tC (.bl true))))))
-- law: level 10, N = ['_law_script', '_law_row_here', '_law_web_here', '_law_lots_here', '_law_costs', '_law_few', '_law_least', '_law_prices', '_law_best', '_law_found', '_law_paper', '_law_values', '_law_value', '_law_due', '_law_top', '_law_papers', '_law_k', '_law_step', '_law_lot', '_law_person'], cells ['_law_best', '_law_costs', '_law_few', '_law_row_here', '_law_web_here']
def t_law (G : Gd) : TS := (tSeq (tAsg (tLst (tCons (tVar 0) (tCons (tC (.int 0)) (tCons (tC (.int 13508)) (tCons (tC (.int 0)) tNil))))) (gName 1)) (tSeq (tAsg (tCall (sp_w_web G) [] C8.E0 (tCons (tVar 1) (tCons (tC (.int 5)) tNil))) (gName 2)) (tSeq (tAsg (tTup (tCons (tLc (iSeq G.K (tCall (sp_w_lots G) [] C8.E0 (tCons (tVar 2) tNil))) (gName 18) (tB (tCall (sp_w_covers G) [] C8.E0 (tCons (tVar 2) (tCons (tVar 18) tNil)))) (tVar 18) [18]) (tCons (tCB (uTup G.K) (tCons (tLc (iRng1 (tCons (tOp (rIx G.K) (tVar 2) (tC (.int 0))) tNil)) (gName 19) tYes (tCall (sp_w_taken G) [] C8.E0 (tCons (tVar 1) (tCons (tC (.int 12)) tNil))) [19]) tNil)) tNil))) (gTup G.K 2 (gCons (gName 3) (gCons (gName 4) gNil)))) (tSeq (tAsg (tCB (uMin G.K) (tCons (tLc (iSeq G.K (tVar 3)) (gName 18) tYes (tCB (uLen G.K) (tCons (tVar 18) tNil)) [18]) tNil)) (gName 5)) (tSeq (tAsg (tLc (iSeq G.K (tVar 3)) (gName 18) (tTest (tOp (rEqP G.K) (tCB (uLen G.K) (tCons (tVar 18) tNil)) (tVar 5))) (tVar 18) [18]) (gName 6)) (tSeq (tIfS (tOr (tNot (tB (tCall (sp_w_alike G) [] C8.E0 (tCons (tCall (sp_forget_length G) [] C8.E0 (tCons (tVar 2) tNil)) (tCons (tVar 5) tNil))))) (tOr (tNot (tB (tCall (sp_w_alike G) [] C8.E0 (tCons (tCall (sp_forget_lots G) [] C8.E0 (tCons (tVar 2) tNil)) (tCons (tCB (uTup G.K) (tCons (tVar 6) tNil)) tNil))))) (tNot (tB (tCall (sp_w_alike G) [] C8.E0 (tCons (tCall (sp_forget_row G) [] C8.E0 (tCons (tVar 2) tNil)) (tCons (tOp (rIx G.K) (tVar 6) (tC (.int 0))) tNil))))))) (tRet (tC (.bl false))) tNext) (tSeq (tAsg (tLc (iSeq G.K (tVar 3)) (gName 18) tYes (tCB (rSum G.K) (tCons (tLc (iSeq G.K (tVar 18)) (gName 19) tYes (tOp (rIx G.K) (tVar 4) (tVar 19)) [19]) tNil)) [18]) (gName 7)) (tSeq (tAsg (tTup (tCons (tCB (uMin G.K) (tCons (tVar 7) tNil)) (tCons (tCall (sp_cheap_forget G) [] C8.E0 (tCons (tVar 2) (tCons (tVar 4) tNil))) (tCons (tCall (sp_forget_paper G) [] C8.E0 (tCons (tVar 2) (tCons (tVar 4) tNil))) tNil)))) (gTup G.K 3 (gCons (gName 8) (gCons (gName 9) (gCons (gName 10) gNil))))) (tSeq (tIfS (tOr (tNot (tB (tCB (uIsi G.K) (tCons (tVar 9) (tCons (tC (.ty "tuple")) tNil))))) (tOr (tTest (tOp (rNeP G.K) (tCB (uLen G.K) (tCons (tVar 9) tNil)) (tC (.int 2)))) (tOr (tTest (tOp (rNeP G.K) (tOp (rIx G.K) (tVar 9) (tC (.int 0))) (tVar 8))) (tOr (tTest (tOp (rNiP G.K) (tOp (rIx G.K) (tVar 9) (tC (.int 1))) (tVar 3))) (tTest (tOp (rNeP G.K) (tOp (rIx G.K) (tVar 7) (tBM G.K "list" (rIndexD G.K) (tVar 3) (tCons (tOp (rIx G.K) (tVar 9) (tC (.int 1))) tNil))) (tVar 8))))))) (tRet (tC (.bl false))) tNext) (tSeq (tAsg (tLst (tCons (tVar 9) (tCons (tCB (uLst G.K) (tCons (tVar 9) tNil)) (tCons (tTup (tCons (tVar 8) (tCons (tCB (uLst G.K) (tCons (tOp (rIx G.K) (tVar 9) (tC (.int 1))) tNil)) tNil))) (tCons (tTup (tCons (tOp (uAdd G.K) (tVar 8) (tC (.int 1))) (tCons (tOp (rIx G.K) (tVar 9) (tC (.int 1))) tNil))) (tCons (tTup (tCons (tVar 8) (tCons (tRevT G.K (tOp (rIx G.K) (tVar 9) (tC (.int 1)))) tNil))) (tCons (tTup (tCons (tVar 8) (tCons (tTup tNil) tNil))) (tCons (tC .non) (tCons (tC (.int 3)) (tCons (tTup (tCons (tVar 8) (tCons (tTup (tCons (tOp (rIx G.K) (tVar 2) (tC (.int 0))) tNil)) tNil))) tNil)))))))))) (gName 11)) (tSeq (tFor (iSeq G.K (tOp (uAdd G.K) (tVar 11) (tLc (iSeq G.K (tSl (uSl G.K) (tCall (sp_w_lots G) [] C8.E0 (tCons (tVar 2) tNil)) tNoPart (tPart (tC (.int 20))))) (gName 18) tYes (tTup (tCons (tVar 8) (tCons (tVar 18) tNil))) [18]))) (gName 12) (tSeq (tAsg (tAndV (tCB (uIsi G.K) (tCons (tVar 12) (tCons (tC (.ty "tuple")) tNil))) (tAndV (tOp (rEqP G.K) (tCB (uLen G.K) (tCons (tVar 12) tNil)) (tC (.int 2))) (tAndV (tCB (uIsi G.K) (tCons (tOp (rIx G.K) (tVar 12) (tC (.int 1))) (tCons (tC (.ty "tuple")) tNil))) (tOp (rInP G.K) (tOp (rIx G.K) (tVar 12) (tC (.int 1))) (tVar 3))))) (gName 13)) (tSeq (tAsg (tAndV (tVar 13) (tAndV (tOp (rEqP G.K) (tOp (rIx G.K) (tVar 12) (tC (.int 0))) (tVar 8)) (tOp (rEqP G.K) (tOp (rIx G.K) (tVar 7) (tBM G.K "list" (rIndexD G.K) (tVar 3) (tCons (tOp (rIx G.K) (tVar 12) (tC (.int 1))) tNil))) (tVar 8)))) (gName 13)) (tIfS (tNot (tB (tCall (sp_w_alike G) [] C8.E0 (tCons (tCall (sp_shows_cheap_forget G) [] C8.E0 (tCons (tVar 2) (tCons (tVar 4) (tCons (tVar 12) tNil)))) (tCons (tVar 13) tNil))))) (tRet (tC (.bl false))) tNext)))) (tSeq (tIfS (tOr (tNot (tB (tCall (sp_w_fits G) [] C8.E0 (tCons (tVar 2) (tCons (tVar 4) (tCons (tVar 10) tNil)))))) (tB (tCall (sp_w_less G) [] C8.E0 (tCons (tTup (tCons (tVar 8) (tCons (tC (.int 1)) tNil))) (tCons (tCall (sp_w_sum G) [] C8.E0 (tCons (tCB (uLst G.K) (tCons (tVar 10) tNil)) tNil)) tNil))))) (tRet (tC (.bl false))) tNext) (tSeq (tAsg (tCall (sp_w_sum G) [] C8.E0 (tCons (tCB (uLst G.K) (tCons (tVar 10) tNil)) tNil)) (gName 14)) (tSeq (tAsg (tLst (tCons (tVar 10) (tCons (tCB (uLst G.K) (tCons (tVar 10) tNil)) (tCons (tSl (uSl G.K) (tVar 10) (tPart (tC (.int 1))) tNoPart) (tCons (tRevT G.K (tVar 10)) (tCons (tOp (uAdd G.K) (tVar 10) (tTup (tCons (tTup (tCons (tC (.int 0)) (tCons (tC (.int 1)) tNil))) tNil))) (tCons (tOp (uMul G.K) (tTup (tCons (tTup (tCons (tC (.int 0)) (tCons (tC (.int 1)) tNil))) tNil)) (tOp (rIx G.K) (tVar 2) (tC (.int 0)))) (tCons (tC .non) (tCons (tC (.int 3)) tNil))))))))) (gName 15)) (tSeq (tFor (iRng1 (tCons (tOp (rIx G.K) (tVar 2) (tC (.int 0))) tNil)) (gName 16) (tFor (iSeq G.K (tLst (tCons (tTup (tCons (tC (.int 1)) (tCons (tC (.int 2)) tNil))) (tCons (tTup (tCons (tUn uNeg (tC (.int 1))) (tCons (tC (.int 2)) tNil))) tNil)))) (gName 17) (tDrop (tBM G.K "list" rAppend (tVar 15) (tCons (tOp (uAdd G.K) (tOp (uAdd G.K) (tSl (uSl G.K) (tVar 10) tNoPart (tPart (tVar 16))) (tTup (tCons (tCall (sp_w_plus G) [] C8.E0 (tCons (tOp (rIx G.K) (tVar 10) (tVar 16)) (tCons (tVar 17) tNil))) tNil))) (tSl (uSl G.K) (tVar 10) (tPart (tOp (uAdd G.K) (tVar 16) (tC (.int 1)))) tNoPart)) tNil))))) (tSeq (tFor (iSeq G.K (tVar 15)) (gName 12) (tSeq (tAsg (tCall (sp_w_fits G) [] C8.E0 (tCons (tVar 2) (tCons (tVar 4) (tCons (tVar 12) tNil)))) (gName 13)) (tSeq (tIfS (tAnd (tB (tVar 13)) (tB (tCall (sp_w_less G) [] C8.E0 (tCons (tVar 14) (tCons (tCall (sp_w_sum G) [] C8.E0 (tCons (tCB (uLst G.K) (tCons (tVar 12) tNil)) tNil)) tNil))))) (tRet (tC (.bl false))) tNext) (tIfS (tNot (tB (tCall (sp_w_alike G) [] C8.E0 (tCons (tCall (sp_shows_forget_paper G) [] C8.E0 (tCons (tVar 2) (tCons (tVar 4) (tCons (tVar 12) tNil)))) (tCons (tAndV (tVar 13) (tOp (rEqP G.K) (tCall (sp_w_sum G) [] C8.E0 (tCons (tCB (uLst G.K) (tCons (tVar 12) tNil)) tNil)) (tVar 14))) tNil))))) (tRet (tC (.bl false))) tNext)))) (tRet (tC (.bl true)))))))))))))))))))
end KV
set_option Elab.async false
set_option linter.all false
set_option maxRecDepth 100000
set_option maxHeartbeats 4000000
/-! The text by places; what the module's names stand for. -/
namespace KV
open PySem PySem.Spec PyProof.Rows L2 GxR KO GX C8
structure Txt (mg : Str → Option Value) : Prop where
  MOST_PEOPLE : ∃ t, mg "MOST_PEOPLE" = some (.int 7 t)
  MOST_COST : ∃ t, mg "MOST_COST" = some (.int 1000 t)
  gcd_ : mg "gcd" = some (.builtin "math.gcd")
  len_ : mg "len" = none
  isinstance_ : mg "isinstance" = none
  min_ : mg "min" = none
  max_ : mg "max" = none
  sorted_ : mg "sorted" = none
  abs_ : mg "abs" = none
  sum_ : mg "sum" = none
  any_ : mg "any" = none
  all_ : mg "all" = none
  range_ : mg "range" = none
  enumerate_ : mg "enumerate" = none
  zip_ : mg "zip" = none
  tuple_ : mg "tuple" = none
  list_ : mg "list" = none
  int_ : mg "int" = none
  set_ : mg "set" = none
  bool_ : mg "bool" = none
  str_ : mg "str" = none
theorem pe_num {X : Cx} {x : Str} {n : Int} {pos : Pos} (hg : Gl X x) (h : ∃ t, X.mg x = some (.int n t)) (hd : (x == ("__debug__" : Str)) = false := by decide) : PE X (.Name x pos) (tC (.int n)) := by
  obtain ⟨t, h⟩ := h
  exact pe_glob hg h ⟨t, rfl⟩ hd
theorem pt_tru {X : Cx} {a : Expr} {ta : TE} (ha : PE X a ta) (he : ∀ whole, isTrue a X.env whole = (do let v ← whole; standAt a.pos; holding [v] (truthy v))) : PT X a (tTru X.K ta) := pt_truth ha he
theorem sw_trueD {k v : Expr} {gs : List Comprehension} {scope : Scope} {pos py : Pos} {y : Str} {l : Nat} {env : Env} (hk : env.scope.kind = .function) (hy : env.scope.names.lookup y = some .local) (hl : (py.line == pos.line) = true)
    (ha : (scope.names.any fun (n, k) => n == y && (k == .local || k == .cell)) = false) : swapsWith (.DictComp k v gs scope pos) (some (.Name y py)) l env = pure true := by
  have ky : env.kindOf y = some .local := hy
  have hb : env.blockKind = .function := by unfold Env.blockKind; rw [hk]; rfl
  unfold swapsWith
  simp only [hb, ky, ha, Expr.pos, hl]
  rfl
/-- name = {..}, the name a local: stored within the comprehension -/
theorem ps_setDc {X : Cx} {i : Nat} {y : Str} {py : Pos} {kx vx tg iter : Expr} {ifs : List Expr} {scope : Scope} {own : List (Str × Nat)} {pos spos : Pos} {wi : TI} {g : TG} {tt : TT} {tk tv : TE} (hc : X.calm = true) (hN : X.N.Nodup) (hy : X.N[i]? = some y) (hyl : X.env.scope.names.lookup y = some .local)
    (hsw : swapsWith (.DictComp kx vx [⟨tg, iter, ifs, 0⟩] scope pos) (some (.Name y py)) spos.line X.env = pure true) (hi : PI X tg iter wi) (ok : BlkOk X.N X.env.scope scope own)
    (hg : ∀ (s : Shared) (H : Hp) (C : Addr) (cl : List (Str × Addr)) (fp : List Addr), PG (X.blk s H scope (compEnvC scope cl C X.env) fp) tg g) (ht : ∀ (s : Shared) (H : Hp) (C : Addr) (cl : List (Str × Addr)) (fp : List Addr), PTs (X.blk s H scope (compEnvC scope cl C X.env) fp) ifs tt)
    (hk : ∀ (s : Shared) (H : Hp) (C : Addr) (cl : List (Str × Addr)) (fp : List Addr), PE (X.blk s H scope (compEnvC scope cl C X.env) fp) kx tk)
    (he : ∀ (s : Shared) (H : Hp) (C : Addr) (cl : List (Str × Addr)) (fp : List Addr), PE (X.blk s H scope (compEnvC scope cl C X.env) fp) vx tv) (hs : ∀ x, foldedSetIterable iter X.env x = pure x := by intro _; rfl) :
    PS X (.Assign [.Name y py] (.DictComp kx vx [⟨tg, iter, ifs, 0⟩] scope pos) spos) (tAsg (tDc wi g tt tk tv (own.map (·.2))) (gName i)) := by
  refine ⟨fun pins s σ H D I h => ?_⟩
  rw [exec_Assign_Name_used _ _ _ _ hsw]
  refine wpAny_bind (wpAny_standAt (wpAny_bind ?_))
  show wpAny _ X.A (do let _ ← comprehension (.DictComp kx vx [⟨tg, iter, ifs, 0⟩] scope pos) scope X.env (firstIterPos [⟨tg, iter, ifs, 0⟩] pos) newDict false (eval iter X.env) (some (assign (.Name y py) X.env))) _ _ s
  have h : tDc wi g tt tk tv (own.map (·.2)) σ H (fun x H1 => gName i x σ H1 D.nx) := h
  refine wpAny_bind (thn (dc_core (Qf := fun _ s' => SP X pins D .next s') hc hN I hi ok hg ht hk he hs h fun L C s' m H' I' q hn f => ?_) fun _ s' hq => wpAny_pure (wpAny_pure hq))
  show wpAny _ _ (assign (.Name y py) X.env (.ref L)) _ _ _
  refine wpAny_assign_Name (store_ok2 (v := V.ref L) I' hN hy (.inl hyl) rfl (fun s2 I2 ⟨a, sb, ha⟩ => ?_) (.inr hyl))
  obtain ⟨f0, f1, f2, f3, f4, f5⟩ := f
  have haC : C ≠ a := by
    rcases ha with z | z
    · rw [z]; exact f1
    · exact fun e => f4 y a z e.symm
  exact ⟨m, hn.sameBut sb haC, fun h3 sb3 => ⟨_, H', I2.turned (t' := s2.toks) (fun b o hb e => (sb3.2 b hb).trans e) f0 f1 f3 f4 f5, q⟩⟩
/-- the names of a generator's scope, by a look -/
def genC (sc scope : Scope) (x : Str) (N : List Str) (caps : List Nat) (NX : List Str) : Bool :=
  (match scope.kind with | .function => true | _ => false) && !scope.isCoroutine && (scope.names.all fun y => !decide (y.2 = .cell)) && decide (scope.names.lookup (".0" : Str) = some NameKind.local) && decide (scope.names.lookup x = some .local) &&
  (scope.names.all fun y => !decide (y.2 = .free) || decide (sc.names.lookup y.1 = some .cell) || decide (sc.names.lookup y.1 = some .free)) && (scope.names.all fun y => decide (scope.names.lookup y.1 = some y.2)) && decide N.Nodup && decide (N[0]? = some x) && decide (N.length = caps.length + 1) &&
  ((List.range caps.length).all fun j => match N[j + 1]?, caps[j]? with | some y, some i => decide (scope.names.lookup y = some .free) && decide (NX[i]? = some y) | _, _ => false)
theorem genK_by {X : Cx} {scope : Scope} {x : Str} {N : List Str} {caps : List Nat} (h : genC X.env.scope scope x N caps X.N = true) : GenK X scope x N caps := by
  unfold genC at h
  simp only [Bool.and_eq_true, Bool.not_eq_true', decide_eq_true_eq, List.all_eq_true, Bool.or_eq_true, decide_eq_false_iff_not] at h
  obtain ⟨⟨⟨⟨⟨⟨⟨⟨⟨⟨h1, h2⟩, h3⟩, h4⟩, h5⟩, h6⟩, h7⟩, h8⟩, h9⟩, h10⟩, h11⟩ := h
  refine ⟨?_, h2, h3, h4, h5, fun y hy hf => ?_, h7, h8, h9, h10, fun j y hy => ?_⟩
  · revert h1
    cases scope.kind <;> simp
  · rcases h6 y hy with (q | q) | q
    · exact absurd hf q
    · exact .inl q
    · exact .inr q
  · have hj : j < caps.length := by
      have := (List.getElem?_eq_some_iff.mp hy).1
      omega
    have q := h11 j (List.mem_range.mpr hj)
    rw [hy, List.getElem?_eq_getElem hj] at q
    simp only [Bool.and_eq_true, decide_eq_true_eq] at q
    exact ⟨q.1, _, List.getElem?_eq_getElem hj, q.2⟩
end KV
set_option Elab.async false
set_option linter.all false
set_option maxRecDepth 100000
set_option maxHeartbeats 4000000
/-! The text of each def means its reading (written by gen8.py). -/
namespace KV
open PySem PySem.Spec PyProof.Rows L2 GxR KO GX C8
theorem sc_is_in : FnScope ["value", "least", "most"] ["value", "least", "most"] (fnScope st_is_in) := fnScope_by (by decide +kernel)
theorem d_is_in {P : Program} {mg : Str → Option Value} {base : Heap} (G : Gd) (T : Txt mg) {f : Addr} {cdv : Value} {A : Around} {outer : List Env} {s : Shared} {H : Hp} {E : XK} (hr : Room 0 (A.deeper (envOfC "is_in" (fnScope st_is_in) s.heap.objs.size f cdv))) : PSs (cxOf C8.CX0 P G.w G.K mg base ["value", "least", "most"] "is_in" (fnScope st_is_in) f cdv A outer s H E).nox (fnBody st_is_in) (t_is_in G) :=
  have nd := sc_is_in.nd
  (pss_one (ps_ret (pe_and (pe_callB call_uIsi rfl T.isinstance_ (by decide +kernel) (pa_cons (pv 0) (pa_cons (pe_bltn (v := .ty "int") rfl T.int_ (by decide +kernel) rfl) pa_nil))) (pe_and (pe_not (pe_callB call_uIsi rfl T.isinstance_ (by decide +kernel) (pa_cons (pv 0) (pa_cons (pe_bltn (v := .ty "bool") rfl T.bool_ (by decide +kernel) rfl) pa_nil)))) (pe_one (pe_chain op_uLe op_uLe (pv 1) (pv 0) (pv 2)))))))
theorem sc_need_web : FnScope ["web", "pair"] ["web"] (fnScope st_need_web) := fnScope_by (by decide +kernel)
theorem d_need_web {P : Program} {mg : Str → Option Value} {base : Heap} (G : Gd) (T : Txt mg) (C_is_in : Cal P G.w G.K mg base 1 "is_in" (sp_is_in G) []) {f : Addr} {cd : Addr} {A : Around} {outer : List Env} {s : Shared} {H : Hp} {E : XK} (TB : TabB base mg cd G.p_need_web) (hr : Room 1 (A.deeper (envOfC "need_web" (fnScope st_need_web) s.heap.objs.size f (.ref cd)))) : PSs (cxOf C8.CX0 P G.w G.K mg base ["web", "pair"] "need_web" (fnScope st_need_web) f (.ref cd) A outer s H E).nox (fnBody st_need_web) (t_need_web G) :=
  have nd := sc_need_web.nd
  (pss_cons (ps_if (PW.pt (pw_or (pt_not (pt_val (pe_callB call_uIsi rfl T.isinstance_ (by decide +kernel) (pa_cons (pv 0) (pa_cons (pe_bltn (v := .ty "tuple") rfl T.tuple_ (by decide +kernel) rfl) pa_nil))))) (pw_or (pt_cmpR (op_neP hr.units) (pe_callB call_uLen rfl T.len_ (by decide +kernel) (pa_cons (pv 0) pa_nil)) pe_int (nomark _)) (pw_or1 (pt_not (pt_val (pe_c C_is_in hr (by decide) rfl (pa_cons (pe_ix ix_seq (pv 0) pe_int (fun _ _ => rfl)) (pa_cons pe_int (pa_cons (pe_num rfl T.MOST_PEOPLE) pa_nil)))))))))) pss_never pss_nil) (pss_cons (ps_if (pt_not (pt_val (pe_callB call_uIsi rfl T.isinstance_ (by decide +kernel) (pa_cons (pe_ix ix_seq (pv 0) pe_int (fun _ _ => rfl)) (pa_cons (pe_bltn (v := .ty "tuple") rfl T.tuple_ (by decide +kernel) rfl) pa_nil))))) pss_never pss_nil) (pss_cons (ps_for PassesOwn.never rfl (pi_seq (pe_ix ix_seq (pv 0) pe_int (fun _ _ => rfl))) (pg_name (i := 1) nd rfl (by first | exact Or.inl rfl | exact Or.inr rfl)) (pss_cons (ps_if (PW.pt (pw_or (pt_not (pt_val (pe_callB call_uIsi rfl T.isinstance_ (by decide +kernel) (pa_cons (pv 1) (pa_cons (pe_bltn (v := .ty "tuple") rfl T.tuple_ (by decide +kernel) rfl) pa_nil))))) (pw_or (pt_cmpR (op_neP hr.units) (pe_callB call_uLen rfl T.len_ (by decide +kernel) (pa_cons (pv 1) pa_nil)) pe_int (nomark _)) (pw_or1 (pt_not (pt_val (pe_c C_is_in hr (by decide) rfl (pa_cons (pe_ix ix_seq (pv 1) pe_int (fun _ _ => rfl)) (pa_cons pe_int (pa_cons (pe_op op_uSub (pe_ix ix_seq (pv 0) pe_int (fun _ _ => rfl)) pe_int) pa_nil)))))))))) pss_never pss_nil) (pss_one (ps_if (pt_not (pt_val (pe_c C_is_in hr (by decide) rfl (pa_cons (pe_ix ix_seq (pv 1) pe_int (fun _ _ => rfl)) (pa_cons (pe_op op_uAdd (pe_ix ix_seq (pv 1) pe_int (fun _ _ => rfl)) pe_int) (pa_cons (pe_op op_uSub (pe_ix ix_seq (pv 0) pe_int (fun _ _ => rfl)) pe_int) pa_nil)))))) pss_never pss_nil)))) (pss_one (ps_if (pt_val (pe_anyG (k := 0) (N := ["k", "web"]) (caps := [0]) (hr.mono (by decide)) rfl rfl T.any_ TB rfl (genK_by (by kernel_rfl)) (pi_range1 rfl T.range_ (pa_cons (pe_op op_uSub (pe_callB call_uLen rfl T.len_ (by decide +kernel) (pa_cons (pe_ix ix_seq (pv 0) pe_int (fun _ _ => rfl)) pa_nil)) pe_int) pa_nil)) (fun _ _ _ _ _ _ _ _ hA => (pe_cmpR (op_uGe hA.units) (pe_ix ix_seq (pe_ix ix_seq (pv 1) pe_int (fun _ _ => rfl)) (pv 0) (fun _ _ => rfl)) (pe_ix ix_seq (pe_ix ix_seq (pv 1) pe_int (fun _ _ => rfl)) (pe_op op_uAdd (pv 0) pe_int) (fun _ _ => rfl)) (nomark _))))) pss_never pss_nil)))))
theorem sc_are_foes : FnScope ["web", "one", "other"] ["web", "one", "other"] (fnScope st_are_foes) := fnScope_by (by decide +kernel)
theorem d_are_foes {P : Program} {mg : Str → Option Value} {base : Heap} (G : Gd) (T : Txt mg) {f : Addr} {cdv : Value} {A : Around} {outer : List Env} {s : Shared} {H : Hp} {E : XK} (hr : Room 0 (A.deeper (envOfC "are_foes" (fnScope st_are_foes) s.heap.objs.size f cdv))) : PSs (cxOf C8.CX0 P G.w G.K mg base ["web", "one", "other"] "are_foes" (fnScope st_are_foes) f cdv A outer s H E).nox (fnBody st_are_foes) (t_are_foes G) :=
  have nd := sc_are_foes.nd
  (pss_one (ps_ret (pe_cmpR (op_inP hr.units) (pe_tup (pa_cons (pe_callB (call_uMin rfl (Room.u80 hr)) rfl T.min_ (by decide +kernel) (pa_cons (pv 1) (pa_cons (pv 2) pa_nil))) (pa_cons (pe_callB (call_uMax rfl) rfl T.max_ (by decide +kernel) (pa_cons (pv 1) (pa_cons (pv 2) pa_nil))) pa_nil))) (pe_ix ix_seq (pv 0) pe_int (fun _ _ => rfl)) (by rfl))))
theorem sc_foes : FnScope ["web", "person", "other"] ["web", "person"] (fnScope st_foes) := fnScope_by (by decide +kernel)
theorem d_foes {P : Program} {mg : Str → Option Value} {base : Heap} (G : Gd) (T : Txt mg) (C_are_foes : Cal P G.w G.K mg base 1 "are_foes" (sp_are_foes G) []) {f : Addr} {cdv : Value} {A : Around} {outer : List Env} {s : Shared} {H : Hp} {E : XK} (hr : Room 1 (A.deeper (envOfC "foes" (fnScope st_foes) s.heap.objs.size f cdv))) : PSs (cxOf C8.CX0 P G.w G.K mg base ["web", "person", "other"] "foes" (fnScope st_foes) f cdv A outer s H E).nox (fnBody st_foes) (t_foes G) :=
  have nd := sc_foes.nd
  (pss_one (ps_ret (pe_lc (own := [("other", 2)]) rfl nd (pi_range1 rfl T.range_ (pa_cons (pe_ix ix_seq (pv 0) pe_int (fun _ _ => rfl)) pa_nil)) (blkOk_by (by kernel_rfl)) (fun _ _ _ _ _ => (pg_name (i := 2) nd rfl (by first | exact Or.inl rfl | exact Or.inr rfl))) (fun _ _ _ _ _ => (pts_one (pt_val (pe_c C_are_foes hr (by decide) rfl (pa_cons (pv 0) (pa_cons (pv 1) (pa_cons (pv 2) pa_nil))))))) (fun _ _ _ _ _ => (pv 2)))))
theorem sc_is_lot : FnScope ["web", "value"] ["web", "value"] (fnScope st_is_lot) := fnScope_by (by decide +kernel)
theorem d_is_lot {P : Program} {mg : Str → Option Value} {base : Heap} (G : Gd) (T : Txt mg) (C_is_in : Cal P G.w G.K mg base 1 "is_in" (sp_is_in G) []) {f : Addr} {cd : Addr} {A : Around} {outer : List Env} {s : Shared} {H : Hp} {E : XK} (TB : TabB base mg cd G.p_is_lot) (hr : Room 2 (A.deeper (envOfC "is_lot" (fnScope st_is_lot) s.heap.objs.size f (.ref cd)))) : PSs (cxOf C8.CX0 P G.w G.K mg base ["web", "value"] "is_lot" (fnScope st_is_lot) f (.ref cd) A outer s H E).nox (fnBody st_is_lot) (t_is_lot G) :=
  have nd := sc_is_lot.nd
  (pss_cons (ps_if (PW.pt (pw_or (pt_not (pt_val (pe_callB call_uIsi rfl T.isinstance_ (by decide +kernel) (pa_cons (pv 1) (pa_cons (pe_bltn (v := .ty "tuple") rfl T.tuple_ (by decide +kernel) rfl) pa_nil))))) (pw_or1 (pt_not (pt_val (pe_allG (k := 1) (N := ["one", "web"]) (caps := [0]) (hr.mono (by decide)) rfl rfl T.all_ TB rfl (genK_by (by kernel_rfl)) (pi_seq (pv 1)) (fun _ _ _ _ _ _ _ _ hA => (pe_c C_is_in hA (by decide) rfl (pa_cons (pv 0) (pa_cons pe_int (pa_cons (pe_op op_uSub (pe_ix ix_seq (pv 1) pe_int (fun _ _ => rfl)) pe_int) pa_nil))))))))))) (pss_one (ps_ret pe_bl)) pss_nil) (pss_one (ps_ret (pe_allG (k := 1) (N := ["k", "value"]) (caps := [1]) (hr.mono (by decide)) rfl rfl T.all_ TB rfl (genK_by (by kernel_rfl)) (pi_range1 rfl T.range_ (pa_cons (pe_op op_uSub (pe_callB call_uLen rfl T.len_ (by decide +kernel) (pa_cons (pv 1) pa_nil)) pe_int) pa_nil)) (fun _ _ _ _ _ _ _ _ hA => (pe_cmpR op_uLt (pe_ix ix_seq (pv 1) (pv 0) (fun _ _ => rfl)) (pe_ix ix_seq (pv 1) (pe_op op_uAdd (pv 0) pe_int) (fun _ _ => rfl)) (nomark _)))))))
theorem sc_all_lots : FnScope ["web", "found", "person", "one"] ["web"] (fnScope st_all_lots) := fnScope_by (by decide +kernel)
theorem d_all_lots {P : Program} {mg : Str → Option Value} {base : Heap} (G : Gd) (T : Txt mg) {f : Addr} {cdv : Value} {A : Around} {outer : List Env} {s : Shared} {H : Hp} {E : XK} (hr : Room 0 (A.deeper (envOfC "all_lots" (fnScope st_all_lots) s.heap.objs.size f cdv))) : PSs (cxOf C8.CX0 P G.w G.K mg base ["web", "found", "person", "one"] "all_lots" (fnScope st_all_lots) f cdv A outer s H E).nox (fnBody st_all_lots) (t_all_lots G) :=
  have nd := sc_all_lots.nd
  (pss_cons (ps_set (i := 1) nd rfl (by first | exact Or.inl rfl | exact Or.inr rfl) (pe_lst (pa_cons (pe_tup pa_nil) pa_nil))) (pss_cons (ps_for PassesOwn.never rfl (pi_range1 rfl T.range_ (pa_cons (pe_ix ix_seq (pv 0) pe_int (fun _ _ => rfl)) pa_nil)) (pg_name (i := 2) nd rfl (by first | exact Or.inl rfl | exact Or.inr rfl)) (pss_one (ps_set (i := 1) nd rfl (by first | exact Or.inl rfl | exact Or.inr rfl) (pe_op op_uAdd (pv 1) (pe_lc (own := [("one", 3)]) rfl nd (pi_seq (pv 1)) (blkOk_by (by kernel_rfl)) (fun _ _ _ _ _ => (pg_name (i := 3) nd rfl (by first | exact Or.inl rfl | exact Or.inr rfl))) (fun _ _ _ _ _ => pts_nil) (fun _ _ _ _ _ => (pe_tup (StX.pa_star (pv 3) (pa_cons (pv 2) pa_nil))))))))) (pss_one (ps_ret (pe_callB (call_uSrt rfl (Room.u80 hr)) rfl T.sorted_ (by decide +kernel) (pa_cons (pv 1) pa_nil))))))
theorem sc_with_foes : FnScope ["web", "people", "found", "person", "other"] ["web", "people"] (fnScope st_with_foes) := fnScope_by (by decide +kernel)
theorem d_with_foes {P : Program} {mg : Str → Option Value} {base : Heap} (G : Gd) (T : Txt mg) (C_foes : Cal P G.w G.K mg base 2 "foes" (sp_foes G) []) {f : Addr} {cdv : Value} {A : Around} {outer : List Env} {s : Shared} {H : Hp} {E : XK} (hr : Room 2 (A.deeper (envOfC "with_foes" (fnScope st_with_foes) s.heap.objs.size f cdv))) : PSs (cxOf C8.CX0 P G.w G.K mg base ["web", "people", "found", "person", "other"] "with_foes" (fnScope st_with_foes) f cdv A outer s H E).nox (fnBody st_with_foes) (t_with_foes G) :=
  have nd := sc_with_foes.nd
  (pss_cons (ps_setDc (i := 2) (own := [("person", 3)]) rfl nd rfl rfl (sw_trueD rfl rfl rfl (by decide +kernel)) (pi_seq (pv 1)) (blkOk_by (by kernel_rfl)) (fun _ _ _ _ _ => (pg_name (i := 3) nd rfl (by first | exact Or.inl rfl | exact Or.inr rfl))) (fun _ _ _ _ _ => pts_nil) (fun _ _ _ _ _ => (pv 3)) (fun _ _ _ _ _ => pe_bl)) (pss_cons (ps_for PassesOwn.never rfl (pi_seq (pv 1)) (pg_name (i := 3) nd rfl (by first | exact Or.inl rfl | exact Or.inr rfl)) (pss_one (ps_for PassesOwn.never rfl (pi_seq (pe_c C_foes hr (by decide) rfl (pa_cons (pv 0) (pa_cons (pv 3) pa_nil)))) (pg_name (i := 4) nd rfl (by first | exact Or.inl rfl | exact Or.inr rfl)) (pss_one (ps_asg pe_bl (pg_sub (pv 2) (pv 4) (set_dict (Room.u1 hr)))))))) (pss_one (ps_ret (pe_callTy call_uTup rfl T.tuple_ (by decide +kernel) (pa_cons (pe_callB (call_uSrt rfl (Room.u80 hr)) rfl T.sorted_ (by decide +kernel) (pa_cons (pv 2) pa_nil)) pa_nil))))))
theorem sc_ratio : FnScope ["top", "bottom", "common"] ["top", "bottom"] (fnScope st_ratio) := fnScope_by (by decide +kernel)
theorem d_ratio {P : Program} {mg : Str → Option Value} {base : Heap} (G : Gd) (T : Txt mg) {f : Addr} {cdv : Value} {A : Around} {outer : List Env} {s : Shared} {H : Hp} {E : XK} (hr : Room 0 (A.deeper (envOfC "ratio" (fnScope st_ratio) s.heap.objs.size f cdv))) : PSs (cxOf C8.CX0 P G.w G.K mg base ["top", "bottom", "common"] "ratio" (fnScope st_ratio) f cdv A outer s H E).nox (fnBody st_ratio) (t_ratio G) :=
  have nd := sc_ratio.nd
  (pss_cons (ps_set (i := 2) nd rfl (by first | exact Or.inl rfl | exact Or.inr rfl) (pe_ifExp (pt_cmpR op_uGt (pv 1) pe_int (nomark _)) (pe_callBfun cr_gcd rfl T.gcd_ (pa_cons (pv 0) (pa_cons (pv 1) pa_nil))) (pe_op op_uSub pe_int (pe_callBfun cr_gcd rfl T.gcd_ (pa_cons (pv 0) (pa_cons (pv 1) pa_nil)))))) (pss_one (ps_ret (pe_tup (pa_cons (pe_op op_uFdv (pv 0) (pv 2)) (pa_cons (pe_op op_uFdv (pv 1) (pv 2)) pa_nil))))))
theorem sc_plus : FnScope ["one", "other"] ["one", "other"] (fnScope st_plus) := fnScope_by (by decide +kernel)
theorem d_plus {P : Program} {mg : Str → Option Value} {base : Heap} (G : Gd) (T : Txt mg) (C_ratio : Cal P G.w G.K mg base 1 "ratio" (sp_ratio G) []) {f : Addr} {cdv : Value} {A : Around} {outer : List Env} {s : Shared} {H : Hp} {E : XK} (hr : Room 1 (A.deeper (envOfC "plus" (fnScope st_plus) s.heap.objs.size f cdv))) : PSs (cxOf C8.CX0 P G.w G.K mg base ["one", "other"] "plus" (fnScope st_plus) f cdv A outer s H E).nox (fnBody st_plus) (t_plus G) :=
  have nd := sc_plus.nd
  (pss_one (ps_ret (pe_c C_ratio hr (by decide) rfl (pa_cons (pe_op op_uAdd (pe_op op_uMul (pe_ix ix_seq (pv 0) pe_int (fun _ _ => rfl)) (pe_ix ix_seq (pv 1) pe_int (fun _ _ => rfl))) (pe_op op_uMul (pe_ix ix_seq (pv 1) pe_int (fun _ _ => rfl)) (pe_ix ix_seq (pv 0) pe_int (fun _ _ => rfl)))) (pa_cons (pe_op op_uMul (pe_ix ix_seq (pv 0) pe_int (fun _ _ => rfl)) (pe_ix ix_seq (pv 1) pe_int (fun _ _ => rfl))) pa_nil)))))
theorem sc_minus : FnScope ["one", "other"] ["one", "other"] (fnScope st_minus) := fnScope_by (by decide +kernel)
theorem d_minus {P : Program} {mg : Str → Option Value} {base : Heap} (G : Gd) (T : Txt mg) (C_ratio : Cal P G.w G.K mg base 1 "ratio" (sp_ratio G) []) {f : Addr} {cdv : Value} {A : Around} {outer : List Env} {s : Shared} {H : Hp} {E : XK} (hr : Room 1 (A.deeper (envOfC "minus" (fnScope st_minus) s.heap.objs.size f cdv))) : PSs (cxOf C8.CX0 P G.w G.K mg base ["one", "other"] "minus" (fnScope st_minus) f cdv A outer s H E).nox (fnBody st_minus) (t_minus G) :=
  have nd := sc_minus.nd
  (pss_one (ps_ret (pe_c C_ratio hr (by decide) rfl (pa_cons (pe_op op_uSub (pe_op op_uMul (pe_ix ix_seq (pv 0) pe_int (fun _ _ => rfl)) (pe_ix ix_seq (pv 1) pe_int (fun _ _ => rfl))) (pe_op op_uMul (pe_ix ix_seq (pv 1) pe_int (fun _ _ => rfl)) (pe_ix ix_seq (pv 0) pe_int (fun _ _ => rfl)))) (pa_cons (pe_op op_uMul (pe_ix ix_seq (pv 0) pe_int (fun _ _ => rfl)) (pe_ix ix_seq (pv 1) pe_int (fun _ _ => rfl))) pa_nil)))))
theorem sc_by : FnScope ["one", "other"] ["one", "other"] (fnScope st_by) := fnScope_by (by decide +kernel)
theorem d_by {P : Program} {mg : Str → Option Value} {base : Heap} (G : Gd) (T : Txt mg) (C_ratio : Cal P G.w G.K mg base 1 "ratio" (sp_ratio G) []) {f : Addr} {cdv : Value} {A : Around} {outer : List Env} {s : Shared} {H : Hp} {E : XK} (hr : Room 1 (A.deeper (envOfC "by" (fnScope st_by) s.heap.objs.size f cdv))) : PSs (cxOf C8.CX0 P G.w G.K mg base ["one", "other"] "by" (fnScope st_by) f cdv A outer s H E).nox (fnBody st_by) (t_by G) :=
  have nd := sc_by.nd
  (pss_one (ps_ret (pe_c C_ratio hr (by decide) rfl (pa_cons (pe_op op_uMul (pe_ix ix_seq (pv 0) pe_int (fun _ _ => rfl)) (pe_ix ix_seq (pv 1) pe_int (fun _ _ => rfl))) (pa_cons (pe_op op_uMul (pe_ix ix_seq (pv 0) pe_int (fun _ _ => rfl)) (pe_ix ix_seq (pv 1) pe_int (fun _ _ => rfl))) pa_nil)))))
theorem sc_over : FnScope ["one", "other"] ["one", "other"] (fnScope st_over) := fnScope_by (by decide +kernel)
theorem d_over {P : Program} {mg : Str → Option Value} {base : Heap} (G : Gd) (T : Txt mg) (C_ratio : Cal P G.w G.K mg base 1 "ratio" (sp_ratio G) []) {f : Addr} {cdv : Value} {A : Around} {outer : List Env} {s : Shared} {H : Hp} {E : XK} (hr : Room 1 (A.deeper (envOfC "over" (fnScope st_over) s.heap.objs.size f cdv))) : PSs (cxOf C8.CX0 P G.w G.K mg base ["one", "other"] "over" (fnScope st_over) f cdv A outer s H E).nox (fnBody st_over) (t_over G) :=
  have nd := sc_over.nd
  (pss_one (ps_ret (pe_c C_ratio hr (by decide) rfl (pa_cons (pe_op op_uMul (pe_ix ix_seq (pv 0) pe_int (fun _ _ => rfl)) (pe_ix ix_seq (pv 1) pe_int (fun _ _ => rfl))) (pa_cons (pe_op op_uMul (pe_ix ix_seq (pv 0) pe_int (fun _ _ => rfl)) (pe_ix ix_seq (pv 1) pe_int (fun _ _ => rfl))) pa_nil)))))
theorem sc_less : FnScope ["one", "other"] ["one", "other"] (fnScope st_less) := fnScope_by (by decide +kernel)
theorem d_less {P : Program} {mg : Str → Option Value} {base : Heap} (G : Gd) (T : Txt mg) {f : Addr} {cdv : Value} {A : Around} {outer : List Env} {s : Shared} {H : Hp} {E : XK} (hr : Room 0 (A.deeper (envOfC "less" (fnScope st_less) s.heap.objs.size f cdv))) : PSs (cxOf C8.CX0 P G.w G.K mg base ["one", "other"] "less" (fnScope st_less) f cdv A outer s H E).nox (fnBody st_less) (t_less G) :=
  have nd := sc_less.nd
  (pss_one (ps_ret (pe_cmpR op_uLt (pe_op op_uMul (pe_ix ix_seq (pv 0) pe_int (fun _ _ => rfl)) (pe_ix ix_seq (pv 1) pe_int (fun _ _ => rfl))) (pe_op op_uMul (pe_ix ix_seq (pv 1) pe_int (fun _ _ => rfl)) (pe_ix ix_seq (pv 0) pe_int (fun _ _ => rfl))) (nomark _))))
theorem sc_sum_of : FnScope ["some", "found", "one"] ["some"] (fnScope st_sum_of) := fnScope_by (by decide +kernel)
theorem d_sum_of {P : Program} {mg : Str → Option Value} {base : Heap} (G : Gd) (T : Txt mg) (C_plus : Cal P G.w G.K mg base 2 "plus" (sp_plus G) []) {f : Addr} {cdv : Value} {A : Around} {outer : List Env} {s : Shared} {H : Hp} {E : XK} (hr : Room 2 (A.deeper (envOfC "sum_of" (fnScope st_sum_of) s.heap.objs.size f cdv))) : PSs (cxOf C8.CX0 P G.w G.K mg base ["some", "found", "one"] "sum_of" (fnScope st_sum_of) f cdv A outer s H E).nox (fnBody st_sum_of) (t_sum_of G) :=
  have nd := sc_sum_of.nd
  (pss_cons (ps_set (i := 1) nd rfl (by first | exact Or.inl rfl | exact Or.inr rfl) (pe_tup (pa_cons pe_int (pa_cons pe_int pa_nil)))) (pss_cons (ps_for PassesOwn.never rfl (pi_seq (pv 0)) (pg_name (i := 2) nd rfl (by first | exact Or.inl rfl | exact Or.inr rfl)) (pss_one (ps_set (i := 1) nd rfl (by first | exact Or.inl rfl | exact Or.inr rfl) (pe_c C_plus hr (by decide) rfl (pa_cons (pv 1) (pa_cons (pv 2) pa_nil)))))) (pss_one (ps_ret (pv 1)))))
theorem sc_is_ratio : FnScope ["value"] ["value"] (fnScope st_is_ratio) := fnScope_by (by decide +kernel)
theorem d_is_ratio {P : Program} {mg : Str → Option Value} {base : Heap} (G : Gd) (T : Txt mg) {f : Addr} {cd : Addr} {A : Around} {outer : List Env} {s : Shared} {H : Hp} {E : XK} (TB : TabB base mg cd G.p_is_ratio) (hr : Room 1 (A.deeper (envOfC "is_ratio" (fnScope st_is_ratio) s.heap.objs.size f (.ref cd)))) : PSs (cxOf C8.CX0 P G.w G.K mg base ["value"] "is_ratio" (fnScope st_is_ratio) f (.ref cd) A outer s H E).nox (fnBody st_is_ratio) (t_is_ratio G) :=
  have nd := sc_is_ratio.nd
  (pss_cons (ps_if (PW.pt (pw_or (pt_not (pt_val (pe_callB call_uIsi rfl T.isinstance_ (by decide +kernel) (pa_cons (pv 0) (pa_cons (pe_bltn (v := .ty "tuple") rfl T.tuple_ (by decide +kernel) rfl) pa_nil))))) (pw_or1 (pt_cmpR (op_neP hr.units) (pe_callB call_uLen rfl T.len_ (by decide +kernel) (pa_cons (pv 0) pa_nil)) pe_int (nomark _))))) (pss_one (ps_ret pe_bl)) pss_nil) (pss_cons (ps_if (pt_not (pt_val (pe_allG (k := 0) (N := ["one"]) (caps := []) (hr.mono (by decide)) rfl rfl T.all_ TB rfl (genK_by (by kernel_rfl)) (pi_seq (pv 0)) (fun _ _ _ _ _ _ _ _ hA => (pe_and (pe_callB call_uIsi rfl T.isinstance_ (by decide +kernel) (pa_cons (pv 0) (pa_cons (pe_bltn (v := .ty "int") rfl T.int_ (by decide +kernel) rfl) pa_nil))) (pe_one (pe_not (pe_callB call_uIsi rfl T.isinstance_ (by decide +kernel) (pa_cons (pv 0) (pa_cons (pe_bltn (v := .ty "bool") rfl T.bool_ (by decide +kernel) rfl) pa_nil)))))))))) (pss_one (ps_ret pe_bl)) pss_nil) (pss_one (ps_ret (pe_and (pe_cmpR op_uGt (pe_ix ix_seq (pv 0) pe_int (fun _ _ => rfl)) pe_int (nomark _)) (pe_one (pe_cmpR (op_eqP hr.units) (pe_callBfun cr_gcd rfl T.gcd_ (pa_cons (pe_ix ix_seq (pv 0) pe_int (fun _ _ => rfl)) (pa_cons (pe_ix ix_seq (pv 0) pe_int (fun _ _ => rfl)) pa_nil))) pe_int (nomark _))))))))
theorem sc_mk : FnScope ["self", "rows", "goals", "j", "row", "helping", "goal", "k", "one"] ["self", "rows", "goals"] (fnScope st_mk) := fnScope_by (by decide +kernel)
theorem d_mk {P : Program} {mg : Str → Option Value} {base : Heap} (G : Gd) (T : Txt mg) (C_by : Cal P G.w G.K mg base 2 "by" (sp_by G) []) {f : Addr} {cdv : Value} {A : Around} {outer : List Env} {s : Shared} {H : Hp} {E : XK} (hr : Room 2 (A.deeper (envOfC "Program.__init__" (fnScope st_mk) s.heap.objs.size f cdv))) : PSs (cxOf C8.CX0 P G.w G.K mg base ["self", "rows", "goals", "j", "row", "helping", "goal", "k", "one"] "Program.__init__" (fnScope st_mk) f cdv A outer s H E).nox (fnBody st_mk) (t_mk G) :=
  have nd := sc_mk.nd
  (pss_cons (ps_fld (pv 0) (pe_callB call_uLen rfl T.len_ (by decide +kernel) (pa_cons (pe_ix ix_seq (pv 1) pe_int (fun _ _ => rfl)) pa_nil)) rfl) (pss_cons (ps_fld (pv 0) (pe_lc (own := [("goal", 6)]) rfl nd (pi_seq (pv 2)) (blkOk_by (by kernel_rfl)) (fun _ _ _ _ _ => (pg_name (i := 6) nd rfl (by first | exact Or.inl rfl | exact Or.inr rfl))) (fun _ _ _ _ _ => pts_nil) (fun _ _ _ _ _ => (pe_ifExp (pt_cmpR op_uLt (pe_ix ix_seq (pv 6) pe_int (fun _ _ => rfl)) pe_int (nomark _)) (pe_tup (pa_cons (pe_un un_uNeg pe_int) (pa_cons pe_int pa_nil))) (pe_tup (pa_cons pe_int (pa_cons pe_int pa_nil)))))) rfl) (pss_cons (ps_fld (pv 0) (pe_lst pa_nil) rfl) (pss_cons (ps_fld (pv 0) (pe_lst pa_nil) rfl) (pss_one (ps_for PassesOwn.never rfl (pi_enum rfl T.enumerate_ (pa_cons (pv 1) pa_nil)) (pg_tup rfl (pgs_cons (pg_name (i := 3) nd rfl (by first | exact Or.inl rfl | exact Or.inr rfl)) (pgs_cons (pg_name (i := 4) nd rfl (by first | exact Or.inl rfl | exact Or.inr rfl)) pgs_nil))) (pss_cons (ps_setLc (i := 5) (own := [("k", 7)]) rfl nd rfl rfl (sw_true rfl rfl rfl (by decide +kernel)) (pi_range1 rfl T.range_ (pa_cons (pe_callB call_uLen rfl T.len_ (by decide +kernel) (pa_cons (pv 1) pa_nil)) pa_nil)) (blkOk_by (by kernel_rfl)) (fun _ _ _ _ _ => (pg_name (i := 7) nd rfl (by first | exact Or.inl rfl | exact Or.inr rfl))) (fun _ _ _ _ _ => pts_nil) (fun _ _ _ _ _ => (pe_ifExp (pt_cmpR (op_eqP hr.units) (pv 7) (pv 3) (nomark _)) (pe_tup (pa_cons pe_int (pa_cons pe_int pa_nil))) (pe_tup (pa_cons pe_int (pa_cons pe_int pa_nil)))))) (pss_cons (ps_expr (pe_bm PySem.F.plainAttrs_list PySem.F.slot_list_append PySem.F.type_list_append mt_append (pe_fld (pv 0) rfl) (pa_cons (pe_op op_uAdd (pe_op op_uAdd (pe_lc (own := [("one", 8)]) rfl nd (pi_seq (pv 4)) (blkOk_by (by kernel_rfl)) (fun _ _ _ _ _ => (pg_name (i := 8) nd rfl (by first | exact Or.inl rfl | exact Or.inr rfl))) (fun _ _ _ _ _ => pts_nil) (fun _ _ _ _ _ => (pe_c C_by hr (by decide) rfl (pa_cons (pv 8) (pa_cons (pe_ix ix_seq (pe_fld (pv 0) rfl) (pv 3) (fun _ _ => rfl)) pa_nil))))) (pv 5)) (pe_lst (pa_cons (pe_c C_by hr (by decide) rfl (pa_cons (pe_ix ix_seq (pv 2) (pv 3) (fun _ _ => rfl)) (pa_cons (pe_ix ix_seq (pe_fld (pv 0) rfl) (pv 3) (fun _ _ => rfl)) pa_nil))) pa_nil))) pa_nil))) (pss_one (ps_expr (pe_bm PySem.F.plainAttrs_list PySem.F.slot_list_append PySem.F.type_list_append mt_append (pe_fld (pv 0) rfl) (pa_cons (pe_op op_uAdd (pe_fld (pv 0) rfl) (pv 3)) pa_nil))))))))))))
theorem sc_m_turn : FnScope ["self", "j", "k", "pivot", "i", "factor", "one", "a", "b"] ["self", "j", "k"] (fnScope st_m_turn) := fnScope_by (by decide +kernel)
theorem d_m_turn {P : Program} {mg : Str → Option Value} {base : Heap} (G : Gd) (T : Txt mg) (C_over : Cal P G.w G.K mg base 2 "over" (sp_over G) []) (C_by : Cal P G.w G.K mg base 2 "by" (sp_by G) []) (C_minus : Cal P G.w G.K mg base 2 "minus" (sp_minus G) []) {f : Addr} {cdv : Value} {A : Around} {outer : List Env} {s : Shared} {H : Hp} {E : XK} (hr : Room 2 (A.deeper (envOfC "Program.turn" (fnScope st_m_turn) s.heap.objs.size f cdv))) : PSs (cxOf C8.CX0 P G.w G.K mg base ["self", "j", "k", "pivot", "i", "factor", "one", "a", "b"] "Program.turn" (fnScope st_m_turn) f cdv A outer s H E).nox (fnBody st_m_turn) (t_m_turn G) :=
  have nd := sc_m_turn.nd
  (pss_cons (ps_set (i := 3) nd rfl (by first | exact Or.inl rfl | exact Or.inr rfl) (pe_ix ix_seq (pe_ix ix_seq (pe_fld (pv 0) rfl) (pv 1) (fun _ _ => rfl)) (pv 2) (fun _ _ => rfl))) (pss_cons (ps_asg (pe_lc (own := [("one", 6)]) rfl nd (pi_seq (pe_ix ix_seq (pe_fld (pv 0) rfl) (pv 1) (fun _ _ => rfl))) (blkOk_by (by kernel_rfl)) (fun _ _ _ _ _ => (pg_name (i := 6) nd rfl (by first | exact Or.inl rfl | exact Or.inr rfl))) (fun _ _ _ _ _ => pts_nil) (fun _ _ _ _ _ => (pe_c C_over hr (by decide) rfl (pa_cons (pv 6) (pa_cons (pv 3) pa_nil))))) (pg_sub (pe_fld (pv 0) rfl) (pv 1) set_list)) (pss_cons (ps_for PassesOwn.never rfl (pi_range1 rfl T.range_ (pa_cons (pe_callB call_uLen rfl T.len_ (by decide +kernel) (pa_cons (pe_fld (pv 0) rfl) pa_nil)) pa_nil)) (pg_name (i := 4) nd rfl (by first | exact Or.inl rfl | exact Or.inr rfl)) (pss_cons (ps_set (i := 5) nd rfl (by first | exact Or.inl rfl | exact Or.inr rfl) (pe_ix ix_seq (pe_ix ix_seq (pe_fld (pv 0) rfl) (pv 4) (fun _ _ => rfl)) (pv 2) (fun _ _ => rfl))) (pss_one (ps_if (PW.pt (pw_and (pt_cmpR (op_neP hr.units) (pv 4) (pv 1) (nomark _)) (pw_and1 (pt_cmpR (op_neP hr.units) (pe_ix ix_seq (pv 5) pe_int (fun _ _ => rfl)) pe_int (nomark _))))) (pss_one (ps_asg (pe_lc (own := [("a", 7), ("b", 8)]) rfl nd (pi_zip rfl T.zip_ (pa_cons (pe_ix ix_seq (pe_fld (pv 0) rfl) (pv 4) (fun _ _ => rfl)) (pa_cons (pe_ix ix_seq (pe_fld (pv 0) rfl) (pv 1) (fun _ _ => rfl)) pa_nil))) (blkOk_by (by kernel_rfl)) (fun _ _ _ _ _ => (pg_tup rfl (pgs_cons (pg_name (i := 7) nd rfl (by first | exact Or.inl rfl | exact Or.inr rfl)) (pgs_cons (pg_name (i := 8) nd rfl (by first | exact Or.inl rfl | exact Or.inr rfl)) pgs_nil)))) (fun _ _ _ _ _ => pts_nil) (fun _ _ _ _ _ => (pe_c C_minus hr (by decide) rfl (pa_cons (pv 7) (pa_cons (pe_c C_by hr (by decide) rfl (pa_cons (pv 5) (pa_cons (pv 8) pa_nil))) pa_nil))))) (pg_sub (pe_fld (pv 0) rfl) (pv 4) set_list))) pss_nil)))) (pss_one (ps_asg (pv 2) (pg_sub (pe_fld (pv 0) rfl) (pv 1) set_list))))))
theorem sc_m_multiplier : FnScope ["self", "costs", "k", "some", "j", "row"] ["self", "costs", "k"] (fnScope st_m_multiplier) := fnScope_by (by decide +kernel)
theorem d_m_multiplier {P : Program} {mg : Str → Option Value} {base : Heap} (G : Gd) (T : Txt mg) (C_by : Cal P G.w G.K mg base 2 "by" (sp_by G) []) (C_sum_of : Cal P G.w G.K mg base 3 "sum_of" (sp_sum_of G) []) {f : Addr} {cdv : Value} {A : Around} {outer : List Env} {s : Shared} {H : Hp} {E : XK} (hr : Room 3 (A.deeper (envOfC "Program.multiplier" (fnScope st_m_multiplier) s.heap.objs.size f cdv))) : PSs (cxOf C8.CX0 P G.w G.K mg base ["self", "costs", "k", "some", "j", "row"] "Program.multiplier" (fnScope st_m_multiplier) f cdv A outer s H E).nox (fnBody st_m_multiplier) (t_m_multiplier G) :=
  have nd := sc_m_multiplier.nd
  (pss_cons (ps_setLc (i := 3) (own := [("j", 4), ("row", 5)]) rfl nd rfl rfl (sw_true rfl rfl rfl (by decide +kernel)) (pi_enum rfl T.enumerate_ (pa_cons (pe_fld (pv 0) rfl) pa_nil)) (blkOk_by (by kernel_rfl)) (fun _ _ _ _ _ => (pg_tup rfl (pgs_cons (pg_name (i := 4) nd rfl (by first | exact Or.inl rfl | exact Or.inr rfl)) (pgs_cons (pg_name (i := 5) nd rfl (by first | exact Or.inl rfl | exact Or.inr rfl)) pgs_nil)))) (fun _ _ _ _ _ => (pts_one (PW.pt (pw_and (pt_cmpR (op_neP hr.units) (pe_ix ix_seq (pe_ix ix_seq (pv 5) (pv 2) (fun _ _ => rfl)) pe_int (fun _ _ => rfl)) pe_int (nomark _)) (pw_and1 (pt_cmpR (op_neP hr.units) (pe_ix ix_seq (pe_ix ix_seq (pv 1) (pe_ix ix_seq (pe_fld (pv 0) rfl) (pv 4) (fun _ _ => rfl)) (fun _ _ => rfl)) pe_int (fun _ _ => rfl)) pe_int (nomark _))))))) (fun _ _ _ _ _ => (pv 4))) (pss_one (ps_ret (pe_c C_sum_of hr (by decide) rfl (pa_cons (pe_lc (own := [("j", 4)]) rfl nd (pi_seq (pv 3)) (blkOk_by (by kernel_rfl)) (fun _ _ _ _ _ => (pg_name (i := 4) nd rfl (by first | exact Or.inl rfl | exact Or.inr rfl))) (fun _ _ _ _ _ => pts_nil) (fun _ _ _ _ _ => (pe_c C_by hr (by decide) rfl (pa_cons (pe_ix ix_seq (pv 1) (pe_ix ix_seq (pe_fld (pv 0) rfl) (pv 4) (fun _ _ => rfl)) (fun _ _ => rfl)) (pa_cons (pe_ix ix_seq (pe_ix ix_seq (pe_fld (pv 0) rfl) (pv 4) (fun _ _ => rfl)) (pv 2) (fun _ _ => rfl)) pa_nil))))) pa_nil)))))
theorem sc_m_rising : FnScope ["self", "costs", "columns", "k"] ["self", "costs", "columns"] (fnScope st_m_rising) := fnScope_by (by decide +kernel)
theorem d_m_rising {P : Program} {mg : Str → Option Value} {base : Heap} (G : Gd) (T : Txt mg) (C_m_multiplier : Met P G.w G.K mg base 4 G.C "multiplier" (sp_m_multiplier G) []) (C_less : Cal P G.w G.K mg base 1 "less" (sp_less G) []) {f : Addr} {cdv : Value} {A : Around} {outer : List Env} {s : Shared} {H : Hp} {E : XK} (hr : Room 4 (A.deeper (envOfC "Program.rising" (fnScope st_m_rising) s.heap.objs.size f cdv))) : PSs (cxOf C8.CX0 P G.w G.K mg base ["self", "costs", "columns", "k"] "Program.rising" (fnScope st_m_rising) f cdv A outer s H E).nox (fnBody st_m_rising) (t_m_rising G) :=
  have nd := sc_m_rising.nd
  (pss_cons (ps_for PassesOwn.never rfl (pi_range1 rfl T.range_ (pa_cons (pv 2) pa_nil)) (pg_name (i := 3) nd rfl (by first | exact Or.inl rfl | exact Or.inr rfl)) (pss_one (ps_if (pt_val (pe_c C_less hr (by decide) rfl (pa_cons (pe_mt C_m_multiplier hr (by decide) (pv 0) (pa_cons (pv 1) (pa_cons (pv 3) pa_nil))) (pa_cons (pe_ix ix_seq (pv 1) (pv 3) (fun _ _ => rfl)) pa_nil)))) (pss_one (ps_ret (pv 3))) pss_nil))) (pss_one (ps_ret pe_non)))
theorem sc_m_climb : FnScope ["self", "costs", "columns", "k", "best", "j", "row", "here"] ["self", "costs", "columns"] (fnScope st_m_climb) := fnScope_by (by decide +kernel)
theorem d_m_climb {P : Program} {mg : Str → Option Value} {base : Heap} (G : Gd) (T : Txt mg) (C_m_rising : Met P G.w G.K mg base 5 G.C "rising" (sp_m_rising G) []) (C_over : Cal P G.w G.K mg base 2 "over" (sp_over G) []) (C_less : Cal P G.w G.K mg base 1 "less" (sp_less G) []) (C_m_turn : Met P G.w G.K mg base 3 G.C "turn" (sp_m_turn G) []) {f : Addr} {cdv : Value} {A : Around} {outer : List Env} {s : Shared} {H : Hp} {E : XK} (hr : Room 5 (A.deeper (envOfC "Program.climb" (fnScope st_m_climb) s.heap.objs.size f cdv))) : PSs (cxOf C8.CX0 P G.w G.K mg base ["self", "costs", "columns", "k", "best", "j", "row", "here"] "Program.climb" (fnScope st_m_climb) f cdv A outer s H E).nox (fnBody st_m_climb) (t_m_climb G) :=
  have nd := sc_m_climb.nd
  (pss_one (ps_while PassesOwn.never (pt_val pe_bl) (pss_cons (ps_par (i := 3) (j := 4) rfl nd rfl rfl (by decide) rfl rfl (pa_cons (pe_mt C_m_rising hr (by decide) (pv 0) (pa_cons (pv 1) (pa_cons (pv 2) pa_nil))) (pa_cons pe_non pa_nil)) rfl) (pss_cons (ps_if (pt_cmpR op_uIsN (pv 3) pe_non (nomark _)) (pss_one (ps_ret pe_bl)) pss_nil) (pss_cons (ps_for PassesOwn.never rfl (pi_enum rfl T.enumerate_ (pa_cons (pe_fld (pv 0) rfl) pa_nil)) (pg_tup rfl (pgs_cons (pg_name (i := 5) nd rfl (by first | exact Or.inl rfl | exact Or.inr rfl)) (pgs_cons (pg_name (i := 6) nd rfl (by first | exact Or.inl rfl | exact Or.inr rfl)) pgs_nil))) (pss_one (ps_if (pt_cmpR op_uGt (pe_ix ix_seq (pe_ix ix_seq (pv 6) (pv 3) (fun _ _ => rfl)) pe_int (fun _ _ => rfl)) pe_int (nomark _)) (pss_cons (ps_set (i := 7) nd rfl (by first | exact Or.inl rfl | exact Or.inr rfl) (pe_c C_over hr (by decide) rfl (pa_cons (pe_ix ix_seq (pv 6) (pe_un un_uNeg pe_int) (fun _ _ => rfl)) (pa_cons (pe_ix ix_seq (pv 6) (pv 3) (fun _ _ => rfl)) pa_nil)))) (pss_one (ps_if (PW.pt (pw_or (pt_cmpR op_uIsN (pv 4) pe_non (nomark _)) (pw_or (pt_val (pe_c C_less hr (by decide) rfl (pa_cons (pv 7) (pa_cons (pe_ix ix_seq (pv 4) pe_int (fun _ _ => rfl)) pa_nil)))) (pw_or1 (PW.pt (pw_and (pt_cmpR (op_eqP hr.units) (pv 7) (pe_ix ix_seq (pv 4) pe_int (fun _ _ => rfl)) (nomark _)) (pw_and1 (pt_cmpR op_uLt (pe_ix ix_seq (pe_fld (pv 0) rfl) (pv 5) (fun _ _ => rfl)) (pe_ix ix_seq (pe_fld (pv 0) rfl) (pe_ix ix_seq (pv 4) pe_int (fun _ _ => rfl)) (fun _ _ => rfl)) (nomark _))))))))) (pss_one (ps_set (i := 4) nd rfl (by first | exact Or.inl rfl | exact Or.inr rfl) (pe_tup (pa_cons (pv 7) (pa_cons (pv 5) pa_nil))))) pss_nil))) pss_nil))) (pss_cons (ps_if (pt_cmpR op_uIsN (pv 4) pe_non (nomark _)) (pss_one (ps_ret pe_bl)) pss_nil) (pss_one (ps_expr (pe_mt C_m_turn hr (by decide) (pv 0) (pa_cons (pe_ix ix_seq (pv 4) pe_int (fun _ _ => rfl)) (pa_cons (pv 3) pa_nil)))))))))))
theorem sc_m_leave_help : FnScope ["self", "j", "some", "k"] ["self"] (fnScope st_m_leave_help) := fnScope_by (by decide +kernel)
theorem d_m_leave_help {P : Program} {mg : Str → Option Value} {base : Heap} (G : Gd) (T : Txt mg) (C_m_turn : Met P G.w G.K mg base 3 G.C "turn" (sp_m_turn G) []) {f : Addr} {cdv : Value} {A : Around} {outer : List Env} {s : Shared} {H : Hp} {E : XK} (hr : Room 3 (A.deeper (envOfC "Program.leave_help" (fnScope st_m_leave_help) s.heap.objs.size f cdv))) : PSs (cxOf C8.CX0 P G.w G.K mg base ["self", "j", "some", "k"] "Program.leave_help" (fnScope st_m_leave_help) f cdv A outer s H E).nox (fnBody st_m_leave_help) (t_m_leave_help G) :=
  have nd := sc_m_leave_help.nd
  (pss_one (ps_for PassesOwn.never rfl (pi_range3 rfl T.range_ (pa_cons (pe_op op_uSub (pe_callB call_uLen rfl T.len_ (by decide +kernel) (pa_cons (pe_fld (pv 0) rfl) pa_nil)) pe_int) (pa_cons (pe_un un_uNeg pe_int) (pa_cons (pe_un un_uNeg pe_int) pa_nil)))) (pg_name (i := 1) nd rfl (by first | exact Or.inl rfl | exact Or.inr rfl)) (pss_one (ps_if (pt_cmpR (op_uGe hr.units) (pe_ix ix_seq (pe_fld (pv 0) rfl) (pv 1) (fun _ _ => rfl)) (pe_fld (pv 0) rfl) (nomark _)) (pss_cons (ps_setLc (i := 2) (own := [("k", 3)]) rfl nd rfl rfl (sw_true rfl rfl rfl (by decide +kernel)) (pi_range1 rfl T.range_ (pa_cons (pe_fld (pv 0) rfl) pa_nil)) (blkOk_by (by kernel_rfl)) (fun _ _ _ _ _ => (pg_name (i := 3) nd rfl (by first | exact Or.inl rfl | exact Or.inr rfl))) (fun _ _ _ _ _ => (pts_one (pt_cmpR (op_neP hr.units) (pe_ix ix_seq (pe_ix ix_seq (pe_ix ix_seq (pe_fld (pv 0) rfl) (pv 1) (fun _ _ => rfl)) (pv 3) (fun _ _ => rfl)) pe_int (fun _ _ => rfl)) pe_int (nomark _)))) (fun _ _ _ _ _ => (pv 3))) (pss_one (ps_if (pt_tru (pv 2) (by intro _; rfl)) (pss_one (ps_expr (pe_mt C_m_turn hr (by decide) (pv 0) (pa_cons (pv 1) (pa_cons (pe_ix ix_seq (pv 2) pe_int (fun _ _ => rfl)) pa_nil))))) pss_never))) pss_nil))))
theorem sc_m_amounts : FnScope ["self", "found", "j", "row", "k"] ["self"] (fnScope st_m_amounts) := fnScope_by (by decide +kernel)
theorem d_m_amounts {P : Program} {mg : Str → Option Value} {base : Heap} (G : Gd) (T : Txt mg) {f : Addr} {cdv : Value} {A : Around} {outer : List Env} {s : Shared} {H : Hp} {E : XK} (hr : Room 0 (A.deeper (envOfC "Program.amounts" (fnScope st_m_amounts) s.heap.objs.size f cdv))) : PSs (cxOf C8.CX0 P G.w G.K mg base ["self", "found", "j", "row", "k"] "Program.amounts" (fnScope st_m_amounts) f cdv A outer s H E).nox (fnBody st_m_amounts) (t_m_amounts G) :=
  have nd := sc_m_amounts.nd
  (pss_cons (ps_setLc (i := 1) (own := [("k", 4)]) rfl nd rfl rfl (sw_true rfl rfl rfl (by decide +kernel)) (pi_range1 rfl T.range_ (pa_cons (pe_fld (pv 0) rfl) pa_nil)) (blkOk_by (by kernel_rfl)) (fun _ _ _ _ _ => (pg_name (i := 4) nd rfl (by first | exact Or.inl rfl | exact Or.inr rfl))) (fun _ _ _ _ _ => pts_nil) (fun _ _ _ _ _ => (pe_tup (pa_cons pe_int (pa_cons pe_int pa_nil))))) (pss_cons (ps_for PassesOwn.never rfl (pi_enum rfl T.enumerate_ (pa_cons (pe_fld (pv 0) rfl) pa_nil)) (pg_tup rfl (pgs_cons (pg_name (i := 2) nd rfl (by first | exact Or.inl rfl | exact Or.inr rfl)) (pgs_cons (pg_name (i := 3) nd rfl (by first | exact Or.inl rfl | exact Or.inr rfl)) pgs_nil))) (pss_one (ps_if (pt_cmpR op_uLt (pe_ix ix_seq (pe_fld (pv 0) rfl) (pv 2) (fun _ _ => rfl)) (pe_fld (pv 0) rfl) (nomark _)) (pss_one (ps_asg (pe_ix ix_seq (pv 3) (pe_un un_uNeg pe_int) (fun _ _ => rfl)) (pg_sub (pv 1) (pe_ix ix_seq (pe_fld (pv 0) rfl) (pv 2) (fun _ _ => rfl)) set_list))) pss_nil))) (pss_one (ps_ret (pv 1)))))
theorem sc_m_prices : FnScope ["self", "costs", "j", "sign"] ["self", "costs"] (fnScope st_m_prices) := fnScope_by (by decide +kernel)
theorem d_m_prices {P : Program} {mg : Str → Option Value} {base : Heap} (G : Gd) (T : Txt mg) (C_m_multiplier : Met P G.w G.K mg base 4 G.C "multiplier" (sp_m_multiplier G) []) (C_by : Cal P G.w G.K mg base 2 "by" (sp_by G) []) {f : Addr} {cdv : Value} {A : Around} {outer : List Env} {s : Shared} {H : Hp} {E : XK} (hr : Room 4 (A.deeper (envOfC "Program.prices" (fnScope st_m_prices) s.heap.objs.size f cdv))) : PSs (cxOf C8.CX0 P G.w G.K mg base ["self", "costs", "j", "sign"] "Program.prices" (fnScope st_m_prices) f cdv A outer s H E).nox (fnBody st_m_prices) (t_m_prices G) :=
  have nd := sc_m_prices.nd
  (pss_one (ps_ret (pe_lc (own := [("j", 2), ("sign", 3)]) rfl nd (pi_enum rfl T.enumerate_ (pa_cons (pe_fld (pv 0) rfl) pa_nil)) (blkOk_by (by kernel_rfl)) (fun _ _ _ _ _ => (pg_tup rfl (pgs_cons (pg_name (i := 2) nd rfl (by first | exact Or.inl rfl | exact Or.inr rfl)) (pgs_cons (pg_name (i := 3) nd rfl (by first | exact Or.inl rfl | exact Or.inr rfl)) pgs_nil)))) (fun _ _ _ _ _ => pts_nil) (fun _ _ _ _ _ => (pe_c C_by hr (by decide) rfl (pa_cons (pv 3) (pa_cons (pe_mt C_m_multiplier hr (by decide) (pv 0) (pa_cons (pv 1) (pa_cons (pe_op op_uAdd (pe_fld (pv 0) rfl) (pv 2)) pa_nil))) pa_nil)))))))
theorem sc_solved : FnScope ["rows", "goals", "costs", "program", "helping", "all_costs", "k", "row"] ["rows", "goals", "costs"] (fnScope st_solved) := fnScope_by (by decide +kernel)
theorem d_solved {P : Program} {mg : Str → Option Value} {base : Heap} (G : Gd) (T : Txt mg) (C_mk : Mak P G.w G.K mg base 3 "Program" G.C (sp_mk G) []) (C_m_climb : Met P G.w G.K mg base 6 G.C "climb" (sp_m_climb G) []) (C_m_multiplier : Met P G.w G.K mg base 4 G.C "multiplier" (sp_m_multiplier G) []) (C_m_leave_help : Met P G.w G.K mg base 4 G.C "leave_help" (sp_m_leave_help G) []) (C_m_prices : Met P G.w G.K mg base 5 G.C "prices" (sp_m_prices G) []) (C_m_amounts : Met P G.w G.K mg base 1 G.C "amounts" (sp_m_amounts G) []) {f : Addr} {cdv : Value} {A : Around} {outer : List Env} {s : Shared} {H : Hp} {E : XK} (hr : Room 6 (A.deeper (envOfC "solved" (fnScope st_solved) s.heap.objs.size f cdv))) : PSs (cxOf C8.CX0 P G.w G.K mg base ["rows", "goals", "costs", "program", "helping", "all_costs", "k", "row"] "solved" (fnScope st_solved) f cdv A outer s H E).nox (fnBody st_solved) (t_solved G) :=
  have nd := sc_solved.nd
  (pss_cons (ps_set (i := 3) nd rfl (by first | exact Or.inl rfl | exact Or.inr rfl) (pe_mk C_mk hr (by decide) rfl (pa_cons (pv 0) (pa_cons (pv 1) pa_nil)))) (pss_cons (ps_set (i := 4) nd rfl (by first | exact Or.inl rfl | exact Or.inr rfl) (pe_op op_uAdd (pe_lc (own := [("k", 6)]) rfl nd (pi_seq (pv 2)) (blkOk_by (by kernel_rfl)) (fun _ _ _ _ _ => (pg_name (i := 6) nd rfl (by first | exact Or.inl rfl | exact Or.inr rfl))) (fun _ _ _ _ _ => pts_nil) (fun _ _ _ _ _ => (pe_tup (pa_cons pe_int (pa_cons pe_int pa_nil))))) (pe_lc (own := [("row", 7)]) rfl nd (pi_seq (pv 0)) (blkOk_by (by kernel_rfl)) (fun _ _ _ _ _ => (pg_name (i := 7) nd rfl (by first | exact Or.inl rfl | exact Or.inr rfl))) (fun _ _ _ _ _ => pts_nil) (fun _ _ _ _ _ => (pe_tup (pa_cons (pe_un un_uNeg pe_int) (pa_cons pe_int pa_nil))))))) (pss_cons (ps_expr (pe_mt C_m_climb hr (by decide) (pv 3) (pa_cons (pv 4) (pa_cons (pe_fld (pv 3) rfl) pa_nil)))) (pss_cons (ps_if (pt_cmpR op_uLt (pe_ix ix_seq (pe_mt C_m_multiplier hr (by decide) (pv 3) (pa_cons (pv 4) (pa_cons (pe_op op_uAdd (pe_fld (pv 3) rfl) (pe_callB call_uLen rfl T.len_ (by decide +kernel) (pa_cons (pv 0) pa_nil))) pa_nil))) pe_int (fun _ _ => rfl)) pe_int (nomark _)) pss_never pss_nil) (pss_cons (ps_expr (pe_mt0 C_m_leave_help hr (by decide) (pv 3))) (pss_cons (ps_set (i := 5) nd rfl (by first | exact Or.inl rfl | exact Or.inr rfl) (pe_op op_uAdd (pe_callTy call_uLst rfl T.list_ (by decide +kernel) (pa_cons (pv 2) pa_nil)) (pe_lc (own := [("row", 7)]) rfl nd (pi_seq (pv 0)) (blkOk_by (by kernel_rfl)) (fun _ _ _ _ _ => (pg_name (i := 7) nd rfl (by first | exact Or.inl rfl | exact Or.inr rfl))) (fun _ _ _ _ _ => pts_nil) (fun _ _ _ _ _ => (pe_tup (pa_cons pe_int (pa_cons pe_int pa_nil))))))) (pss_cons (ps_if (pt_not (pt_val (pe_mt C_m_climb hr (by decide) (pv 3) (pa_cons (pv 5) (pa_cons (pe_fld (pv 3) rfl) pa_nil))))) pss_never pss_nil) (pss_one (ps_ret (pe_tup (pa_cons pe_str (pa_cons (pe_mt0 C_m_amounts hr (by decide) (pv 3)) (pa_cons (pe_mt C_m_prices hr (by decide) (pv 3) (pa_cons (pv 5) pa_nil)) pa_nil)))))))))))))
theorem sc_covers : FnScope ["web", "lot"] ["web", "lot"] (fnScope st_covers) := fnScope_by (by decide +kernel)
theorem d_covers {P : Program} {mg : Str → Option Value} {base : Heap} (G : Gd) (T : Txt mg) (C_with_foes : Cal P G.w G.K mg base 3 "with_foes" (sp_with_foes G) []) {f : Addr} {cdv : Value} {A : Around} {outer : List Env} {s : Shared} {H : Hp} {E : XK} (hr : Room 3 (A.deeper (envOfC "covers" (fnScope st_covers) s.heap.objs.size f cdv))) : PSs (cxOf C8.CX0 P G.w G.K mg base ["web", "lot"] "covers" (fnScope st_covers) f cdv A outer s H E).nox (fnBody st_covers) (t_covers G) :=
  have nd := sc_covers.nd
  (pss_one (ps_ret (pe_cmpR (op_eqP hr.units) (pe_callB call_uLen rfl T.len_ (by decide +kernel) (pa_cons (pe_c C_with_foes hr (by decide) rfl (pa_cons (pv 0) (pa_cons (pv 1) pa_nil))) pa_nil)) (pe_ix ix_seq (pv 0) pe_int (fun _ _ => rfl)) (nomark _))))
theorem sc_least_lots : FnScope ["web", "some", "few", "lot"] ["web"] (fnScope st_least_lots) := fnScope_by (by decide +kernel)
theorem d_least_lots {P : Program} {mg : Str → Option Value} {base : Heap} (G : Gd) (T : Txt mg) (C_all_lots : Cal P G.w G.K mg base 1 "all_lots" (sp_all_lots G) []) (C_covers : Cal P G.w G.K mg base 4 "covers" (sp_covers G) []) {f : Addr} {cdv : Value} {A : Around} {outer : List Env} {s : Shared} {H : Hp} {E : XK} (hr : Room 4 (A.deeper (envOfC "least_lots" (fnScope st_least_lots) s.heap.objs.size f cdv))) : PSs (cxOf C8.CX0 P G.w G.K mg base ["web", "some", "few", "lot"] "least_lots" (fnScope st_least_lots) f cdv A outer s H E).nox (fnBody st_least_lots) (t_least_lots G) :=
  have nd := sc_least_lots.nd
  (pss_cons (ps_setLc (i := 1) (own := [("lot", 3)]) rfl nd rfl rfl (sw_true rfl rfl rfl (by decide +kernel)) (pi_seq (pe_c C_all_lots hr (by decide) rfl (pa_cons (pv 0) pa_nil))) (blkOk_by (by kernel_rfl)) (fun _ _ _ _ _ => (pg_name (i := 3) nd rfl (by first | exact Or.inl rfl | exact Or.inr rfl))) (fun _ _ _ _ _ => (pts_one (pt_val (pe_c C_covers hr (by decide) rfl (pa_cons (pv 0) (pa_cons (pv 3) pa_nil)))))) (fun _ _ _ _ _ => (pv 3))) (pss_cons (ps_set (i := 2) nd rfl (by first | exact Or.inl rfl | exact Or.inr rfl) (pe_callB (call_uMin rfl (Room.u80 hr)) rfl T.min_ (by decide +kernel) (pa_cons (pe_lc (own := [("lot", 3)]) rfl nd (pi_seq (pv 1)) (blkOk_by (by kernel_rfl)) (fun _ _ _ _ _ => (pg_name (i := 3) nd rfl (by first | exact Or.inl rfl | exact Or.inr rfl))) (fun _ _ _ _ _ => pts_nil) (fun _ _ _ _ _ => (pe_callB call_uLen rfl T.len_ (by decide +kernel) (pa_cons (pv 3) pa_nil)))) pa_nil))) (pss_one (ps_ret (pe_lc (own := [("lot", 3)]) rfl nd (pi_seq (pv 1)) (blkOk_by (by kernel_rfl)) (fun _ _ _ _ _ => (pg_name (i := 3) nd rfl (by first | exact Or.inl rfl | exact Or.inr rfl))) (fun _ _ _ _ _ => (pts_one (pt_cmpR (op_eqP hr.units) (pe_callB call_uLen rfl T.len_ (by decide +kernel) (pa_cons (pv 3) pa_nil)) (pv 2) (nomark _)))) (fun _ _ _ _ _ => (pv 3)))))))
theorem sc_forget_row : FnScope ["web"] ["web"] (fnScope st_forget_row) := fnScope_by (by decide +kernel)
theorem d_forget_row {P : Program} {mg : Str → Option Value} {base : Heap} (G : Gd) (T : Txt mg) (C_need_web : Cal P G.w G.K mg base 2 "need_web" (sp_need_web G) []) (C_least_lots : Cal P G.w G.K mg base 5 "least_lots" (sp_least_lots G) []) {f : Addr} {cdv : Value} {A : Around} {outer : List Env} {s : Shared} {H : Hp} {E : XK} (hr : Room 5 (A.deeper (envOfC "forget_row" (fnScope st_forget_row) s.heap.objs.size f cdv))) : PSs (cxOf C8.CX0 P G.w G.K mg base ["web"] "forget_row" (fnScope st_forget_row) f cdv A outer s H E).nox (fnBody st_forget_row) (t_forget_row G) :=
  have nd := sc_forget_row.nd
  (pss_cons (ps_expr (pe_c C_need_web hr (by decide) rfl (pa_cons (pv 0) pa_nil))) (pss_one (ps_ret (pe_ix ix_seq (pe_c C_least_lots hr (by decide) rfl (pa_cons (pv 0) pa_nil)) pe_int (fun _ _ => rfl)))))
theorem sc_forget_length : FnScope ["web"] ["web"] (fnScope st_forget_length) := fnScope_by (by decide +kernel)
theorem d_forget_length {P : Program} {mg : Str → Option Value} {base : Heap} (G : Gd) (T : Txt mg) (C_need_web : Cal P G.w G.K mg base 2 "need_web" (sp_need_web G) []) (C_least_lots : Cal P G.w G.K mg base 5 "least_lots" (sp_least_lots G) []) {f : Addr} {cdv : Value} {A : Around} {outer : List Env} {s : Shared} {H : Hp} {E : XK} (hr : Room 5 (A.deeper (envOfC "forget_length" (fnScope st_forget_length) s.heap.objs.size f cdv))) : PSs (cxOf C8.CX0 P G.w G.K mg base ["web"] "forget_length" (fnScope st_forget_length) f cdv A outer s H E).nox (fnBody st_forget_length) (t_forget_length G) :=
  have nd := sc_forget_length.nd
  (pss_cons (ps_expr (pe_c C_need_web hr (by decide) rfl (pa_cons (pv 0) pa_nil))) (pss_one (ps_ret (pe_callB call_uLen rfl T.len_ (by decide +kernel) (pa_cons (pe_ix ix_seq (pe_c C_least_lots hr (by decide) rfl (pa_cons (pv 0) pa_nil)) pe_int (fun _ _ => rfl)) pa_nil)))))
theorem sc_forget_lots : FnScope ["web"] ["web"] (fnScope st_forget_lots) := fnScope_by (by decide +kernel)
theorem d_forget_lots {P : Program} {mg : Str → Option Value} {base : Heap} (G : Gd) (T : Txt mg) (C_need_web : Cal P G.w G.K mg base 2 "need_web" (sp_need_web G) []) (C_least_lots : Cal P G.w G.K mg base 5 "least_lots" (sp_least_lots G) []) {f : Addr} {cdv : Value} {A : Around} {outer : List Env} {s : Shared} {H : Hp} {E : XK} (hr : Room 5 (A.deeper (envOfC "forget_lots" (fnScope st_forget_lots) s.heap.objs.size f cdv))) : PSs (cxOf C8.CX0 P G.w G.K mg base ["web"] "forget_lots" (fnScope st_forget_lots) f cdv A outer s H E).nox (fnBody st_forget_lots) (t_forget_lots G) :=
  have nd := sc_forget_lots.nd
  (pss_cons (ps_expr (pe_c C_need_web hr (by decide) rfl (pa_cons (pv 0) pa_nil))) (pss_one (ps_ret (pe_callTy call_uTup rfl T.tuple_ (by decide +kernel) (pa_cons (pe_c C_least_lots hr (by decide) rfl (pa_cons (pv 0) pa_nil)) pa_nil)))))
theorem sc_need_costs : FnScope ["web", "costs"] ["web", "costs"] (fnScope st_need_costs) := fnScope_by (by decide +kernel)
theorem d_need_costs {P : Program} {mg : Str → Option Value} {base : Heap} (G : Gd) (T : Txt mg) (C_need_web : Cal P G.w G.K mg base 2 "need_web" (sp_need_web G) []) (C_is_in : Cal P G.w G.K mg base 1 "is_in" (sp_is_in G) []) {f : Addr} {cd : Addr} {A : Around} {outer : List Env} {s : Shared} {H : Hp} {E : XK} (TB : TabB base mg cd G.p_need_costs) (hr : Room 2 (A.deeper (envOfC "need_costs" (fnScope st_need_costs) s.heap.objs.size f (.ref cd)))) : PSs (cxOf C8.CX0 P G.w G.K mg base ["web", "costs"] "need_costs" (fnScope st_need_costs) f (.ref cd) A outer s H E).nox (fnBody st_need_costs) (t_need_costs G) :=
  have nd := sc_need_costs.nd
  (pss_cons (ps_expr (pe_c C_need_web hr (by decide) rfl (pa_cons (pv 0) pa_nil))) (pss_one (ps_if (PW.pt (pw_or (pt_not (pt_val (pe_callB call_uIsi rfl T.isinstance_ (by decide +kernel) (pa_cons (pv 1) (pa_cons (pe_bltn (v := .ty "tuple") rfl T.tuple_ (by decide +kernel) rfl) pa_nil))))) (pw_or (pt_cmpR (op_neP hr.units) (pe_callB call_uLen rfl T.len_ (by decide +kernel) (pa_cons (pv 1) pa_nil)) (pe_ix ix_seq (pv 0) pe_int (fun _ _ => rfl)) (nomark _)) (pw_or1 (pt_not (pt_val (pe_allG (k := 1) (N := ["one"]) (caps := []) (hr.mono (by decide)) rfl rfl T.all_ TB rfl (genK_by (by kernel_rfl)) (pi_seq (pv 1)) (fun _ _ _ _ _ _ _ _ hA => (pe_c C_is_in hA (by decide) rfl (pa_cons (pv 0) (pa_cons pe_int (pa_cons (pe_num rfl T.MOST_COST) pa_nil)))))))))))) pss_never pss_nil)))
theorem sc_cost_of : FnScope ["costs", "lot"] ["costs", "lot"] (fnScope st_cost_of) := fnScope_by (by decide +kernel)
theorem d_cost_of {P : Program} {mg : Str → Option Value} {base : Heap} (G : Gd) (T : Txt mg) {f : Addr} {cd : Addr} {A : Around} {outer : List Env} {s : Shared} {H : Hp} {E : XK} (TB : TabB base mg cd G.p_cost_of) (hr : Room 1 (A.deeper (envOfC "cost_of" (fnScope st_cost_of) s.heap.objs.size f (.ref cd)))) : PSs (cxOf C8.CX0 P G.w G.K mg base ["costs", "lot"] "cost_of" (fnScope st_cost_of) f (.ref cd) A outer s H E).nox (fnBody st_cost_of) (t_cost_of G) :=
  have nd := sc_cost_of.nd
  (pss_one (ps_ret (pe_sumG (k := 0) (N := ["person", "costs"]) (caps := [0]) (hr.mono (by decide)) rfl rfl T.sum_ TB rfl (genK_by (by kernel_rfl)) (pi_seq (pv 1)) (fun _ _ _ _ _ _ _ _ hA => (pe_ix ix_seq (pv 1) (pv 0) (fun _ _ => rfl))))))
theorem sc_cheapest : FnScope ["web", "costs", "lot"] ["web", "costs"] (fnScope st_cheapest) := fnScope_by (by decide +kernel)
theorem d_cheapest {P : Program} {mg : Str → Option Value} {base : Heap} (G : Gd) (T : Txt mg) (C_all_lots : Cal P G.w G.K mg base 1 "all_lots" (sp_all_lots G) []) (C_covers : Cal P G.w G.K mg base 4 "covers" (sp_covers G) []) (C_cost_of : Cal P G.w G.K mg base 2 "cost_of" (sp_cost_of G) []) {f : Addr} {cdv : Value} {A : Around} {outer : List Env} {s : Shared} {H : Hp} {E : XK} (hr : Room 4 (A.deeper (envOfC "cheapest" (fnScope st_cheapest) s.heap.objs.size f cdv))) : PSs (cxOf C8.CX0 P G.w G.K mg base ["web", "costs", "lot"] "cheapest" (fnScope st_cheapest) f cdv A outer s H E).nox (fnBody st_cheapest) (t_cheapest G) :=
  have nd := sc_cheapest.nd
  (pss_one (ps_ret (pe_callB (call_uMin rfl (Room.u80 hr)) rfl T.min_ (by decide +kernel) (pa_cons (pe_lc (own := [("lot", 2)]) rfl nd (pi_seq (pe_c C_all_lots hr (by decide) rfl (pa_cons (pv 0) pa_nil))) (blkOk_by (by kernel_rfl)) (fun _ _ _ _ _ => (pg_name (i := 2) nd rfl (by first | exact Or.inl rfl | exact Or.inr rfl))) (fun _ _ _ _ _ => (pts_one (pt_val (pe_c C_covers hr (by decide) rfl (pa_cons (pv 0) (pa_cons (pv 2) pa_nil)))))) (fun _ _ _ _ _ => (pe_tup (pa_cons (pe_c C_cost_of hr (by decide) rfl (pa_cons (pv 1) (pa_cons (pv 2) pa_nil))) (pa_cons (pv 2) pa_nil))))) pa_nil))))
theorem sc_cheap_forget : FnScope ["web", "costs"] ["web", "costs"] (fnScope st_cheap_forget) := fnScope_by (by decide +kernel)
theorem d_cheap_forget {P : Program} {mg : Str → Option Value} {base : Heap} (G : Gd) (T : Txt mg) (C_need_costs : Cal P G.w G.K mg base 3 "need_costs" (sp_need_costs G) []) (C_cheapest : Cal P G.w G.K mg base 5 "cheapest" (sp_cheapest G) []) {f : Addr} {cdv : Value} {A : Around} {outer : List Env} {s : Shared} {H : Hp} {E : XK} (hr : Room 5 (A.deeper (envOfC "cheap_forget" (fnScope st_cheap_forget) s.heap.objs.size f cdv))) : PSs (cxOf C8.CX0 P G.w G.K mg base ["web", "costs"] "cheap_forget" (fnScope st_cheap_forget) f cdv A outer s H E).nox (fnBody st_cheap_forget) (t_cheap_forget G) :=
  have nd := sc_cheap_forget.nd
  (pss_cons (ps_expr (pe_c C_need_costs hr (by decide) rfl (pa_cons (pv 0) (pa_cons (pv 1) pa_nil)))) (pss_one (ps_ret (pe_c C_cheapest hr (by decide) rfl (pa_cons (pv 0) (pa_cons (pv 1) pa_nil))))))
theorem sc_shows_cheap_forget : FnScope ["web", "costs", "value", "best"] ["web", "costs", "value"] (fnScope st_shows_cheap_forget) := fnScope_by (by decide +kernel)
theorem d_shows_cheap_forget {P : Program} {mg : Str → Option Value} {base : Heap} (G : Gd) (T : Txt mg) (C_need_costs : Cal P G.w G.K mg base 3 "need_costs" (sp_need_costs G) []) (C_cheapest : Cal P G.w G.K mg base 5 "cheapest" (sp_cheapest G) []) (C_is_in : Cal P G.w G.K mg base 1 "is_in" (sp_is_in G) []) (C_is_lot : Cal P G.w G.K mg base 3 "is_lot" (sp_is_lot G) []) (C_covers : Cal P G.w G.K mg base 4 "covers" (sp_covers G) []) (C_cost_of : Cal P G.w G.K mg base 2 "cost_of" (sp_cost_of G) []) {f : Addr} {cdv : Value} {A : Around} {outer : List Env} {s : Shared} {H : Hp} {E : XK} (hr : Room 5 (A.deeper (envOfC "shows_cheap_forget" (fnScope st_shows_cheap_forget) s.heap.objs.size f cdv))) : PSs (cxOf C8.CX0 P G.w G.K mg base ["web", "costs", "value", "best"] "shows_cheap_forget" (fnScope st_shows_cheap_forget) f cdv A outer s H E).nox (fnBody st_shows_cheap_forget) (t_shows_cheap_forget G) :=
  have nd := sc_shows_cheap_forget.nd
  (pss_cons (ps_expr (pe_c C_need_costs hr (by decide) rfl (pa_cons (pv 0) (pa_cons (pv 1) pa_nil)))) (pss_cons (ps_set (i := 3) nd rfl (by first | exact Or.inl rfl | exact Or.inr rfl) (pe_ix ix_seq (pe_c C_cheapest hr (by decide) rfl (pa_cons (pv 0) (pa_cons (pv 1) pa_nil))) pe_int (fun _ _ => rfl))) (pss_cons (ps_if (PW.pt (pw_or (pt_not (pt_val (pe_callB call_uIsi rfl T.isinstance_ (by decide +kernel) (pa_cons (pv 2) (pa_cons (pe_bltn (v := .ty "tuple") rfl T.tuple_ (by decide +kernel) rfl) pa_nil))))) (pw_or (pt_cmpR (op_neP hr.units) (pe_callB call_uLen rfl T.len_ (by decide +kernel) (pa_cons (pv 2) pa_nil)) pe_int (nomark _)) (pw_or1 (pt_not (pt_val (pe_c C_is_in hr (by decide) rfl (pa_cons (pe_ix ix_seq (pv 2) pe_int (fun _ _ => rfl)) (pa_cons (pv 3) (pa_cons (pv 3) pa_nil)))))))))) (pss_one (ps_ret pe_bl)) pss_nil) (pss_one (ps_ret (pe_and (pe_c C_is_lot hr (by decide) rfl (pa_cons (pv 0) (pa_cons (pe_ix ix_seq (pv 2) pe_int (fun _ _ => rfl)) pa_nil))) (pe_and (pe_c C_covers hr (by decide) rfl (pa_cons (pv 0) (pa_cons (pe_ix ix_seq (pv 2) pe_int (fun _ _ => rfl)) pa_nil))) (pe_one (pe_cmpR (op_eqP hr.units) (pe_c C_cost_of hr (by decide) rfl (pa_cons (pv 1) (pa_cons (pe_ix ix_seq (pv 2) pe_int (fun _ _ => rfl)) pa_nil))) (pv 3) (nomark _))))))))))
theorem sc_paper_of : FnScope ["web", "costs", "size", "rows", "person", "near", "slack", "aims", "k", "cost"] ["web", "costs"] (fnScope st_paper_of) := fnScope_by (by decide +kernel)
theorem d_paper_of {P : Program} {mg : Str → Option Value} {base : Heap} (G : Gd) (T : Txt mg) (C_foes : Cal P G.w G.K mg base 2 "foes" (sp_foes G) []) (C_solved : Cal P G.w G.K mg base 7 "solved" (sp_solved G) []) {f : Addr} {cdv : Value} {A : Around} {outer : List Env} {s : Shared} {H : Hp} {E : XK} (hr : Room 7 (A.deeper (envOfC "paper_of" (fnScope st_paper_of) s.heap.objs.size f cdv))) : PSs (cxOf C8.CX0 P G.w G.K mg base ["web", "costs", "size", "rows", "person", "near", "slack", "aims", "k", "cost"] "paper_of" (fnScope st_paper_of) f cdv A outer s H E).nox (fnBody st_paper_of) (t_paper_of G) :=
  have nd := sc_paper_of.nd
  (pss_cons (ps_asg (pe_tup (pa_cons (pe_ix ix_seq (pv 0) pe_int (fun _ _ => rfl)) (pa_cons (pe_lst pa_nil) pa_nil))) (pg_tup rfl (pgs_cons (pg_name (i := 2) nd rfl (by first | exact Or.inl rfl | exact Or.inr rfl)) (pgs_cons (pg_name (i := 3) nd rfl (by first | exact Or.inl rfl | exact Or.inr rfl)) pgs_nil)))) (pss_cons (ps_for PassesOwn.never rfl (pi_range1 rfl T.range_ (pa_cons (pv 2) pa_nil)) (pg_name (i := 4) nd rfl (by first | exact Or.inl rfl | exact Or.inr rfl)) (pss_cons (ps_set (i := 5) nd rfl (by first | exact Or.inl rfl | exact Or.inr rfl) (pe_lst (pa_cons (pv 4) (StX.pa_star (pe_c C_foes hr (by decide) rfl (pa_cons (pv 0) (pa_cons (pv 4) pa_nil))) pa_nil)))) (pss_cons (ps_setLc (i := 6) (own := [("k", 8)]) rfl nd rfl rfl (sw_true rfl rfl rfl (by decide +kernel)) (pi_range1 rfl T.range_ (pa_cons (pv 2) pa_nil)) (blkOk_by (by kernel_rfl)) (fun _ _ _ _ _ => (pg_name (i := 8) nd rfl (by first | exact Or.inl rfl | exact Or.inr rfl))) (fun _ _ _ _ _ => pts_nil) (fun _ _ _ _ _ => (pe_tup (pa_cons (pe_ifExp (pt_cmpR (op_eqP hr.units) (pv 8) (pv 4) (nomark _)) pe_int pe_int) (pa_cons pe_int pa_nil))))) (pss_one (ps_expr (pe_bm PySem.F.plainAttrs_list PySem.F.slot_list_append PySem.F.type_list_append mt_append (pv 3) (pa_cons (pe_op op_uAdd (pe_lc (own := [("k", 8)]) rfl nd (pi_range1 rfl T.range_ (pa_cons (pv 2) pa_nil)) (blkOk_by (by kernel_rfl)) (fun _ _ _ _ _ => (pg_name (i := 8) nd rfl (by first | exact Or.inl rfl | exact Or.inr rfl))) (fun _ _ _ _ _ => pts_nil) (fun _ _ _ _ _ => (pe_tup (pa_cons (pe_ifExp (pt_cmpR (op_inP hr.units) (pv 8) (pv 5) (by rfl)) pe_int pe_int) (pa_cons pe_int pa_nil))))) (pv 6)) pa_nil))))))) (pss_cons (ps_setLc (i := 7) (own := [("k", 8)]) rfl nd rfl rfl (sw_true rfl rfl rfl (by decide +kernel)) (pi_range1 rfl T.range_ (pa_cons (pe_op op_uMul pe_int (pv 2)) pa_nil)) (blkOk_by (by kernel_rfl)) (fun _ _ _ _ _ => (pg_name (i := 8) nd rfl (by first | exact Or.inl rfl | exact Or.inr rfl))) (fun _ _ _ _ _ => pts_nil) (fun _ _ _ _ _ => (pe_tup (pa_cons (pe_ifExp (pt_cmpR op_uLt (pv 8) (pv 2) (nomark _)) pe_int pe_int) (pa_cons pe_int pa_nil))))) (pss_one (ps_ret (pe_slice sl_u (pe_ix ix_seq (pe_c C_solved hr (by decide) rfl (pa_cons (pv 3) (pa_cons (pe_lc (own := [("cost", 9)]) rfl nd (pi_seq (pv 1)) (blkOk_by (by kernel_rfl)) (fun _ _ _ _ _ => (pg_name (i := 9) nd rfl (by first | exact Or.inl rfl | exact Or.inr rfl))) (fun _ _ _ _ _ => pts_nil) (fun _ _ _ _ _ => (pe_tup (pa_cons (pv 9) (pa_cons pe_int pa_nil))))) (pa_cons (pv 7) pa_nil)))) pe_int (fun _ _ => rfl)) po_none (po_some (pv 2))))))))
theorem sc_forget_paper : FnScope ["web", "costs"] ["web", "costs"] (fnScope st_forget_paper) := fnScope_by (by decide +kernel)
theorem d_forget_paper {P : Program} {mg : Str → Option Value} {base : Heap} (G : Gd) (T : Txt mg) (C_need_costs : Cal P G.w G.K mg base 3 "need_costs" (sp_need_costs G) []) (C_paper_of : Cal P G.w G.K mg base 8 "paper_of" (sp_paper_of G) []) {f : Addr} {cdv : Value} {A : Around} {outer : List Env} {s : Shared} {H : Hp} {E : XK} (hr : Room 8 (A.deeper (envOfC "forget_paper" (fnScope st_forget_paper) s.heap.objs.size f cdv))) : PSs (cxOf C8.CX0 P G.w G.K mg base ["web", "costs"] "forget_paper" (fnScope st_forget_paper) f cdv A outer s H E).nox (fnBody st_forget_paper) (t_forget_paper G) :=
  have nd := sc_forget_paper.nd
  (pss_cons (ps_expr (pe_c C_need_costs hr (by decide) rfl (pa_cons (pv 0) (pa_cons (pv 1) pa_nil)))) (pss_one (ps_ret (pe_callTy call_uTup rfl T.tuple_ (by decide +kernel) (pa_cons (pe_c C_paper_of hr (by decide) rfl (pa_cons (pv 0) (pa_cons (pv 1) pa_nil))) pa_nil)))))
theorem sc_shows_forget_paper : FnScope ["web", "costs", "value", "person", "near", "other"] ["web", "costs", "value"] (fnScope st_shows_forget_paper) := fnScope_by (by decide +kernel)
theorem d_shows_forget_paper {P : Program} {mg : Str → Option Value} {base : Heap} (G : Gd) (T : Txt mg) (C_need_costs : Cal P G.w G.K mg base 3 "need_costs" (sp_need_costs G) []) (C_is_ratio : Cal P G.w G.K mg base 2 "is_ratio" (sp_is_ratio G) []) (C_foes : Cal P G.w G.K mg base 2 "foes" (sp_foes G) []) (C_sum_of : Cal P G.w G.K mg base 3 "sum_of" (sp_sum_of G) []) (C_less : Cal P G.w G.K mg base 1 "less" (sp_less G) []) (C_paper_of : Cal P G.w G.K mg base 8 "paper_of" (sp_paper_of G) []) {f : Addr} {cd : Addr} {A : Around} {outer : List Env} {s : Shared} {H : Hp} {E : XK} (TB : TabB base mg cd G.p_shows_forget_paper) (hr : Room 8 (A.deeper (envOfC "shows_forget_paper" (fnScope st_shows_forget_paper) s.heap.objs.size f (.ref cd)))) : PSs (cxOf C8.CX0 P G.w G.K mg base ["web", "costs", "value", "person", "near", "other"] "shows_forget_paper" (fnScope st_shows_forget_paper) f (.ref cd) A outer s H E).nox (fnBody st_shows_forget_paper) (t_shows_forget_paper G) :=
  have nd := sc_shows_forget_paper.nd
  (pss_cons (ps_expr (pe_c C_need_costs hr (by decide) rfl (pa_cons (pv 0) (pa_cons (pv 1) pa_nil)))) (pss_cons (ps_if (PW.pt (pw_or (pt_not (pt_val (pe_callB call_uIsi rfl T.isinstance_ (by decide +kernel) (pa_cons (pv 2) (pa_cons (pe_bltn (v := .ty "tuple") rfl T.tuple_ (by decide +kernel) rfl) pa_nil))))) (pw_or (pt_cmpR (op_neP hr.units) (pe_callB call_uLen rfl T.len_ (by decide +kernel) (pa_cons (pv 2) pa_nil)) (pe_ix ix_seq (pv 0) pe_int (fun _ _ => rfl)) (nomark _)) (pw_or1 (pt_not (pt_val (pe_allG (k := 7) (N := ["one"]) (caps := []) (hr.mono (by decide)) rfl rfl T.all_ TB rfl (genK_by (by kernel_rfl)) (pi_seq (pv 2)) (fun _ _ _ _ _ _ _ _ hA => (pe_and (pe_c C_is_ratio hA (by decide) rfl (pa_cons (pv 0) pa_nil)) (pe_one (pe_cmpR (op_uGe hA.units) (pe_ix ix_seq (pv 0) pe_int (fun _ _ => rfl)) pe_int (nomark _)))))))))))) (pss_one (ps_ret pe_bl)) pss_nil) (pss_cons (ps_for PassesOwn.never rfl (pi_range1 rfl T.range_ (pa_cons (pe_ix ix_seq (pv 0) pe_int (fun _ _ => rfl)) pa_nil)) (pg_name (i := 3) nd rfl (by first | exact Or.inl rfl | exact Or.inr rfl)) (pss_cons (ps_set (i := 4) nd rfl (by first | exact Or.inl rfl | exact Or.inr rfl) (pe_c C_sum_of hr (by decide) rfl (pa_cons (pe_lst (pa_cons (pe_ix ix_seq (pv 2) (pv 3) (fun _ _ => rfl)) (StX.pa_star (pe_lc (own := [("other", 5)]) rfl nd (pi_seq (pe_c C_foes hr (by decide) rfl (pa_cons (pv 0) (pa_cons (pv 3) pa_nil)))) (blkOk_by (by kernel_rfl)) (fun _ _ _ _ _ => (pg_name (i := 5) nd rfl (by first | exact Or.inl rfl | exact Or.inr rfl))) (fun _ _ _ _ _ => pts_nil) (fun _ _ _ _ _ => (pe_ix ix_seq (pv 2) (pv 5) (fun _ _ => rfl)))) pa_nil))) pa_nil))) (pss_one (ps_if (pt_val (pe_c C_less hr (by decide) rfl (pa_cons (pe_tup (pa_cons (pe_ix ix_seq (pv 1) (pv 3) (fun _ _ => rfl)) (pa_cons pe_int pa_nil))) (pa_cons (pv 4) pa_nil)))) (pss_one (ps_ret pe_bl)) pss_nil)))) (pss_one (ps_ret (pe_cmpR (op_eqP hr.units) (pe_c C_sum_of hr (by decide) rfl (pa_cons (pe_callTy call_uLst rfl T.list_ (by decide +kernel) (pa_cons (pv 2) pa_nil)) pa_nil)) (pe_c C_sum_of hr (by decide) rfl (pa_cons (pe_c C_paper_of hr (by decide) rfl (pa_cons (pv 0) (pa_cons (pv 1) pa_nil))) pa_nil)) (nomark _)))))))
theorem sc_w_taken : FnScope ["_law_row_here", "_law_many", "_law_found", "_law_cell"] ["_law_row_here", "_law_many"] (fnScope st_w_taken) := fnScope_by (by decide +kernel)
theorem d_w_taken {P : Program} {mg : Str → Option Value} {base : Heap} (G : Gd) (T : Txt mg) {f : Addr} {cdv : Value} {A : Around} {outer : List Env} {s : Shared} {H : Hp} {E : XK} (hr : Room 0 (A.deeper (envOfC "_law_taken" (fnScope st_w_taken) s.heap.objs.size f cdv))) : PSs (cxOf C8.CX0 P G.w G.K mg base ["_law_row_here", "_law_many", "_law_found", "_law_cell"] "_law_taken" (fnScope st_w_taken) f cdv A outer s H E).nox (fnBody st_w_taken) (t_w_taken G) :=
  have nd := sc_w_taken.nd
  (pss_cons (ps_if (pt_cmpR op_uGt (pe_ix ix_seq (pv 0) pe_int (fun _ _ => rfl)) pe_int (nomark _)) (pss_cons (ps_set (i := 2) nd rfl (by first | exact Or.inl rfl | exact Or.inr rfl) (pe_op op_uMod (pe_callTy call_uInt rfl T.int_ (by decide +kernel) (pa_cons (pe_ix ix_seq (pv 0) pe_int (fun _ _ => rfl)) pa_nil)) (pv 1))) (pss_cons (ps_asg (pe_op op_uFdv (pe_ix ix_seq (pv 0) pe_int (fun _ _ => rfl)) (pv 1)) (pg_sub (pv 0) pe_int set_list)) (pss_one (ps_ret (pv 2))))) pss_nil) (pss_cons (ps_asg (pe_op op_uAdd (pe_ix ix_seq (pv 0) pe_int (fun _ _ => rfl)) pe_int) (pg_sub (pv 0) pe_int set_list)) (pss_cons (ps_if (pt_cmpR op_uGt (pe_ix ix_seq (pv 0) pe_int (fun _ _ => rfl)) (pe_callB call_uLen rfl T.len_ (by decide +kernel) (pa_cons (pe_ix ix_seq (pv 0) pe_int (fun _ _ => rfl)) pa_nil)) (nomark _)) (pss_cons (ps_asg (pe_op op_uMod (pe_callTy call_uInt rfl T.int_ (by decide +kernel) (pa_cons (pe_op op_uAdd (pe_op op_uMul (pe_ix ix_seq (pv 0) pe_int (fun _ _ => rfl)) pe_int) pe_int) pa_nil)) pe_int) (pg_sub (pv 0) pe_int set_list)) (pss_one (ps_ret (pe_op op_uMod (pe_callTy call_uInt rfl T.int_ (by decide +kernel) (pa_cons (pe_op op_uFdv (pe_ix ix_seq (pv 0) pe_int (fun _ _ => rfl)) pe_int) pa_nil)) (pv 1))))) pss_nil) (pss_cons (ps_set (i := 3) nd rfl (by first | exact Or.inl rfl | exact Or.inr rfl) (pe_ix ix_seq (pe_ix ix_seq (pv 0) pe_int (fun _ _ => rfl)) (pe_op op_uSub (pe_ix ix_seq (pv 0) pe_int (fun _ _ => rfl)) pe_int) (fun _ _ => rfl))) (pss_cons (ps_asg (pe_op op_uMod (pe_callTy call_uInt rfl T.int_ (by decide +kernel) (pa_cons (pe_op op_uAdd (pe_op op_uAdd (pe_op op_uMul (pe_ix ix_seq (pv 0) pe_int (fun _ _ => rfl)) pe_int) (pv 3)) pe_int) pa_nil)) pe_int) (pg_sub (pv 0) pe_int set_list)) (pss_cons (ps_if (pt_cmpR (op_uGe hr.units) (pv 3) (pe_op op_uPow pe_int pe_int) (nomark _)) (pss_one (ps_asg (pe_op op_uFdv (pv 3) (pv 1)) (pg_sub (pv 0) pe_int set_list))) pss_nil) (pss_one (ps_ret (pe_op op_uMod (pe_callTy call_uInt rfl T.int_ (by decide +kernel) (pa_cons (pv 3) pa_nil)) (pv 1))))))))))
theorem sc_w_alike : FnScope ["_law_found", "_law_due", "_law_k"] ["_law_found", "_law_due"] (fnScope st_w_alike) := fnScope_by (by decide +kernel)
theorem d_w_alike {P : Program} {mg : Str → Option Value} {base : Heap} (G : Gd) (T : Txt mg) {n : Nat} {spr : Sp} (CR : Cal P G.w G.K mg base n "_law_alike" spr []) {f : Addr} {cdv : Value} {A : Around} {outer : List Env} {s : Shared} {H : Hp} {E : XK} (hr : Room n (A.deeper (envOfC "_law_alike" (fnScope st_w_alike) s.heap.objs.size f cdv))) : PSs (cxOf C8.CX0 P G.w G.K mg base ["_law_found", "_law_due", "_law_k"] "_law_alike" (fnScope st_w_alike) f cdv A outer s H E).nox (fnBody st_w_alike) (t_w_alike G spr) :=
  have nd := sc_w_alike.nd
  (pss_cons (ps_if (pt_val (pe_callB call_uIsi rfl T.isinstance_ (by decide +kernel) (pa_cons (pv 1) (pa_cons (pe_tup (pa_cons (pe_bltn (v := .ty "tuple") rfl T.tuple_ (by decide +kernel) rfl) (pa_cons (pe_bltn (v := .ty "list") rfl T.list_ (by decide +kernel) rfl) pa_nil))) pa_nil)))) (pss_cons (ps_if (PW.pt (pw_or (pt_not (pt_val (pe_callB call_uIsi rfl T.isinstance_ (by decide +kernel) (pa_cons (pv 0) (pa_cons (pe_tup (pa_cons (pe_bltn (v := .ty "tuple") rfl T.tuple_ (by decide +kernel) rfl) (pa_cons (pe_bltn (v := .ty "list") rfl T.list_ (by decide +kernel) rfl) pa_nil))) pa_nil))))) (pw_or1 (pt_cmpR (op_neP hr.units) (pe_callB call_uIsi rfl T.isinstance_ (by decide +kernel) (pa_cons (pv 0) (pa_cons (pe_bltn (v := .ty "list") rfl T.list_ (by decide +kernel) rfl) pa_nil))) (pe_callB call_uIsi rfl T.isinstance_ (by decide +kernel) (pa_cons (pv 1) (pa_cons (pe_bltn (v := .ty "list") rfl T.list_ (by decide +kernel) rfl) pa_nil))) (nomark _))))) (pss_one (ps_ret pe_bl)) pss_nil) (pss_cons (ps_if (pt_cmpR (op_neP hr.units) (pe_callB call_uLen rfl T.len_ (by decide +kernel) (pa_cons (pv 0) pa_nil)) (pe_callB call_uLen rfl T.len_ (by decide +kernel) (pa_cons (pv 1) pa_nil)) (nomark _)) (pss_one (ps_ret pe_bl)) pss_nil) (pss_one (ps_ret (pe_cmpR (op_eqP hr.units) (pe_lc (own := [("_law_k", 2)]) rfl nd (pi_range1 rfl T.range_ (pa_cons (pe_callB call_uLen rfl T.len_ (by decide +kernel) (pa_cons (pv 1) pa_nil)) pa_nil)) (blkOk_by (by kernel_rfl)) (fun _ _ _ _ _ => (pg_name (i := 2) nd rfl (by first | exact Or.inl rfl | exact Or.inr rfl))) (fun _ _ _ _ _ => (pts_one (pt_not (pt_val (pe_c CR hr (Nat.le_refl _) rfl (pa_cons (pe_ix ix_seq (pv 0) (pv 2) (fun _ _ => rfl)) (pa_cons (pe_ix ix_seq (pv 1) (pv 2) (fun _ _ => rfl)) pa_nil))))))) (fun _ _ _ _ _ => (pv 2))) (pe_lst pa_nil) (nomark _)))))) pss_nil) (pss_cons (ps_if (PW.pt (pw_or (pt_cmpR op_uIsN (pv 1) pe_non (nomark _)) (pw_or1 (pt_val (pe_callB call_uIsi rfl T.isinstance_ (by decide +kernel) (pa_cons (pv 1) (pa_cons (pe_bltn (v := .ty "str") rfl T.str_ (by decide +kernel) rfl) pa_nil))))))) (pss_one (ps_ret (pe_and (pe_cmpR (op_eqP hr.units) (pv 0) (pv 1) (nomark _)) (pe_one (pe_cmpR (op_eqP hr.units) (pe_callB call_uIsi rfl T.isinstance_ (by decide +kernel) (pa_cons (pv 0) (pa_cons (pe_bltn (v := .ty "str") rfl T.str_ (by decide +kernel) rfl) pa_nil))) (pe_callB call_uIsi rfl T.isinstance_ (by decide +kernel) (pa_cons (pv 1) (pa_cons (pe_bltn (v := .ty "str") rfl T.str_ (by decide +kernel) rfl) pa_nil))) (nomark _)))))) pss_nil) (pss_one (ps_ret (pe_and (pe_callB call_uIsi rfl T.isinstance_ (by decide +kernel) (pa_cons (pv 0) (pa_cons (pe_bltn (v := .ty "int") rfl T.int_ (by decide +kernel) rfl) pa_nil))) (pe_and (pe_cmpR (op_eqP hr.units) (pe_callB call_uIsi rfl T.isinstance_ (by decide +kernel) (pa_cons (pv 0) (pa_cons (pe_bltn (v := .ty "bool") rfl T.bool_ (by decide +kernel) rfl) pa_nil))) (pe_callB call_uIsi rfl T.isinstance_ (by decide +kernel) (pa_cons (pv 1) (pa_cons (pe_bltn (v := .ty "bool") rfl T.bool_ (by decide +kernel) rfl) pa_nil))) (nomark _)) (pe_one (pe_cmpR (op_eqP hr.units) (pv 0) (pv 1) (nomark _)))))))))
theorem sc_w_alike0 : FnScope ["_law_found", "_law_due", "_law_k"] ["_law_found", "_law_due"] (fnScope st_w_alike0) := fnScope_by (by decide +kernel)
theorem d_w_alike0 {P : Program} {mg : Str → Option Value} {base : Heap} (G : Gd) (T : Txt mg) {f : Addr} {cdv : Value} {A : Around} {outer : List Env} {s : Shared} {H : Hp} {E : XK} (hr : Room 0 (A.deeper (envOfC "_law_alike" (fnScope st_w_alike0) s.heap.objs.size f cdv))) : PSs (cxOf C8.CX0 P G.w G.K mg base ["_law_found", "_law_due", "_law_k"] "_law_alike" (fnScope st_w_alike0) f cdv A outer s H E).nox (fnBody st_w_alike0) (t_w_alike0 G) :=
  have nd := sc_w_alike0.nd
  (pss_cons (ps_if (pt_val (pe_callB call_uIsi rfl T.isinstance_ (by decide +kernel) (pa_cons (pv 1) (pa_cons (pe_tup (pa_cons (pe_bltn (v := .ty "tuple") rfl T.tuple_ (by decide +kernel) rfl) (pa_cons (pe_bltn (v := .ty "list") rfl T.list_ (by decide +kernel) rfl) pa_nil))) pa_nil)))) pss_never pss_nil) (pss_cons (ps_if (PW.pt (pw_or (pt_cmpR op_uIsN (pv 1) pe_non (nomark _)) (pw_or1 (pt_val (pe_callB call_uIsi rfl T.isinstance_ (by decide +kernel) (pa_cons (pv 1) (pa_cons (pe_bltn (v := .ty "str") rfl T.str_ (by decide +kernel) rfl) pa_nil))))))) (pss_one (ps_ret (pe_and (pe_cmpR (op_eqP hr.units) (pv 0) (pv 1) (nomark _)) (pe_one (pe_cmpR (op_eqP hr.units) (pe_callB call_uIsi rfl T.isinstance_ (by decide +kernel) (pa_cons (pv 0) (pa_cons (pe_bltn (v := .ty "str") rfl T.str_ (by decide +kernel) rfl) pa_nil))) (pe_callB call_uIsi rfl T.isinstance_ (by decide +kernel) (pa_cons (pv 1) (pa_cons (pe_bltn (v := .ty "str") rfl T.str_ (by decide +kernel) rfl) pa_nil))) (nomark _)))))) pss_nil) (pss_one (ps_ret (pe_and (pe_callB call_uIsi rfl T.isinstance_ (by decide +kernel) (pa_cons (pv 0) (pa_cons (pe_bltn (v := .ty "int") rfl T.int_ (by decide +kernel) rfl) pa_nil))) (pe_and (pe_cmpR (op_eqP hr.units) (pe_callB call_uIsi rfl T.isinstance_ (by decide +kernel) (pa_cons (pv 0) (pa_cons (pe_bltn (v := .ty "bool") rfl T.bool_ (by decide +kernel) rfl) pa_nil))) (pe_callB call_uIsi rfl T.isinstance_ (by decide +kernel) (pa_cons (pv 1) (pa_cons (pe_bltn (v := .ty "bool") rfl T.bool_ (by decide +kernel) rfl) pa_nil))) (nomark _)) (pe_one (pe_cmpR (op_eqP hr.units) (pv 0) (pv 1) (nomark _)))))))))
theorem sc_w_ratio : FnScope ["_law_top", "_law_bottom", "_law_one", "_law_other"] ["_law_top", "_law_bottom"] (fnScope st_w_ratio) := fnScope_by (by decide +kernel)
theorem d_w_ratio {P : Program} {mg : Str → Option Value} {base : Heap} (G : Gd) (T : Txt mg) {f : Addr} {cdv : Value} {A : Around} {outer : List Env} {s : Shared} {H : Hp} {E : XK} (hr : Room 0 (A.deeper (envOfC "_law_ratio" (fnScope st_w_ratio) s.heap.objs.size f cdv))) : PSs (cxOf C8.CX0 P G.w G.K mg base ["_law_top", "_law_bottom", "_law_one", "_law_other"] "_law_ratio" (fnScope st_w_ratio) f cdv A outer s H E).nox (fnBody st_w_ratio) (t_w_ratio G) :=
  have nd := sc_w_ratio.nd
  (pss_cons (ps_par (i := 2) (j := 3) rfl nd rfl rfl (by decide) rfl rfl (pa_cons (pe_callB call_uAbs rfl T.abs_ (by decide +kernel) (pa_cons (pv 0) pa_nil)) (pa_cons (pe_callB call_uAbs rfl T.abs_ (by decide +kernel) (pa_cons (pv 1) pa_nil)) pa_nil)) rfl) (pss_cons (ps_while PassesOwn.never (pt_cmpR (op_neP hr.units) (pv 3) pe_int (nomark _)) (pss_one (ps_par (i := 2) (j := 3) rfl nd rfl rfl (by decide) rfl rfl (pa_cons (pv 3) (pa_cons (pe_op op_uMod (pe_callTy call_uInt rfl T.int_ (by decide +kernel) (pa_cons (pv 2) pa_nil)) (pv 3)) pa_nil)) rfl))) (pss_one (ps_ret (pe_ifExp (pt_cmpR op_uGt (pv 1) pe_int (nomark _)) (pe_tup (pa_cons (pe_op op_uFdv (pv 0) (pv 2)) (pa_cons (pe_op op_uFdv (pv 1) (pv 2)) pa_nil))) (pe_tup (pa_cons (pe_op op_uSub pe_int (pe_op op_uFdv (pv 0) (pv 2))) (pa_cons (pe_op op_uSub pe_int (pe_op op_uFdv (pv 1) (pv 2))) pa_nil))))))))
theorem sc_w_plus : FnScope ["_law_one", "_law_other"] ["_law_one", "_law_other"] (fnScope st_w_plus) := fnScope_by (by decide +kernel)
theorem d_w_plus {P : Program} {mg : Str → Option Value} {base : Heap} (G : Gd) (T : Txt mg) (C_w_ratio : Cal P G.w G.K mg base 1 "_law_ratio" (sp_w_ratio G) []) {f : Addr} {cdv : Value} {A : Around} {outer : List Env} {s : Shared} {H : Hp} {E : XK} (hr : Room 1 (A.deeper (envOfC "_law_plus" (fnScope st_w_plus) s.heap.objs.size f cdv))) : PSs (cxOf C8.CX0 P G.w G.K mg base ["_law_one", "_law_other"] "_law_plus" (fnScope st_w_plus) f cdv A outer s H E).nox (fnBody st_w_plus) (t_w_plus G) :=
  have nd := sc_w_plus.nd
  (pss_one (ps_ret (pe_c C_w_ratio hr (by decide) rfl (pa_cons (pe_op op_uAdd (pe_op op_uMul (pe_ix ix_seq (pv 0) pe_int (fun _ _ => rfl)) (pe_ix ix_seq (pv 1) pe_int (fun _ _ => rfl))) (pe_op op_uMul (pe_ix ix_seq (pv 1) pe_int (fun _ _ => rfl)) (pe_ix ix_seq (pv 0) pe_int (fun _ _ => rfl)))) (pa_cons (pe_op op_uMul (pe_ix ix_seq (pv 0) pe_int (fun _ _ => rfl)) (pe_ix ix_seq (pv 1) pe_int (fun _ _ => rfl))) pa_nil)))))
theorem sc_w_sum : FnScope ["_law_some", "_law_found", "_law_one"] ["_law_some"] (fnScope st_w_sum) := fnScope_by (by decide +kernel)
theorem d_w_sum {P : Program} {mg : Str → Option Value} {base : Heap} (G : Gd) (T : Txt mg) (C_w_plus : Cal P G.w G.K mg base 2 "_law_plus" (sp_w_plus G) []) {f : Addr} {cdv : Value} {A : Around} {outer : List Env} {s : Shared} {H : Hp} {E : XK} (hr : Room 2 (A.deeper (envOfC "_law_sum" (fnScope st_w_sum) s.heap.objs.size f cdv))) : PSs (cxOf C8.CX0 P G.w G.K mg base ["_law_some", "_law_found", "_law_one"] "_law_sum" (fnScope st_w_sum) f cdv A outer s H E).nox (fnBody st_w_sum) (t_w_sum G) :=
  have nd := sc_w_sum.nd
  (pss_cons (ps_set (i := 1) nd rfl (by first | exact Or.inl rfl | exact Or.inr rfl) (pe_tup (pa_cons pe_int (pa_cons pe_int pa_nil)))) (pss_cons (ps_for PassesOwn.never rfl (pi_seq (pv 0)) (pg_name (i := 2) nd rfl (by first | exact Or.inl rfl | exact Or.inr rfl)) (pss_one (ps_set (i := 1) nd rfl (by first | exact Or.inl rfl | exact Or.inr rfl) (pe_c C_w_plus hr (by decide) rfl (pa_cons (pv 1) (pa_cons (pv 2) pa_nil)))))) (pss_one (ps_ret (pv 1)))))
theorem sc_w_less : FnScope ["_law_one", "_law_other"] ["_law_one", "_law_other"] (fnScope st_w_less) := fnScope_by (by decide +kernel)
theorem d_w_less {P : Program} {mg : Str → Option Value} {base : Heap} (G : Gd) (T : Txt mg) {f : Addr} {cdv : Value} {A : Around} {outer : List Env} {s : Shared} {H : Hp} {E : XK} (hr : Room 0 (A.deeper (envOfC "_law_less" (fnScope st_w_less) s.heap.objs.size f cdv))) : PSs (cxOf C8.CX0 P G.w G.K mg base ["_law_one", "_law_other"] "_law_less" (fnScope st_w_less) f cdv A outer s H E).nox (fnBody st_w_less) (t_w_less G) :=
  have nd := sc_w_less.nd
  (pss_one (ps_ret (pe_cmpR op_uLt (pe_op op_uMul (pe_ix ix_seq (pv 0) pe_int (fun _ _ => rfl)) (pe_ix ix_seq (pv 1) pe_int (fun _ _ => rfl))) (pe_op op_uMul (pe_ix ix_seq (pv 1) pe_int (fun _ _ => rfl)) (pe_ix ix_seq (pv 0) pe_int (fun _ _ => rfl))) (nomark _))))
theorem sc_w_is_ratio : FnScope ["_law_value", "_law_one"] ["_law_value"] (fnScope st_w_is_ratio) := fnScope_by (by decide +kernel)
theorem d_w_is_ratio {P : Program} {mg : Str → Option Value} {base : Heap} (G : Gd) (T : Txt mg) (C_w_ratio : Cal P G.w G.K mg base 1 "_law_ratio" (sp_w_ratio G) []) {f : Addr} {cdv : Value} {A : Around} {outer : List Env} {s : Shared} {H : Hp} {E : XK} (hr : Room 1 (A.deeper (envOfC "_law_is_ratio" (fnScope st_w_is_ratio) s.heap.objs.size f cdv))) : PSs (cxOf C8.CX0 P G.w G.K mg base ["_law_value", "_law_one"] "_law_is_ratio" (fnScope st_w_is_ratio) f cdv A outer s H E).nox (fnBody st_w_is_ratio) (t_w_is_ratio G) :=
  have nd := sc_w_is_ratio.nd
  (pss_cons (ps_if (PW.pt (pw_or (pt_not (pt_val (pe_callB call_uIsi rfl T.isinstance_ (by decide +kernel) (pa_cons (pv 0) (pa_cons (pe_bltn (v := .ty "tuple") rfl T.tuple_ (by decide +kernel) rfl) pa_nil))))) (pw_or (pt_cmpR (op_neP hr.units) (pe_callB call_uLen rfl T.len_ (by decide +kernel) (pa_cons (pv 0) pa_nil)) pe_int (nomark _)) (pw_or1 (pt_cmpR (op_neP hr.units) (pe_lc (own := [("_law_one", 1)]) rfl nd (pi_seq (pv 0)) (blkOk_by (by kernel_rfl)) (fun _ _ _ _ _ => (pg_name (i := 1) nd rfl (by first | exact Or.inl rfl | exact Or.inr rfl))) (fun _ _ _ _ _ => (pts_one (PW.pt (pw_or (pt_not (pt_val (pe_callB call_uIsi rfl T.isinstance_ (by decide +kernel) (pa_cons (pv 1) (pa_cons (pe_bltn (v := .ty "int") rfl T.int_ (by decide +kernel) rfl) pa_nil))))) (pw_or1 (pt_val (pe_callB call_uIsi rfl T.isinstance_ (by decide +kernel) (pa_cons (pv 1) (pa_cons (pe_bltn (v := .ty "bool") rfl T.bool_ (by decide +kernel) rfl) pa_nil))))))))) (fun _ _ _ _ _ => (pv 1))) (pe_lst pa_nil) (nomark _)))))) (pss_one (ps_ret pe_bl)) pss_nil) (pss_one (ps_ret (pe_and (pe_cmpR op_uGt (pe_ix ix_seq (pv 0) pe_int (fun _ _ => rfl)) pe_int (nomark _)) (pe_one (pe_cmpR (op_eqP hr.units) (pe_c C_w_ratio hr (by decide) rfl (pa_cons (pe_ix ix_seq (pv 0) pe_int (fun _ _ => rfl)) (pa_cons (pe_ix ix_seq (pv 0) pe_int (fun _ _ => rfl)) pa_nil))) (pv 0) (nomark _)))))))
theorem sc_w_web : FnScope ["_law_row_here", "_law_most", "_law_size", "_law_pairs", "_law_way", "_law_one", "_law_other", "_law_near"] ["_law_row_here", "_law_most"] (fnScope st_w_web) := fnScope_by (by decide +kernel)
theorem d_w_web {P : Program} {mg : Str → Option Value} {base : Heap} (G : Gd) (T : Txt mg) (C_w_taken : Cal P G.w G.K mg base 1 "_law_taken" (sp_w_taken G) []) {f : Addr} {cdv : Value} {A : Around} {outer : List Env} {s : Shared} {H : Hp} {E : XK} (hr : Room 1 (A.deeper (envOfC "_law_web" (fnScope st_w_web) s.heap.objs.size f cdv))) : PSs (cxOf C8.CX0 P G.w G.K mg base ["_law_row_here", "_law_most", "_law_size", "_law_pairs", "_law_way", "_law_one", "_law_other", "_law_near"] "_law_web" (fnScope st_w_web) f cdv A outer s H E).nox (fnBody st_w_web) (t_w_web G) :=
  have nd := sc_w_web.nd
  (pss_cons (ps_par (i := 2) (j := 3) rfl nd rfl rfl (by decide) rfl rfl (pa_cons (pe_op op_uAdd pe_int (pe_c C_w_taken hr (by decide) rfl (pa_cons (pv 0) (pa_cons (pv 1) pa_nil)))) (pa_cons (pe_lst pa_nil) pa_nil)) rfl) (pss_cons (ps_set (i := 4) nd rfl (by first | exact Or.inl rfl | exact Or.inr rfl) (pe_c C_w_taken hr (by decide) rfl (pa_cons (pv 0) (pa_cons pe_int pa_nil)))) (pss_cons (ps_for PassesOwn.never rfl (pi_range1 rfl T.range_ (pa_cons (pv 2) pa_nil)) (pg_name (i := 5) nd rfl (by first | exact Or.inl rfl | exact Or.inr rfl)) (pss_one (ps_for PassesOwn.never rfl (pi_range2 rfl T.range_ (pa_cons (pe_op op_uAdd (pv 5) pe_int) (pa_cons (pv 2) pa_nil))) (pg_name (i := 6) nd rfl (by first | exact Or.inl rfl | exact Or.inr rfl)) (pss_cons (ps_set (i := 7) nd rfl (by first | exact Or.inl rfl | exact Or.inr rfl) (pe_or (pe_cmpR (op_eqP hr.units) (pv 6) (pe_op op_uAdd (pv 5) pe_int) (nomark _)) (pe_one (pe_and (pe_cmpR (op_eqP hr.units) (pv 5) pe_int (nomark _)) (pe_and (pe_cmpR (op_eqP hr.units) (pv 6) (pe_op op_uSub (pv 2) pe_int) (nomark _)) (pe_one (pe_cmpR (op_eqP hr.units) (pv 4) pe_int (nomark _)))))))) (pss_one (ps_if (PW.pt (pw_or (PW.pt (pw_and (pt_cmpR (op_eqP hr.units) (pe_c C_w_taken hr (by decide) rfl (pa_cons (pv 0) (pa_cons pe_int pa_nil))) pe_int (nomark _)) (pw_and1 (pt_cmpR op_uGt (pv 4) pe_int (nomark _))))) (pw_or (PW.pt (pw_and (pt_val (pv 7)) (pw_and1 (pt_cmpR op_uLt (pv 4) pe_int (nomark _))))) (pw_or1 (PW.pt (pw_and (pt_cmpR (op_eqP hr.units) (pv 4) pe_int (nomark _)) (pw_and1 (pt_cmpR (op_eqP hr.units) (pe_c C_w_taken hr (by decide) rfl (pa_cons (pv 0) (pa_cons pe_int pa_nil))) pe_int (nomark _))))))))) (pss_one (ps_expr (pe_bm PySem.F.plainAttrs_list PySem.F.slot_list_append PySem.F.type_list_append mt_append (pv 3) (pa_cons (pe_tup (pa_cons (pv 5) (pa_cons (pv 6) pa_nil))) pa_nil)))) pss_nil)))))) (pss_one (ps_ret (pe_tup (pa_cons (pv 2) (pa_cons (pe_callTy call_uTup rfl T.tuple_ (by decide +kernel) (pa_cons (pv 3) pa_nil)) pa_nil))))))))
theorem sc_w_foes : FnScope ["_law_web_here", "_law_person", "_law_found", "_law_one", "_law_other"] ["_law_web_here", "_law_person"] (fnScope st_w_foes) := fnScope_by (by decide +kernel)
theorem d_w_foes {P : Program} {mg : Str → Option Value} {base : Heap} (G : Gd) (T : Txt mg) {f : Addr} {cdv : Value} {A : Around} {outer : List Env} {s : Shared} {H : Hp} {E : XK} (hr : Room 0 (A.deeper (envOfC "_law_foes" (fnScope st_w_foes) s.heap.objs.size f cdv))) : PSs (cxOf C8.CX0 P G.w G.K mg base ["_law_web_here", "_law_person", "_law_found", "_law_one", "_law_other"] "_law_foes" (fnScope st_w_foes) f cdv A outer s H E).nox (fnBody st_w_foes) (t_w_foes G) :=
  have nd := sc_w_foes.nd
  (pss_cons (ps_set (i := 2) nd rfl (by first | exact Or.inl rfl | exact Or.inr rfl) (pe_lst pa_nil)) (pss_cons (ps_for PassesOwn.never rfl (pi_seq (pe_ix ix_seq (pv 0) pe_int (fun _ _ => rfl))) (pg_tup rfl (pgs_cons (pg_name (i := 3) nd rfl (by first | exact Or.inl rfl | exact Or.inr rfl)) (pgs_cons (pg_name (i := 4) nd rfl (by first | exact Or.inl rfl | exact Or.inr rfl)) pgs_nil))) (pss_one (ps_set (i := 2) nd rfl (by first | exact Or.inl rfl | exact Or.inr rfl) (pe_op op_uAdd (pe_op op_uAdd (pv 2) (pe_op op_uMul (pe_lst (pa_cons (pv 4) pa_nil)) (pe_callTy call_uInt rfl T.int_ (by decide +kernel) (pa_cons (pe_cmpR (op_eqP hr.units) (pv 3) (pv 1) (nomark _)) pa_nil)))) (pe_op op_uMul (pe_lst (pa_cons (pv 3) pa_nil)) (pe_callTy call_uInt rfl T.int_ (by decide +kernel) (pa_cons (pe_cmpR (op_eqP hr.units) (pv 4) (pv 1) (nomark _)) pa_nil))))))) (pss_one (ps_ret (pe_callB (call_uSrt rfl (Room.u80 hr)) rfl T.sorted_ (by decide +kernel) (pa_cons (pv 2) pa_nil))))))
theorem sc_w_lots : FnScope ["_law_web_here", "_law_found", "_law_person", "_law_one"] ["_law_web_here"] (fnScope st_w_lots) := fnScope_by (by decide +kernel)
theorem d_w_lots {P : Program} {mg : Str → Option Value} {base : Heap} (G : Gd) (T : Txt mg) {f : Addr} {cdv : Value} {A : Around} {outer : List Env} {s : Shared} {H : Hp} {E : XK} (hr : Room 0 (A.deeper (envOfC "_law_lots" (fnScope st_w_lots) s.heap.objs.size f cdv))) : PSs (cxOf C8.CX0 P G.w G.K mg base ["_law_web_here", "_law_found", "_law_person", "_law_one"] "_law_lots" (fnScope st_w_lots) f cdv A outer s H E).nox (fnBody st_w_lots) (t_w_lots G) :=
  have nd := sc_w_lots.nd
  (pss_cons (ps_set (i := 1) nd rfl (by first | exact Or.inl rfl | exact Or.inr rfl) (pe_lst (pa_cons (pe_tup pa_nil) pa_nil))) (pss_cons (ps_for PassesOwn.never rfl (pi_range1 rfl T.range_ (pa_cons (pe_ix ix_seq (pv 0) pe_int (fun _ _ => rfl)) pa_nil)) (pg_name (i := 2) nd rfl (by first | exact Or.inl rfl | exact Or.inr rfl)) (pss_one (ps_set (i := 1) nd rfl (by first | exact Or.inl rfl | exact Or.inr rfl) (pe_op op_uAdd (pv 1) (pe_lc (own := [("_law_one", 3)]) rfl nd (pi_seq (pv 1)) (blkOk_by (by kernel_rfl)) (fun _ _ _ _ _ => (pg_name (i := 3) nd rfl (by first | exact Or.inl rfl | exact Or.inr rfl))) (fun _ _ _ _ _ => pts_nil) (fun _ _ _ _ _ => (pe_op op_uAdd (pv 3) (pe_tup (pa_cons (pv 2) pa_nil))))))))) (pss_one (ps_ret (pe_callB (call_uSrt rfl (Room.u80 hr)) rfl T.sorted_ (by decide +kernel) (pa_cons (pv 1) pa_nil))))))
theorem sc_w_deed : FnScope ["_law_web_here", "_law_comers", "_law_stays", "_law_gone", "_law_k", "_law_later", "_law_bad", "_law_one"] ["_law_web_here", "_law_comers"] (fnScope st_w_deed) := fnScope_by (by decide +kernel)
theorem d_w_deed {P : Program} {mg : Str → Option Value} {base : Heap} (G : Gd) (T : Txt mg) (C_w_foes : Cal P G.w G.K mg base 1 "_law_foes" (sp_w_foes G) []) {f : Addr} {cdv : Value} {A : Around} {outer : List Env} {s : Shared} {H : Hp} {E : XK} (hr : Room 1 (A.deeper (envOfC "_law_deed" (fnScope st_w_deed) s.heap.objs.size f cdv))) : PSs (cxOf C8.CX0 P G.w G.K mg base ["_law_web_here", "_law_comers", "_law_stays", "_law_gone", "_law_k", "_law_later", "_law_bad", "_law_one"] "_law_deed" (fnScope st_w_deed) f cdv A outer s H E).nox (fnBody st_w_deed) (t_w_deed G) :=
  have nd := sc_w_deed.nd
  (pss_cons (ps_par (i := 2) (j := 3) rfl nd rfl rfl (by decide) rfl rfl (pa_cons (pe_lst pa_nil) (pa_cons (pe_lst pa_nil) pa_nil)) rfl) (pss_cons (ps_for PassesOwn.never rfl (pi_range1 rfl T.range_ (pa_cons (pe_callB call_uLen rfl T.len_ (by decide +kernel) (pa_cons (pv 1) pa_nil)) pa_nil)) (pg_name (i := 4) nd rfl (by first | exact Or.inl rfl | exact Or.inr rfl)) (pss_cons (ps_set (i := 5) nd rfl (by first | exact Or.inl rfl | exact Or.inr rfl) (pe_slice sl_u (pv 1) (po_some (pe_op op_uAdd (pv 4) pe_int)) po_none)) (pss_cons (ps_set (i := 6) nd rfl (by first | exact Or.inl rfl | exact Or.inr rfl) (pe_c C_w_foes hr (by decide) rfl (pa_cons (pv 0) (pa_cons (pe_ix ix_seq (pv 1) (pv 4) (fun _ _ => rfl)) pa_nil)))) (pss_cons (ps_set (i := 3) nd rfl (by first | exact Or.inl rfl | exact Or.inr rfl) (pe_op op_uAdd (pe_op op_uAdd (pv 3) (pe_lst (pa_cons (pe_ix ix_seq (pv 1) (pv 4) (fun _ _ => rfl)) pa_nil))) (pv 6))) (pss_one (ps_if (PW.pt (pw_and (pt_cmpR (op_niP hr.units) (pe_ix ix_seq (pv 1) (pv 4) (fun _ _ => rfl)) (pv 5) (by rfl)) (pw_and1 (pt_cmpR (op_eqP hr.units) (pe_lc (own := [("_law_one", 7)]) rfl nd (pi_seq (pv 6)) (blkOk_by (by kernel_rfl)) (fun _ _ _ _ _ => (pg_name (i := 7) nd rfl (by first | exact Or.inl rfl | exact Or.inr rfl))) (fun _ _ _ _ _ => (pts_one (pt_cmpR (op_inP hr.units) (pv 7) (pv 5) (by rfl)))) (fun _ _ _ _ _ => (pv 7))) (pe_lst pa_nil) (nomark _))))) (pss_one (ps_expr (pe_bm PySem.F.plainAttrs_list PySem.F.slot_list_append PySem.F.type_list_append mt_append (pv 2) (pa_cons (pe_ix ix_seq (pv 1) (pv 4) (fun _ _ => rfl)) pa_nil)))) pss_nil)))))) (pss_one (ps_ret (pe_tup (pa_cons (pe_callTy call_uTup rfl T.tuple_ (by decide +kernel) (pa_cons (pe_callB (call_uSrt rfl (Room.u80 hr)) rfl T.sorted_ (by decide +kernel) (pa_cons (pv 2) pa_nil)) pa_nil)) (pa_cons (pe_callTy call_uTup rfl T.tuple_ (by decide +kernel) (pa_cons (pe_callB (call_uSrt rfl (Room.u80 hr)) rfl T.sorted_ (by decide +kernel) (pa_cons (pe_callTy (cr_setI rfl) rfl T.set_ (by decide +kernel) (pa_cons (pv 3) pa_nil)) pa_nil)) pa_nil)) pa_nil)))))))
theorem sc_w_covers : FnScope ["_law_web_here", "_law_lot"] ["_law_web_here", "_law_lot"] (fnScope st_w_covers) := fnScope_by (by decide +kernel)
theorem d_w_covers {P : Program} {mg : Str → Option Value} {base : Heap} (G : Gd) (T : Txt mg) (C_w_deed : Cal P G.w G.K mg base 2 "_law_deed" (sp_w_deed G) []) {f : Addr} {cdv : Value} {A : Around} {outer : List Env} {s : Shared} {H : Hp} {E : XK} (hr : Room 2 (A.deeper (envOfC "_law_covers" (fnScope st_w_covers) s.heap.objs.size f cdv))) : PSs (cxOf C8.CX0 P G.w G.K mg base ["_law_web_here", "_law_lot"] "_law_covers" (fnScope st_w_covers) f cdv A outer s H E).nox (fnBody st_w_covers) (t_w_covers G) :=
  have nd := sc_w_covers.nd
  (pss_one (ps_ret (pe_cmpR (op_eqP hr.units) (pe_callB call_uLen rfl T.len_ (by decide +kernel) (pa_cons (pe_ix ix_seq (pe_c C_w_deed hr (by decide) rfl (pa_cons (pv 0) (pa_cons (pv 1) pa_nil))) pe_int (fun _ _ => rfl)) pa_nil)) (pe_ix ix_seq (pv 0) pe_int (fun _ _ => rfl)) (nomark _))))
theorem sc_w_fits : FnScope ["_law_web_here", "_law_costs", "_law_value", "_law_one", "_law_person", "_law_near", "_law_other"] ["_law_web_here", "_law_costs", "_law_value"] (fnScope st_w_fits) := fnScope_by (by decide +kernel)
theorem d_w_fits {P : Program} {mg : Str → Option Value} {base : Heap} (G : Gd) (T : Txt mg) (C_w_is_ratio : Cal P G.w G.K mg base 2 "_law_is_ratio" (sp_w_is_ratio G) []) (C_w_foes : Cal P G.w G.K mg base 1 "_law_foes" (sp_w_foes G) []) (C_w_sum : Cal P G.w G.K mg base 3 "_law_sum" (sp_w_sum G) []) (C_w_less : Cal P G.w G.K mg base 1 "_law_less" (sp_w_less G) []) {f : Addr} {cdv : Value} {A : Around} {outer : List Env} {s : Shared} {H : Hp} {E : XK} (hr : Room 3 (A.deeper (envOfC "_law_fits" (fnScope st_w_fits) s.heap.objs.size f cdv))) : PSs (cxOf C8.CX0 P G.w G.K mg base ["_law_web_here", "_law_costs", "_law_value", "_law_one", "_law_person", "_law_near", "_law_other"] "_law_fits" (fnScope st_w_fits) f cdv A outer s H E).nox (fnBody st_w_fits) (t_w_fits G) :=
  have nd := sc_w_fits.nd
  (pss_cons (ps_if (PW.pt (pw_or (pt_not (pt_val (pe_callB call_uIsi rfl T.isinstance_ (by decide +kernel) (pa_cons (pv 2) (pa_cons (pe_bltn (v := .ty "tuple") rfl T.tuple_ (by decide +kernel) rfl) pa_nil))))) (pw_or1 (pt_cmpR (op_neP hr.units) (pe_callB call_uLen rfl T.len_ (by decide +kernel) (pa_cons (pv 2) pa_nil)) (pe_ix ix_seq (pv 0) pe_int (fun _ _ => rfl)) (nomark _))))) (pss_one (ps_ret pe_bl)) pss_nil) (pss_cons (ps_for PassesOwn.never rfl (pi_seq (pv 2)) (pg_name (i := 3) nd rfl (by first | exact Or.inl rfl | exact Or.inr rfl)) (pss_one (ps_if (PW.pt (pw_or (pt_not (pt_val (pe_c C_w_is_ratio hr (by decide) rfl (pa_cons (pv 3) pa_nil)))) (pw_or1 (pt_cmpR op_uLt (pe_ix ix_seq (pv 3) pe_int (fun _ _ => rfl)) pe_int (nomark _))))) (pss_one (ps_ret pe_bl)) pss_nil))) (pss_cons (ps_for PassesOwn.never rfl (pi_range1 rfl T.range_ (pa_cons (pe_ix ix_seq (pv 0) pe_int (fun _ _ => rfl)) pa_nil)) (pg_name (i := 4) nd rfl (by first | exact Or.inl rfl | exact Or.inr rfl)) (pss_cons (ps_set (i := 5) nd rfl (by first | exact Or.inl rfl | exact Or.inr rfl) (pe_c C_w_sum hr (by decide) rfl (pa_cons (pe_lc (own := [("_law_other", 6)]) rfl nd (pi_seq (pe_op op_uAdd (pe_lst (pa_cons (pv 4) pa_nil)) (pe_c C_w_foes hr (by decide) rfl (pa_cons (pv 0) (pa_cons (pv 4) pa_nil))))) (blkOk_by (by kernel_rfl)) (fun _ _ _ _ _ => (pg_name (i := 6) nd rfl (by first | exact Or.inl rfl | exact Or.inr rfl))) (fun _ _ _ _ _ => pts_nil) (fun _ _ _ _ _ => (pe_ix ix_seq (pv 2) (pv 6) (fun _ _ => rfl)))) pa_nil))) (pss_one (ps_if (pt_val (pe_c C_w_less hr (by decide) rfl (pa_cons (pe_tup (pa_cons (pe_ix ix_seq (pv 1) (pv 4) (fun _ _ => rfl)) (pa_cons pe_int pa_nil))) (pa_cons (pv 5) pa_nil)))) (pss_one (ps_ret pe_bl)) pss_nil)))) (pss_one (ps_ret pe_bl)))))
theorem sc_law : FnScope ["_law_script", "_law_row_here", "_law_web_here", "_law_lots_here", "_law_costs", "_law_few", "_law_least", "_law_prices", "_law_best", "_law_found", "_law_paper", "_law_values", "_law_value", "_law_due", "_law_top", "_law_papers", "_law_k", "_law_step", "_law_lot", "_law_person"] ["_law_script"] (fnScope st_law) := fnScope_by (by decide +kernel)
theorem d_law {P : Program} {mg : Str → Option Value} {base : Heap} (G : Gd) (T : Txt mg) (C_w_web : Cal P G.w G.K mg base 2 "_law_web" (sp_w_web G) []) (C_w_taken : Cal P G.w G.K mg base 1 "_law_taken" (sp_w_taken G) []) (C_w_lots : Cal P G.w G.K mg base 1 "_law_lots" (sp_w_lots G) []) (C_w_covers : Cal P G.w G.K mg base 3 "_law_covers" (sp_w_covers G) []) (C_forget_length : Cal P G.w G.K mg base 6 "forget_length" (sp_forget_length G) []) (C_w_alike : Cal P G.w G.K mg base 3 "_law_alike" (sp_w_alike G) []) (C_forget_lots : Cal P G.w G.K mg base 6 "forget_lots" (sp_forget_lots G) []) (C_forget_row : Cal P G.w G.K mg base 6 "forget_row" (sp_forget_row G) []) (C_forget_paper : Cal P G.w G.K mg base 9 "forget_paper" (sp_forget_paper G) []) (C_cheap_forget : Cal P G.w G.K mg base 6 "cheap_forget" (sp_cheap_forget G) []) (C_shows_cheap_forget : Cal P G.w G.K mg base 6 "shows_cheap_forget" (sp_shows_cheap_forget G) []) (C_w_fits : Cal P G.w G.K mg base 4 "_law_fits" (sp_w_fits G) []) (C_w_sum : Cal P G.w G.K mg base 3 "_law_sum" (sp_w_sum G) []) (C_w_less : Cal P G.w G.K mg base 1 "_law_less" (sp_w_less G) []) (C_w_plus : Cal P G.w G.K mg base 2 "_law_plus" (sp_w_plus G) []) (C_shows_forget_paper : Cal P G.w G.K mg base 9 "shows_forget_paper" (sp_shows_forget_paper G) []) {f : Addr} {cdv : Value} {A : Around} {outer : List Env} {s : Shared} {H : Hp} {E : XK} (hr : Room 9 (A.deeper (envOfC "law" (fnScope st_law) s.heap.objs.size f cdv))) : PSs (cxOf C8.CX0 P G.w G.K mg base ["_law_script", "_law_row_here", "_law_web_here", "_law_lots_here", "_law_costs", "_law_few", "_law_least", "_law_prices", "_law_best", "_law_found", "_law_paper", "_law_values", "_law_value", "_law_due", "_law_top", "_law_papers", "_law_k", "_law_step", "_law_lot", "_law_person"] "law" (fnScope st_law) f cdv A outer s H E).nox (fnBody st_law) (t_law G) :=
  have nd := sc_law.nd
  (pss_cons (ps_set (i := 1) nd rfl (by first | exact Or.inl rfl | exact Or.inr rfl) (pe_lst (pa_cons (pv 0) (pa_cons pe_int (pa_cons pe_int (pa_cons pe_int pa_nil)))))) (pss_cons (ps_set (i := 2) nd rfl (by first | exact Or.inl rfl | exact Or.inr rfl) (pe_c C_w_web hr (by decide) rfl (pa_cons (pv 1) (pa_cons pe_int pa_nil)))) (pss_cons (ps_asg (pe_tup (pa_cons (pe_lc (own := [("_law_lot", 18)]) rfl nd (pi_seq (pe_c C_w_lots hr (by decide) rfl (pa_cons (pv 2) pa_nil))) (blkOk_by (by kernel_rfl)) (fun _ _ _ _ _ => (pg_name (i := 18) nd rfl (by first | exact Or.inl rfl | exact Or.inr rfl))) (fun _ _ _ _ _ => (pts_one (pt_val (pe_c C_w_covers hr (by decide) rfl (pa_cons (pv 2) (pa_cons (pv 18) pa_nil)))))) (fun _ _ _ _ _ => (pv 18))) (pa_cons (pe_callTy call_uTup rfl T.tuple_ (by decide +kernel) (pa_cons (pe_lc (own := [("_law_person", 19)]) rfl nd (pi_range1 rfl T.range_ (pa_cons (pe_ix ix_seq (pv 2) pe_int (fun _ _ => rfl)) pa_nil)) (blkOk_by (by kernel_rfl)) (fun _ _ _ _ _ => (pg_name (i := 19) nd rfl (by first | exact Or.inl rfl | exact Or.inr rfl))) (fun _ _ _ _ _ => pts_nil) (fun _ _ _ _ _ => (pe_c C_w_taken hr (by decide) rfl (pa_cons (pv 1) (pa_cons pe_int pa_nil))))) pa_nil)) pa_nil))) (pg_tup rfl (pgs_cons (pg_name (i := 3) nd rfl (by first | exact Or.inl rfl | exact Or.inr rfl)) (pgs_cons (pg_name (i := 4) nd rfl (by first | exact Or.inl rfl | exact Or.inr rfl)) pgs_nil)))) (pss_cons (ps_set (i := 5) nd rfl (by first | exact Or.inl rfl | exact Or.inr rfl) (pe_callB (call_uMin rfl (Room.u80 hr)) rfl T.min_ (by decide +kernel) (pa_cons (pe_lc (own := [("_law_lot", 18)]) rfl nd (pi_seq (pv 3)) (blkOk_by (by kernel_rfl)) (fun _ _ _ _ _ => (pg_name (i := 18) nd rfl (by first | exact Or.inl rfl | exact Or.inr rfl))) (fun _ _ _ _ _ => pts_nil) (fun _ _ _ _ _ => (pe_callB call_uLen rfl T.len_ (by decide +kernel) (pa_cons (pv 18) pa_nil)))) pa_nil))) (pss_cons (ps_setLc (i := 6) (own := [("_law_lot", 18)]) rfl nd rfl rfl (sw_true rfl rfl rfl (by decide +kernel)) (pi_seq (pv 3)) (blkOk_by (by kernel_rfl)) (fun _ _ _ _ _ => (pg_name (i := 18) nd rfl (by first | exact Or.inl rfl | exact Or.inr rfl))) (fun _ _ _ _ _ => (pts_one (pt_cmpR (op_eqP hr.units) (pe_callB call_uLen rfl T.len_ (by decide +kernel) (pa_cons (pv 18) pa_nil)) (pv 5) (nomark _)))) (fun _ _ _ _ _ => (pv 18))) (pss_cons (ps_if (PW.pt (pw_or (pt_not (pt_val (pe_c C_w_alike hr (by decide) rfl (pa_cons (pe_c C_forget_length hr (by decide) rfl (pa_cons (pv 2) pa_nil)) (pa_cons (pv 5) pa_nil))))) (pw_or (pt_not (pt_val (pe_c C_w_alike hr (by decide) rfl (pa_cons (pe_c C_forget_lots hr (by decide) rfl (pa_cons (pv 2) pa_nil)) (pa_cons (pe_callTy call_uTup rfl T.tuple_ (by decide +kernel) (pa_cons (pv 6) pa_nil)) pa_nil))))) (pw_or1 (pt_not (pt_val (pe_c C_w_alike hr (by decide) rfl (pa_cons (pe_c C_forget_row hr (by decide) rfl (pa_cons (pv 2) pa_nil)) (pa_cons (pe_ix ix_seq (pv 6) pe_int (fun _ _ => rfl)) pa_nil))))))))) (pss_one (ps_ret pe_bl)) pss_nil) (pss_cons (ps_setLc (i := 7) (own := [("_law_lot", 18)]) rfl nd rfl rfl (sw_true rfl rfl rfl (by decide +kernel)) (pi_seq (pv 3)) (blkOk_by (by kernel_rfl)) (fun _ _ _ _ _ => (pg_name (i := 18) nd rfl (by first | exact Or.inl rfl | exact Or.inr rfl))) (fun _ _ _ _ _ => pts_nil) (fun _ _ _ _ _ => (pe_callB (cr_sum rfl) rfl T.sum_ (by decide +kernel) (pa_cons (pe_lc (own := [("_law_person", 19)]) rfl nd (pi_seq (pv 18)) (blkOk_by (by kernel_rfl)) (fun _ _ _ _ _ => (pg_name (i := 19) nd rfl (by first | exact Or.inl rfl | exact Or.inr rfl))) (fun _ _ _ _ _ => pts_nil) (fun _ _ _ _ _ => (pe_ix ix_seq (pv 4) (pv 19) (fun _ _ => rfl)))) pa_nil)))) (pss_cons (ps_asg (pe_tup (pa_cons (pe_callB (call_uMin rfl (Room.u80 hr)) rfl T.min_ (by decide +kernel) (pa_cons (pv 7) pa_nil)) (pa_cons (pe_c C_cheap_forget hr (by decide) rfl (pa_cons (pv 2) (pa_cons (pv 4) pa_nil))) (pa_cons (pe_c C_forget_paper hr (by decide) rfl (pa_cons (pv 2) (pa_cons (pv 4) pa_nil))) pa_nil)))) (pg_tup rfl (pgs_cons (pg_name (i := 8) nd rfl (by first | exact Or.inl rfl | exact Or.inr rfl)) (pgs_cons (pg_name (i := 9) nd rfl (by first | exact Or.inl rfl | exact Or.inr rfl)) (pgs_cons (pg_name (i := 10) nd rfl (by first | exact Or.inl rfl | exact Or.inr rfl)) pgs_nil))))) (pss_cons (ps_if (PW.pt (pw_or (pt_not (pt_val (pe_callB call_uIsi rfl T.isinstance_ (by decide +kernel) (pa_cons (pv 9) (pa_cons (pe_bltn (v := .ty "tuple") rfl T.tuple_ (by decide +kernel) rfl) pa_nil))))) (pw_or (pt_cmpR (op_neP hr.units) (pe_callB call_uLen rfl T.len_ (by decide +kernel) (pa_cons (pv 9) pa_nil)) pe_int (nomark _)) (pw_or (pt_cmpR (op_neP hr.units) (pe_ix ix_seq (pv 9) pe_int (fun _ _ => rfl)) (pv 8) (nomark _)) (pw_or (pt_cmpR (op_niP hr.units) (pe_ix ix_seq (pv 9) pe_int (fun _ _ => rfl)) (pv 3) (by rfl)) (pw_or1 (pt_cmpR (op_neP hr.units) (pe_ix ix_seq (pv 7) (pe_bm PySem.F.plainAttrs_list PySem.F.slot_list_index PySem.F.type_list_index (mt_indexD (Room.u65 hr)) (pv 3) (pa_cons (pe_ix ix_seq (pv 9) pe_int (fun _ _ => rfl)) pa_nil)) (fun _ _ => rfl)) (pv 8) (nomark _)))))))) (pss_one (ps_ret pe_bl)) pss_nil) (pss_cons (ps_set (i := 11) nd rfl (by first | exact Or.inl rfl | exact Or.inr rfl) (pe_lst (pa_cons (pv 9) (pa_cons (pe_callTy call_uLst rfl T.list_ (by decide +kernel) (pa_cons (pv 9) pa_nil)) (pa_cons (pe_tup (pa_cons (pv 8) (pa_cons (pe_callTy call_uLst rfl T.list_ (by decide +kernel) (pa_cons (pe_ix ix_seq (pv 9) pe_int (fun _ _ => rfl)) pa_nil)) pa_nil))) (pa_cons (pe_tup (pa_cons (pe_op op_uAdd (pv 8) pe_int) (pa_cons (pe_ix ix_seq (pv 9) pe_int (fun _ _ => rfl)) pa_nil))) (pa_cons (pe_tup (pa_cons (pv 8) (pa_cons (pe_revT (pe_ix ix_seq (pv 9) pe_int (fun _ _ => rfl))) pa_nil))) (pa_cons (pe_tup (pa_cons (pv 8) (pa_cons (pe_tup pa_nil) pa_nil))) (pa_cons pe_non (pa_cons pe_int (pa_cons (pe_tup (pa_cons (pv 8) (pa_cons (pe_tup (pa_cons (pe_ix ix_seq (pv 2) pe_int (fun _ _ => rfl)) pa_nil)) pa_nil))) pa_nil))))))))))) (pss_cons (ps_for PassesOwn.never rfl (pi_seq (pe_op op_uAdd (pv 11) (pe_lc (own := [("_law_lot", 18)]) rfl nd (pi_seq (pe_slice sl_u (pe_c C_w_lots hr (by decide) rfl (pa_cons (pv 2) pa_nil)) po_none (po_some pe_int))) (blkOk_by (by kernel_rfl)) (fun _ _ _ _ _ => (pg_name (i := 18) nd rfl (by first | exact Or.inl rfl | exact Or.inr rfl))) (fun _ _ _ _ _ => pts_nil) (fun _ _ _ _ _ => (pe_tup (pa_cons (pv 8) (pa_cons (pv 18) pa_nil))))))) (pg_name (i := 12) nd rfl (by first | exact Or.inl rfl | exact Or.inr rfl)) (pss_cons (ps_set (i := 13) nd rfl (by first | exact Or.inl rfl | exact Or.inr rfl) (pe_and (pe_callB call_uIsi rfl T.isinstance_ (by decide +kernel) (pa_cons (pv 12) (pa_cons (pe_bltn (v := .ty "tuple") rfl T.tuple_ (by decide +kernel) rfl) pa_nil))) (pe_and (pe_cmpR (op_eqP hr.units) (pe_callB call_uLen rfl T.len_ (by decide +kernel) (pa_cons (pv 12) pa_nil)) pe_int (nomark _)) (pe_and (pe_callB call_uIsi rfl T.isinstance_ (by decide +kernel) (pa_cons (pe_ix ix_seq (pv 12) pe_int (fun _ _ => rfl)) (pa_cons (pe_bltn (v := .ty "tuple") rfl T.tuple_ (by decide +kernel) rfl) pa_nil))) (pe_one (pe_cmpR (op_inP hr.units) (pe_ix ix_seq (pv 12) pe_int (fun _ _ => rfl)) (pv 3) (by rfl))))))) (pss_cons (ps_set (i := 13) nd rfl (by first | exact Or.inl rfl | exact Or.inr rfl) (pe_and (pv 13) (pe_and (pe_cmpR (op_eqP hr.units) (pe_ix ix_seq (pv 12) pe_int (fun _ _ => rfl)) (pv 8) (nomark _)) (pe_one (pe_cmpR (op_eqP hr.units) (pe_ix ix_seq (pv 7) (pe_bm PySem.F.plainAttrs_list PySem.F.slot_list_index PySem.F.type_list_index (mt_indexD (Room.u65 hr)) (pv 3) (pa_cons (pe_ix ix_seq (pv 12) pe_int (fun _ _ => rfl)) pa_nil)) (fun _ _ => rfl)) (pv 8) (nomark _)))))) (pss_one (ps_if (pt_not (pt_val (pe_c C_w_alike hr (by decide) rfl (pa_cons (pe_c C_shows_cheap_forget hr (by decide) rfl (pa_cons (pv 2) (pa_cons (pv 4) (pa_cons (pv 12) pa_nil)))) (pa_cons (pv 13) pa_nil))))) (pss_one (ps_ret pe_bl)) pss_nil))))) (pss_cons (ps_if (PW.pt (pw_or (pt_not (pt_val (pe_c C_w_fits hr (by decide) rfl (pa_cons (pv 2) (pa_cons (pv 4) (pa_cons (pv 10) pa_nil)))))) (pw_or1 (pt_val (pe_c C_w_less hr (by decide) rfl (pa_cons (pe_tup (pa_cons (pv 8) (pa_cons pe_int pa_nil))) (pa_cons (pe_c C_w_sum hr (by decide) rfl (pa_cons (pe_callTy call_uLst rfl T.list_ (by decide +kernel) (pa_cons (pv 10) pa_nil)) pa_nil)) pa_nil))))))) (pss_one (ps_ret pe_bl)) pss_nil) (pss_cons (ps_set (i := 14) nd rfl (by first | exact Or.inl rfl | exact Or.inr rfl) (pe_c C_w_sum hr (by decide) rfl (pa_cons (pe_callTy call_uLst rfl T.list_ (by decide +kernel) (pa_cons (pv 10) pa_nil)) pa_nil))) (pss_cons (ps_set (i := 15) nd rfl (by first | exact Or.inl rfl | exact Or.inr rfl) (pe_lst (pa_cons (pv 10) (pa_cons (pe_callTy call_uLst rfl T.list_ (by decide +kernel) (pa_cons (pv 10) pa_nil)) (pa_cons (pe_slice sl_u (pv 10) (po_some pe_int) po_none) (pa_cons (pe_revT (pv 10)) (pa_cons (pe_op op_uAdd (pv 10) (pe_tup (pa_cons (pe_tup (pa_cons pe_int (pa_cons pe_int pa_nil))) pa_nil))) (pa_cons (pe_op op_uMul (pe_tup (pa_cons (pe_tup (pa_cons pe_int (pa_cons pe_int pa_nil))) pa_nil)) (pe_ix ix_seq (pv 2) pe_int (fun _ _ => rfl))) (pa_cons pe_non (pa_cons pe_int pa_nil)))))))))) (pss_cons (ps_for PassesOwn.never rfl (pi_range1 rfl T.range_ (pa_cons (pe_ix ix_seq (pv 2) pe_int (fun _ _ => rfl)) pa_nil)) (pg_name (i := 16) nd rfl (by first | exact Or.inl rfl | exact Or.inr rfl)) (pss_one (ps_for PassesOwn.never rfl (pi_seq (pe_lst (pa_cons (pe_tup (pa_cons pe_int (pa_cons pe_int pa_nil))) (pa_cons (pe_tup (pa_cons (pe_un un_uNeg pe_int) (pa_cons pe_int pa_nil))) pa_nil)))) (pg_name (i := 17) nd rfl (by first | exact Or.inl rfl | exact Or.inr rfl)) (pss_one (ps_expr (pe_bm PySem.F.plainAttrs_list PySem.F.slot_list_append PySem.F.type_list_append mt_append (pv 15) (pa_cons (pe_op op_uAdd (pe_op op_uAdd (pe_slice sl_u (pv 10) po_none (po_some (pv 16))) (pe_tup (pa_cons (pe_c C_w_plus hr (by decide) rfl (pa_cons (pe_ix ix_seq (pv 10) (pv 16) (fun _ _ => rfl)) (pa_cons (pv 17) pa_nil))) pa_nil))) (pe_slice sl_u (pv 10) (po_some (pe_op op_uAdd (pv 16) pe_int)) po_none)) pa_nil))))))) (pss_cons (ps_for PassesOwn.never rfl (pi_seq (pv 15)) (pg_name (i := 12) nd rfl (by first | exact Or.inl rfl | exact Or.inr rfl)) (pss_cons (ps_set (i := 13) nd rfl (by first | exact Or.inl rfl | exact Or.inr rfl) (pe_c C_w_fits hr (by decide) rfl (pa_cons (pv 2) (pa_cons (pv 4) (pa_cons (pv 12) pa_nil))))) (pss_cons (ps_if (PW.pt (pw_and (pt_val (pv 13)) (pw_and1 (pt_val (pe_c C_w_less hr (by decide) rfl (pa_cons (pv 14) (pa_cons (pe_c C_w_sum hr (by decide) rfl (pa_cons (pe_callTy call_uLst rfl T.list_ (by decide +kernel) (pa_cons (pv 12) pa_nil)) pa_nil)) pa_nil))))))) (pss_one (ps_ret pe_bl)) pss_nil) (pss_one (ps_if (pt_not (pt_val (pe_c C_w_alike hr (by decide) rfl (pa_cons (pe_c C_shows_forget_paper hr (by decide) rfl (pa_cons (pv 2) (pa_cons (pv 4) (pa_cons (pv 12) pa_nil)))) (pa_cons (pe_and (pv 13) (pe_one (pe_cmpR (op_eqP hr.units) (pe_c C_w_sum hr (by decide) rfl (pa_cons (pe_callTy call_uLst rfl T.list_ (by decide +kernel) (pa_cons (pv 12) pa_nil)) pa_nil)) (pv 14) (nomark _)))) pa_nil))))) (pss_one (ps_ret pe_bl)) pss_nil))))) (pss_one (ps_ret pe_bl))))))))))))))))))
end KV
set_option Elab.async false
set_option linter.all false
set_option maxRecDepth 100000
set_option maxHeartbeats 4000000
/-! Evaluation: common. -/
namespace KV
open PySem PySem.Spec PyProof.Rows L2 GxR KO Smx
open PySem.W (alike dataLt dataLe AllAlike AlikeAll minD)
theorem kb_NoneType_int : kitB "NoneType" "int" = some false := by decide +kernel
theorem kb_NoneType_bool : kitB "NoneType" "bool" = some false := by decide +kernel
theorem kb_NoneType_tuple : kitB "NoneType" "tuple" = some false := by decide +kernel
theorem kb_NoneType_list : kitB "NoneType" "list" = some false := by decide +kernel
theorem kb_NoneType_str : kitB "NoneType" "str" = some false := by decide +kernel
theorem kb_bool_int : kitB "bool" "int" = some true := by decide +kernel
theorem kb_bool_bool : kitB "bool" "bool" = some true := by decide +kernel
theorem kb_bool_tuple : kitB "bool" "tuple" = some false := by decide +kernel
theorem kb_bool_list : kitB "bool" "list" = some false := by decide +kernel
theorem kb_bool_str : kitB "bool" "str" = some false := by decide +kernel
theorem kb_int_int : kitB "int" "int" = some true := by decide +kernel
theorem kb_int_bool : kitB "int" "bool" = some false := by decide +kernel
theorem kb_int_tuple : kitB "int" "tuple" = some false := by decide +kernel
theorem kb_int_list : kitB "int" "list" = some false := by decide +kernel
theorem kb_int_str : kitB "int" "str" = some false := by decide +kernel
theorem kb_list_int : kitB "list" "int" = some false := by decide +kernel
theorem kb_list_bool : kitB "list" "bool" = some false := by decide +kernel
theorem kb_list_tuple : kitB "list" "tuple" = some false := by decide +kernel
theorem kb_list_list : kitB "list" "list" = some true := by decide +kernel
theorem kb_list_str : kitB "list" "str" = some false := by decide +kernel
theorem kb_tuple_int : kitB "tuple" "int" = some false := by decide +kernel
theorem kb_tuple_bool : kitB "tuple" "bool" = some false := by decide +kernel
theorem kb_tuple_tuple : kitB "tuple" "tuple" = some true := by decide +kernel
theorem kb_tuple_list : kitB "tuple" "list" = some false := by decide +kernel
theorem kb_tuple_str : kitB "tuple" "str" = some false := by decide +kernel
theorem kb_str_int : kitB "str" "int" = some false := by decide +kernel
theorem kb_str_bool : kitB "str" "bool" = some false := by decide +kernel
theorem kb_str_tuple : kitB "str" "tuple" = some false := by decide +kernel
theorem kb_str_list : kitB "str" "list" = some false := by decide +kernel
theorem kb_str_str : kitB "str" "str" = some true := by decide +kernel
def isIntD : PyData → Bool
  | .int _ => true
  | .bool _ => true
  | _ => false
theorem kb_int : ∀ d : PyData, d.plain = true → kitB (tyN d) "int" = some (isIntD d)
  | .none, _ => kb_NoneType_int
  | .bool _, _ => kb_bool_int
  | .int _, _ => kb_int_int
  | .str _, _ => kb_str_int
  | .list _, _ => kb_list_int
  | .tuple _, _ => kb_tuple_int
  | .dict _, h => nomatch h
def isBoolD : PyData → Bool
  | .bool _ => true
  | _ => false
theorem kb_bool : ∀ d : PyData, d.plain = true → kitB (tyN d) "bool" = some (isBoolD d)
  | .none, _ => kb_NoneType_bool
  | .bool _, _ => kb_bool_bool
  | .int _, _ => kb_int_bool
  | .str _, _ => kb_str_bool
  | .list _, _ => kb_list_bool
  | .tuple _, _ => kb_tuple_bool
  | .dict _, h => nomatch h
theorem kb_tuple : ∀ d : PyData, d.plain = true → kitB (tyN d) "tuple" = some (isTupD d)
  | .none, _ => kb_NoneType_tuple
  | .bool _, _ => kb_bool_tuple
  | .int _, _ => kb_int_tuple
  | .str _, _ => kb_str_tuple
  | .list _, _ => kb_list_tuple
  | .tuple _, _ => kb_tuple_tuple
  | .dict _, h => nomatch h
def isLstD : PyData → Bool
  | .list _ => true
  | _ => false
theorem kb_list : ∀ d : PyData, d.plain = true → kitB (tyN d) "list" = some (isLstD d)
  | .none, _ => kb_NoneType_list
  | .bool _, _ => kb_bool_list
  | .int _, _ => kb_int_list
  | .str _, _ => kb_str_list
  | .list _, _ => kb_list_list
  | .tuple _, _ => kb_tuple_list
  | .dict _, h => nomatch h
def isStrD : PyData → Bool
  | .str _ => true
  | _ => false
theorem kb_str : ∀ d : PyData, d.plain = true → kitB (tyN d) "str" = some (isStrD d)
  | .none, _ => kb_NoneType_str
  | .bool _, _ => kb_bool_str
  | .int _, _ => kb_int_str
  | .str _, _ => kb_str_str
  | .list _, _ => kb_list_str
  | .tuple _, _ => kb_tuple_str
  | .dict _, h => nomatch h
section
variable {S : Hs} {Ts : Ks} {es : Es} {te ta : TE} {d : PyData} {K : PySem.W.Frag}
theorem ee_isInt (h : EE S Ts te es d) (hp : d.plain = true) : EE S Ts (tCB (uIsi K) (tCons te (tCons (tC (.ty "int")) tNil))) es (.bool (isIntD d)) := ee_isi h hp (kb_int d hp)
theorem ee_isBool (h : EE S Ts te es d) (hp : d.plain = true) : EE S Ts (tCB (uIsi K) (tCons te (tCons (tC (.ty "bool")) tNil))) es (.bool (isBoolD d)) := ee_isi h hp (kb_bool d hp)
theorem ee_isTup (h : EE S Ts te es d) (hp : d.plain = true) : EE S Ts (tCB (uIsi K) (tCons te (tCons (tC (.ty "tuple")) tNil))) es (.bool (isTupD d)) := ee_isi h hp (kb_tuple d hp)
theorem ee_isLst (h : EE S Ts te es d) (hp : d.plain = true) : EE S Ts (tCB (uIsi K) (tCons te (tCons (tC (.ty "list")) tNil))) es (.bool (isLstD d)) := ee_isi h hp (kb_list d hp)
theorem ee_isStr (h : EE S Ts te es d) (hp : d.plain = true) : EE S Ts (tCB (uIsi K) (tCons te (tCons (tC (.ty "str")) tNil))) es (.bool (isStrD d)) := ee_isi h hp (kb_str d hp)
theorem ee_isTL (h : EE S Ts te es d) (hp : d.plain = true) : EE S Ts (tCB (uIsi K) (tCons te (tCons (tTup (tCons (tC (.ty "tuple")) (tCons (tC (.ty "list")) tNil))) tNil))) es (.bool (isTupD d || isLstD d)) := ee_isi2 h hp (kb_tuple d hp) (kb_list d hp)
/-- a def on data: it gives d, or comes to its end -/
def ESr (S : Hs) (Ts : Ks) (t : TS) (es : Es) (d : PyData) : Prop := ES S Ts t es (.rt d) ∨ d = .none ∧ ∃ es', ES S Ts t es (.nx es')
theorem pure_ok {P : List Addr} {R : Rel} {t : TS} {N : List Str} (h : ∀ (S : Hs) ds d, R ds d → ESr S ⟨P, []⟩ t (ds.map some ++ List.replicate (N.length - ds.length) none) d) {vs : List V} {H : Hp} {Q : VK} {E : XK} (hs : spR P R vs H Q E) : t { nx := fun _ H' => Q .non H', rt := Q } (L2.start N vs) H := by
  obtain ⟨S, ds, d, r, trk, hR, tb, k⟩ := hs
  have S' : Hs := ⟨S.ad, fun _ => none⟩
  have I : Inn ⟨P, []⟩ (L2.start N vs) (hid S H) (ds.map some ++ List.replicate (N.length - ds.length) none) := Inn.start r ⟨tb, by simp⟩ N
  have k0 : (∀ b ∈ (⟨S.ad, fun _ => none⟩ : Hs).ad, H b ≠ none) ∧ Gr (⟨S.ad, fun _ => none⟩ : Hs).fz H := ⟨trk, fun _ _ z => by cases z⟩
  rcases h ⟨S.ad, fun _ => none⟩ ds d hR with q | ⟨rfl, es', q⟩
  · exact q H _ H k0 (Gr.refl _) I _ fun v H' g r => k v H' g r
  · exact q H _ H k0 (Gr.refl _) I _ fun σ H' g _ => k .non H' g .non
theorem spR_len {P : List Addr} {R : Rel} {n : Nat} (h : ∀ ds d, R ds d → ds.length = n) {vs : List V} {H : Hp} {Q : VK} {E : XK} (hs : spR P R vs H Q E) : vs.length = n := by
  obtain ⟨S, ds, d, r, _, hR, _⟩ := hs
  rw [r.len, h ds d hR]
theorem tab_of {P : List Addr} {ow} : ∀ b ∈ P, b ∈ (⟨P, ow⟩ : Ks).ts := fun _ h => h
/-- items of data lists -/
theorem atI_nat {α : Type} {xs : List α} {k : Nat} {z : α} (h : xs[k]? = some z) : atI xs (k : Int) = some z := by
  unfold atI ixN
  have hk : k < xs.length := (List.getElem?_eq_some_iff.mp h).1
  rw [if_pos (Int.natCast_nonneg k), if_pos (by omega)]
  exact h
theorem getD_of {α : Type} {xs : List α} {k : Nat} {z d : α} (h : xs[k]? = some z) : xs.getD k d = z := by
  rw [List.getD_eq_getElem?_getD, h]; rfl
theorem plain_nats : ∀ l : List Nat, PyData.plainAll (l.map natD) = true
  | [] => rfl
  | a :: l => by
    show PyData.plainAll (natD a :: l.map natD) = true
    rw [PyData.plainAll, plain_nats l]; rfl
theorem plain_lot (l : List Nat) : (lotD l).plain = true := by unfold lotD; rw [PyData.plain]; exact plain_nats l
theorem depth_nats : ∀ l : List Nat, PyData.depthAll (l.map natD) = 0
  | [] => by simp [PyData.depthAll]
  | a :: l => by
    show PyData.depthAll (natD a :: l.map natD) = 0
    rw [PyData.depthAll, depth_nats l]; simp [PyData.depth]
theorem depth_lot (l : List Nat) : (lotD l).depth = 1 := by unfold lotD; rw [PyData.depth, depth_nats l]
theorem plain_map {α : Type} {f : α → PyData} (h : ∀ a, (f a).plain = true) : ∀ l : List α, PyData.plainAll (l.map f) = true
  | [] => rfl
  | a :: l => by
    show PyData.plainAll (f a :: l.map f) = true
    rw [PyData.plainAll, plain_map h l, h a]; rfl
theorem depth_map {α : Type} {f : α → PyData} {n : Nat} (h : ∀ a, (f a).depth ≤ n) : ∀ l : List α, PyData.depthAll (l.map f) ≤ n
  | [] => by simp [PyData.depthAll]
  | a :: l => by
    show PyData.depthAll (f a :: l.map f) ≤ n
    rw [PyData.depthAll]
    exact Nat.max_le.mpr ⟨h a, depth_map h l⟩
theorem plain_pair (p : Nat × Nat) : (pairD p).plain = true := rfl
theorem plain_rat (q : Rat) : (ratD q).plain = true := rfl
theorem eqv_int (i j : Int) : PyData.eqv (.int i) (.int j) = decide (i = j) := by rw [PyData.eqv]; exact Bool.beq_eq_decide_eq i j
theorem eqv_pair {a b c d : Int} : PyData.eqv (.tuple [.int a, .int b]) (.tuple [.int c, .int d]) = decide (a = c ∧ b = d) := by
  rw [PyData.eqv, PyData.eqvAll, PyData.eqvAll, PyData.eqvAll, eqv_int, eqv_int]
  simp
theorem eqv_nats : ∀ l m : List Nat, PyData.eqvAll (l.map natD) (m.map natD) = decide (l = m)
  | [], [] => by simp [PyData.eqvAll]
  | [], b :: m => by simp [PyData.eqvAll]
  | a :: l, [] => by simp [PyData.eqvAll]
  | a :: l, b :: m => by
    show PyData.eqvAll (natD a :: l.map natD) (natD b :: m.map natD) = _
    rw [PyData.eqvAll, eqv_nats l m, eqv_int]
    by_cases h : a = b <;> by_cases h' : l = m <;> simp [h, h'] <;> omega
theorem eqv_lot (l m : List Nat) : PyData.eqv (lotD l) (lotD m) = decide (l = m) := by unfold lotD; rw [PyData.eqv]; exact eqv_nats l m
end
end KV
set_option Elab.async false
set_option linter.all false
set_option maxRecDepth 100000
set_option maxHeartbeats 4000000
/-! Evaluation: webs, lots. -/
namespace KV
open PySem PySem.Spec PyProof.Rows L2 GxR KO Smx
open PySem.W (alike dataLt dataLe AllAlike AlikeAll minD)
section
variable {G : Gd} {S : Hs} {Ts : Ks} {es : Es} {te ta tb tc : TE} {tr : TA} {d v : PyData} {n i j : Nat} {ps : List (Nat × Nat)}
theorem e_is_in {ds : List PyData} (h : R_is_in ds d) : ESr S ⟨G.ps, []⟩ (t_is_in G) (ds.map some ++ List.replicate (3 - ds.length) none) d := by
  obtain ⟨v, a, b, rfl, hp, rfl⟩ := h
  refine .inl (es_o (es_ret (ee_and (ee_isInt (ee_var rfl) hp) fun q1 => ee_and (b := isIn v a b) (ee_not (ee_isBool (ee_var rfl) hp)) fun q2 => ?_)) ?_)
  · cases v with
    | int i => exact ee_chain (ee_var rfl) (ee_var rfl) (ee_var rfl) (fun _ => rv_le) (fun _ => rv_le)
    | bool b => cases q2
    | _ => cases q1
  · cases v <;> simp [isIn, isIntD, isBoolD]
/-- calls of it -/
theorem c_is_in {a b : Int} (hP : ∀ x ∈ G.ps, x ∈ Ts.ts) (h : EE S Ts ta es v) (hp : v.plain = true) (h1 : EE S Ts tb es (.int a)) (h2 : EE S Ts tc es (.int b)) : EE S Ts (tCall (sp_is_in G) [] C8.E0 (tCons ta (tCons tb (tCons tc tNil)))) es (.bool (isIn v a b)) :=
  ee_call (aa_cons h (aa_cons h1 (aa_cons h2 aa_nil))) ⟨v, a, b, rfl, hp, rfl⟩ hP
/-- the parts of a web -/
theorem ee_web0 (h : EE S Ts te es (webD n ps)) : EE S Ts (tOp (rIx G.K) te (tC (.int 0))) es (natD n) := ee_op h ee_int fun _ => rv_ixT rfl
theorem ee_web1 (h : EE S Ts te es (webD n ps)) : EE S Ts (tOp (rIx G.K) te (tC (.int 1))) es (.tuple (ps.map pairD)) := ee_op h ee_int fun _ => rv_ixT rfl
theorem e_are_foes {ds : List PyData} (h : R_are_foes ds d) : ESr S ⟨G.ps, []⟩ (t_are_foes G) (ds.map some ++ List.replicate (3 - ds.length) none) d := by
  obtain ⟨n, ps, i, j, rfl, W, rfl⟩ := h
  refine .inl (es_o (es_ret (ee_op (ee_tup (aa_cons (ee_cb (aa_cons (ee_var rfl) (aa_cons (ee_var rfl) aa_nil)) fun _ => rc_min2) (aa_cons (ee_cb (aa_cons (ee_var rfl) (aa_cons (ee_var rfl) aa_nil)) fun _ => rc_max2) aa_nil)) (by simp)) (ee_web1 (ee_var rfl)) fun _ => rv_inT rfl (plain_map plain_pair ps) (by simp [PyData.depth, PyData.depthAll]))) ?_)
  have e1 : (if (j : Int) < (i : Int) then (j : Int) else (i : Int)) = ((min i j : Nat) : Int) := by split <;> omega
  have e2 : (if (j : Int) > (i : Int) then (j : Int) else (i : Int)) = ((max i j : Nat) : Int) := by split <;> omega
  rw [e1, e2, List.any_map]
  congr 2
  rw [Bool.eq_iff_iff, List.any_eq_true, decide_eq_true_iff]
  constructor
  · rintro ⟨p, hp, e⟩
    have e : PyData.eqv (.tuple [.int (p.1 : Int), .int (p.2 : Int)]) (.tuple [.int ((min i j : Nat) : Int), .int ((max i j : Nat) : Int)]) = true := e
    rw [eqv_pair, decide_eq_true_iff] at e
    have : p = (min i j, max i j) := by
      obtain ⟨a, b⟩ := p
      simp only [Prod.mk.injEq]
      exact ⟨by have := e.1; omega, by have := e.2; omega⟩
    rw [← this]; exact hp
  · intro hm
    refine ⟨_, hm, ?_⟩
    show PyData.eqv (.tuple [.int ((min i j : Nat) : Int), .int ((max i j : Nat) : Int)]) (.tuple [.int ((min i j : Nat) : Int), .int ((max i j : Nat) : Int)]) = true
    rw [eqv_pair]; simp
theorem c_are_foes (W : Web n ps) (hP : ∀ x ∈ G.ps, x ∈ Ts.ts) (h : EE S Ts ta es (webD n ps)) (h1 : EE S Ts tb es (natD i)) (h2 : EE S Ts tc es (natD j)) : EE S Ts (tCall (sp_are_foes G) [] C8.E0 (tCons ta (tCons tb (tCons tc tNil)))) es (.bool (decide ((min i j, max i j) ∈ ps))) :=
  ee_call (aa_cons h (aa_cons h1 (aa_cons h2 aa_nil))) ⟨n, ps, i, j, rfl, W, rfl⟩ hP
theorem rangeD_nat (n : Nat) : rangeD 0 n = (List.range n).map natD := by
  unfold rangeD
  exact List.map_congr_left fun i _ => by rw [Int.zero_add]
/-- a comprehension, the target a name -/
theorem ee_lcV {α : Type} {wi : TI} {tt : TT} {vs : List Nat} {i : Nat} {l : List α} {F : α → PyData} {f : α → PyData} {p : α → Bool} (h : EI S Ts wi es (l.map F)) (hi : i ∈ vs) (hl : l.length ≤ 100000)
    (hs : ∀ a ∈ l, ∀ S', S'.fz = S.fz → ET S' Ts tt ((wipeE es vs).set i (some (F a))) (p a) ∧ (p a = true → EE S' Ts te ((wipeE es vs).set i (some (F a))) (f a))) : EE S Ts (tLc wi (gName i) tt te vs) es (.list ((l.filter p).map f)) :=
  ee_lcM h (fun a ha => ⟨_, fun S' hz => ⟨lc_name hi rfl, hs a ha S' hz⟩⟩) hl
theorem ei_nat {t : TA} {k : Nat} (h : EA S Ts t es [natD k]) (hk : k ≤ 100000) : EI S Ts (iRng1 t) es ((List.range k).map natD) := by
  have w := ei_range1 h (by omega) (by omega)
  rw [Int.toNat_natCast, rangeD_nat] at w
  exact w
/-- a comprehension over range(k) -/
theorem ee_lcN {t : TA} {tt : TT} {vs : List Nat} {i k : Nat} {f : Nat → PyData} {p : Nat → Bool} (h : EA S Ts t es [natD k]) (hk : k ≤ 100000) (hi : i ∈ vs)
    (hs : ∀ j, j < k → ∀ S', S'.fz = S.fz → ET S' Ts tt ((wipeE es vs).set i (some (natD j))) (p j) ∧ (p j = true → EE S' Ts te ((wipeE es vs).set i (some (natD j))) (f j))) : EE S Ts (tLc (iRng1 t) (gName i) tt te vs) es (.list (((List.range k).filter p).map f)) :=
  ee_lcV (F := natD) (ei_nat h hk) hi (by rw [List.length_range]; exact hk) fun a ha => hs a (List.mem_range.mp ha)
theorem filter_yes {α : Type} (l : List α) : l.filter (fun _ => true) = l := List.filter_eq_self.mpr fun _ _ => rfl
theorem e_foes {ds : List PyData} (h : R_foes ds d) : ESr S ⟨G.ps, []⟩ (t_foes G) (ds.map some ++ List.replicate (3 - ds.length) none) d := by
  obtain ⟨n, ps, i, rfl, W, rfl⟩ := h
  have hn := W.le
  exact .inl (es_ret (ee_lcN (f := natD) (p := fun j => decide ((min i j, max i j) ∈ ps)) (aa_cons (ee_web0 (ee_var rfl)) aa_nil) (by omega) (by simp) fun j hj S' hz => ⟨tt_B (c_are_foes W tab_of (ee_var rfl) (ee_var rfl) (ee_var rfl)), fun _ => ee_var rfl⟩))
theorem c_foes (W : Web n ps) (hP : ∀ x ∈ G.ps, x ∈ Ts.ts) (h : EE S Ts ta es (webD n ps)) (h1 : EE S Ts tb es (natD i)) : EE S Ts (tCall (sp_foes G) [] C8.E0 (tCons ta (tCons tb tNil))) es (.list ((foesL n ps i).map natD)) :=
  ee_call (aa_cons h (aa_cons h1 aa_nil)) ⟨n, ps, i, rfl, W, rfl⟩ hP

/-- a loop that keeps something -/
theorem forO_all {step : Es → PyData → Out → Prop} {Pe : Es → Prop} : ∀ {ys : List PyData} {es : Es}, (∀ y ∈ ys, ∀ es, Pe es → ∃ es', step es y (.nx es') ∧ Pe es') → Pe es → ∃ es', ForO step ys es (.nx es') ∧ Pe es'
  | [], es, _, p => ⟨es, .nil, p⟩
  | y :: ys, es, h, p => by
    obtain ⟨e1, s1, p1⟩ := h y List.mem_cons_self es p
    obtain ⟨e2, s2, p2⟩ := forO_all (fun z hz => h z (List.mem_cons_of_mem _ hz)) p1
    exact ⟨e2, .go s1 s2, p2⟩
theorem plain_web (n : Nat) (ps : List (Nat × Nat)) : (webD n ps).plain = true := by
  unfold webD
  rw [PyData.plain, PyData.plainAll, PyData.plainAll, PyData.plainAll, PyData.plain, PyData.plain, plain_map plain_pair]
  rfl
theorem isIn_nat {k : Nat} {a b : Int} (h1 : a ≤ k) (h2 : (k : Int) ≤ b) : isIn (natD k) a b = true := by simp [isIn, h1, h2]
theorem lt_pair (p q : Nat × Nat) (h : p.1 < q.1 ∨ (p.1 = q.1 ∧ p.2 < q.2)) : dataLt (pairD p) (pairD q) = true := by
  unfold pairD
  rw [PySem.W.dataLt_pair (by simp [alike]) (by simp [alike]), eqv_int, eqv_int, PySem.W.dataLt_int, PySem.W.dataLt_int]
  by_cases e : (p.1 : Int) = (q.1 : Int)
  · have e' : p.1 = q.1 := by omega
    have h2 : ¬ (p.2 : Int) = (q.2 : Int) := by omega
    have h3 : (p.2 : Int) < (q.2 : Int) := by omega
    simp [e', h2, h3]
  · have e' : ¬ p.1 = q.1 := by omega
    have h3 : (p.1 : Int) < (q.1 : Int) := by omega
    simp [e', h3]
    omega
theorem alike_pair (p q : Nat × Nat) : alike (pairD p) (pairD q) = true := by simp [pairD, alike, PySem.W.alikeAll]
theorem getL_map {α : Type} {f : α → PyData} {l : List α} {k : Nat} (h : k < l.length) : (l.map f)[k]? = some (f l[k]) := by
  rw [List.getElem?_map, List.getElem?_eq_getElem h]; rfl
theorem es_never {c : TT} {b : Bool} (h : ET S Ts c es b) (hb : b = false) : ES S Ts (tIfS c tNever tNext) es (.nx es) := es_if h (fun q => by rw [hb] at q; cases q) fun _ => es_skip
theorem e_need_web {ds : List PyData} (hG : GOk G) (h : R_need_web ds d) : ESr S ⟨G.ps, []⟩ (t_need_web G) (ds.map some ++ List.replicate (2 - ds.length) none) d := by
  obtain ⟨n, ps, rfl, W, rfl⟩ := h
  have hn1 := W.pos
  have hn5 := W.le
  refine .inr ⟨rfl, ?_⟩
  obtain ⟨es2, hf, x2, he2⟩ := forO_all (ys := ps.map pairD) (es := [some (webD n ps), none]) (Pe := fun es => ∃ x, es = [some (webD n ps), x])
    (step := fun es y o => ∃ es1, EG S ⟨G.ps, []⟩ (gName 1) y es es1 ∧ ES S ⟨G.ps, []⟩ (tSeq (tIfS (tOr (tNot (tB (tCB (uIsi G.K) (tCons (tVar 1) (tCons (tC (.ty "tuple")) tNil))))) (tOr (tTest (tOp (rNeP G.K) (tCB (uLen G.K) (tCons (tVar 1) tNil)) (tC (.int 2)))) (tNot (tB (tCall (sp_is_in G) [] C8.E0 (tCons (tOp (rIx G.K) (tVar 1) (tC (.int 0))) (tCons (tC (.int 0)) (tCons (tOp (uSub) (tOp (rIx G.K) (tVar 0) (tC (.int 0))) (tC (.int 1))) tNil)))))))) tNever tNext) (tIfS (tNot (tB (tCall (sp_is_in G) [] C8.E0 (tCons (tOp (rIx G.K) (tVar 1) (tC (.int 1))) (tCons (tOp (uAdd G.K) (tOp (rIx G.K) (tVar 1) (tC (.int 0))) (tC (.int 1))) (tCons (tOp (uSub) (tOp (rIx G.K) (tVar 0) (tC (.int 0))) (tC (.int 1))) tNil)))))) tNever tNext)) es1 o) (by
      rintro y hy es ⟨x, rfl⟩
      obtain ⟨p, hp, rfl⟩ := List.mem_map.mp hy
      have hpr := W.pr p hp
      refine ⟨[some (webD n ps), some (pairD p)], ⟨_, eg_name' rfl, es_seq (es_never (tt_or (tt_not (tt_B (ee_isTup (ee_var rfl) (plain_pair p)))) fun _ => tt_or (tt_test (ee_op (ee_cb (aa_cons (ee_var (d := .tuple [natD p.1, natD p.2]) rfl) aa_nil) fun _ => rc_lenT) ee_int fun _ => rv_neI)) fun _ =>
        tt_not (tt_B (c_is_in tab_of (ee_op (ee_var (d := .tuple [natD p.1, natD p.2]) rfl) ee_int fun _ => rv_ixT rfl) rfl ee_int (ee_op (ee_web0 (ee_var rfl)) ee_int fun _ => rv_sub)))) ?_)
        (es_never (tt_not (tt_B (c_is_in tab_of (ee_op (ee_var (d := .tuple [natD p.1, natD p.2]) rfl) ee_int fun _ => rv_ixT rfl) rfl (ee_op (ee_op (ee_var (d := .tuple [natD p.1, natD p.2]) rfl) ee_int fun _ => rv_ixT rfl) ee_int fun _ => rv_addI) (ee_op (ee_web0 (ee_var rfl)) ee_int fun _ => rv_sub)))) ?_)⟩, _, rfl⟩
      · rw [isIn_nat (by omega) (by omega)]; simp [isTupD, pairD]
      · rw [isIn_nat (by omega) (by omega)]; rfl) ⟨none, rfl⟩
  subst he2
  refine ⟨_, es_seq (es_never (tt_or (tt_not (tt_B (ee_isTup (ee_var rfl) (plain_web n ps)))) fun _ => tt_or (tt_test (ee_op (ee_cb (aa_cons (ee_var (d := .tuple [natD n, .tuple (ps.map pairD)]) rfl) aa_nil) fun _ => rc_lenT) ee_int fun _ => rv_neI)) fun _ =>
    tt_not (tt_B (c_is_in tab_of (ee_web0 (ee_var rfl)) rfl ee_int ee_int))) ?_) (es_seq (es_never (tt_not (tt_B (ee_isTup (ee_web1 (ee_var rfl)) (by rw [PyData.plain]; exact plain_map plain_pair ps)))) rfl) (es_seq (es_for (ei_seqT (ee_web1 (ee_var rfl))) hf) (es_never (tt_B (ee_any (fun y => match y with
      | .int k => !dataLt ((ps.map pairD).getD k.toNat .none) ((ps.map pairD).getD (k.toNat + 1) .none)
      | _ => false) hG.web (ei_range1 (aa_cons (ee_op (ee_cb (aa_cons (ee_web1 (ee_var rfl)) aa_nil) fun _ => rc_lenT) ee_int fun _ => rv_sub) aa_nil) (by omega) ?_) fun y hy => ?_)) ?_)))⟩
  · rw [isIn_nat (by omega) (by omega)]; simp [isTupD, webD]
  · have := W.few; simp only [List.length_map]; omega
  · have hr := hy
    unfold rangeD at hr
    obtain ⟨k, hk, rfl⟩ := List.mem_map.mp hr
    have hk := List.mem_range.mp hk
    rw [List.length_map] at hk
    have k1 : k < ps.length := by omega
    have k2 : k + 1 < ps.length := by omega
    refine ee_is (ee_op (ee_op (ee_web1 (n := n) (ee_var rfl)) (ee_var (d := natD k) (by rw [Int.zero_add]; rfl)) fun _ => rv_ixT (atI_nat (getL_map k1))) (ee_op (ee_web1 (n := n) (ee_var rfl)) (ee_op (ee_var (d := natD k) (by rw [Int.zero_add]; rfl)) ee_int fun _ => rv_addI) fun _ => rv_ixT (i := (k : Int) + 1) (atI_nat (k := k + 1) (getL_map k2))) fun _ => rv_geD (alike_pair _ _) (by simp [pairD]) rfl rfl (by simp [pairD, PyData.depth, PyData.depthAll])) ?_
    simp only [Int.zero_add, Int.toNat_natCast]
    rw [getD_of (getL_map k1), getD_of (getL_map k2)]
  · rw [List.any_eq_false]
    intro y hy
    unfold rangeD at hy
    obtain ⟨k, hk, rfl⟩ := List.mem_map.mp hy
    have hk := List.mem_range.mp hk
    rw [List.length_map] at hk
    have k1 : k < ps.length := by omega
    have k2 : k + 1 < ps.length := by omega
    simp only [Int.zero_add, Int.toNat_natCast]
    rw [getD_of (getL_map k1), getD_of (getL_map k2), lt_pair _ _ (List.pairwise_iff_getElem.mp W.so k (k + 1) k1 k2 (by omega))]
    simp
theorem c_need_web (W : Web n ps) (hP : ∀ x ∈ G.ps, x ∈ Ts.ts) (h : EE S Ts ta es (webD n ps)) : EE S Ts (tCall (sp_need_web G) [] C8.E0 (tCons ta tNil)) es .none := ee_call (aa_cons h aa_nil) ⟨n, ps, rfl, W, rfl⟩ hP
end
end KV
set_option Elab.async false
set_option linter.all false
set_option maxRecDepth 100000
set_option maxHeartbeats 4000000
/-! Evaluation: lots, who goes, costs. -/
namespace KV
open PySem PySem.Spec PyProof.Rows L2 GxR KO Smx
open PySem.W (alike dataLt dataLe AllAlike AlikeAll minD)
theorem natsOf_cons (n : Nat) (i : Int) (r : List PyData) : natsOf n (.int i :: r) = if 0 ≤ i ∧ i < n then (natsOf n r).map (i.toNat :: ·) else none := by rw [natsOf]
theorem natsOf_some {n : Nat} : ∀ {xs : List PyData} {l : List Nat}, natsOf n xs = some l → xs = l.map natD ∧ ∀ i ∈ l, i < n
  | [], l, h => by cases h; exact ⟨rfl, by simp⟩
  | .int i :: r, l, h => by
    rw [natsOf_cons] at h
    split at h
    · rename_i hi
      cases e : natsOf n r with
      | none => rw [e] at h; cases h
      | some m =>
        rw [e] at h
        cases h
        obtain ⟨h1, h2⟩ := natsOf_some e
        refine ⟨?_, fun k hk => ?_⟩
        · rw [List.map_cons, ← h1, show natD i.toNat = .int i by unfold natD; rw [Int.toNat_of_nonneg hi.1]]
        · rcases List.mem_cons.mp hk with q | q
          · have := hi.2; omega
          · exact h2 k q
    · cases h
  | .none :: _, _, h => nomatch h
  | .bool _ :: _, _, h => nomatch h
  | .str _ :: _, _, h => nomatch h
  | .list _ :: _, _, h => nomatch h
  | .tuple _ :: _, _, h => nomatch h
  | .dict _ :: _, _, h => nomatch h
theorem natsOf_all {n : Nat} : ∀ xs : List PyData, xs.all (fun v => isIn v 0 ((n : Int) - 1)) = (natsOf n xs).isSome
  | [] => rfl
  | .int i :: r => by
    rw [List.all_cons, natsOf_all r, natsOf_cons]
    unfold isIn
    by_cases h : 0 ≤ i ∧ i < n
    · have h1 : (0 : Int) ≤ i := h.1
      have h2 : i ≤ (n : Int) - 1 := by omega
      simp [h, h1, h2]
    · rw [if_neg h]
      by_cases h1 : 0 ≤ i
      · have h2 : ¬ i ≤ (n : Int) - 1 := by omega
        simp [h2]
      · simp [h1]
  | .none :: _ => rfl
  | .bool _ :: _ => rfl
  | .str _ :: _ => rfl
  | .list _ :: _ => rfl
  | .tuple _ :: _ => rfl
  | .dict _ :: _ => rfl
theorem natsOf_map {n : Nat} : ∀ {l : List Nat}, (∀ i ∈ l, i < n) → natsOf n (l.map natD) = some l
  | [], _ => rfl
  | a :: l, h => by
    have h1 := h a List.mem_cons_self
    show (if 0 ≤ (a : Int) ∧ (a : Int) < n then (natsOf n (l.map natD)).map ((a : Int).toNat :: ·) else none) = _
    rw [if_pos ⟨by omega, by omega⟩, natsOf_map fun i hi => h i (List.mem_cons_of_mem _ hi)]
    simp
theorem up_of {l : List Nat} (h : ∀ k (h : k + 1 < l.length), l[k] < l[k + 1]) : l.Pairwise (· < ·) := by
  rw [List.pairwise_iff_getElem]
  intro i j hi hj hij
  induction j with
  | zero => omega
  | succ j ih =>
    have h1 := h j hj
    rcases Nat.lt_or_ge i j with q | q
    · exact Nat.lt_trans (ih (by omega) q) h1
    · have : i = j := by omega
      subst this
      exact h1
theorem lotOf_lot {n : Nat} {l : List Nat} (h : Lot n l) : lotOf n (lotD l) = some l := by
  unfold lotOf lotD
  show (natsOf n (l.map natD)).bind _ = _
  rw [natsOf_map h.lt]
  exact if_pos h.up
theorem lotOf_some {n : Nat} {v : PyData} {l : List Nat} (h : lotOf n v = some l) : v = lotD l ∧ Lot n l := by
  cases v with
  | tuple xs =>
    have h : (natsOf n xs).bind (fun l => if l.Pairwise (· < ·) then some l else none) = some l := h
    cases e : natsOf n xs with
    | none => rw [e] at h; cases h
    | some m =>
      rw [e] at h
      have h : (if m.Pairwise (· < ·) then some m else none) = some l := h
      split at h
      · rename_i hp
        cases h
        obtain ⟨h1, h2⟩ := natsOf_some e
        exact ⟨by rw [h1]; rfl, h2, hp⟩
      · cases h
  | _ => cases h
section
variable {G : Gd} {S : Hs} {Ts : Ks} {es : Es} {te ta tb tc : TE} {tr : TA} {d v : PyData} {n i j : Nat} {ps : List (Nat × Nat)} {l cs : List Nat}
theorem e_is_lot {ds : List PyData} (hG : GOk G) (h : R_is_lot ds d) : ESr S ⟨G.ps, []⟩ (t_is_lot G) (ds.map some ++ List.replicate (2 - ds.length) none) d := by
  obtain ⟨n, ps, v, rfl, W, hp, hf, rfl⟩ := h
  have hn1 := W.pos
  refine .inl ?_
  by_cases ht : isTupD v = true
  · obtain ⟨xs, rfl⟩ : ∃ xs, v = .tuple xs := by cases v <;> first | exact ⟨_, rfl⟩ | cases ht
    have hpx : PyData.plainAll xs = true := by rw [PyData.plain] at hp; exact hp
    have ha : ET S ⟨G.ps, []⟩ (tB (GX.tAllG (G.p_is_lot) (iSeq G.K (tVar 1)) (tCall (sp_is_in G) [] C8.E0 (tCons (tVar 0) (tCons (tC (.int 0)) (tCons (tOp (uSub) (tOp (rIx G.K) (tVar 1) (tC (.int 0))) (tC (.int 1))) tNil)))) [0])) [some (webD n ps), some (.tuple xs)] (natsOf n xs).isSome :=
      et_is' (tt_B (ee_all (fun y => isIn y 0 ((n : Int) - 1)) hG.lot (ei_seqT (ee_var rfl)) fun y hy => c_is_in tab_of (ee_var rfl) (plain_mem' hpx hy) ee_int (ee_op (ee_web0 (n := n) (ps := ps) (ee_var rfl)) ee_int fun _ => rv_sub))) (natsOf_all xs)
    have hc := tt_or (tt_not (tt_B (ee_isTup (K := G.K) (te := tVar 1) (S := S) (Ts := ⟨G.ps, []⟩) (es := [some (webD n ps), some (.tuple xs)]) (ee_var rfl) hp))) fun _ => tt_not ha
    cases e : natsOf n xs with
    | none =>
      rw [e] at hc
      refine es_o (es_seq' (es_if hc (fun _ => es_ret ee_bl) fun q => by simp at q)) ?_
      show Out.rt (.bool false) = .rt (.bool ((natsOf n xs).bind _).isSome)
      rw [e]; rfl
    | some l =>
      rw [e] at hc
      obtain ⟨h1, h2⟩ := natsOf_some e
      subst h1
      refine es_seq (es_if hc (fun q => by simp [isTupD] at q) fun _ => es_skip) (es_o (es_ret (ee_all (fun y => match y with
        | .int k => decide (l.getD k.toNat 0 < l.getD (k.toNat + 1) 0)
        | _ => false) hG.lot (ei_range1 (aa_cons (ee_op (ee_cb (aa_cons (ee_var rfl) aa_nil) fun _ => rc_lenT) ee_int fun _ => rv_sub) aa_nil) (by omega) ?_) fun y hy => ?_)) ?_)
      · have := hf _ rfl
        omega
      · unfold rangeD at hy
        obtain ⟨k, hk, rfl⟩ := List.mem_map.mp hy
        have hk := List.mem_range.mp hk
        rw [List.length_map] at hk
        have k1 : k < l.length := by omega
        have k2 : k + 1 < l.length := by omega
        refine ee_is (ee_op (ee_op (ee_var rfl) (ee_var (d := natD k) (by rw [Int.zero_add]; rfl)) fun _ => rv_ixT (atI_nat (getL_map k1))) (ee_op (ee_var rfl) (ee_op (ee_var (d := natD k) (by rw [Int.zero_add]; rfl)) ee_int fun _ => rv_addI) fun _ => rv_ixT (i := (k : Int) + 1) (atI_nat (k := k + 1) (getL_map k2))) fun _ => rv_lt) ?_
        simp only [Int.zero_add, Int.toNat_natCast]
        rw [getD_of (List.getElem?_eq_getElem k1), getD_of (List.getElem?_eq_getElem k2)]
        simp
      · congr 2
        show _ = ((natsOf n (l.map natD)).bind fun l => if l.Pairwise (· < ·) then some l else none).isSome
        rw [e]
        show _ = (if l.Pairwise (· < ·) then some l else none).isSome
        rw [Bool.eq_iff_iff, List.all_eq_true]
        constructor
        · intro h
          have : l.Pairwise (· < ·) := up_of fun k hk => by
            have := h (.int (0 + (k : Int))) (by unfold rangeD; exact List.mem_map.mpr ⟨k, List.mem_range.mpr (by rw [List.length_map]; omega), rfl⟩)
            simp only [Int.zero_add, Int.toNat_natCast] at this
            rw [getD_of (List.getElem?_eq_getElem (by omega)), getD_of (List.getElem?_eq_getElem hk)] at this
            simpa using this
          rw [if_pos this]; rfl
        · intro h y hy
          have hu : l.Pairwise (· < ·) := by
            by_cases q : l.Pairwise (· < ·)
            · exact q
            · rw [if_neg q] at h; cases h
          unfold rangeD at hy
          obtain ⟨k, hk, rfl⟩ := List.mem_map.mp hy
          have hk := List.mem_range.mp hk
          rw [List.length_map] at hk
          simp only [Int.zero_add, Int.toNat_natCast]
          rw [getD_of (List.getElem?_eq_getElem (by omega)), getD_of (List.getElem?_eq_getElem (by omega : k + 1 < l.length))]
          exact decide_eq_true (List.pairwise_iff_getElem.mp hu k (k + 1) _ _ (by omega))
  · have ht : isTupD v = false := by simpa using ht
    refine es_o (es_seq' (es_if (b := true) (et_is' (tt_or (b := true) (tt_not (tt_B (ee_isTup (ee_var rfl) hp))) fun q => ?_) ?_) (fun _ => es_ret ee_bl) fun q => nomatch q)) ?_
    · rw [ht] at q; cases q
    · rw [ht]; rfl
    · cases v <;> first | rfl | cases ht
theorem c_is_lot (W : Web n ps) (hP : ∀ x ∈ G.ps, x ∈ Ts.ts) (h : EE S Ts ta es (webD n ps)) (h1 : EE S Ts tb es v) (hp : v.plain = true) (hf : Few v) : EE S Ts (tCall (sp_is_lot G) [] C8.E0 (tCons ta (tCons tb tNil))) es (.bool (lotOf n v).isSome) :=
  ee_call (aa_cons h (aa_cons h1 aa_nil)) ⟨n, ps, v, rfl, W, hp, hf, rfl⟩ hP
theorem forO_rel {step : Es → PyData → Out → Prop} {Pe : Nat → Es → Prop} {ys : List PyData} (h : ∀ k (hk : k < ys.length) es, Pe k es → ∃ es', step es ys[k] (.nx es') ∧ Pe (k + 1) es') : ∀ {es : Es}, Pe 0 es → ∃ es', ForO step ys es (.nx es') ∧ Pe ys.length es' := by
  have gen : ∀ m k es, k + m = ys.length → Pe k es → ∃ es', ForO step (ys.drop k) es (.nx es') ∧ Pe ys.length es' := by
    intro m
    induction m with
    | zero =>
      intro k es e p
      have : k = ys.length := by omega
      subst this
      rw [List.drop_length]
      exact ⟨es, .nil, p⟩
    | succ m ih =>
      intro k es e p
      have hk : k < ys.length := by omega
      obtain ⟨e1, s1, p1⟩ := h k hk es p
      obtain ⟨e2, s2, p2⟩ := ih (k + 1) e1 (by omega) p1
      rw [List.drop_eq_getElem_cons hk]
      exact ⟨e2, .go s1 s2, p2⟩
  intro es p
  exact gen ys.length 0 es (by omega) p
theorem lotsN_head : ∀ n, ∃ r, lotsN n = [] :: r
  | 0 => ⟨[], rfl⟩
  | n + 1 => by
    obtain ⟨r, e⟩ := lotsN_head n
    exact ⟨r ++ (lotsN n).map (· ++ [n]), by show lotsN n ++ _ = _; rw [e]; simp⟩
theorem lots_sorted : ((lotsN n).map lotD).mergeSort (dataLe false id) = (lots n).map lotD := by
  unfold lots
  rw [List.map_mergeSort (s := dataLe false id)]
  intro a _ b _
  rfl
theorem lots_mem' {l : List Nat} : l ∈ lots n ↔ Lot n l := by
  unfold lots
  rw [(List.mergeSort_perm _ _).mem_iff, lots_mem]
theorem lots_len : (lots n).length = 2 ^ n := by unfold lots; rw [List.length_mergeSort, lotsN_len]
theorem alike_lots (l m : List Nat) : alike (lotD l) (lotD m) = true := by
  have h : ∀ l m : List Nat, PySem.W.alikeAll (l.map natD) (m.map natD) = true := by
    intro l
    induction l with
    | nil => intro m; cases m <;> simp [PySem.W.alikeAll]
    | cons a l ih =>
      intro m
      cases m with
      | nil => simp [PySem.W.alikeAll]
      | cons b m =>
        show PySem.W.alikeAll (natD a :: l.map natD) (natD b :: m.map natD) = true
        rw [PySem.W.alikeAll, ih m]; simp [alike]
  unfold lotD
  rw [alike]
  exact h l m
theorem pow5 (h : n ≤ 5) : 2 ^ n ≤ 32 := Nat.le_trans (Nat.pow_le_pow_right (by omega) h) (by decide)
theorem e_all_lots {ds : List PyData} (h : R_all_lots ds d) : ESr S ⟨G.ps, []⟩ (t_all_lots G) (ds.map some ++ List.replicate (4 - ds.length) none) d := by
  obtain ⟨n, ps, rfl, W, rfl⟩ := h
  have hn := W.le
  obtain ⟨es2, hf, x2, he2⟩ := forO_rel (ys := (List.range n).map natD) (es := [some (webD n ps), some (.list ((lotsN 0).map lotD)), none, none]) (Pe := fun k es => ∃ x, es = [some (webD n ps), some (.list ((lotsN k).map lotD)), x, none])
    (step := fun es y o => ∃ es1, EG S ⟨G.ps, []⟩ (gName 2) y es es1 ∧ ES S ⟨G.ps, []⟩ (tAsg (tOp (uAdd G.K) (tVar 1) (tLc (iSeq G.K (tVar 1)) (gName 3) tYes (tTup (StX.tStar G.K (tVar 3) (tCons (tVar 2) tNil))) [3])) (gName 1)) es1 o) (by
      rintro k hk es ⟨x, rfl⟩
      have hk' : k < n := by simpa using hk
      have e : ((List.range n).map natD)[k] = natD k := by simp
      rw [e]
      have hl := lotsN_len k
      have h32 : 2 ^ k ≤ 32 := pow5 (by omega)
      refine ⟨_, ⟨_, eg_name' rfl, es_set (ee_op (ee_var rfl) (ee_lcV (l := lotsN k) (F := lotD) (f := fun l => lotD (l ++ [k])) (p := fun _ => true) (ei_seqL (ee_var rfl)) (by simp) (by omega) fun l hl' S' hz => ⟨tt_yes, fun _ => ee_is (ee_tup (aa_starT (ee_var (d := lotD l) rfl) (aa_cons (ee_var rfl) aa_nil)) ?_) ?_⟩) fun _ => rv_addL ?_)⟩, some (natD k), ?_⟩
      · have := (lots_mem.mp hl').len
        simp only [List.length_append, List.length_map, List.length_cons, List.length_nil]; omega
      · simp [lotD]
      · rw [filter_yes]; simp only [List.length_map]; omega
      · rw [filter_yes]
        show [_, some (PyData.list _), _, _] = _
        simp [lotsN]) ⟨none, rfl⟩
  subst he2
  rw [List.length_map, List.length_range] at hf
  refine .inl (es_seq (es_set (ee_lst (aa_cons (ee_tup aa_nil (by simp)) aa_nil) (by simp))) (es_seq (es_for (ei_nat (aa_cons (ee_web0 (ee_var rfl)) aa_nil) (by omega)) hf) (es_o (es_ret (ee_cb (aa_cons (ee_var rfl) aa_nil) fun _ => rc_srt ?_ ?_ ?_ ?_)) ?_)))
  · intro a ha b hb
    obtain ⟨l, _, rfl⟩ := List.mem_map.mp ha
    obtain ⟨m, _, rfl⟩ := List.mem_map.mp hb
    exact alike_lots l m
  · obtain ⟨r, e⟩ := lotsN_head n
    refine .inr ⟨r.map lotD, by rw [e]; rfl, fun d hd => ?_⟩
    obtain ⟨l, _, rfl⟩ := List.mem_map.mp hd
    exact ⟨_, rfl⟩
  · intro d hd
    obtain ⟨l, _, rfl⟩ := List.mem_map.mp hd
    rw [depth_lot]; omega
  · exact plain_map plain_lot _
  · rw [lots_sorted]
theorem c_all_lots (W : Web n ps) (hP : ∀ x ∈ G.ps, x ∈ Ts.ts) (h : EE S Ts ta es (webD n ps)) : EE S Ts (tCall (sp_all_lots G) [] C8.E0 (tCons ta tNil)) es (.list ((lots n).map lotD)) := ee_call (aa_cons h aa_nil) ⟨n, ps, rfl, W, rfl⟩ hP
theorem c_with_foes (W : Web n ps) (L : Lot n l) (hP : ∀ x ∈ G.ps, x ∈ Ts.ts) (h : EE S Ts ta es (webD n ps)) (h1 : EE S Ts tb es (lotD l)) : EE S Ts (tCall (sp_with_foes G) [] C8.E0 (tCons ta (tCons tb tNil))) es (.tuple ((withF n ps l).map natD)) := ee_call (aa_cons h (aa_cons h1 aa_nil)) ⟨n, ps, l, rfl, W, L, rfl⟩ hP
theorem e_covers {ds : List PyData} (h : R_covers ds d) : ESr S ⟨G.ps, []⟩ (t_covers G) (ds.map some ++ List.replicate (2 - ds.length) none) d := by
  obtain ⟨n, ps, l, rfl, W, L, rfl⟩ := h
  refine .inl (es_o (es_ret (ee_op (ee_cb (aa_cons (c_with_foes W L tab_of (ee_var rfl) (ee_var rfl)) aa_nil) fun _ => rc_lenT) (ee_web0 (ee_var rfl)) fun _ => rv_eqI)) ?_)
  rw [List.length_map]
  congr 2
  unfold cov
  rw [Bool.eq_iff_iff, decide_eq_true_iff, decide_eq_true_iff]
  omega
theorem c_covers (W : Web n ps) (L : Lot n l) (hP : ∀ x ∈ G.ps, x ∈ Ts.ts) (h : EE S Ts ta es (webD n ps)) (h1 : EE S Ts tb es (lotD l)) : EE S Ts (tCall (sp_covers G) [] C8.E0 (tCons ta (tCons tb tNil))) es (.bool (cov n ps l)) := ee_call (aa_cons h (aa_cons h1 aa_nil)) ⟨n, ps, l, rfl, W, L, rfl⟩ hP
theorem lotsC_mem {l : List Nat} : l ∈ lotsC n ps ↔ Lot n l ∧ cov n ps l = true := by unfold lotsC; rw [List.mem_filter, lots_mem']
theorem all_lot (n : Nat) : Lot n (List.range n) := ⟨fun i hi => List.mem_range.mp hi, range_up n⟩
theorem all_cov (n : Nat) (ps : List (Nat × Nat)) : cov n ps (List.range n) = true := cov_iff.mpr fun j hj => .inl (List.mem_range.mpr hj)
theorem lotsC_ne : lotsC n ps ≠ [] := List.ne_nil_of_mem (lotsC_mem.mpr ⟨all_lot n, all_cov n ps⟩)
theorem lotsC_len (h : n ≤ 5) : (lotsC n ps).length ≤ 32 := by
  have h1 : (lotsC n ps).length ≤ (lots n).length := List.length_filter_le _ _
  rw [lots_len] at h1
  have := pow5 h
  omega
theorem min_of {ns : List Nat} (h : ns ≠ []) : ns.min?.getD 0 ∈ ns ∧ ∀ y ∈ ns, ns.min?.getD 0 ≤ y := by
  cases e : ns.min? with
  | none => exact absurd (List.min?_eq_none_iff.mp e) h
  | some m =>
    have := (List.min?_eq_some_iff (α := Nat)).mp e
    exact this
theorem rc_minN {K : PySem.W.Frag} {B : Hp} {ns : List Nat} (h : ns ≠ []) : RC S (uMin K) [.list (ns.map natD)] B (natD (ns.min?.getD 0)) := by
  obtain ⟨h1, h2⟩ := min_of h
  have := rc_minI (S := S) (K := K) (B := B) (ns := ns.map fun (k : Nat) => (k : Int)) (m := ((ns.min?.getD 0 : Nat) : Int)) (List.mem_map.mpr ⟨_, h1, rfl⟩) (fun y hy => by
    obtain ⟨k, hk, rfl⟩ := List.mem_map.mp hy
    have := h2 k hk
    omega)
  rw [List.map_map] at this
  exact this
theorem e_least_lots {ds : List PyData} (h : R_least_lots ds d) : ESr S ⟨G.ps, []⟩ (t_least_lots G) (ds.map some ++ List.replicate (4 - ds.length) none) d := by
  obtain ⟨n, ps, rfl, W, rfl⟩ := h
  have hn := W.le
  have h1 : (lots n).length ≤ 100000 := by rw [lots_len]; have := pow5 hn; omega
  have h2 : (lotsC n ps).length ≤ 100000 := by have := lotsC_len (ps := ps) hn; omega
  refine .inl (es_seq (es_set (ee_lcV (l := lots n) (F := lotD) (f := lotD) (p := cov n ps) (ei_seqL (c_all_lots W tab_of (ee_var rfl))) (by simp) h1 fun l hl S' hz => ⟨tt_B (c_covers W (lots_mem'.mp hl) tab_of (ee_var rfl) (ee_var rfl)), fun _ => ee_var rfl⟩))
    (es_seq (es_set (ee_cb (aa_cons (ee_is (ee_lcV (l := lotsC n ps) (F := lotD) (f := fun l => natD l.length) (p := fun _ => true) (ei_seqL (ee_var rfl)) (by simp) h2 fun l hl S' hz => ⟨tt_yes, fun _ => ee_is (ee_cb (aa_cons (ee_var (d := .tuple (l.map natD)) rfl) aa_nil) fun _ => rc_lenT) (by rw [List.length_map])⟩) (show _ = PyData.list (((lotsC n ps).map List.length).map natD) by rw [filter_yes, List.map_map]; rfl)) aa_nil) fun _ => rc_minN (by simpa using lotsC_ne)))
      (es_ret (ee_is (ee_lcV (l := lotsC n ps) (F := lotD) (f := lotD) (p := fun l => decide (l.length = fewOf n ps)) (ei_seqL (ee_var rfl)) (by simp) h2 fun l hl S' hz => ⟨et_is' (tt_test (ee_op (ee_cb (aa_cons (ee_var (d := .tuple (l.map natD)) rfl) aa_nil) fun _ => rc_lenT) (ee_var rfl) fun _ => rv_eqI)) ?_, fun _ => ee_var rfl⟩) rfl))))
  rw [List.length_map]
  show decide ((l.length : Int) = ((fewOf n ps : Nat) : Int)) = _
  rw [Bool.eq_iff_iff, decide_eq_true_iff, decide_eq_true_iff]
  omega
theorem c_least_lots (W : Web n ps) (hP : ∀ x ∈ G.ps, x ∈ Ts.ts) (h : EE S Ts ta es (webD n ps)) : EE S Ts (tCall (sp_least_lots G) [] C8.E0 (tCons ta tNil)) es (.list ((leastL n ps).map lotD)) := ee_call (aa_cons h aa_nil) ⟨n, ps, rfl, W, rfl⟩ hP
theorem least_ne : leastL n ps ≠ [] := by
  have h : (lotsC n ps).map List.length ≠ [] := by simpa using lotsC_ne
  obtain ⟨h1, _⟩ := min_of h
  obtain ⟨l, hl, e⟩ := List.mem_map.mp h1
  exact List.ne_nil_of_mem (List.mem_filter.mpr ⟨hl, decide_eq_true e⟩)
theorem least_len {l : List Nat} (h : l ∈ leastL n ps) : l.length = fewOf n ps := of_decide_eq_true (List.mem_filter.mp h).2
theorem e_forget_row {ds : List PyData} (h : R_forget_row ds d) : ESr S ⟨G.ps, []⟩ (t_forget_row G) (ds.map some ++ List.replicate (1 - ds.length) none) d := by
  obtain ⟨n, ps, l, rfl, W, hl, rfl⟩ := h
  exact .inl (es_seq (es_drop (c_need_web W tab_of (ee_var rfl))) (es_ret (ee_op (c_least_lots W tab_of (ee_var rfl)) ee_int fun _ => rv_ixL (i := (0 : Nat)) (atI_nat (by rw [List.getElem?_map, hl]; rfl)))))
theorem e_forget_length {ds : List PyData} (h : R_forget_length ds d) : ESr S ⟨G.ps, []⟩ (t_forget_length G) (ds.map some ++ List.replicate (1 - ds.length) none) d := by
  obtain ⟨n, ps, rfl, W, rfl⟩ := h
  obtain ⟨l, r, e⟩ := List.exists_cons_of_ne_nil (least_ne (n := n) (ps := ps))
  have hl : l.length = fewOf n ps := least_len (by rw [e]; exact List.mem_cons_self)
  refine .inl (es_seq (es_drop (c_need_web W tab_of (ee_var rfl))) (es_ret (ee_is (ee_cb (aa_cons (ee_op (c_least_lots W tab_of (ee_var rfl)) ee_int fun _ => rv_ixL (z := .tuple (l.map natD)) (i := (0 : Nat)) (atI_nat (by rw [e]; rfl))) aa_nil) fun _ => rc_lenT) ?_)))
  rw [List.length_map, hl]
theorem e_forget_lots {ds : List PyData} (h : R_forget_lots ds d) : ESr S ⟨G.ps, []⟩ (t_forget_lots G) (ds.map some ++ List.replicate (1 - ds.length) none) d := by
  obtain ⟨n, ps, rfl, W, rfl⟩ := h
  exact .inl (es_seq (es_drop (c_need_web W tab_of (ee_var rfl))) (es_ret (ee_cb (aa_cons (c_least_lots W tab_of (ee_var rfl)) aa_nil) fun _ => rc_tupL)))
end
end KV
set_option Elab.async false
set_option linter.all false
set_option maxRecDepth 100000
set_option maxHeartbeats 4000000
/-! Evaluation: costs, the cheapest lots. -/
namespace KV
open PySem PySem.Spec PyProof.Rows L2 GxR KO Smx
open PySem.W (alike dataLt dataLe AllAlike AlikeAll minD)
section
variable {G : Gd} {S : Hs} {Ts : Ks} {es : Es} {te ta tb tc : TE} {tr : TA} {d v : PyData} {n i j : Nat} {ps : List (Nat × Nat)} {l cs : List Nat}
theorem e_need_costs {ds : List PyData} (hG : GOk G) (h : R_need_costs ds d) : ESr S ⟨G.ps, []⟩ (t_need_costs G) (ds.map some ++ List.replicate (2 - ds.length) none) d := by
  obtain ⟨n, ps, cs, rfl, W, Ct, rfl⟩ := h
  refine .inr ⟨rfl, _, es_seq (es_drop (c_need_web W tab_of (ee_var rfl))) (es_never (tt_or (tt_not (tt_B (ee_isTup (ee_var rfl) (plain_lot cs)))) fun _ => tt_or (tt_test (ee_op (ee_cb (aa_cons (ee_var (d := .tuple (cs.map natD)) rfl) aa_nil) fun _ => rc_lenT) (ee_web0 (ee_var rfl)) fun _ => rv_neI)) fun _ =>
    tt_not (tt_B (ee_all (fun y => isIn y 0 1000) hG.cst (ei_seqT (ee_var (d := .tuple (cs.map natD)) rfl)) fun y hy => ?_))) ?_)⟩
  · exact c_is_in tab_of (ee_var rfl) (plain_mem' (plain_nats cs) hy) ee_int ee_int
  · have : (cs.map natD).all (fun y => isIn y 0 1000) = true := by
      rw [List.all_eq_true]
      intro y hy
      obtain ⟨c, hc, rfl⟩ := List.mem_map.mp hy
      have := Ct.le c hc
      exact isIn_nat (by omega) (by omega)
    rw [this, List.length_map, Ct.len]
    simp [isTupD, lotD]
theorem c_need_costs (W : Web n ps) (Ct : Csts n cs) (hP : ∀ x ∈ G.ps, x ∈ Ts.ts) (h : EE S Ts ta es (webD n ps)) (h1 : EE S Ts tb es (lotD cs)) : EE S Ts (tCall (sp_need_costs G) [] C8.E0 (tCons ta (tCons tb tNil))) es .none := ee_call (aa_cons h (aa_cons h1 aa_nil)) ⟨n, ps, cs, rfl, W, Ct, rfl⟩ hP
theorem e_cost_of {ds : List PyData} (hG : GOk G) (h : R_cost_of ds d) : ESr S ⟨G.ps, []⟩ (t_cost_of G) (ds.map some ++ List.replicate (2 - ds.length) none) d := by
  obtain ⟨n, cs, l, rfl, Ct, hn, L, rfl⟩ := h
  have hl := L.len
  refine .inl (es_o (es_ret (ee_sum (fun y => match y with
    | .int k => (cs.getD k.toNat 0 : Nat)
    | _ => 0) hG.cof (ei_seqT (ee_var (d := .tuple (l.map natD)) rfl)) (fun y hy => ?_) (fun y hy => ?_) (by rw [List.length_map]; omega))) ?_)
  · obtain ⟨k, hk, rfl⟩ := List.mem_map.mp hy
    have hk' : k < cs.length := by have := L.lt k hk; rw [Ct.len]; exact this
    refine ee_is (ee_op (ee_var (d := .tuple (cs.map natD)) rfl) (ee_var rfl) fun _ => rv_ixT (i := (k : Int)) (atI_nat (getL_map hk'))) ?_
    show natD _ = natD _
    rw [Int.toNat_natCast, getD_of (List.getElem?_eq_getElem hk')]
  · obtain ⟨k, hk, rfl⟩ := List.mem_map.mp hy
    have hk' : k < cs.length := by have := L.lt k hk; rw [Ct.len]; exact this
    show (0 : Int) ≤ ((cs.getD (Int.toNat (k : Int)) 0 : Nat) : Int) ∧ ((cs.getD (Int.toNat (k : Int)) 0 : Nat) : Int) ≤ _
    rw [Int.toNat_natCast, getD_of (List.getElem?_eq_getElem hk')]
    have := Ct.le _ (List.getElem_mem hk')
    omega
  · congr 2
    unfold cost
    clear hl L
    induction l with
    | nil => rfl
    | cons a l ih =>
      rw [List.map_cons, List.map_cons, List.map_cons, List.sum_cons, List.sum_cons, ih, Int.natCast_add]
      show (((cs.getD (Int.toNat (a : Int)) 0 : Nat) : Int)) + _ = _
      rw [Int.toNat_natCast]
theorem c_cost_of (Ct : Csts n cs) (hn : n ≤ 5) (L : Lot n l) (hP : ∀ x ∈ G.ps, x ∈ Ts.ts) (h : EE S Ts ta es (lotD cs)) (h1 : EE S Ts tb es (lotD l)) : EE S Ts (tCall (sp_cost_of G) [] C8.E0 (tCons ta (tCons tb tNil))) es (natD (cost cs l)) := ee_call (aa_cons h (aa_cons h1 aa_nil)) ⟨n, cs, l, rfl, Ct, hn, L, rfl⟩ hP
/-- a priced lot -/
def prc (cs : List Nat) (l : List Nat) : PyData := .tuple [natD (cost cs l), lotD l]
theorem plain_prc (cs l : List Nat) : (prc cs l).plain = true := by unfold prc; rw [PyData.plain, PyData.plainAll, PyData.plainAll, PyData.plainAll, plain_lot]; rfl
theorem depth_prc (cs l : List Nat) : (prc cs l).depth = 2 := by unfold prc; simp [PyData.depth, PyData.depthAll, depth_lot]
theorem alike_prc (cs l m : List Nat) : alike (prc cs l) (prc cs m) = true := by simp [prc, alike, PySem.W.alikeAll, alike_lots]
theorem lt_prc (cs l m : List Nat) : (dataLt (prc cs l) (prc cs m) = true → cost cs l ≤ cost cs m) ∧ (dataLt (prc cs l) (prc cs m) = false → cost cs m ≤ cost cs l) := by
  unfold prc
  rw [PySem.W.dataLt_pair (by simp [alike]) (alike_lots l m), eqv_int, PySem.W.dataLt_int]
  by_cases h : ((cost cs l : Nat) : Int) = ((cost cs m : Nat) : Int)
  · constructor <;> intro _ <;> omega
  · rw [if_neg (by simpa using h)]
    constructor
    · intro q
      have := of_decide_eq_true q
      omega
    · intro q
      have := of_decide_eq_false q
      omega
theorem minD_prc (cs : List Nat) : ∀ (ls : List (List Nat)) (l : List Nat), ∃ m, m ∈ l :: ls ∧ minD (prc cs l) (ls.map (prc cs)) = prc cs m ∧ ∀ y ∈ l :: ls, cost cs m ≤ cost cs y
  | [], l => ⟨l, List.mem_cons_self, rfl, fun y hy => by rw [List.mem_singleton.mp hy]; exact Nat.le_refl _⟩
  | a :: ls, l => by
    show ∃ m, _ ∧ minD (if dataLt (prc cs a) (prc cs l) then prc cs a else prc cs l) (ls.map (prc cs)) = _ ∧ _
    obtain ⟨h1, h2⟩ := lt_prc cs a l
    cases e : dataLt (prc cs a) (prc cs l) with
    | true =>
      obtain ⟨m, q1, q2, q3⟩ := minD_prc cs ls a
      refine ⟨m, ?_, q2, fun y hy => ?_⟩
      · rcases List.mem_cons.mp q1 with z | z
        · exact List.mem_cons_of_mem _ (z ▸ List.mem_cons_self)
        · exact List.mem_cons_of_mem _ (List.mem_cons_of_mem _ z)
      · have := q3 a List.mem_cons_self
        have := h1 e
        rcases List.mem_cons.mp hy with z | hy
        · subst z; omega
        · exact q3 y hy
    | false =>
      obtain ⟨m, q1, q2, q3⟩ := minD_prc cs ls l
      refine ⟨m, ?_, q2, fun y hy => ?_⟩
      · rcases List.mem_cons.mp q1 with z | z
        · exact z ▸ List.mem_cons_self
        · exact List.mem_cons_of_mem _ (List.mem_cons_of_mem _ z)
      · have := q3 l List.mem_cons_self
        have := h2 e
        rcases List.mem_cons.mp hy with z | hy
        · subst z; omega
        · rcases List.mem_cons.mp hy with z | hy
          · subst z; omega
          · exact q3 y (List.mem_cons_of_mem _ hy)
theorem best_of (n : Nat) (ps : List (Nat × Nat)) (cs : List Nat) : (∃ l ∈ lotsC n ps, cost cs l = bestC n ps cs) ∧ ∀ l ∈ lotsC n ps, bestC n ps cs ≤ cost cs l := by
  have h : (lotsC n ps).map (cost cs) ≠ [] := by simpa using lotsC_ne
  obtain ⟨h1, h2⟩ := min_of h
  obtain ⟨l, hl, e⟩ := List.mem_map.mp h1
  exact ⟨⟨l, hl, e⟩, fun l hl => h2 _ (List.mem_map.mpr ⟨l, hl, rfl⟩)⟩
/-- the cheapest: a lot that costs least -/
theorem chp_is (n : Nat) (ps : List (Nat × Nat)) (cs : List Nat) : ∃ m, m ∈ lotsC n ps ∧ chp n ps cs = prc cs m ∧ cost cs m = bestC n ps cs := by
  obtain ⟨l, r, e⟩ := List.exists_cons_of_ne_nil (lotsC_ne (n := n) (ps := ps))
  obtain ⟨m, q1, q2, q3⟩ := minD_prc cs r l
  rw [← e] at q1 q3
  obtain ⟨⟨l', hl', e'⟩, hb⟩ := best_of n ps cs
  refine ⟨m, q1, ?_, ?_⟩
  · rw [← q2]
    unfold chp
    rw [e]
    rfl
  · have := q3 l' hl'
    have := hb m q1
    omega
theorem e_cheapest {ds : List PyData} (h : R_cheapest ds d) : ESr S ⟨G.ps, []⟩ (t_cheapest G) (ds.map some ++ List.replicate (3 - ds.length) none) d := by
  obtain ⟨n, ps, cs, rfl, W, Ct, rfl⟩ := h
  have hn := W.le
  have h1 : (lots n).length ≤ 100000 := by rw [lots_len]; have := pow5 hn; omega
  obtain ⟨l, r, e⟩ := List.exists_cons_of_ne_nil (lotsC_ne (n := n) (ps := ps))
  have ec : chp n ps cs = minD (prc cs l) (r.map (prc cs)) := by unfold chp; rw [e]; rfl
  obtain ⟨m, q1, q2, q3⟩ := minD_prc cs r l
  have lc : EE S ⟨G.ps, []⟩ (tLc (iSeq G.K (tCall (sp_all_lots G) [] C8.E0 (tCons (tVar 0) tNil))) (gName 2) (tB (tCall (sp_covers G) [] C8.E0 (tCons (tVar 0) (tCons (tVar 2) tNil)))) (tTup (tCons (tCall (sp_cost_of G) [] C8.E0 (tCons (tVar 1) (tCons (tVar 2) tNil))) (tCons (tVar 2) tNil))) [2]) [some (webD n ps), some (lotD cs), none] (.list (prc cs l :: r.map (prc cs))) :=
    ee_is (ee_lcV (l := lots n) (F := lotD) (f := prc cs) (p := cov n ps) (ei_seqL (c_all_lots W tab_of (ee_var rfl))) (by simp) h1 fun l hl S' hz => ⟨tt_B (c_covers W (lots_mem'.mp hl) tab_of (ee_var rfl) (ee_var rfl)), fun _ => ee_tup (aa_cons (c_cost_of Ct hn (lots_mem'.mp hl) tab_of (ee_var rfl) (ee_var rfl)) (aa_cons (ee_var rfl) aa_nil)) (by simp)⟩) (by
      show PyData.list ((lotsC n ps).map (prc cs)) = _
      rw [e]; rfl)
  rw [ec]
  refine .inl (es_ret (ee_cb (aa_cons lc aa_nil) fun _ => rc_minD ⟨fun x hx y hy => ?_, fun x hx => ?_⟩ ?_ ?_ ?_))
  · obtain ⟨a, _, rfl⟩ := List.mem_map.mp (show x ∈ (l :: r).map (prc cs) from hx)
    obtain ⟨b, _, rfl⟩ := List.mem_map.mp (show y ∈ (l :: r).map (prc cs) from hy)
    exact alike_prc cs a b
  · obtain ⟨a, _, rfl⟩ := List.mem_map.mp (show x ∈ (l :: r).map (prc cs) from hx)
    unfold prc
    simp
  · exact Nat.le_trans (depth_map (n := 2) (fun a => Nat.le_of_eq (depth_prc cs a)) (l :: r)) (by omega)
  · exact plain_map (plain_prc cs) (l :: r)
  · rw [q2]; exact plain_prc cs m
theorem c_cheapest (W : Web n ps) (Ct : Csts n cs) (hP : ∀ x ∈ G.ps, x ∈ Ts.ts) (h : EE S Ts ta es (webD n ps)) (h1 : EE S Ts tb es (lotD cs)) : EE S Ts (tCall (sp_cheapest G) [] C8.E0 (tCons ta (tCons tb tNil))) es (chp n ps cs) := ee_call (aa_cons h (aa_cons h1 aa_nil)) ⟨n, ps, cs, rfl, W, Ct, rfl⟩ hP
theorem e_cheap_forget {ds : List PyData} (h : R_cheapest ds d) : ESr S ⟨G.ps, []⟩ (t_cheap_forget G) (ds.map some ++ List.replicate (2 - ds.length) none) d := by
  obtain ⟨n, ps, cs, rfl, W, Ct, rfl⟩ := h
  exact .inl (es_seq (es_drop (c_need_costs W Ct tab_of (ee_var rfl) (ee_var rfl))) (es_ret (c_cheapest W Ct tab_of (ee_var rfl) (ee_var rfl))))
theorem e_shows_cheap_forget {ds : List PyData} (h : R_shows_cheap_forget ds d) : ESr S ⟨G.ps, []⟩ (t_shows_cheap_forget G) (ds.map some ++ List.replicate (4 - ds.length) none) d := by
  obtain ⟨n, ps, cs, v, rfl, W, Ct, hp, hfu, hf, rfl⟩ := h
  have hn := W.le
  obtain ⟨m, hm, hchp, hcm⟩ := chp_is n ps cs
  refine .inl (es_seq (es_drop (c_need_costs W Ct tab_of (ee_var rfl) (ee_var rfl))) (es_seq (es_set (d := natD (bestC n ps cs)) (ee_op (ee_is (c_cheapest W Ct tab_of (ee_var rfl) (ee_var rfl)) hchp) ee_int fun _ => rv_ixT (by rw [← hcm]; rfl))) ?_))
  show ES S ⟨G.ps, []⟩ _ [some (webD n ps), some (lotD cs), some v, some (natD (bestC n ps cs))] _
  by_cases ht : isTupD v = true
  · obtain ⟨xs, rfl⟩ : ∃ xs, v = .tuple xs := by cases v <;> first | exact ⟨_, rfl⟩ | cases ht
    have hpx : PyData.plainAll xs = true := by rw [PyData.plain] at hp; exact hp
    by_cases h2 : xs.length = 2
    · obtain ⟨a, u, rfl⟩ : ∃ a u, xs = [a, u] := by
        match xs, h2 with
        | [a, u], _ => exact ⟨a, u, rfl⟩
      have hpa : a.plain = true := (plain_cons hpx).1
      have hpu : u.plain = true := (plain_cons (plain_cons hpx).2).1
      have e0 : ∀ {S : Hs} {es : Es}, EE S ⟨G.ps, []⟩ (tVar 2) es (.tuple [a, u]) → EE S ⟨G.ps, []⟩ (tOp (rIx G.K) (tVar 2) (tC (.int 0))) es a := fun q => ee_op q ee_int fun _ => rv_ixT rfl
      have e1 : ∀ {S : Hs} {es : Es}, EE S ⟨G.ps, []⟩ (tVar 2) es (.tuple [a, u]) → EE S ⟨G.ps, []⟩ (tOp (rIx G.K) (tVar 2) (tC (.int 1))) es u := fun q => ee_op q ee_int fun _ => rv_ixT rfl
      by_cases hb : isIn a (bestC n ps cs) (bestC n ps cs) = true
      · have ha : a = natD (bestC n ps cs) := by
          cases a with
          | int k =>
            have : (decide (((bestC n ps cs : Nat) : Int) ≤ k) && decide (k ≤ ((bestC n ps cs : Nat) : Int))) = true := hb
            simp only [Bool.and_eq_true, decide_eq_true_eq] at this
            have : k = ((bestC n ps cs : Nat) : Int) := by omega
            rw [this]
          | _ => cases hb
        subst ha
        refine es_seq (es_if (b := false) (et_is' (tt_or (tt_not (tt_B (ee_isTup (ee_var rfl) hp))) fun _ => tt_or (tt_test (ee_op (ee_cb (aa_cons (ee_var rfl) aa_nil) fun _ => rc_lenT) ee_int fun _ => rv_neI)) fun _ =>
          tt_not (tt_B (c_is_in tab_of (e0 (ee_var rfl)) hpa (ee_var rfl) (ee_var rfl)))) (by rw [hb]; simp [isTupD])) (fun q => nomatch q) fun _ => es_skip) ?_
        have hl := c_is_lot (G := G) (ta := tVar 0) (Ts := ⟨G.ps, []⟩) (S := S) (es := [some (webD n ps), some (lotD cs), some (.tuple [natD (bestC n ps cs), u]), some (natD (bestC n ps cs))]) W tab_of (ee_var rfl) (e1 (ee_var rfl)) hpu (hfu _ _ rfl)
        have hsh : showsC n ps cs (.tuple [natD (bestC n ps cs), u]) = match lotOf n u with
          | some l => cov n ps l && decide (cost cs l = bestC n ps cs)
          | none => false := by
          show (decide _ && _) = _
          rw [decide_eq_true (rfl : ((bestC n ps cs : Nat) : Int) = _), Bool.true_and]
          all_goals (cases lotOf n u <;> rfl)
        rw [hsh]
        cases eu : lotOf n u with
        | none =>
          rw [eu] at hl
          exact es_ret (ee_is (ee_and (b := false) hl fun q => nomatch q) rfl)
        | some l =>
          obtain ⟨rfl, L⟩ := lotOf_some eu
          rw [eu] at hl
          refine es_ret (ee_is (ee_and hl fun _ => ee_and (c_covers W L tab_of (ee_var rfl) (e1 (ee_var rfl))) fun _ => ee_op (c_cost_of Ct hn L tab_of (ee_var rfl) (e1 (ee_var rfl))) (ee_var rfl) fun _ => rv_eqI) ?_)
          show PyData.bool (true && (cov n ps l && decide (((cost cs l : Nat) : Int) = ((bestC n ps cs : Nat) : Int)))) = _
          rw [Bool.true_and]
          congr 2
          rw [Bool.eq_iff_iff, decide_eq_true_iff, decide_eq_true_iff]
          omega
      · have hb : isIn a (bestC n ps cs) (bestC n ps cs) = false := by simpa using hb
        refine es_o (es_seq' (es_if (b := true) (et_is' (tt_or (tt_not (tt_B (ee_isTup (ee_var rfl) hp))) fun _ => tt_or (tt_test (ee_op (ee_cb (aa_cons (ee_var rfl) aa_nil) fun _ => rc_lenT) ee_int fun _ => rv_neI)) fun _ =>
          tt_not (tt_B (c_is_in tab_of (e0 (ee_var rfl)) hpa (ee_var rfl) (ee_var rfl)))) (by rw [hb]; simp [isTupD])) (fun _ => es_ret ee_bl) fun q => nomatch q)) ?_
        cases a with
        | int k =>
          have : (decide (((bestC n ps cs : Nat) : Int) ≤ k) && decide (k ≤ ((bestC n ps cs : Nat) : Int))) = false := hb
          have hk : k ≠ ((bestC n ps cs : Nat) : Int) := by
            intro z; subst z; simp at this
          show Out.rt (.bool false) = .rt (.bool (decide _ && _))
          rw [decide_eq_false hk]; rfl
        | _ => rfl
    · have h3 : ¬ ((xs.length : Nat) : Int) = 2 := by omega
      refine es_o (es_seq' (es_if (b := true) (et_is' (tt_or (tt_not (tt_B (ee_isTup (ee_var rfl) hp))) fun _ => tt_or (b := false) (tt_test (ee_op (ee_cb (aa_cons (ee_var (d := .tuple xs) rfl) aa_nil) fun _ => rc_lenT) ee_int fun _ => rv_neI)) fun q => by simp [h3] at q) (by simp [h3])) (fun _ => es_ret ee_bl) fun q => nomatch q)) ?_
      unfold showsC
      split
      · rename_i e
        injection e with e
        subst e
        exact absurd rfl h2
      · rfl
  · have ht : isTupD v = false := by simpa using ht
    refine es_o (es_seq' (es_if (b := true) (et_is' (tt_or (b := true) (tt_not (tt_B (ee_isTup (ee_var rfl) hp))) fun q => ?_) ?_) (fun _ => es_ret ee_bl) fun q => nomatch q)) ?_
    · rw [ht] at q; cases q
    · rw [ht]; rfl
    · cases v <;> first | rfl | cases ht
end
end KV
set_option Elab.async false
set_option linter.all false
set_option maxRecDepth 100000
set_option maxHeartbeats 4000000
/-! Evaluation: ratios. -/
namespace KV
open PySem PySem.Spec PyProof.Rows L2 GxR KO Smx
theorem Sz.mono {e f : Nat} {i : Int} (h : Sz e i) (hf : e ≤ f) : Sz f i := Nat.lt_of_lt_of_le h (Nat.pow_le_pow_right (by omega) hf)
theorem SzR.mono {e f : Nat} {q : Rat} (h : SzR e q) (hf : e ≤ f) : SzR f q := ⟨Nat.lt_of_lt_of_le h.1 (Nat.pow_le_pow_right (by omega) hf), Nat.lt_of_lt_of_le h.2 (Nat.pow_le_pow_right (by omega) hf)⟩
theorem sz_log {e : Nat} {i : Int} (h : Sz e i) : i.natAbs.log2 ≤ e := by
  by_cases z : i.natAbs = 0
  · rw [z]; simp
  · exact Nat.le_of_lt ((Nat.log2_lt z).mpr h)
theorem sz_mulw {e f : Nat} {i j : Int} (h : Sz e i) (h' : Sz f j) (hs : e + f < 1000000) : CMulW i j := Nat.lt_of_le_of_lt (Nat.add_le_add (sz_log h) (sz_log h')) hs
theorem sz_mul {e f : Nat} {i j : Int} (h : Sz e i) (h' : Sz f j) : Sz (e + f) (i * j) := by
  unfold Sz at *
  rw [Int.natAbs_mul, Nat.pow_add]
  by_cases z : j.natAbs = 0
  · rw [z, Nat.mul_zero]; exact Nat.mul_pos (Nat.pow_pos (by omega)) (Nat.pow_pos (by omega))
  · exact Nat.lt_of_lt_of_le (Nat.mul_lt_mul_of_pos_right h (by omega)) (Nat.mul_le_mul_left _ (Nat.le_of_lt h'))
theorem sz_den {e : Nat} {q : Rat} (h : SzR e q) : Sz e (q.den : Int) := by unfold Sz; rw [Int.natAbs_natCast]; exact h.2
theorem sz_num {e : Nat} {q : Rat} (h : SzR e q) : Sz e q.num := h.1
/-- what ratio computes -/
theorem ratio_pos {a b : Int} (hb : 0 < b) : (Rat.divInt a b).num = a / ((Nat.gcd a.natAbs b.natAbs : Nat) : Int) ∧ ((Rat.divInt a b).den : Int) = b / ((Nat.gcd a.natAbs b.natAbs : Nat) : Int) := by
  have hg : Int.gcd b a = Nat.gcd a.natAbs b.natAbs := by rw [Int.gcd_comm]; rfl
  constructor
  · rw [Rat.num_divInt, hg, Int.sign_eq_one_of_pos hb, Int.one_mul]
  · rw [Rat.den_divInt, if_neg (by omega), hg, Int.natCast_ediv]
    congr 1
    omega
theorem ratio_neg {a b : Int} (hb : b < 0) : (Rat.divInt a b).num = a.fdiv (0 - ((Nat.gcd a.natAbs b.natAbs : Nat) : Int)) ∧ ((Rat.divInt a b).den : Int) = b.fdiv (0 - ((Nat.gcd a.natAbs b.natAbs : Nat) : Int)) := by
  have hg : Int.gcd b a = Nat.gcd a.natAbs b.natAbs := by rw [Int.gcd_comm]; rfl
  have hpos : 0 < Nat.gcd a.natAbs b.natAbs := Nat.gcd_pos_of_pos_right _ (by omega)
  have d1 : ((Nat.gcd a.natAbs b.natAbs : Nat) : Int) ∣ a := Int.ofNat_dvd_left.mpr (Nat.gcd_dvd_left _ _)
  have d2 : ((Nat.gcd a.natAbs b.natAbs : Nat) : Int) ∣ b := Int.ofNat_dvd_left.mpr (Nat.gcd_dvd_right _ _)
  generalize hG : ((Nat.gcd a.natAbs b.natAbs : Nat) : Int) = g at d1 d2
  have hgp : 0 < g := by omega
  have key : ∀ c : Int, g ∣ c → c.fdiv (0 - g) = - c / g := by
    rintro c ⟨k, rfl⟩
    have e1 : g * k = (0 - g) * (-k) := by rw [Int.zero_sub, Int.neg_mul_neg]
    have e2 : -(g * k) = g * (-k) := by rw [Int.mul_neg]
    rw [e2, Int.mul_ediv_cancel_left _ (by omega), e1, Int.mul_fdiv_cancel_left _ (by omega)]
  constructor
  · rw [Rat.num_divInt, hg, hG, Int.sign_eq_neg_one_of_neg hb, key a d1, Int.neg_one_mul]
  · rw [Rat.den_divInt, if_neg (by omega), hg, Int.natCast_ediv, hG, key b d2]
    congr 1
    omega
section
variable {G : Gd} {S : Hs} {Ts : Ks} {es : Es} {te ta tb tc : TE} {tr : TA} {d v : PyData} {q r : Rat}
theorem gcd_sz {e : Nat} {a b : Int} (hb : b ≠ 0) (h : Sz e b) : Sz e ((Nat.gcd a.natAbs b.natAbs : Nat) : Int) := by
  unfold Sz at *
  rw [Int.natAbs_natCast]
  exact Nat.lt_of_le_of_lt (Nat.gcd_le_right _ (by omega)) h
theorem e_ratio {ds : List PyData} (h : R_ratio ds d) : ESr S ⟨G.ps, []⟩ (t_ratio G) (ds.map some ++ List.replicate (3 - ds.length) none) d := by
  obtain ⟨a, b, rfl, hb, h1, h2, rfl⟩ := h
  have hpos : 0 < Nat.gcd a.natAbs b.natAbs := Nat.gcd_pos_of_pos_right _ (by omega)
  have hgs := gcd_sz (a := a) hb h1
  refine .inl ?_
  by_cases hp : 0 < b
  · obtain ⟨e1, e2⟩ := ratio_pos (a := a) hp
    have hc : CDivW a ((Nat.gcd a.natAbs b.natAbs : Nat) : Int) := ⟨by omega, Nat.lt_of_le_of_lt (sz_log hgs) (by decide)⟩
    refine es_seq (es_set (ee_if (b := true) (d := .int ((Nat.gcd a.natAbs b.natAbs : Nat) : Int)) (et_is' (tt_test (ee_op (ee_var rfl) ee_int fun _ => rv_gt)) (by simpa using hp)) (fun _ => ee_cb (aa_cons (ee_var rfl) (aa_cons (ee_var rfl) aa_nil)) fun _ => rc_gcd) fun q => nomatch q)) (es_ret (ee_is (ee_tup (aa_cons (ee_op (ee_var rfl) (ee_var rfl) fun _ => rv_fdvP hc) (aa_cons (ee_op (ee_var rfl) (ee_var rfl) fun _ => rv_fdvP hc) aa_nil)) (by simp)) ?_))
    unfold ratD
    rw [e1, e2]
  · have hn : b < 0 := by omega
    obtain ⟨e1, e2⟩ := ratio_neg (a := a) hn
    have hg29 := gcd_sz (a := a) hb (h2 hn)
    have hc : CDivN a (0 - ((Nat.gcd a.natAbs b.natAbs : Nat) : Int)) := ⟨by omega, by
      unfold Sz at hg29
      have : (2 : Nat) ^ 29 < 1073741824 := by decide
      omega⟩
    refine es_seq (es_set (ee_if (b := false) (d := .int (0 - ((Nat.gcd a.natAbs b.natAbs : Nat) : Int))) (et_is' (tt_test (ee_op (ee_var rfl) ee_int fun _ => rv_gt)) (by simp; omega)) (fun q => nomatch q) fun _ => ee_op ee_int (ee_cb (aa_cons (ee_var rfl) (aa_cons (ee_var rfl) aa_nil)) fun _ => rc_gcd) fun _ => rv_sub)) (es_ret (ee_is (ee_tup (aa_cons (ee_op (ee_var rfl) (ee_var rfl) fun _ => rv_fdvN hc) (aa_cons (ee_op (ee_var rfl) (ee_var rfl) fun _ => rv_fdvN hc) aa_nil)) (by simp)) ?_))
    unfold ratD
    rw [e1, e2]
theorem c_ratio {a b : Int} (hP : ∀ x ∈ G.ps, x ∈ Ts.ts) (hb : b ≠ 0) (h1 : Sz 4000 b) (h2 : b < 0 → Sz 29 b) (h : EE S Ts ta es (.int a)) (h' : EE S Ts tb es (.int b)) : EE S Ts (tCall (sp_ratio G) [] C8.E0 (tCons ta (tCons tb tNil))) es (ratD (Rat.divInt a b)) := ee_call (aa_cons h (aa_cons h' aa_nil)) ⟨a, b, rfl, hb, h1, h2, rfl⟩ hP
theorem ee_num (h : EE S Ts te es (ratD q)) : EE S Ts (tOp (rIx G.K) te (tC (.int 0))) es (.int q.num) := ee_op h ee_int fun _ => rv_ixT rfl
theorem ee_den (h : EE S Ts te es (ratD q)) : EE S Ts (tOp (rIx G.K) te (tC (.int 1))) es (.int q.den) := ee_op h ee_int fun _ => rv_ixT rfl
theorem den_pos (q : Rat) : (0 : Int) < q.den := by have := q.den_pos; omega
theorem den2 (q r : Rat) : (0 : Int) < (q.den : Int) * (r.den : Int) := Int.mul_pos (den_pos q) (den_pos r)
theorem rat_add (q r : Rat) : Rat.divInt (q.num * r.den + r.num * q.den) ((q.den : Int) * r.den) = q + r := by rw [Rat.add_def', ← Int.natCast_mul, Rat.divInt_ofNat]
theorem rat_sub (q r : Rat) : Rat.divInt (q.num * r.den - r.num * q.den) ((q.den : Int) * r.den) = q - r := by rw [Rat.sub_def', ← Int.natCast_mul, Rat.divInt_ofNat]
theorem rat_mul (q r : Rat) : Rat.divInt (q.num * r.num) ((q.den : Int) * r.den) = q * r := by rw [Rat.mul_def', ← Int.natCast_mul, Rat.divInt_ofNat]
theorem rat_div (q r : Rat) : Rat.divInt (q.num * r.den) ((q.den : Int) * r.num) = q / r := by
  rw [Rat.div_def, Rat.inv_def, ← Rat.num_divInt_den q, Rat.divInt_mul_divInt, Rat.num_divInt_den]
theorem e_plus {ds : List PyData} (h : R_plus ds d) : ESr S ⟨G.ps, []⟩ (t_plus G) (ds.map some ++ List.replicate (2 - ds.length) none) d := by
  obtain ⟨q, r, rfl, h1, h2, rfl⟩ := h
  have hd := den2 q r
  exact .inl (es_ret (ee_is (c_ratio tab_of (by omega) ((sz_mul (sz_den h1) (sz_den h2)).mono (by omega)) (fun z => by omega) (ee_op (ee_op (ee_num (ee_var rfl)) (ee_den (ee_var rfl)) fun _ => rv_mulI (sz_mulw (sz_num h1) (sz_den h2) (by omega))) (ee_op (ee_num (ee_var rfl)) (ee_den (ee_var rfl)) fun _ => rv_mulI (sz_mulw (sz_num h2) (sz_den h1) (by omega))) fun _ => rv_addI)
    (ee_op (ee_den (ee_var rfl)) (ee_den (ee_var rfl)) fun _ => rv_mulI (sz_mulw (sz_den h1) (sz_den h2) (by omega)))) (by rw [rat_add])))
theorem e_minus {ds : List PyData} (h : R_minus ds d) : ESr S ⟨G.ps, []⟩ (t_minus G) (ds.map some ++ List.replicate (2 - ds.length) none) d := by
  obtain ⟨q, r, rfl, h1, h2, rfl⟩ := h
  have hd := den2 q r
  exact .inl (es_ret (ee_is (c_ratio tab_of (by omega) ((sz_mul (sz_den h1) (sz_den h2)).mono (by omega)) (fun z => by omega) (ee_op (ee_op (ee_num (ee_var rfl)) (ee_den (ee_var rfl)) fun _ => rv_mulI (sz_mulw (sz_num h1) (sz_den h2) (by omega))) (ee_op (ee_num (ee_var rfl)) (ee_den (ee_var rfl)) fun _ => rv_mulI (sz_mulw (sz_num h2) (sz_den h1) (by omega))) fun _ => rv_sub)
    (ee_op (ee_den (ee_var rfl)) (ee_den (ee_var rfl)) fun _ => rv_mulI (sz_mulw (sz_den h1) (sz_den h2) (by omega)))) (by rw [rat_sub])))
theorem e_by {ds : List PyData} (h : R_by ds d) : ESr S ⟨G.ps, []⟩ (t_by G) (ds.map some ++ List.replicate (2 - ds.length) none) d := by
  obtain ⟨q, r, rfl, h1, h2, rfl⟩ := h
  have hd := den2 q r
  exact .inl (es_ret (ee_is (c_ratio tab_of (by omega) ((sz_mul (sz_den h1) (sz_den h2)).mono (by omega)) (fun z => by omega) (ee_op (ee_num (ee_var rfl)) (ee_num (ee_var rfl)) fun _ => rv_mulI (sz_mulw (sz_num h1) (sz_num h2) (by omega)))
    (ee_op (ee_den (ee_var rfl)) (ee_den (ee_var rfl)) fun _ => rv_mulI (sz_mulw (sz_den h1) (sz_den h2) (by omega)))) (by rw [rat_mul])))
theorem e_over {ds : List PyData} (h : R_over ds d) : ESr S ⟨G.ps, []⟩ (t_over G) (ds.map some ++ List.replicate (2 - ds.length) none) d := by
  obtain ⟨q, r, rfl, h1, h2, h0, rfl⟩ := h
  have hn : r.num ≠ 0 := fun z => h0 (Rat.num_eq_zero.mp z)
  have hd : (q.den : Int) * r.num ≠ 0 := Int.mul_ne_zero (by have := den_pos q; omega) hn
  have hs := sz_mul (sz_den h1) (sz_num h2)
  exact .inl (es_ret (ee_is (c_ratio tab_of hd (hs.mono (by omega)) (fun z => hs.mono (by omega)) (ee_op (ee_num (ee_var rfl)) (ee_den (ee_var rfl)) fun _ => rv_mulI (sz_mulw (sz_num h1) (sz_den h2) (by omega)))
    (ee_op (ee_den (ee_var rfl)) (ee_num (ee_var rfl)) fun _ => rv_mulI (sz_mulw (sz_den h1) (sz_num h2) (by omega)))) (by rw [rat_div])))
theorem e_less {ds : List PyData} (h : R_less ds d) : ESr S ⟨G.ps, []⟩ (t_less G) (ds.map some ++ List.replicate (2 - ds.length) none) d := by
  obtain ⟨q, r, rfl, h1, h2, rfl⟩ := h
  refine .inl (es_ret (ee_is (ee_op (ee_op (ee_num (ee_var rfl)) (ee_den (ee_var rfl)) fun _ => rv_mulI (sz_mulw (sz_num h1) (sz_den h2) (by omega))) (ee_op (ee_num (ee_var rfl)) (ee_den (ee_var rfl)) fun _ => rv_mulI (sz_mulw (sz_num h2) (sz_den h1) (by omega))) fun _ => rv_lt) ?_))
  congr 2
  exact propext (Rat.lt_iff q r).symm
theorem e_w_less {ds : List PyData} (h : R_less ds d) : ESr S ⟨G.ps, []⟩ (t_w_less G) (ds.map some ++ List.replicate (2 - ds.length) none) d := e_less h
theorem c_plus (h1 : SzR 1000 q) (h2 : SzR 1000 r) (hP : ∀ x ∈ G.ps, x ∈ Ts.ts) (h : EE S Ts ta es (ratD q)) (h' : EE S Ts tb es (ratD r)) : EE S Ts (tCall (sp_plus G) [] C8.E0 (tCons ta (tCons tb tNil))) es (ratD (q + r)) := ee_call (aa_cons h (aa_cons h' aa_nil)) ⟨q, r, rfl, h1, h2, rfl⟩ hP
theorem c_minus (h1 : SzR 1000 q) (h2 : SzR 1000 r) (hP : ∀ x ∈ G.ps, x ∈ Ts.ts) (h : EE S Ts ta es (ratD q)) (h' : EE S Ts tb es (ratD r)) : EE S Ts (tCall (sp_minus G) [] C8.E0 (tCons ta (tCons tb tNil))) es (ratD (q - r)) := ee_call (aa_cons h (aa_cons h' aa_nil)) ⟨q, r, rfl, h1, h2, rfl⟩ hP
theorem c_by (h1 : SzR 1000 q) (h2 : SzR 1000 r) (hP : ∀ x ∈ G.ps, x ∈ Ts.ts) (h : EE S Ts ta es (ratD q)) (h' : EE S Ts tb es (ratD r)) : EE S Ts (tCall (sp_by G) [] C8.E0 (tCons ta (tCons tb tNil))) es (ratD (q * r)) := ee_call (aa_cons h (aa_cons h' aa_nil)) ⟨q, r, rfl, h1, h2, rfl⟩ hP
theorem c_over (h1 : SzR 20 q) (h2 : SzR 8 r) (h0 : r ≠ 0) (hP : ∀ x ∈ G.ps, x ∈ Ts.ts) (h : EE S Ts ta es (ratD q)) (h' : EE S Ts tb es (ratD r)) : EE S Ts (tCall (sp_over G) [] C8.E0 (tCons ta (tCons tb tNil))) es (ratD (q / r)) := ee_call (aa_cons h (aa_cons h' aa_nil)) ⟨q, r, rfl, h1, h2, h0, rfl⟩ hP
theorem c_less (h1 : SzR 1000 q) (h2 : SzR 1000 r) (hP : ∀ x ∈ G.ps, x ∈ Ts.ts) (h : EE S Ts ta es (ratD q)) (h' : EE S Ts tb es (ratD r)) : EE S Ts (tCall (sp_less G) [] C8.E0 (tCons ta (tCons tb tNil))) es (.bool (decide (q < r))) := ee_call (aa_cons h (aa_cons h' aa_nil)) ⟨q, r, rfl, h1, h2, rfl⟩ hP
/-! sums -/
theorem mk_le (n : Int) (d : Nat) (hd : 0 < d) : (mkRat n d).num.natAbs ≤ n.natAbs ∧ (mkRat n d).den ≤ d := by
  constructor
  · rw [Rat.num_mkRat, if_neg (by omega)]
    exact Int.natAbs_ediv_le_natAbs _ _
  · rw [Rat.den_mkRat, if_neg (by omega)]
    exact Nat.div_le_self _ _
theorem szr_add {e f : Nat} (h1 : SzR e q) (h2 : SzR f r) : SzR (e + f + 2) (q + r) := by
  rw [Rat.add_def']
  obtain ⟨a1, a2⟩ := mk_le (q.num * r.den + r.num * q.den) (q.den * r.den) (Nat.mul_pos q.den_pos r.den_pos)
  have b1 := sz_mul (sz_num h1) (sz_den h2)
  have b2 := sz_mul (sz_num h2) (sz_den h1)
  have b3 := sz_mul (sz_den h1) (sz_den h2)
  unfold Sz at b1 b2 b3
  rw [← Int.natCast_mul, Int.natAbs_natCast] at b3
  have e2 : (2 : Nat) ^ (e + f + 2) = 4 * 2 ^ (e + f) := by rw [Nat.pow_add]; omega
  have e3 : (2 : Nat) ^ (f + e) = 2 ^ (e + f) := by rw [Nat.add_comm]
  have := Int.natAbs_add_le (q.num * r.den) (r.num * q.den)
  exact ⟨by rw [e2]; omega, by rw [e2]; omega⟩
theorem szr_zero : SzR 1 0 := ⟨by decide, by decide⟩
theorem szr_take {qs : List Rat} (h : ∀ q ∈ qs, SzR 40 q) : ∀ k, SzR (42 * k + 1) (qs.take k).sum
  | 0 => szr_zero
  | k + 1 => by
    have ih := szr_take h k
    rw [List.take_add_one]
    cases e : qs[k]? with
    | none =>
      have : (Option.toList (none : Option Rat)) = [] := rfl
      rw [this, List.append_nil]
      exact ih.mono (by omega)
    | some q =>
      have e1 : (Option.toList (some q)) = [q] := rfl
      rw [e1, List.sum_append, List.sum_singleton]
      exact (szr_add ih (h q (List.mem_of_getElem? e))).mono (by omega)
theorem ratD_zero : ratD 0 = .tuple [.int 0, .int 1] := rfl
theorem e_sum {sp : Sp} (hsp : ∀ {S : Hs} {es : Es} {ta tb : TE} {q r : Rat}, SzR 1000 q → SzR 1000 r → EE S ⟨G.ps, []⟩ ta es (ratD q) → EE S ⟨G.ps, []⟩ tb es (ratD r) → EE S ⟨G.ps, []⟩ (tCall sp [] C8.E0 (tCons ta (tCons tb tNil))) es (ratD (q + r))) {ds : List PyData} (h : R_sum_of ds d) :
    ES S ⟨G.ps, []⟩ (tSeq (tAsg (tTup (tCons (tC (.int 0)) (tCons (tC (.int 1)) tNil))) (gName 1)) (tSeq (tFor (iSeq G.K (tVar 0)) (gName 2) (tAsg (tCall sp [] C8.E0 (tCons (tVar 1) (tCons (tVar 2) tNil))) (gName 1))) (tRet (tVar 1)))) (ds.map some ++ List.replicate (3 - ds.length) none) (.rt d) := by
  obtain ⟨qs, rfl, hq, hl, rfl⟩ := h
  obtain ⟨es2, hf, x2, he2⟩ := forO_rel (ys := qs.map ratD) (es := [some (.list (qs.map ratD)), some (ratD (qs.take 0).sum), none]) (Pe := fun k es => ∃ x, es = [some (.list (qs.map ratD)), some (ratD (qs.take k).sum), x])
    (step := fun es y o => ∃ es1, EG S ⟨G.ps, []⟩ (gName 2) y es es1 ∧ ES S ⟨G.ps, []⟩ (tAsg (tCall sp [] C8.E0 (tCons (tVar 1) (tCons (tVar 2) tNil))) (gName 1)) es1 o) (by
      rintro k hk es ⟨x, rfl⟩
      have hk' : k < qs.length := by simpa using hk
      have e : (qs.map ratD)[k] = ratD qs[k] := by simp
      rw [e]
      refine ⟨_, ⟨_, eg_name' rfl, es_set (hsp ((szr_take hq k).mono (by omega)) ((hq _ (List.getElem_mem hk')).mono (by omega)) (ee_var rfl) (ee_var rfl))⟩, some (ratD qs[k]), ?_⟩
      have e2 : (qs.take (k + 1)).sum = (qs.take k).sum + qs[k] := by
        rw [List.take_add_one, List.getElem?_eq_getElem hk']
        show (qs.take k ++ [qs[k]]).sum = _
        rw [List.sum_append, List.sum_singleton]
      rw [e2]
      rfl) ⟨none, rfl⟩
  subst he2
  rw [List.length_map, List.take_length] at hf
  exact es_seq (es_set (ee_tup (aa_cons ee_int (aa_cons ee_int aa_nil)) (by simp))) (es_seq (es_for (ei_seqL (ee_var rfl)) hf) (es_ret (ee_var rfl)))
theorem e_sum_of {ds : List PyData} (h : R_sum_of ds d) : ESr S ⟨G.ps, []⟩ (t_sum_of G) (ds.map some ++ List.replicate (3 - ds.length) none) d := .inl (e_sum (fun h1 h2 => c_plus h1 h2 tab_of) h)
theorem c_sum_of {qs : List Rat} (hq : ∀ q ∈ qs, SzR 40 q) (hl : qs.length ≤ 20) (hP : ∀ x ∈ G.ps, x ∈ Ts.ts) (h : EE S Ts ta es (.list (qs.map ratD))) : EE S Ts (tCall (sp_sum_of G) [] C8.E0 (tCons ta tNil)) es (ratD qs.sum) := ee_call (aa_cons h aa_nil) ⟨qs, rfl, hq, hl, rfl⟩ hP
theorem e_is_ratio {ds : List PyData} (hG : GOk G) (h : R_is_ratio ds d) : ESr S ⟨G.ps, []⟩ (t_is_ratio G) (ds.map some ++ List.replicate (1 - ds.length) none) d := by
  obtain ⟨q, rfl, _, rfl⟩ := h
  have hc : Nat.gcd q.num.natAbs q.den = 1 := q.reduced
  refine .inl (es_seq (es_if (b := false) (et_is' (tt_or (tt_not (tt_B (ee_isTup (ee_var rfl) (plain_rat q)))) fun _ => tt_test (ee_op (ee_cb (aa_cons (ee_var (d := .tuple [.int q.num, .int q.den]) rfl) aa_nil) fun _ => rc_lenT) ee_int fun _ => rv_neI)) (by simp [isTupD, ratD])) (fun z => nomatch z) fun _ => es_skip)
    (es_seq (es_if (b := false) (et_is' (tt_not (tt_B (ee_all (fun _ => true) hG.rat (ei_seqT (ee_var (d := .tuple [.int q.num, .int q.den]) rfl)) fun y hy => ?_))) (by simp)) (fun z => nomatch z) fun _ => es_skip)
      (es_ret (ee_is (ee_and (ee_op (ee_den (ee_var rfl)) ee_int fun _ => rv_gt) fun _ => ee_op (ee_cb (aa_cons (ee_num (ee_var rfl)) (aa_cons (ee_den (ee_var rfl)) aa_nil)) fun _ => rc_gcd) ee_int fun _ => rv_eqI) ?_))))
  · have : ∃ i, y = .int i := by
      rcases List.mem_cons.mp hy with z | z
      · exact ⟨_, z⟩
      · exact ⟨_, List.mem_singleton.mp z⟩
    obtain ⟨i, rfl⟩ := this
    exact ee_is (ee_and (ee_isInt (ee_var rfl) rfl) fun _ => ee_not (ee_isBool (ee_var rfl) rfl)) rfl
  · have := q.den_pos
    rw [Int.natAbs_natCast, hc]
    simp
    omega
theorem c_is_ratio (hq : SzR 1000 q) (hP : ∀ x ∈ G.ps, x ∈ Ts.ts) (h : EE S Ts ta es (ratD q)) : EE S Ts (tCall (sp_is_ratio G) [] C8.E0 (tCons ta tNil)) es (.bool true) := ee_call (aa_cons h aa_nil) ⟨q, rfl, hq, rfl⟩ hP
end
end KV
set_option Elab.async false
set_option linter.all false
set_option maxRecDepth 100000
set_option maxHeartbeats 4000000
/-! Statements that write: states with objects of one's own. -/
namespace KV
open PySem PySem.Spec PyProof.Rows L2 GxR KO Smx
structure Sta where
  S : Hs
  T : Ks
  es : Es
structure StOk (X : Sta) (σ : L2.St) (H : Hp) : Prop where
  inn : Inn X.T σ (hid X.S H) X.es
  trk : ∀ b ∈ X.S.ad, H b ≠ none
  fz : Gr X.S.fz H
theorem StOk.ext {X : Sta} {σ : L2.St} {H : Hp} (k : StOk X σ H) : Ext X.S (hid X.S H) H := ⟨Gr.refl _, k.fz, k.trk⟩
theorem StOk.go {X : Sta} {σ : L2.St} {H H' : Hp} (k : StOk X σ H) (g : Gr H H') : StOk X σ H' := ⟨k.inn.mono (g.hid _), fun b hb => g.some (k.trk b hb), k.fz.trans g⟩
theorem Fr.refl (S : Hs) (H : Hp) : Fr S H S H := ⟨Gr.refl _, fun _ hb => .inl hb⟩
theorem Fr.of {S : Hs} {H H' : Hp} (g : Gr H H') : Fr S H S H' := ⟨g.hid S, fun _ hb => .inl hb⟩
theorem Fr.keep {S S' : Hs} {H H' : Hp} (f : Fr S H S' H') : Gr (hid S H) (hid S' H') := fun b o e => by
  obtain ⟨h1, h2⟩ := hid_some e
  have h3 : b ∉ S'.ad := fun z => (f.new b z).elim h1 fun q => by rw [h2] at q; cases q
  rcases f.gr b o e with q | ⟨ps, ps', q1, q2, q3⟩
  · exact .inl (by rw [hid_out h3]; exact (hid_some q).2)
  · exact .inr ⟨ps, ps', q1, by rw [hid_out h3]; exact (hid_some q2).2, q3⟩
theorem Fr.trans {S S1 S2 : Hs} {H H1 H2 : Hp} (a : Fr S H S1 H1) (b : Fr S1 H1 S2 H2) : Fr S H S2 H2 := by
  refine ⟨fun c o e => ?_, fun c hc => ?_⟩
  · have h1 := (hid_some e).1
    have key : ∀ o', hid S1 H2 c = some o' → hid S H2 c = some o' := fun o' q => by rw [hid_out h1]; exact (hid_some q).2
    rcases a.keep c o e with q | ⟨ps, ps', q1, q2, q3⟩
    · rcases b.gr c o q with z | ⟨ps, ps', z1, z2, z3⟩
      · exact .inl (key _ z)
      · exact .inr ⟨ps, ps', z1, key _ z2, z3⟩
    · rcases b.gr c _ q2 with z | ⟨qs, qs', z1, z2, z3⟩
      · exact .inr ⟨ps, ps', q1, key _ z, q3⟩
      · cases z1
        exact .inr ⟨ps, qs', q1, key _ z2, fun y => z3 (q3 y)⟩
  · rcases b.new c hc with q | q
    · exact a.new c q
    · by_cases hS : c ∈ S.ad
      · exact .inl hS
      · refine .inr ?_
        cases e : H c with
        | none => rfl
        | some o =>
          have := a.gr.some (b := c) (by rw [hid_out hS, e]; simp)
          rw [hid_out hS] at this
          exact absurd q this
theorem Fr.ext {X X' : Sta} {σ : L2.St} {H H' : Hp} (f : Fr X.S H X'.S H') (k : StOk X' σ H') : Ext X'.S (hid X.S H) H' := ⟨f.keep, k.fz, k.trk⟩
/-- what a value of a state is -/
structure RtOk (X : Sta) (v : V) (d : PyData) (H : Hp) : Prop where
  trk : ∀ b ∈ X.S.ad, H b ≠ none
  fz : Gr X.S.fz H
  kn : Kn X.T (hid X.S H)
  rp : Rp (hid X.S H) v d
def MS (t : TS) (X : Sta) (P : Sta → Prop) (R : Sta → PyData → Prop) : Prop := ∀ σ H, StOk X σ H → ∀ D : Ends, (∀ X' σ' H', P X' → Fr X.S H X'.S H' → StOk X' σ' H' → D.nx σ' H') → (∀ X' d v H', R X' d → Fr X.S H X'.S H' → RtOk X' v d H' → D.rt v H') → t D σ H
/-- expressions that write -/
def ME (te : TE) (X : Sta) (P : Sta → PyData → Prop) : Prop := ∀ σ H, StOk X σ H → ∀ Q : VK, (∀ X' d v H', P X' d → Fr X.S H X'.S H' → StOk X' σ H' → Rp (hid X'.S H') v d → Q v H') → te σ H Q
/-- a walk that leans on f0 of what is frozen -/
def EI2 (S : Hs) (f0 : Hp) (Ts : Ks) (wi : TI) (es : Es) (ys : List PyData) : Prop := ∀ σ B, Inn Ts σ B es → ∀ H1, Ext S B H1 → ∀ R : It → Hp → Prop, (∀ J H2, Gr H1 H2 → (∀ S', Gr f0 S'.fz → WalkD S' J ys (hid S H2)) → R J H2) → wi σ H1 R
section
variable {S : Hs} {Ts : Ks} {es : Es} {te : TE} {K : PySem.W.Frag} {f0 : Hp} {ys ds : List PyData}
theorem ei2_seqL (h : EE S Ts te es (.list ys)) : EI2 S f0 Ts (iSeq K te) es ys := fun σ B I H1 e R q => h σ B I H1 e _ fun v H2 g r => by
  cases r with
  | lst ha rs => exact .inl ⟨_, rfl, ⟨_, .inl (.inl (hid_some ha).2)⟩, q _ H2 g fun _ _ => walkD_list ha rs⟩
theorem ei2_seqT (h : EE S Ts te es (.tuple ys)) : EI2 S f0 Ts (iSeq K te) es ys := fun σ B I H1 e R q => h σ B I H1 e _ fun v H2 g r => by
  cases r with
  | tup ha rs => exact .inr ⟨_, rfl, ⟨_, .inl (.inl (hid_some ha).2)⟩, q _ H2 g fun _ _ => walkD_tup ha rs⟩
theorem ei2_nat {t : TA} {k : Nat} (h : EA S Ts t es [natD k]) (hk : k ≤ 100000) : EI2 S f0 Ts (iRng1 t) es ((List.range k).map natD) := fun σ B I H1 e R q => h σ B I H1 e _ fun vs H2 g r => by
  cases r with
  | cons r rs =>
    cases rs
    cases r
    exact ⟨(k : Int), rfl, by omega, by omega, q _ H2 g fun _ _ => by rw [Int.toNat_natCast, ← rangeD_nat]; exact walkD_range⟩
theorem ei2_enum {ta : TA} (h : EA S Ts ta es [.list ys]) : EI2 S f0 Ts (iEnum K ta) es (enumD ys) := fun σ B I H1 e R q => h σ B I H1 e _ fun vs H2 g r => by
  cases r with
  | cons r rs =>
    cases rs
    cases r with
    | lst ha rs => exact ⟨_, _, rfl, .inl (.inl (hid_some ha).2), q _ H2 g fun _ _ => walkD_enum ha rs⟩
theorem ei2_enumR {rl : Addr} {vs : List V} (h : EE S Ts te es (rawD rl)) (hl : S.fz rl = some (.lst vs)) (h0 : f0 rl = some (.lst vs)) (hk : (vs, ds) ∈ Ts.ow) : EI2 S f0 Ts (iEnum K (tCons te tNil)) es (enumD ds) := fun σ B I H1 e R q => h σ B I H1 e _ fun v H2 g r => by
  have e2 := e.go g
  exact ⟨rl, vs, by rw [raw_inv r], .inl (.inl (e2.fr.lst hl)), q _ H2 g fun S' gS => walkR_enum (gS.lst h0) ((I.tbs.ow _ hk).mono e2.gr)⟩
end
section
variable {t u : TS} {c : TT} {te to ti : TE} {X : Sta} {P P1 : Sta → Prop} {R : Sta → PyData → Prop} {d : PyData} {ds : List PyData} {i : Nat} {a : Addr} {vs : List V} {K : PySem.W.Frag}
theorem ms_es {es' : Es} (h : ES X.S X.T t X.es (.nx es')) (hp : P ⟨X.S, X.T, es'⟩) : MS t X P R := fun σ H k D kn kr =>
  h H σ H ⟨k.trk, k.fz⟩ (Gr.refl _) k.inn D fun σ' H' g I => kn ⟨X.S, X.T, es'⟩ σ' H' hp (.of g) ⟨I, (k.go g).trk, (k.go g).fz⟩
theorem ms_rt (h : ES X.S X.T t X.es (.rt d)) (hr : R X d) : MS t X P R := fun σ H k D kn kr =>
  h H σ H ⟨k.trk, k.fz⟩ (Gr.refl _) k.inn D fun v H' g r => kr X d v H' hr (.of g) ⟨(k.go g).trk, (k.go g).fz, (k.go g).inn.tbs, r⟩
theorem ms_seq (h1 : MS t X P1 R) (h2 : ∀ X', P1 X' → MS u X' P R) : MS (tSeq t u) X P R := fun σ H k D kn kr =>
  h1 σ H k _ (fun X1 σ1 H1 p1 f1 k1 => h2 X1 p1 σ1 H1 k1 D (fun X2 σ2 H2 p2 f2 k2 => kn X2 σ2 H2 p2 (f1.trans f2) k2) fun X2 d v H2 r2 f2 k2 => kr X2 d v H2 r2 (f1.trans f2) k2) fun X1 d v H1 r1 f1 k1 => kr X1 d v H1 r1 f1 k1
theorem ms_if {b : Bool} (h : ET X.S X.T c X.es b) (h1 : b = true → MS t X P R) (h2 : b = false → MS u X P R) : MS (tIfS c t u) X P R := fun σ H k D kn kr =>
  h σ _ k.inn H k.ext _ fun H1 g => by
    cases b with
    | true =>
      show t D σ H1
      exact h1 rfl σ H1 (k.go g) D (fun X' σ' H' p f k' => kn X' σ' H' p ((Fr.of g).trans f) k') fun X' d v H' r f k' => kr X' d v H' r ((Fr.of g).trans f) k'
    | false =>
      show u D σ H1
      exact h2 rfl σ H1 (k.go g) D (fun X' σ' H' p f k' => kn X' σ' H' p ((Fr.of g).trans f) k') fun X' d v H' r f k' => kr X' d v H' r ((Fr.of g).trans f) k'
theorem ms_mono {P' : Sta → Prop} {R' : Sta → PyData → Prop} (h : MS t X P R) (hp : ∀ X, P X → P' X) (hr : ∀ X d, R X d → R' X d) : MS t X P' R' := fun σ H k D kn kr =>
  h σ H k D (fun X' σ' H' p f k' => kn X' σ' H' (hp X' p) f k') fun X' d v H' r f k' => kr X' d v H' (hr X' d r) f k'
theorem ms_for {f0 : Hp} {wi : TI} {g : TG} {tb : TS} {ys : List PyData} (J : Nat → Sta → Prop) (h : EI2 X.S f0 X.T wi X.es ys) (h0 : J 0 X) (hF : ∀ k X', J k X' → Gr f0 X'.S.fz)
    (hs : ∀ k (hk : k < ys.length) X', J k X' → ∃ es1, EG X'.S X'.T g ys[k] X'.es es1 ∧ MS tb ⟨X'.S, X'.T, es1⟩ (J (k + 1)) R) (hP : ∀ X', J ys.length X' → P X') : MS (tFor wi g tb) X P R := fun σ H k D kn kr =>
  h σ _ k.inn H k.ext _ fun J' H1 g1 w' => by
    refine ⟨fun i m σ H => m = ys.length - i ∧ i ≤ ys.length ∧ ∃ X', J i X' ∧ Fr X.S H1 X'.S H ∧ StOk X' σ H, ⟨ys.length, rfl, Nat.zero_le _, X, h0, Fr.refl _ _, k.go g1⟩, ?_⟩
    rintro i m σ H ⟨rfl, hi, X', hJ, fr, k'⟩
    have fr0 := (Fr.of (S := X.S) g1).trans fr
    have ex : Ext X'.S (hid X.S H1) H := fr.ext k'
    have w := w' X'.S (hF i X' hJ)
    by_cases hlt : i < ys.length
    · obtain ⟨es1, hg, hb⟩ := hs i hlt X' hJ
      refine .inr ⟨w.go i H ex hlt, fun σ' H' => i + 1 ≤ ys.length ∧ ∃ X2, J (i + 1) X2 ∧ Fr X.S H1 X2.S H' ∧ StOk X2 σ' H', fun σ' H' n' => ⟨ys.length - (i + 1), by omega, rfl, n'⟩, fun x H' y => ?_⟩
      obtain ⟨d, e1, g2, r2⟩ := w.yld i H x H' ex hlt y
      rw [List.getElem?_eq_getElem hlt] at e1
      cases e1
      have k2 := k'.go g2
      refine hg σ H' x k2.inn r2 _ fun σ' I' => hb σ' H' ⟨I', k2.trk, k2.fz⟩ _ (fun X2 σ2 H2 j2 f2 k3 => ⟨hlt, X2, j2, (fr.trans (Fr.of g2)).trans f2, k3⟩) fun X2 d v H2 r3 f2 k3 => kr X2 d v H2 r3 ((fr0.trans (Fr.of g2)).trans f2) k3
    · have e : i = ys.length := by omega
      subst e
      exact .inl ⟨w.stop H ex, kn X' σ H (hP X' hJ) fr0 k'⟩
/-- a new object, one's own -/
abbrev Hs.own (S : Hs) (a : Addr) (o : HO) : Hs := ⟨a :: S.ad, upd S.fz a o⟩
abbrev Hs.put (S : Hs) (a : Addr) (o : HO) : Hs := ⟨S.ad, upd S.fz a o⟩
abbrev Ks.kn (T : Ks) (vs : List V) (ds : List PyData) : Ks := ⟨T.ts, (vs, ds) :: T.ow⟩
theorem gr_own {S : Hs} {H H2 : Hp} {f : Hp} {a : Addr} (g : Gr H H2) (n : H a = none) : Gr (hid S H) (hid ⟨a :: S.ad, f⟩ H2) := fun b o e => by
  obtain ⟨h1, h2⟩ := hid_some e
  have h3 : b ∉ a :: S.ad := fun z => (List.mem_cons.mp z).elim (fun q => by rw [q, n] at h2; cases h2) h1
  rcases g b o h2 with q | ⟨ps, ps', q1, q2, q3⟩
  · exact .inl (by rw [hid_out h3]; exact q)
  · exact .inr ⟨ps, ps', q1, by rw [hid_out h3]; exact q2, q3⟩
theorem own_ok {σ : L2.St} {H H2 : Hp} {o : HO} {T' : Ks} {es' : Es} (k : StOk X σ H) (g : Gr H H2) (n : H a = none) (e : H2 a = some o) (hT : T'.ts = X.T.ts) (hw : ∀ p ∈ T'.ow, Rps (hid (X.S.own a o) H2) p.1 p.2) (he : es' = X.es.set i (some (rawD a))) :
    StOk ⟨X.S.own a o, T', es'⟩ (σ.set i (some (.ref a))) H2 := by
  have gi := gr_own (f := upd X.S.fz a o) (S := X.S) g n
  have I2 := k.inn.mono gi
  refine ⟨?_, fun b hb => ?_, fun b u hb => ?_⟩
  · have I3 := I2.set (Rp.raw a) i
    subst he
    exact ⟨I3.len, I3.get, ⟨by rw [hT]; exact I3.tbs.ts, hw⟩⟩
  · rcases List.mem_cons.mp hb with q | q
    · rw [q, e]; simp
    · exact g.some (k.trk b q)
  · have hb : upd X.S.fz a o b = some u := hb
    by_cases q : b = a
    · subst q
      rw [upd_same] at hb
      cases hb
      exact .inl e
    · rw [upd_ne q] at hb
      exact (k.fz.trans g) b u hb
theorem fr_own {S : Hs} {H H2 : Hp} {o : HO} (g : Gr H H2) (n : H a = none) : Fr S H (S.own a o) H2 := ⟨g.hid S, fun b hb => (List.mem_cons.mp hb).elim (fun q => .inr (by rw [q]; exact n)) .inl⟩
theorem ms_own (h : EN X.S X.T te X.es ds) (hp : ∀ a vs, a ∉ X.S.ad → X.S.fz a = none → vs.length = ds.length → P ⟨X.S.own a (.lst vs), X.T.kn vs ds, X.es.set i (some (rawD a))⟩) : MS (tAsg te (gName i)) X P R := fun σ H k D kn kr =>
  h σ _ k.inn H k.ext _ fun a vs H2 g n e r => kn _ _ H2 (hp a vs (fun z => k.trk a z n) (k.fz.back n) r.len) (fr_own g n) (own_ok k g n e rfl (fun p hp => by
    rcases List.mem_cons.mp hp with q | q
    · rw [q]; exact r
    · exact (k.inn.tbs.ow p q).mono (gr_own g n)) rfl)
/-- a known object of one's own is written -/
theorem put_ok {σ : L2.St} {H : Hp} {o : HO} {T' : Ks} (k : StOk X σ H) (ha : a ∈ X.S.ad) (hT : T'.ts = X.T.ts) (hw : ∀ p ∈ T'.ow, Rps (hid X.S H) p.1 p.2) : StOk ⟨X.S.put a o, T', X.es⟩ σ (upd H a o) := by
  have e : hid (X.S.put a o) (upd H a o) = hid X.S H := hid_upd (S := X.S) ha
  refine ⟨?_, fun b hb => ?_, fun b u hb => ?_⟩
  · show Inn T' σ (hid (X.S.put a o) (upd H a o)) X.es
    rw [e]
    exact ⟨k.inn.len, k.inn.get, ⟨by rw [hT]; exact k.inn.tbs.ts, hw⟩⟩
  · by_cases q : b = a
    · rw [q, upd_same]; simp
    · rw [upd_ne q]; exact k.trk b hb
  · have hb : upd X.S.fz a o b = some u := hb
    by_cases q : b = a
    · subst q
      rw [upd_same] at hb
      cases hb
      exact .inl upd_same
    · rw [upd_ne q] at hb ⊢
      exact k.fz b u hb
theorem fr_put {S : Hs} {H : Hp} {o : HO} (ha : a ∈ S.ad) : Fr S H (S.put a o) (upd H a o) := ⟨by rw [hid_upd ha]; exact Gr.refl _, fun b hb => .inl hb⟩
theorem ms_app (ho : EE X.S X.T to X.es (rawD a)) (ha : a ∈ X.S.ad) (hl : X.S.fz a = some (.lst vs)) (hk : (vs, ds) ∈ X.T.ow) (he : EE X.S X.T te X.es d) (hlen : vs.length < 100000) (hp : ∀ v, (∃ H, Rp H v d) → P ⟨X.S.put a (.lst (vs ++ [v])), X.T.kn (vs ++ [v]) (ds ++ [d]), X.es⟩) : MS (tDrop (tBM K "list" rAppend to (tCons te tNil))) X P R := fun σ H k D kn kr =>
  ho σ _ k.inn H k.ext _ fun u H1 g1 r1 => by
    cases raw_inv r1
    have k1 := k.go g1
    refine ⟨.inl ⟨rfl, vs, .inl (.inl (k1.fz.lst hl))⟩, he σ _ k.inn H1 (k.ext.go g1) _ fun v H2 g2 r2 => ?_⟩
    have k2 := k1.go g2
    refine ⟨a, vs, v, rfl, rfl, k2.fz.lst hl, Nat.lt_of_lt_of_le hlen (by decide), ?_⟩
    exact kn _ σ _ (hp v ⟨_, r2⟩) ((Fr.of (g1.trans g2)).trans (fr_put ha)) (put_ok k2 ha rfl fun p hp => by
      rcases List.mem_cons.mp hp with q | q
      · rw [q]; exact (k2.inn.tbs.ow _ hk).app (.one r2)
      · exact k2.inn.tbs.ow p q)
theorem ms_set {j : Int} {m : Nat} (ho : EE X.S X.T to X.es (rawD a)) (ha : a ∈ X.S.ad) (hl : X.S.fz a = some (.lst vs)) (hk : (vs, ds) ∈ X.T.ow) (hi : EE X.S X.T ti X.es (.int j)) (hj : ixN vs.length j = some m) (he : EE X.S X.T te X.es d) (hp : ∀ v, (∃ H, Rp H v d) → P ⟨X.S.put a (.lst (vs.set m v)), X.T.kn (vs.set m v) (ds.set m d), X.es⟩) : MS (tAsg te (gSub to ti rSetL)) X P R := fun σ H k D kn kr =>
  he σ _ k.inn H k.ext _ fun v H1 g1 r1 => ho σ _ k.inn H1 (k.ext.go g1) _ fun u H2 g2 r2 => hi σ _ k.inn H2 ((k.ext.go g1).go g2) _ fun w H3 g3 r3 => by
    cases raw_inv r2
    cases r3
    have g := (g1.trans g2).trans g3
    have k3 := k.go g
    refine ⟨a, vs, j, m, rfl, rfl, k3.fz.lst hl, hj, ?_⟩
    exact kn _ σ _ (hp v ⟨_, r1⟩) ((Fr.of g).trans (fr_put ha)) (put_ok k3 ha rfl fun p hp => by
      rcases List.mem_cons.mp hp with q | q
      · rw [q]; exact (k3.inn.tbs.ow _ hk).set (r1.mono ((g2.trans g3).hid _)) m
      · exact k3.inn.tbs.ow p q)
/-- it is written no more: data from here on -/
theorem ms_rel {ad : List Addr} {f : Hp} {i : Nat} (hS : X.S.ad = a :: ad) (hn : a ∉ ad) (hl : X.S.fz a = some (.lst vs)) (hk : (vs, ds) ∈ X.T.ow) (hf : Gr f X.S.fz) (hi : X.es[i]? = some (some (rawD a))) (h : MS t ⟨⟨ad, f⟩, X.T, X.es.set i (some (.list ds))⟩ P R) : MS t X P R := fun σ H k D kn kr => by
  have sub : Gr (hid X.S H) (hid ⟨ad, f⟩ H) := hid_sub (S := ⟨ad, f⟩) (S' := X.S) fun b hb => by rw [hS]; exact List.mem_cons_of_mem _ hb
  obtain ⟨v, e1, r1⟩ := k.inn.get i _ hi
  cases raw_inv r1
  have hH : H a = some (.lst vs) := k.fz.lst hl
  have r : Rp (hid ⟨ad, f⟩ H) (.ref a) (.list ds) := .lst (by rw [hid_out hn]; exact hH) ((k.inn.tbs.ow _ hk).mono sub)
  have k' : StOk ⟨⟨ad, f⟩, X.T, X.es.set i (some (.list ds))⟩ σ H := by
    refine ⟨?_, fun b hb => k.trk b (by rw [hS]; exact List.mem_cons_of_mem _ hb), hf.trans k.fz⟩
    have I2 := (k.inn.mono sub).set r i
    have e2 : σ.set i (some (.ref a)) = σ := by
      apply List.ext_getElem?
      intro j
      rw [List.getElem?_set]
      by_cases q : i = j
      · subst q
        obtain ⟨hlt, _⟩ := List.getElem?_eq_some_iff.mp e1
        rw [if_pos rfl, if_pos hlt, e1]
      · rw [if_neg q]
    rw [e2] at I2
    exact I2
  have fr : ∀ {S' : Hs} {H' : Hp}, Fr ⟨ad, f⟩ H S' H' → Fr X.S H S' H' := fun {S' H'} q => by
    refine ⟨fun b o e => ?_, fun b hb => (q.new b hb).elim (fun z => .inl (by rw [hS]; exact List.mem_cons_of_mem _ z)) .inr⟩
    obtain ⟨h1, h2⟩ := hid_some e
    have h3 : b ∉ ad := fun z => h1 (by rw [hS]; exact List.mem_cons_of_mem _ z)
    rcases q.gr b o (by rw [hid_out h3]; exact h2) with z | ⟨ps, ps', z1, z2, z3⟩
    · exact .inl (by rw [hid_out h1]; exact (hid_some z).2)
    · exact .inr ⟨ps, ps', z1, by rw [hid_out h1]; exact (hid_some z2).2, z3⟩
  exact h σ H k' D (fun X' σ' H' p q k2 => kn X' σ' H' p (fr q) k2) fun X' d v H' p q k2 => kr X' d v H' p (fr q) k2
end
/-- a pure def that writes to its own objects only -/
theorem pure_ms {Pl : List Addr} {R : Rel} {t : TS} {N : List Str} (h : ∀ (S : Hs) ds d, R ds d → MS t ⟨S, ⟨Pl, []⟩, ds.map some ++ List.replicate (N.length - ds.length) none⟩ (fun _ => False) (fun X d' => d' = d ∧ (∀ b ∈ S.ad, b ∈ X.S.ad) ∧ Gr S.fz X.S.fz)) {vs : List V} {H : Hp} {Q : VK} {E : XK} (hs : spR Pl R vs H Q E) : t { nx := fun _ H' => Q .non H', rt := Q } (L2.start N vs) H := by
  obtain ⟨S, ds, d, r, trk, hR, tb, k⟩ := hs
  have f0 : Gr (fun b => if b ∈ S.ad then H b else none) H := fun b o e => by
    have e : (if b ∈ S.ad then H b else none) = some o := e
    by_cases q : b ∈ S.ad
    · rw [if_pos q] at e; exact .inl e
    · rw [if_neg q] at e; cases e
  have I : Inn ⟨Pl, []⟩ (L2.start N vs) (hid S H) (ds.map some ++ List.replicate (N.length - ds.length) none) := Inn.start r ⟨tb, by simp⟩ N
  refine h ⟨S.ad, fun b => if b ∈ S.ad then H b else none⟩ ds d hR (L2.start N vs) H ⟨I, trk, f0⟩ _ (fun _ _ _ z => z.elim) ?_
  rintro X' d' v H' ⟨rfl, h1, h2⟩ fr rt
  refine k v H' (fun b o e => ?_) (rt.rp.mono (hid_sub (S := S) (S' := X'.S) h1))
  by_cases q : b ∈ S.ad
  · exact (h2.trans rt.fz) b o (by show (if b ∈ S.ad then H b else none) = _; rw [if_pos q]; exact e)
  · rcases fr.gr b o (show hid S H b = some o by rw [hid_out q]; exact e) with z | ⟨ps, ps', z1, z2, z3⟩
    · exact .inl (hid_some z).2
    · exact .inr ⟨ps, ps', z1, (hid_some z2).2, z3⟩
end KV
set_option Elab.async false
set_option linter.all false
set_option maxRecDepth 100000
set_option maxHeartbeats 4000000
/-! Evaluation: the law's own defs. -/
namespace KV
open PySem PySem.Spec PyProof.Rows L2 GxR KO Smx
open PySem.W (alike dataLt dataLe AllAlike AlikeAll minD)
/-- a while that ends after n turns -/
inductive WhO (S : Hs) (Ts : Ks) (c : TT) (tb : TS) : Nat → Es → Es → Prop
  | done {es : Es} : ET S Ts c es false → WhO S Ts c tb 0 es es
  | turn {n : Nat} {es es1 es2 : Es} : ET S Ts c es true → ES S Ts tb es (.nx es1) → WhO S Ts c tb n es1 es2 → WhO S Ts c tb (n + 1) es es2
theorem es_while {S : Hs} {Ts : Ks} {c : TT} {tb : TS} {n : Nat} {es es2 : Es} (h : WhO S Ts c tb n es es2) : ES S Ts (tWhile c tb) es (.nx es2) := fun H0 σ H tk gr I D k => by
  refine ⟨fun m σ H => Gr H0 H ∧ ∃ es, Inn Ts σ (hid S H) es ∧ WhO S Ts c tb m es es2, ⟨n, gr, es, I, h⟩, ?_⟩
  rintro m σ H ⟨gr, es, I, h⟩
  cases h with
  | done hc =>
    refine hc σ _ I H (extG tk gr) _ fun H1 g => ?_
    rw [if_neg (by simp)]
    exact k σ H1 (gr.trans g) (I.mono (g.hid S))
  | @turn n _ es1 _ hc hb hr =>
    refine hc σ _ I H (extG tk gr) _ fun H1 g => ?_
    rw [if_pos rfl]
    refine ⟨fun σ' H' => Gr H0 H' ∧ ∃ es, Inn Ts σ' (hid S H') es ∧ WhO S Ts c tb n es es2, fun σ' H' q => ⟨n, Nat.lt_succ_self _, q⟩, ?_⟩
    exact hb H0 σ H1 tk (gr.trans g) (I.mono (g.hid S)) _ fun σ' H' g' I' => ⟨g', es1, I', hr⟩
theorem up_eq : ∀ {l l' : List Nat}, l.Pairwise (· < ·) → l'.Pairwise (· < ·) → (∀ k, k ∈ l ↔ k ∈ l') → l = l'
  | [], [], _, _, _ => rfl
  | [], b :: l', _, _, he => absurd ((he b).mpr List.mem_cons_self) (by simp)
  | a :: l, [], _, _, he => absurd ((he a).mp List.mem_cons_self) (by simp)
  | a :: l, b :: l', hl, hl', he => by
    have ha := List.pairwise_cons.mp hl
    have hb := List.pairwise_cons.mp hl'
    have hab : a = b := by
      have h1 := (he a).mp List.mem_cons_self
      have h2 := (he b).mpr List.mem_cons_self
      rcases List.mem_cons.mp h1 with h1 | h1
      · exact h1
      · rcases List.mem_cons.mp h2 with h2 | h2
        · exact h2.symm
        · have := hb.1 a h1; have := ha.1 b h2; omega
    subst hab
    rw [up_eq ha.2 hb.2 fun k => ⟨fun hk => by
      rcases List.mem_cons.mp ((he k).mp (List.mem_cons_of_mem _ hk)) with z | z
      · have := ha.1 k hk; omega
      · exact z, fun hk => by
      rcases List.mem_cons.mp ((he k).mpr (List.mem_cons_of_mem _ hk)) with z | z
      · have := hb.1 k hk; omega
      · exact z⟩]
theorem le_nat (a b : Nat) : dataLe false id (natD a) (natD b) = decide (a ≤ b) := by
  rw [PySem.W.dataLe_eq]
  show (!dataLt (natD b) (natD a)) = _
  rw [PySem.W.dataLt_int, Bool.eq_iff_iff]
  simp
/-- sorted: the ascending list of the same numbers, each once -/
theorem sort_nats {l m : List Nat} (hl : l.Nodup) (hm : m.Pairwise (· < ·)) (he : ∀ k, k ∈ l ↔ k ∈ m) : (l.map natD).mergeSort (dataLe false id) = m.map natD := by
  rw [← List.map_mergeSort (r := fun a b => decide (a ≤ b)) (fun a _ b _ => (le_nat a b).symm)]
  congr 1
  refine up_eq ?_ hm fun k => by rw [(List.mergeSort_perm _ _).mem_iff, he]
  have h1 := List.pairwise_mergeSort (le := fun a b : Nat => decide (a ≤ b)) (fun a b c h1 h2 => by simp at *; omega) (fun a b => by simp; omega) l
  have h2 : (l.mergeSort fun a b => decide (a ≤ b)).Nodup := (List.mergeSort_perm _ _).nodup_iff.mpr hl
  exact (h1.and h2).imp fun {a b} h => by
    have := of_decide_eq_true h.1
    have := h.2
    omega
theorem alike_nat (a b : Nat) : alike (natD a) (natD b) = true := by simp [alike]
section
variable {G : Gd} {S : Hs} {Ts : Ks} {es : Es} {te ta tb tc : TE} {tr : TA} {d v : PyData} {q r : Rat} {n i j : Nat} {ps : List (Nat × Nat)} {l cs : List Nat}
theorem rc_srtN {K : PySem.W.Frag} {w : World} {B : Hp} {m : List Nat} (hl : l.Nodup) (hm : m.Pairwise (· < ·)) (he : ∀ k, k ∈ l ↔ k ∈ m) : RC S (uSrt K w) [.list (l.map natD)] B (.list (m.map natD)) := by
  rw [← sort_nats hl hm he]
  refine rc_srt (fun x hx y hy => ?_) (.inl (.inr fun x hx => ?_)) (fun x hx => ?_) (plain_nats l)
  · obtain ⟨a, _, rfl⟩ := List.mem_map.mp hx
    obtain ⟨b, _, rfl⟩ := List.mem_map.mp hy
    exact alike_nat a b
  · obtain ⟨a, _, rfl⟩ := List.mem_map.mp hx
    simp
  · obtain ⟨a, _, rfl⟩ := List.mem_map.mp hx
    simp [PyData.depth]
theorem e_w_ratio {ds : List PyData} (h : R_w_ratio ds d) : ESr S ⟨G.ps, []⟩ (t_w_ratio G) (ds.map some ++ List.replicate (4 - ds.length) none) d := by
  obtain ⟨a, b, rfl, hb, h1, rfl⟩ := h
  have hpos : 0 < Nat.gcd a.natAbs b.natAbs := Nat.gcd_pos_of_pos_right _ (by omega)
  have hgs := gcd_sz (a := a) (by omega) h1
  obtain ⟨e1, e2⟩ := ratio_pos (a := a) hb
  have hc : ∀ c : Int, CDivW c ((Nat.gcd a.natAbs b.natAbs : Nat) : Int) := fun c => ⟨by omega, Nat.lt_of_le_of_lt (sz_log hgs) (by decide)⟩
  have wh : ∀ (m x : Nat) (y : Nat), y ≤ m → ∃ k, WhO S ⟨G.ps, []⟩ (tTest (tOp (rNeP G.K) (tVar 3) (tC (.int 0)))) (tPar 2 3 (tCons (tVar 3) (tCons (tOp (uMod) (tCB (uInt) (tCons (tVar 2) tNil)) (tVar 3)) tNil))) k [some (.int a), some (.int b), some (natD x), some (natD y)] [some (.int a), some (.int b), some (natD (Nat.gcd x y)), some (natD 0)] := by
    intro m
    induction m with
    | zero =>
      intro x y hy
      have : y = 0 := by omega
      subst this
      rw [Nat.gcd_zero_right]
      exact ⟨0, .done (et_is' (tt_test (ee_op (ee_var rfl) ee_int fun _ => rv_neI)) (by simp))⟩
    | succ m ih =>
      intro x y hy
      by_cases hz : y = 0
      · subst hz
        rw [Nat.gcd_zero_right]
        exact ⟨0, .done (et_is' (tt_test (ee_op (ee_var rfl) ee_int fun _ => rv_neI)) (by simp))⟩
      · have hlt : x % y < y := Nat.mod_lt _ (by omega)
        obtain ⟨k, hk⟩ := ih y (x % y) (by omega)
        rw [Nat.gcd_comm x y, Nat.gcd_rec y x, Nat.gcd_comm (x % y) y]
        refine ⟨k + 1, .turn (et_is' (tt_test (ee_op (ee_var rfl) ee_int fun _ => rv_neI)) (by simp; omega)) (es_par (aa_cons (ee_var rfl) (aa_cons (ee_op (ee_cb (aa_cons (ee_var rfl) aa_nil) fun _ => rc_int) (ee_var rfl) fun _ => rv_mod (by omega)) aa_nil))) ?_⟩
        have e : ((x : Int) % (y : Int)) = ((x % y : Nat) : Int) := by omega
        rw [e]
        exact hk
  obtain ⟨k, hk⟩ := wh b.natAbs a.natAbs b.natAbs (Nat.le_refl _)
  have ea : (if a < 0 then -a else a) = ((a.natAbs : Nat) : Int) := by split <;> omega
  have eb : (if b < 0 then -b else b) = ((b.natAbs : Nat) : Int) := by split <;> omega
  refine .inl (es_seq (es_par (aa_cons (ee_is (ee_cb (aa_cons (ee_var rfl) aa_nil) fun _ => rc_abs) (congrArg PyData.int ea)) (aa_cons (ee_is (ee_cb (aa_cons (ee_var rfl) aa_nil) fun _ => rc_abs) (congrArg PyData.int eb)) aa_nil))) (es_seq (es_while hk) (es_ret (ee_is (ee_if (b := true) (et_is' (tt_test (ee_op (ee_var rfl) ee_int fun _ => rv_gt)) (by simpa using hb)) (fun _ => ee_tup (aa_cons (ee_op (ee_var rfl) (ee_var rfl) fun _ => rv_fdvP (hc _)) (aa_cons (ee_op (ee_var rfl) (ee_var rfl) fun _ => rv_fdvP (hc _)) aa_nil)) (by simp)) fun z => nomatch z) ?_))))
  unfold ratD
  rw [e1, e2]
theorem c_w_ratio {a b : Int} (hP : ∀ x ∈ G.ps, x ∈ Ts.ts) (hb : 0 < b) (h1 : Sz 4000 b) (h : EE S Ts ta es (.int a)) (h' : EE S Ts tb es (.int b)) : EE S Ts (tCall (sp_w_ratio G) [] C8.E0 (tCons ta (tCons tb tNil))) es (ratD (Rat.divInt a b)) := ee_call (aa_cons h (aa_cons h' aa_nil)) ⟨a, b, rfl, hb, h1, rfl⟩ hP
theorem e_w_plus {ds : List PyData} (h : R_plus ds d) : ESr S ⟨G.ps, []⟩ (t_w_plus G) (ds.map some ++ List.replicate (2 - ds.length) none) d := by
  obtain ⟨q, r, rfl, h1, h2, rfl⟩ := h
  have hd := den2 q r
  exact .inl (es_ret (ee_is (c_w_ratio tab_of hd ((sz_mul (sz_den h1) (sz_den h2)).mono (by omega)) (ee_op (ee_op (ee_num (ee_var rfl)) (ee_den (ee_var rfl)) fun _ => rv_mulI (sz_mulw (sz_num h1) (sz_den h2) (by omega))) (ee_op (ee_num (ee_var rfl)) (ee_den (ee_var rfl)) fun _ => rv_mulI (sz_mulw (sz_num h2) (sz_den h1) (by omega))) fun _ => rv_addI)
    (ee_op (ee_den (ee_var rfl)) (ee_den (ee_var rfl)) fun _ => rv_mulI (sz_mulw (sz_den h1) (sz_den h2) (by omega)))) (by rw [rat_add])))
theorem c_w_plus (h1 : SzR 1000 q) (h2 : SzR 1000 r) (hP : ∀ x ∈ G.ps, x ∈ Ts.ts) (h : EE S Ts ta es (ratD q)) (h' : EE S Ts tb es (ratD r)) : EE S Ts (tCall (sp_w_plus G) [] C8.E0 (tCons ta (tCons tb tNil))) es (ratD (q + r)) := ee_call (aa_cons h (aa_cons h' aa_nil)) ⟨q, r, rfl, h1, h2, rfl⟩ hP
theorem c_w_less (h1 : SzR 1000 q) (h2 : SzR 1000 r) (hP : ∀ x ∈ G.ps, x ∈ Ts.ts) (h : EE S Ts ta es (ratD q)) (h' : EE S Ts tb es (ratD r)) : EE S Ts (tCall (sp_w_less G) [] C8.E0 (tCons ta (tCons tb tNil))) es (.bool (decide (q < r))) := ee_call (aa_cons h (aa_cons h' aa_nil)) ⟨q, r, rfl, h1, h2, rfl⟩ hP
theorem e_w_sum {ds : List PyData} (h : R_sum_of ds d) : ESr S ⟨G.ps, []⟩ (t_w_sum G) (ds.map some ++ List.replicate (3 - ds.length) none) d := .inl (e_sum (fun h1 h2 => c_w_plus h1 h2 tab_of) h)
theorem c_w_sum {qs : List Rat} (hq : ∀ q ∈ qs, SzR 40 q) (hl : qs.length ≤ 20) (hP : ∀ x ∈ G.ps, x ∈ Ts.ts) (h : EE S Ts ta es (.list (qs.map ratD))) : EE S Ts (tCall (sp_w_sum G) [] C8.E0 (tCons ta tNil)) es (ratD qs.sum) := ee_call (aa_cons h aa_nil) ⟨qs, rfl, hq, hl, rfl⟩ hP
theorem eqv_rat (q r : Rat) : PyData.eqv (ratD q) (ratD r) = decide (q = r) := by
  unfold ratD
  rw [eqv_pair]
  congr 1
  refine propext ⟨fun h => Rat.ext h.1 (by have := h.2; omega), fun h => by rw [h]; exact ⟨rfl, rfl⟩⟩
theorem e_w_is_ratio {ds : List PyData} (h : R_is_ratio ds d) : ESr S ⟨G.ps, []⟩ (t_w_is_ratio G) (ds.map some ++ List.replicate (2 - ds.length) none) d := by
  obtain ⟨q, rfl, hs, rfl⟩ := h
  have hd := den_pos q
  have hlc : EE S ⟨G.ps, []⟩ (tLc (iSeq G.K (tVar 0)) (gName 1) (tOr (tNot (tB (tCB (uIsi G.K) (tCons (tVar 1) (tCons (tC (.ty "int")) tNil))))) (tB (tCB (uIsi G.K) (tCons (tVar 1) (tCons (tC (.ty "bool")) tNil))))) (tVar 1) [1]) [some (ratD q), none] (.list []) :=
    ee_is (ee_lcV (l := [q.num, (q.den : Int)]) (F := PyData.int) (f := PyData.int) (p := fun _ => false) (ei_seqT (ee_var rfl)) (by simp) (by simp) fun i hi S' hz => ⟨et_is' (tt_or (tt_not (tt_B (ee_isInt (ee_var rfl) rfl))) fun _ => tt_B (ee_isBool (ee_var rfl) rfl)) rfl, fun z => nomatch z⟩) rfl
  refine .inl (es_seq (es_if (b := false) (et_is' (tt_or (tt_not (tt_B (ee_isTup (ee_var rfl) (plain_rat q)))) fun _ => tt_or (tt_test (ee_op (ee_cb (aa_cons (ee_var (d := .tuple [.int q.num, .int q.den]) rfl) aa_nil) fun _ => rc_lenT) ee_int fun _ => rv_neI)) fun _ => tt_test (ee_op hlc (ee_lst aa_nil (by simp)) fun _ => rv_ne rfl rfl (by simp [PyData.depth, PyData.depthAll]))) (by simp [isTupD, ratD, PyData.eqv, PyData.eqvAll])) (fun z => nomatch z) fun _ => es_skip)
    (es_ret (ee_is (ee_and (ee_op (ee_den (ee_var rfl)) ee_int fun _ => rv_gt) fun _ => ee_op (ee_is (c_w_ratio tab_of hd ((sz_den hs).mono (by omega)) (ee_num (ee_var rfl)) (ee_den (ee_var rfl))) (congrArg ratD (Rat.num_divInt_den q))) (ee_var rfl) fun _ => rv_eq (plain_rat q) (plain_rat q) (by simp [ratD, PyData.depth, PyData.depthAll])) ?_)))
  rw [eqv_rat]
  have := q.den_pos
  simp
  omega
theorem c_w_is_ratio (hq : SzR 1000 q) (hP : ∀ x ∈ G.ps, x ∈ Ts.ts) (h : EE S Ts ta es (ratD q)) : EE S Ts (tCall (sp_w_is_ratio G) [] C8.E0 (tCons ta tNil)) es (.bool true) := ee_call (aa_cons h aa_nil) ⟨q, rfl, hq, rfl⟩ hP
/-- what the law's loop over the pairs collects -/
def collL (p : Nat) (ps : List (Nat × Nat)) : List Nat := (ps.map fun pr => (if pr.1 = p then [pr.2] else []) ++ (if pr.2 = p then [pr.1] else [])).flatten
theorem coll_mem {p k : Nat} : k ∈ collL p ps ↔ (p, k) ∈ ps ∨ (k, p) ∈ ps := by
  unfold collL
  rw [List.mem_flatten]
  constructor
  · rintro ⟨x, hx, hk⟩
    obtain ⟨pr, hpr, rfl⟩ := List.mem_map.mp hx
    obtain ⟨a, b⟩ := pr
    rcases List.mem_append.mp hk with z | z
    · by_cases e : a = p
      · have z : k ∈ (if a = p then [b] else []) := z
        rw [if_pos e] at z
        rw [List.mem_singleton.mp z, ← e]
        exact .inl hpr
      · have z : k ∈ (if a = p then [b] else []) := z
        rw [if_neg e] at z; cases z
    · by_cases e : b = p
      · have z : k ∈ (if b = p then [a] else []) := z
        rw [if_pos e] at z
        rw [List.mem_singleton.mp z, ← e]
        exact .inr hpr
      · have z : k ∈ (if b = p then [a] else []) := z
        rw [if_neg e] at z; cases z
  · rintro (h | h)
    · exact ⟨_, List.mem_map.mpr ⟨_, h, rfl⟩, by simp⟩
    · exact ⟨_, List.mem_map.mpr ⟨_, h, rfl⟩, by simp⟩
theorem coll_nd (W : Web n ps) (p : Nat) : (collL p ps).Nodup := by
  have gen : ∀ qs : List (Nat × Nat), (∀ pr ∈ qs, pr.1 < pr.2) → qs.Pairwise (fun p q => p.1 < q.1 ∨ (p.1 = q.1 ∧ p.2 < q.2)) → (collL p qs).Nodup := by
    intro qs
    induction qs with
    | nil => intro _ _; exact List.nodup_nil
    | cons pr qs ih =>
      intro h1 h2
      have h2 := List.pairwise_cons.mp h2
      have hlt := h1 pr List.mem_cons_self
      have ih := ih (fun x hx => h1 x (List.mem_cons_of_mem _ hx)) h2.2
      obtain ⟨a, b⟩ := pr
      show (((if a = p then [b] else []) ++ (if b = p then [a] else [])) ++ collL p qs).Nodup
      have hlt : a < b := hlt
      have nin : ∀ k, (a = p ∧ k = b) ∨ (b = p ∧ k = a) → k ∉ collL p qs := by
        intro k hk hm
        rcases coll_mem.mp hm with z | z
        · have q1 := h2.1 _ z
          have q2 := h1 _ (List.mem_cons_of_mem _ z)
          simp only at q1 q2
          omega
        · have q1 := h2.1 _ z
          have q2 := h1 _ (List.mem_cons_of_mem _ z)
          simp only at q1 q2
          omega
      by_cases ea : a = p
      · have eb : ¬ b = p := by omega
        rw [if_pos ea, if_neg eb, List.append_nil]
        exact List.nodup_cons.mpr ⟨nin b (.inl ⟨ea, rfl⟩), ih⟩
      · rw [if_neg ea, List.nil_append]
        by_cases eb : b = p
        · rw [if_pos eb]
          exact List.nodup_cons.mpr ⟨nin a (.inr ⟨eb, rfl⟩), ih⟩
        · rw [if_neg eb]; exact ih
  exact gen ps (fun pr hpr => (W.pr pr hpr).1) W.so
theorem foes_mem (W : Web n ps) {p k : Nat} : k ∈ foesL n ps p ↔ (p, k) ∈ ps ∨ (k, p) ∈ ps := by
  unfold foesL
  rw [List.mem_filter, List.mem_range, decide_eq_true_iff]
  constructor
  · rintro ⟨_, h⟩
    rcases Nat.le_total p k with z | z
    · rw [Nat.min_eq_left z, Nat.max_eq_right z] at h; exact .inl h
    · rw [Nat.min_eq_right z, Nat.max_eq_left z] at h; exact .inr h
  · rintro (h | h)
    · have := W.pr _ h
      have z : p ≤ k := Nat.le_of_lt this.1
      exact ⟨this.2, by rw [Nat.min_eq_left z, Nat.max_eq_right z]; exact h⟩
    · have := W.pr _ h
      have z : k ≤ p := Nat.le_of_lt this.1
      exact ⟨Nat.lt_trans this.1 this.2, by rw [Nat.min_eq_right z, Nat.max_eq_left z]; exact h⟩
theorem coll_len (p : Nat) : ∀ ps : List (Nat × Nat), (collL p ps).length ≤ 2 * ps.length
  | [] => by simp [collL]
  | pr :: ps => by
    have ih := coll_len p ps
    show (((if pr.1 = p then [pr.2] else []) ++ (if pr.2 = p then [pr.1] else [])) ++ collL p ps).length ≤ _
    rw [List.length_append, List.length_append, List.length_cons]
    have h1 : (if pr.1 = p then [pr.2] else []).length ≤ 1 := by split <;> simp
    have h2 : (if pr.2 = p then [pr.1] else []).length ≤ 1 := by split <;> simp
    omega
theorem rep_if (x : PyData) (b : Bool) : (List.replicate (if b then (1 : Int) else 0).toNat [x]).flatten = if b then [x] else [] := by cases b <;> rfl
theorem e_w_foes {ds : List PyData} (h : R_foes ds d) : ESr S ⟨G.ps, []⟩ (t_w_foes G) (ds.map some ++ List.replicate (5 - ds.length) none) d := by
  obtain ⟨n, ps, p, rfl, W, rfl⟩ := h
  have hfew := W.few
  obtain ⟨es2, hf, x2, y2, he2⟩ := forO_rel (ys := ps.map pairD) (es := [some (webD n ps), some (natD p), some (.list ((collL p (ps.take 0)).map natD)), none, none]) (Pe := fun k es => ∃ x y, es = [some (webD n ps), some (natD p), some (.list ((collL p (ps.take k)).map natD)), x, y])
    (step := fun es y o => ∃ es1, EG S ⟨G.ps, []⟩ (gTup G.K 2 (gCons (gName 3) (gCons (gName 4) gNil))) y es es1 ∧ ES S ⟨G.ps, []⟩ (tAsg (tOp (uAdd G.K) (tOp (uAdd G.K) (tVar 2) (tOp (uMul G.K) (tLst (tCons (tVar 4) tNil)) (tCB (uInt) (tCons (tOp (rEqP G.K) (tVar 3) (tVar 1)) tNil)))) (tOp (uMul G.K) (tLst (tCons (tVar 3) tNil)) (tCB (uInt) (tCons (tOp (rEqP G.K) (tVar 4) (tVar 1)) tNil)))) (gName 2)) es1 o) (by
      rintro k hk es ⟨x, y, rfl⟩
      have hk' : k < ps.length := by simpa using hk
      have e : (ps.map pairD)[k] = .tuple [natD ps[k].1, natD ps[k].2] := by simp [pairD]
      rw [e]
      have hc := coll_len p (ps.take k)
      have htk : (ps.take k).length ≤ 100 := by rw [List.length_take]; omega
      have m1 : ∀ {i : Nat} {x z : Nat} {es : Es}, EE S ⟨G.ps, []⟩ (tVar i) es (natD x) → ∀ {j : Nat}, EE S ⟨G.ps, []⟩ (tVar j) es (natD z) → EE S ⟨G.ps, []⟩ (tVar 1) es (natD p) → EE S ⟨G.ps, []⟩ (tOp (uMul G.K) (tLst (tCons (tVar i) tNil)) (tCB (uInt) (tCons (tOp (rEqP G.K) (tVar j) (tVar 1)) tNil))) es (.list (if z = p then [natD x] else [])) := fun {i x z es} h1 {j} h2 h3 =>
        ee_is (ee_op (ee_lst (aa_cons h1 aa_nil) (by simp)) (ee_cb (aa_cons (ee_op h2 h3 fun _ => rv_eqI) aa_nil) fun _ => rc_intB) fun _ => rv_mulL (by split <;> omega) (by split <;> omega) (by simp)) (by
          rw [rep_if]
          congr 1
          by_cases e : z = p
          · rw [if_pos e, if_pos (by simp; omega)]
          · rw [if_neg e, if_neg (by simp; omega)])
      refine ⟨_, ⟨_, eg_pair, es_set (ee_op (ee_op (ee_var rfl) (m1 (ee_var rfl) (ee_var rfl) (ee_var rfl)) fun _ => rv_addL ?_) (m1 (ee_var rfl) (ee_var rfl) (ee_var rfl)) fun _ => rv_addL ?_)⟩, some (natD ps[k].1), some (natD ps[k].2), ?_⟩
      · rw [List.length_map]
        have : (if ps[k].1 = p then [natD ps[k].2] else []).length ≤ 1 := by split <;> simp
        omega
      · rw [List.length_append, List.length_map]
        have : (if ps[k].1 = p then [natD ps[k].2] else []).length ≤ 1 := by split <;> simp
        have : (if ps[k].2 = p then [natD ps[k].1] else []).length ≤ 1 := by split <;> simp
        omega
      · have e2 : (collL p (ps.take (k + 1))).map natD = ((collL p (ps.take k)).map natD ++ if ps[k].1 = p then [natD ps[k].2] else []) ++ if ps[k].2 = p then [natD ps[k].1] else [] := by
          rw [List.take_add_one, List.getElem?_eq_getElem hk']
          show (collL p (ps.take k ++ [ps[k]])).map natD = _
          unfold collL
          rw [List.map_append, List.flatten_append, List.map_append, List.append_assoc]
          congr 1
          simp only [List.map_cons, List.map_nil, List.flatten_cons, List.flatten_nil, List.append_nil, List.map_append]
          by_cases h1 : ps[k].1 = p <;> by_cases h2 : ps[k].2 = p <;> simp [h1, h2]
        rw [e2]
        rfl) ⟨none, none, rfl⟩
  subst he2
  rw [List.length_map, List.take_length] at hf
  exact .inl (es_seq (es_set (ee_lst aa_nil (by simp))) (es_seq (es_for (ei_seqT (ee_web1 (ee_var rfl))) hf) (es_ret (ee_cb (aa_cons (ee_var rfl) aa_nil) fun _ => rc_srtN (coll_nd W p) foes_up fun k => by rw [coll_mem, foes_mem W]))))
theorem c_w_foes (W : Web n ps) (hP : ∀ x ∈ G.ps, x ∈ Ts.ts) (h : EE S Ts ta es (webD n ps)) (h1 : EE S Ts tb es (natD i)) : EE S Ts (tCall (sp_w_foes G) [] C8.E0 (tCons ta (tCons tb tNil))) es (.list ((foesL n ps i).map natD)) := ee_call (aa_cons h (aa_cons h1 aa_nil)) ⟨n, ps, i, rfl, W, rfl⟩ hP
end
end KV
set_option Elab.async false
set_option linter.all false
set_option maxRecDepth 100000
set_option maxHeartbeats 4000000
/-! Evaluation: the law's lots, deeds, fits. -/
namespace KV
open PySem PySem.Spec PyProof.Rows L2 GxR KO Smx
open PySem.W (alike dataLt dataLe AllAlike AlikeAll minD)
section
variable {G : Gd} {S : Hs} {Ts : Ks} {es : Es} {te ta tb tc : TE} {tr : TA} {d v : PyData} {q r : Rat} {n i j : Nat} {ps : List (Nat × Nat)} {l cs : List Nat}
theorem e_w_lots {ds : List PyData} (h : R_all_lots ds d) : ESr S ⟨G.ps, []⟩ (t_w_lots G) (ds.map some ++ List.replicate (4 - ds.length) none) d := by
  obtain ⟨n, ps, rfl, W, rfl⟩ := h
  have hn := W.le
  obtain ⟨es2, hf, x2, he2⟩ := forO_rel (ys := (List.range n).map natD) (es := [some (webD n ps), some (.list ((lotsN 0).map lotD)), none, none]) (Pe := fun k es => ∃ x, es = [some (webD n ps), some (.list ((lotsN k).map lotD)), x, none])
    (step := fun es y o => ∃ es1, EG S ⟨G.ps, []⟩ (gName 2) y es es1 ∧ ES S ⟨G.ps, []⟩ (tAsg (tOp (uAdd G.K) (tVar 1) (tLc (iSeq G.K (tVar 1)) (gName 3) tYes (tOp (uAdd G.K) (tVar 3) (tTup (tCons (tVar 2) tNil))) [3])) (gName 1)) es1 o) (by
      rintro k hk es ⟨x, rfl⟩
      have hk' : k < n := by simpa using hk
      have e : ((List.range n).map natD)[k] = natD k := by simp
      rw [e]
      have hl := lotsN_len k
      have h32 : 2 ^ k ≤ 32 := pow5 (by omega)
      refine ⟨_, ⟨_, eg_name' rfl, es_set (ee_op (ee_var rfl) (ee_lcV (l := lotsN k) (F := lotD) (f := fun l => lotD (l ++ [k])) (p := fun _ => true) (ei_seqL (ee_var rfl)) (by simp) (by omega) fun l hl' S' hz => ⟨tt_yes, fun _ => ee_is (ee_op (ee_var (d := .tuple (l.map natD)) rfl) (ee_tup (aa_cons (ee_var rfl) aa_nil) (by simp)) fun _ => rv_addT ?_) ?_⟩) fun _ => rv_addL ?_)⟩, some (natD k), ?_⟩
      · have := (lots_mem.mp hl').len
        simp only [List.length_append, List.length_map, List.length_cons, List.length_nil]; omega
      · simp [lotD]
      · rw [filter_yes]; simp only [List.length_map]; omega
      · rw [filter_yes]
        show [_, some (PyData.list _), _, _] = _
        simp [lotsN]) ⟨none, rfl⟩
  subst he2
  rw [List.length_map, List.length_range] at hf
  refine .inl (es_seq (es_set (ee_lst (aa_cons (ee_tup aa_nil (by simp)) aa_nil) (by simp))) (es_seq (es_for (ei_nat (aa_cons (ee_web0 (ee_var rfl)) aa_nil) (by omega)) hf) (es_o (es_ret (ee_cb (aa_cons (ee_var rfl) aa_nil) fun _ => rc_srt ?_ ?_ ?_ ?_)) ?_)))
  · intro a ha b hb
    obtain ⟨l, _, rfl⟩ := List.mem_map.mp ha
    obtain ⟨m, _, rfl⟩ := List.mem_map.mp hb
    exact alike_lots l m
  · obtain ⟨r, e⟩ := lotsN_head n
    refine .inr ⟨r.map lotD, by rw [e]; rfl, fun d hd => ?_⟩
    obtain ⟨l, _, rfl⟩ := List.mem_map.mp hd
    exact ⟨_, rfl⟩
  · intro d hd
    obtain ⟨l, _, rfl⟩ := List.mem_map.mp hd
    rw [depth_lot]; omega
  · exact plain_map plain_lot _
  · rw [lots_sorted]
theorem c_w_lots (W : Web n ps) (hP : ∀ x ∈ G.ps, x ∈ Ts.ts) (h : EE S Ts ta es (webD n ps)) : EE S Ts (tCall (sp_w_lots G) [] C8.E0 (tCons ta tNil)) es (.list ((lots n).map lotD)) := ee_call (aa_cons h aa_nil) ⟨n, ps, rfl, W, rfl⟩ hP
theorem c_w_deed (W : Web n ps) (L : Lot n l) (hP : ∀ x ∈ G.ps, x ∈ Ts.ts) (h : EE S Ts ta es (webD n ps)) (h1 : EE S Ts tb es (lotD l)) : EE S Ts (tCall (sp_w_deed G) [] C8.E0 (tCons ta (tCons tb tNil))) es (.tuple [.tuple (((staysL n ps l).map natD).mergeSort (dataLe false id)), .tuple ((withF n ps l).map natD)]) := ee_call (aa_cons h (aa_cons h1 aa_nil)) ⟨n, ps, l, rfl, W, L, rfl⟩ hP
theorem e_w_covers {ds : List PyData} (h : R_covers ds d) : ESr S ⟨G.ps, []⟩ (t_w_covers G) (ds.map some ++ List.replicate (2 - ds.length) none) d := by
  obtain ⟨n, ps, l, rfl, W, L, rfl⟩ := h
  refine .inl (es_o (es_ret (ee_op (ee_cb (aa_cons (ee_op (c_w_deed W L tab_of (ee_var rfl) (ee_var rfl)) ee_int fun _ => rv_ixT (z := .tuple ((withF n ps l).map natD)) rfl) aa_nil) fun _ => rc_lenT) (ee_web0 (ee_var rfl)) fun _ => rv_eqI)) ?_)
  rw [List.length_map]
  congr 2
  unfold cov
  rw [Bool.eq_iff_iff, decide_eq_true_iff, decide_eq_true_iff]
  omega
theorem c_w_covers (W : Web n ps) (L : Lot n l) (hP : ∀ x ∈ G.ps, x ∈ Ts.ts) (h : EE S Ts ta es (webD n ps)) (h1 : EE S Ts tb es (lotD l)) : EE S Ts (tCall (sp_w_covers G) [] C8.E0 (tCons ta (tCons tb tNil))) es (.bool (cov n ps l)) := ee_call (aa_cons h (aa_cons h1 aa_nil)) ⟨n, ps, l, rfl, W, L, rfl⟩ hP
/-- a loop that may find what ends it -/
theorem forO_find {step : Es → PyData → Out → Prop} {Pe : Nat → Es → Prop} {ys : List PyData} {bad : Nat → Bool} (h : ∀ k (hk : k < ys.length) es, Pe k es → (bad k = true → step es ys[k] (.rt d)) ∧ (bad k = false → ∃ es', step es ys[k] (.nx es') ∧ Pe (k + 1) es')) : ∀ {es : Es}, Pe 0 es →
    ((∃ k, k < ys.length ∧ bad k = true) ∧ ForO step ys es (.rt d)) ∨ ((∀ k, k < ys.length → bad k = false) ∧ ∃ es', ForO step ys es (.nx es') ∧ Pe ys.length es') := by
  have gen : ∀ m k es, k + m = ys.length → Pe k es → ((∃ j, k ≤ j ∧ j < ys.length ∧ bad j = true) ∧ ForO step (ys.drop k) es (.rt d)) ∨ ((∀ j, k ≤ j → j < ys.length → bad j = false) ∧ ∃ es', ForO step (ys.drop k) es (.nx es') ∧ Pe ys.length es') := by
    intro m
    induction m with
    | zero =>
      intro k es e p
      have : k = ys.length := by omega
      subst this
      rw [List.drop_length]
      exact .inr ⟨fun j h1 h2 => by omega, es, .nil, p⟩
    | succ m ih =>
      intro k es e p
      have hk : k < ys.length := by omega
      obtain ⟨h1, h2⟩ := h k hk es p
      rw [List.drop_eq_getElem_cons hk]
      cases hb : bad k with
      | true => exact .inl ⟨⟨k, Nat.le_refl _, hk, hb⟩, .out (h1 hb)⟩
      | false =>
        obtain ⟨e1, s1, p1⟩ := h2 hb
        rcases ih (k + 1) e1 (by omega) p1 with ⟨⟨j, j1, j2, j3⟩, f⟩ | ⟨a, e2, f, p2⟩
        · exact .inl ⟨⟨j, by omega, j2, j3⟩, .go s1 f⟩
        · refine .inr ⟨fun j j1 j2 => ?_, e2, .go s1 f, p2⟩
          by_cases z : j = k
          · rw [z]; exact hb
          · exact a j (by omega) j2
  intro es p
  rcases gen ys.length 0 es (by omega) p with ⟨⟨j, _, j2, j3⟩, f⟩ | ⟨a, q⟩
  · exact .inl ⟨⟨j, j2, j3⟩, f⟩
  · exact .inr ⟨fun k hk => a k (Nat.zero_le _) hk, q⟩
theorem ratD_nat (c : Nat) : ratD ((c : Nat) : Rat) = .tuple [.int (c : Int), .int 1] := rfl
theorem szr_nat {c e : Nat} (h : c < 2 ^ e) (he : 0 < e) : SzR e ((c : Nat) : Rat) := ⟨by
  show ((c : Int)).natAbs < _
  rw [Int.natAbs_natCast]; exact h, by
  show 1 < 2 ^ e
  exact Nat.one_lt_two_pow (by omega)⟩
theorem near_sz {qs : List Rat} (hq : ∀ q ∈ qs, SzR 40 q) (hn : n ≤ 5) : SzR 1000 (nearQ n ps qs i) := by
  have hl : (i :: foesL n ps i).length ≤ 6 := by have := foes_len (n := n) (ps := ps) (i := i); simp only [List.length_cons]; omega
  have h := szr_take (qs := (i :: foesL n ps i).map fun j => qs.getD j 0) (fun q hq' => ?_) ((i :: foesL n ps i).map fun j => qs.getD j 0).length
  · rw [List.take_length] at h
    exact h.mono (by rw [List.length_map]; omega)
  · obtain ⟨j, _, rfl⟩ := List.mem_map.mp hq'
    by_cases hj : j < qs.length
    · rw [getD_of (List.getElem?_eq_getElem hj)]; exact hq _ (List.getElem_mem hj)
    · rw [List.getD_eq_getElem?_getD, List.getElem?_eq_none (by omega)]
      exact szr_zero.mono (by omega)
theorem c_w_fits_less {cs : List Nat} {qs : List Rat} {p : Nat} (hn : n ≤ 5) (Ct : Csts n cs) (hp : p < n) (hq : ∀ q ∈ qs, SzR 40 q) (hP : ∀ x ∈ G.ps, x ∈ Ts.ts) (h1 : EE S Ts ta es (lotD cs)) (h2 : EE S Ts tb es (natD p)) (h3 : EE S Ts tc es (ratD (nearQ n ps qs p))) :
    EE S Ts (tCall (sp_w_less G) [] C8.E0 (tCons (tTup (tCons (tOp (rIx G.K) ta tb) (tCons (tC (.int 1)) tNil))) (tCons tc tNil))) es (.bool (decide (((cs.getD p 0 : Nat) : Rat) < nearQ n ps qs p))) := by
  have hp' : p < cs.length := by rw [Ct.len]; exact hp
  have hc := Ct.le _ (List.getElem_mem hp')
  rw [getD_of (List.getElem?_eq_getElem hp')]
  exact c_w_less ((szr_nat (e := 20) (by omega) (by omega)).mono (by omega)) (near_sz hq hn) hP (ee_is (ee_tup (aa_cons (ee_op (z := natD cs[p]) h1 h2 fun _ => rv_ixT (atI_nat (getL_map hp'))) (aa_cons ee_int aa_nil)) (by simp)) (ratD_nat _).symm) h3
theorem num_neg (q : Rat) : q.num < 0 ↔ q < 0 := by rw [← Rat.not_le, ← Rat.num_nonneg]; omega
theorem lt_le (q r : Rat) : (decide (q < r) = false) ↔ r ≤ q := by rw [decide_eq_false_iff_not, Rat.not_lt]
theorem e_w_fits {ds : List PyData} (h : R_w_fits ds d) : ESr S ⟨G.ps, []⟩ (t_w_fits G) (ds.map some ++ List.replicate (7 - ds.length) none) d := by
  obtain ⟨n, ps, cs, v, rfl, W, Ct, ⟨qs, rfl, hq, hl, rfl⟩ | ⟨ht, hp, rfl⟩⟩ := h
  · have hn := W.le
    refine .inl ?_
    by_cases hlen : qs.length = n
    · have hcond : ET S ⟨G.ps, []⟩ (tOr (tNot (tB (tCB (uIsi G.K) (tCons (tVar 2) (tCons (tC (.ty "tuple")) tNil))))) (tTest (tOp (rNeP G.K) (tCB (uLen G.K) (tCons (tVar 2) tNil)) (tOp (rIx G.K) (tVar 0) (tC (.int 0)))))) [some (webD n ps), some (lotD cs), some (papD qs), none, none, none, none] false :=
        et_is' (tt_or (tt_not (tt_B (ee_isTup (ee_var rfl) (by unfold papD; rw [PyData.plain]; exact plain_map plain_rat qs)))) fun _ => tt_test (ee_op (ee_cb (aa_cons (ee_var (d := .tuple (qs.map ratD)) rfl) aa_nil) fun _ => rc_lenT) (ee_web0 (ee_var rfl)) fun _ => rv_neI)) (by simp [isTupD, papD, hlen])
      -- the values
      have f1 := forO_find (d := .bool false) (ys := qs.map ratD) (es := [some (webD n ps), some (lotD cs), some (papD qs), none, none, none, none]) (Pe := fun k es => ∃ x, es = [some (webD n ps), some (lotD cs), some (papD qs), x, none, none, none]) (bad := fun k => decide (qs.getD k 0 < 0))
        (step := fun es y o => ∃ es1, EG S ⟨G.ps, []⟩ (gName 3) y es es1 ∧ ES S ⟨G.ps, []⟩ (tIfS (tOr (tNot (tB (tCall (sp_w_is_ratio G) [] C8.E0 (tCons (tVar 3) tNil)))) (tTest (tOp (uLt) (tOp (rIx G.K) (tVar 3) (tC (.int 0))) (tC (.int 0))))) (tRet (tC (.bl false))) tNext) es1 o) (by
          rintro k hk es ⟨x, rfl⟩
          have hk' : k < qs.length := by simpa using hk
          have e : (qs.map ratD)[k] = ratD qs[k] := by simp
          rw [e, getD_of (List.getElem?_eq_getElem hk')]
          have hc : ET S ⟨G.ps, []⟩ (tOr (tNot (tB (tCall (sp_w_is_ratio G) [] C8.E0 (tCons (tVar 3) tNil)))) (tTest (tOp (uLt) (tOp (rIx G.K) (tVar 3) (tC (.int 0))) (tC (.int 0))))) [some (webD n ps), some (lotD cs), some (papD qs), some (ratD qs[k]), none, none, none] (decide (qs[k] < 0)) :=
            et_is' (tt_or (tt_not (tt_B (c_w_is_ratio ((hq _ (List.getElem_mem hk')).mono (by omega)) tab_of (ee_var rfl)))) fun _ => tt_test (ee_op (ee_num (ee_var rfl)) ee_int fun _ => rv_lt)) (by
              show (!true || decide (qs[k].num < 0)) = _
              rw [Bool.not_true, Bool.false_or]
              congr 1
              exact propext (num_neg _))
          exact ⟨fun hb => ⟨_, eg_name' rfl, es_if (b := true) (et_is' hc hb) (fun _ => es_ret ee_bl) fun z => nomatch z⟩, fun hb => ⟨_, ⟨_, eg_name' rfl, es_if (b := false) (et_is' hc hb) (fun z => nomatch z) fun _ => es_skip⟩, _, rfl⟩⟩) ⟨none, rfl⟩
      rcases f1 with ⟨⟨k, hk, hb⟩, hf⟩ | ⟨hb, es1, hf, x1, he1⟩
      · refine es_seq (es_if hcond (fun z => nomatch z) fun _ => es_skip) (es_o (es_seq' (es_for (ei_seqT (ee_var rfl)) hf)) ?_)
        have hk' : k < qs.length := by simpa using hk
        have : (qs.all fun q => decide (0 ≤ q)) = false := by
          rw [List.all_eq_false]
          refine ⟨qs[k], List.getElem_mem hk', ?_⟩
          have hb := of_decide_eq_true hb
          rw [getD_of (List.getElem?_eq_getElem hk')] at hb
          simpa using Rat.not_le.mpr hb
        unfold fitsQ
        rw [this]; simp
      · subst he1
        have hall : (qs.all fun q => decide (0 ≤ q)) = true := by
          rw [List.all_eq_true]
          intro q hq'
          obtain ⟨k, hk, rfl⟩ := List.getElem_of_mem hq'
          have := hb k (by simpa using hk)
          rw [getD_of (List.getElem?_eq_getElem hk)] at this
          have := (lt_le _ _).mp this
          simpa using this
        have f2 := forO_find (d := .bool false) (ys := (List.range n).map natD) (es := [some (webD n ps), some (lotD cs), some (papD qs), x1, none, none, none]) (Pe := fun k es => ∃ x y, es = [some (webD n ps), some (lotD cs), some (papD qs), x1, x, y, none]) (bad := fun k => decide (((cs.getD k 0 : Nat) : Rat) < nearQ n ps qs k))
          (step := fun es y o => ∃ es1, EG S ⟨G.ps, []⟩ (gName 4) y es es1 ∧ ES S ⟨G.ps, []⟩ (tSeq (tAsg (tCall (sp_w_sum G) [] C8.E0 (tCons (tLc (iSeq G.K (tOp (uAdd G.K) (tLst (tCons (tVar 4) tNil)) (tCall (sp_w_foes G) [] C8.E0 (tCons (tVar 0) (tCons (tVar 4) tNil))))) (gName 6) tYes (tOp (rIx G.K) (tVar 2) (tVar 6)) [6]) tNil)) (gName 5)) (tIfS (tB (tCall (sp_w_less G) [] C8.E0 (tCons (tTup (tCons (tOp (rIx G.K) (tVar 1) (tVar 4)) (tCons (tC (.int 1)) tNil))) (tCons (tVar 5) tNil)))) (tRet (tC (.bl false))) tNext)) es1 o) (by
            rintro k hk es ⟨x, y, rfl⟩
            have hk' : k < n := by simpa using hk
            have e : ((List.range n).map natD)[k] = natD k := by simp
            rw [e]
            have hfl := foes_len (n := n) (ps := ps) (i := k)
            have hsum : EE S ⟨G.ps, []⟩ (tCall (sp_w_sum G) [] C8.E0 (tCons (tLc (iSeq G.K (tOp (uAdd G.K) (tLst (tCons (tVar 4) tNil)) (tCall (sp_w_foes G) [] C8.E0 (tCons (tVar 0) (tCons (tVar 4) tNil))))) (gName 6) tYes (tOp (rIx G.K) (tVar 2) (tVar 6)) [6]) tNil)) [some (webD n ps), some (lotD cs), some (papD qs), x1, some (natD k), y, none] (ratD (nearQ n ps qs k)) :=
              c_w_sum (qs := (k :: foesL n ps k).map fun j => qs.getD j 0) (fun q hq' => by
                obtain ⟨j, hj, rfl⟩ := List.mem_map.mp hq'
                have hj' : j < qs.length := by
                  rcases List.mem_cons.mp hj with z | z
                  · omega
                  · have := foes_lt z; omega
                rw [getD_of (List.getElem?_eq_getElem hj')]
                exact hq _ (List.getElem_mem hj')) (by simp only [List.length_map, List.length_cons]; omega) tab_of (ee_is (ee_lcV (l := k :: foesL n ps k) (F := natD) (f := fun j => ratD (qs.getD j 0)) (p := fun _ => true) (ei_seqL (ee_op (ee_lst (aa_cons (ee_var rfl) aa_nil) (by simp)) (c_w_foes W tab_of (ee_var rfl) (ee_var rfl)) fun _ => rv_addL (by simp only [List.length_map, List.length_cons, List.length_nil]; omega))) (by simp) (by simp only [List.length_cons]; omega) fun j hj S' hz => ⟨tt_yes, fun _ => ?_⟩) (by rw [filter_yes, List.map_map]; rfl))
            · have hc := c_w_fits_less (ps := ps) (es := [some (webD n ps), some (lotD cs), some (papD qs), x1, some (natD k), some (ratD (nearQ n ps qs k)), none]) (S := S) (Ts := ⟨G.ps, []⟩) (G := G) (ta := tVar 1) (tb := tVar 4) (tc := tVar 5) hn Ct hk' hq tab_of (ee_var rfl) (ee_var rfl) (ee_var rfl)
              exact ⟨fun hb => ⟨_, eg_name' rfl, es_seq (es_set hsum) (es_if (b := true) (et_is' (tt_B hc) hb) (fun _ => es_ret ee_bl) fun z => nomatch z)⟩, fun hb => ⟨_, ⟨_, eg_name' rfl, es_seq (es_set hsum) (es_if (b := false) (et_is' (tt_B hc) hb) (fun z => nomatch z) fun _ => es_skip)⟩, _, _, rfl⟩⟩
            · have hj' : j < qs.length := by
                rcases List.mem_cons.mp hj with z | z
                · omega
                · have := foes_lt z; omega
              refine ee_is (ee_op (ee_var (d := .tuple (qs.map ratD)) rfl) (ee_var rfl) fun _ => rv_ixT (atI_nat (getL_map hj'))) ?_
              rw [getD_of (List.getElem?_eq_getElem hj')]) ⟨none, none, rfl⟩
        have hw := ei_nat (S := S) (Ts := ⟨G.ps, []⟩) (es := [some (webD n ps), some (lotD cs), some (papD qs), x1, none, none, none]) (k := n) (aa_cons (ee_web0 (G := G) (n := n) (ps := ps) (te := tVar 0) (ee_var rfl)) aa_nil) (by omega)
        rcases f2 with ⟨⟨k, hk, hb2⟩, hf2⟩ | ⟨hb2, es2, hf2, x2, y2, he2⟩
        · refine es_seq (es_if hcond (fun z => nomatch z) fun _ => es_skip) (es_seq (es_for (ei_seqT (ee_var rfl)) hf) (es_o (es_seq' (es_for hw hf2)) ?_))
          have hk' : k < n := by simpa using hk
          have : ((List.range n).all fun i => decide (nearQ n ps qs i ≤ ((cs.getD i 0 : Nat) : Rat))) = false := by
            rw [List.all_eq_false]
            refine ⟨k, List.mem_range.mpr hk', ?_⟩
            have := of_decide_eq_true hb2
            simpa using Rat.not_le.mpr this
          unfold fitsQ
          rw [this]; simp
        · subst he2
          refine es_seq (es_if hcond (fun z => nomatch z) fun _ => es_skip) (es_seq (es_for (ei_seqT (ee_var rfl)) hf) (es_seq (es_for hw hf2) (es_o (es_ret ee_bl) ?_)))
          have : ((List.range n).all fun i => decide (nearQ n ps qs i ≤ ((cs.getD i 0 : Nat) : Rat))) = true := by
            rw [List.all_eq_true]
            intro k hk
            have := (lt_le _ _).mp (hb2 k (by simpa using hk))
            simpa using this
          unfold fitsQ
          rw [this, hall, hlen]; simp
    · refine es_o (es_seq' (es_if (b := true) (et_is' (tt_or (tt_not (tt_B (ee_isTup (ee_var rfl) (by unfold papD; rw [PyData.plain]; exact plain_map plain_rat qs)))) fun _ => tt_test (ee_op (ee_cb (aa_cons (ee_var (d := .tuple (qs.map ratD)) rfl) aa_nil) fun _ => rc_lenT) (ee_web0 (ee_var rfl)) fun _ => rv_neI)) (by
        rw [List.length_map]
        have : ¬ ((qs.length : Nat) : Int) = (n : Int) := by omega
        simp [this])) (fun _ => es_ret ee_bl) fun z => nomatch z)) ?_
      unfold fitsQ
      simp [hlen]
  · refine .inl (es_seq' (es_if (b := true) (et_is' (tt_or (b := true) (tt_not (tt_B (ee_isTup (ee_var rfl) hp))) fun z => ?_) ?_) (fun _ => es_ret ee_bl) fun z => nomatch z))
    · rw [ht] at z; cases z
    · rw [ht]; rfl
end
end KV
set_option Elab.async false
set_option linter.all false
set_option maxRecDepth 100000
set_option maxHeartbeats 4000000
/-! Evaluation: deeds; who goes, by a dict. -/
namespace KV
open PySem PySem.Spec PyProof.Rows L2 GxR KO Smx
open PySem.W (alike dataLt dataLe AllAlike AlikeAll minD)
section
variable {G : Gd} {S : Hs} {Ts : Ks} {es : Es} {te ta tb tc te2 : TE} {tr : TA} {d v : PyData} {q r : Rat} {n i j : Nat} {ps : List (Nat × Nat)} {l cs : List Nat} {X : Sta} {P : Sta → Prop} {R : Sta → PyData → Prop} {ds : List PyData}
theorem rc_srtG {K : PySem.W.Frag} {w : World} {B : Hp} {l : List Nat} : RC S (uSrt K w) [.list (l.map natD)] B (.list ((l.map natD).mergeSort (dataLe false id))) := by
  refine rc_srt (fun x hx y hy => ?_) (.inl (.inr fun x hx => ?_)) (fun x hx => ?_) (plain_nats l)
  · obtain ⟨a, _, rfl⟩ := List.mem_map.mp hx
    obtain ⟨b, _, rfl⟩ := List.mem_map.mp hy
    exact alike_nat a b
  · obtain ⟨a, _, rfl⟩ := List.mem_map.mp hx
    simp
  · obtain ⟨a, _, rfl⟩ := List.mem_map.mp hx
    simp [PyData.depth]
/-- x, y = [..], e: the first one's own -/
theorem ms_par_own (h1 : EN X.S X.T te X.es ds) (h2 : ∀ a vs, EE (X.S.own a (.lst vs)) (X.T.kn vs ds) te2 X.es d) (hp : ∀ a vs, a ∉ X.S.ad → X.S.fz a = none → vs.length = ds.length → P ⟨X.S.own a (.lst vs), X.T.kn vs ds, (X.es.set i (some (rawD a))).set j (some d)⟩) : MS (tPar i j (tCons te (tCons te2 tNil))) X P R := fun σ H k D kn kr =>
  h1 σ _ k.inn H k.ext _ fun a vs H2 g n e r => by
    have hw : ∀ p ∈ (X.T.kn vs ds).ow, Rps (hid (X.S.own a (.lst vs)) H2) p.1 p.2 := fun p hp => by
      rcases List.mem_cons.mp hp with q | q
      · rw [q]; exact r
      · exact (k.inn.tbs.ow p q).mono (gr_own g n)
    have k2 := own_ok (i := i) (T' := X.T.kn vs ds) (es' := X.es.set i (some (rawD a))) k g n e rfl hw rfl
    have I1 : Inn (X.T.kn vs ds) σ (hid (X.S.own a (.lst vs)) H2) X.es := ⟨k.inn.len, (k.inn.mono (gr_own (f := upd X.S.fz a (.lst vs)) g n)).get, ⟨(k.inn.mono (gr_own (f := upd X.S.fz a (.lst vs)) g n)).tbs.ts, hw⟩⟩
    refine h2 a vs σ _ I1 H2 ⟨Gr.refl _, k2.fz, k2.trk⟩ _ fun v H3 g3 r3 => ⟨.ref a, v, rfl, ?_⟩
    have k3 := k2.go g3
    exact kn ⟨X.S.own a (.lst vs), X.T.kn vs ds, (X.es.set i (some (rawD a))).set j (some d)⟩ _ H3 (hp a vs (fun z => k.trk a z n) (k.fz.back n) r.len) ((fr_own g n).trans (Fr.of g3)) ⟨k3.inn.set r3 j, k3.trk, k3.fz⟩
theorem put_own {S : Hs} {a : Addr} {o o' : HO} : (S.own a o).put a o' = S.own a o' := by
  show (⟨a :: S.ad, upd (upd S.fz a o) a o'⟩ : Hs) = ⟨a :: S.ad, upd S.fz a o'⟩
  rw [upd_upd]
theorem gr_put {f : Hp} {a : Addr} {o : HO} (h : f a = none) : Gr f (upd f a o) := .new h
theorem cut_from {l : List Nat} {k : Nat} (h : k ≤ l.length) : cutD (l.map natD) (some (k : Int)) none = (l.drop k).map natD := by
  unfold cutD
  rw [HT.sIx_nat, HT.sIx_none, List.length_map, Nat.min_eq_left h, List.map_drop]
  exact List.take_of_length_le (by rw [List.length_drop, List.length_map]; omega)
theorem stays_succ {l : List Nat} {k : Nat} : stays n ps l (k + 1) = stays n ps l k ++ if stayAt n ps l k = true then [l.getD k 0] else [] := by
  unfold stays
  rw [List.range_succ, List.filter_append, List.map_append]
  congr 1
  by_cases h : stayAt n ps l k = true <;> simp [h]
theorem stays_len {l : List Nat} {k : Nat} : (stays n ps l k).length ≤ k := by
  unfold stays
  rw [List.length_map]
  exact Nat.le_trans (List.length_filter_le _ _) (by rw [List.length_range]; exact Nat.le_refl _)
theorem gone_len (L : Lot n l) (hn : n ≤ 5) (k : Nat) : (goneL n ps (l.take k)).length ≤ 40 := by
  have h1 := L.len
  unfold goneL
  have gen : ∀ m : List Nat, ((m.map fun a => a :: foesL n ps a).flatten).length ≤ m.length * 6 := by
    intro m
    induction m with
    | nil => simp
    | cons a m ih =>
      have := foes_len (n := n) (ps := ps) (i := a)
      rw [List.map_cons, List.flatten_cons, List.length_append, List.length_cons, List.length_cons]
      omega
  have := gen (l.take k)
  rw [List.length_take] at this
  omega
theorem e_w_deed {ds : List PyData} (h : R_w_deed ds d) : MS (t_w_deed G) ⟨S, ⟨G.ps, []⟩, ds.map some ++ List.replicate (8 - ds.length) none⟩ (fun _ => False) (fun X d' => d' = d ∧ (∀ b ∈ S.ad, b ∈ X.S.ad) ∧ Gr S.fz X.S.fz) := by
  obtain ⟨n, ps, l, rfl, W, L, rfl⟩ := h
  have hn := W.le
  have hl := L.len
  refine ms_seq (P1 := fun X => ∃ a vs ow x4 x5 x6, a ∉ S.ad ∧ S.fz a = none ∧ vs.length = (stays n ps l 0).length ∧ X = ⟨S.own a (.lst vs), ⟨G.ps, (vs, (stays n ps l 0).map natD) :: ow⟩, [some (webD n ps), some (lotD l), some (rawD a), some (.list ((goneL n ps (l.take 0)).map natD)), x4, x5, x6, none]⟩)
    (ms_par_own (en_lst aa_nil (by simp)) (fun a vs => ee_lst aa_nil (by simp)) fun a vs h1 h2 h3 => ⟨a, vs, [], none, none, none, h1, h2, h3, rfl⟩) ?_
  rintro X0 ⟨a, vs, ow, x4, x5, x6, ha, hf, hv, rfl⟩
  refine ms_seq (P1 := fun X => ∃ a vs ow x4 x5 x6, a ∉ S.ad ∧ S.fz a = none ∧ vs.length = (stays n ps l l.length).length ∧ X = ⟨S.own a (.lst vs), ⟨G.ps, (vs, (stays n ps l l.length).map natD) :: ow⟩, [some (webD n ps), some (lotD l), some (rawD a), some (.list ((goneL n ps (l.take l.length)).map natD)), x4, x5, x6, none]⟩)
    (ms_for (f0 := fun _ => none) (ys := (List.range l.length).map natD) (fun k X => ∃ a vs ow x4 x5 x6, a ∉ S.ad ∧ S.fz a = none ∧ vs.length = (stays n ps l k).length ∧ X = ⟨S.own a (.lst vs), ⟨G.ps, (vs, (stays n ps l k).map natD) :: ow⟩, [some (webD n ps), some (lotD l), some (rawD a), some (.list ((goneL n ps (l.take k)).map natD)), x4, x5, x6, none]⟩)
      (ei2_nat (aa_cons (ee_is (ee_cb (aa_cons (ee_var (d := .tuple (l.map natD)) rfl) aa_nil) fun _ => rc_lenT) (by rw [List.length_map])) aa_nil) (by omega)) ⟨a, vs, ow, x4, x5, x6, ha, hf, hv, rfl⟩ (fun k X h b o z => by cases z) ?_ (fun X h => by simpa using h)) ?_
  · rintro k hk X ⟨a, vs, ow, x4, x5, x6, ha, hf, hv, rfl⟩
    have hk' : k < l.length := by simpa using hk
    have e : ((List.range l.length).map natD)[k] = natD k := by simp
    rw [e]
    have hlk : l.getD k 0 = l[k] := getD_of (List.getElem?_eq_getElem hk')
    have hin : l[k] ∈ l := List.getElem_mem hk'
    have hgl := gone_len (ps := ps) L hn k
    have hfl := foes_len (n := n) (ps := ps) (i := l[k])
    have hco : ∀ {S : Hs} {T : Ks} {es : Es}, EE S T (tVar 1) es (lotD l) → EE S T (tVar 4) es (natD k) → EE S T (tOp (rIx G.K) (tVar 1) (tVar 4)) es (natD l[k]) := fun h1 h2 => ee_op h1 h2 fun _ => rv_ixT (atI_nat (getL_map hk'))
    refine ⟨_, eg_name' rfl, ?_⟩
    refine ms_seq (P1 := fun X => X = ⟨S.own a (.lst vs), ⟨G.ps, (vs, (stays n ps l k).map natD) :: ow⟩, [some (webD n ps), some (lotD l), some (rawD a), some (.list ((goneL n ps (l.take k)).map natD)), some (natD k), some (lotD (l.drop (k + 1))), x6, none]⟩) (ms_es (es_set (ee_is (ee_slT (ee_var (d := .tuple (l.map natD)) rfl) (oo_some (ee_op (ee_var rfl) ee_int fun _ => rv_addI)) oo_none) (congrArg PyData.tuple (cut_from (k := k + 1) (by omega))))) rfl) ?_
    rintro _ rfl
    refine ms_seq (P1 := fun X => X = ⟨S.own a (.lst vs), ⟨G.ps, (vs, (stays n ps l k).map natD) :: ow⟩, [some (webD n ps), some (lotD l), some (rawD a), some (.list ((goneL n ps (l.take k)).map natD)), some (natD k), some (lotD (l.drop (k + 1))), some (.list ((foesL n ps l[k]).map natD)), none]⟩) (ms_es (es_set (c_w_foes W tab_of (ee_var rfl) (hco (ee_var rfl) (ee_var rfl)))) rfl) ?_
    rintro _ rfl
    have hg : (goneL n ps (l.take (k + 1))).map natD = ((goneL n ps (l.take k)).map natD ++ [natD l[k]]) ++ (foesL n ps l[k]).map natD := by
      rw [List.take_add_one, List.getElem?_eq_getElem hk']
      show (goneL n ps (l.take k ++ [l[k]])).map natD = _
      unfold goneL
      rw [List.map_append, List.flatten_append, List.map_append, List.append_assoc]
      congr 1
      simp
    refine ms_seq (P1 := fun X => X = ⟨S.own a (.lst vs), ⟨G.ps, (vs, (stays n ps l k).map natD) :: ow⟩, [some (webD n ps), some (lotD l), some (rawD a), some (.list ((goneL n ps (l.take (k + 1))).map natD)), some (natD k), some (lotD (l.drop (k + 1))), some (.list ((foesL n ps l[k]).map natD)), none]⟩) (ms_es (es_set (ee_is (ee_op (ee_op (ee_var rfl) (ee_lst (aa_cons (hco (ee_var rfl) (ee_var rfl)) aa_nil) (by simp)) fun _ => rv_addL (by simp only [List.length_map, List.length_cons, List.length_nil]; omega)) (ee_var rfl) fun _ => rv_addL (by simp only [List.length_append, List.length_map, List.length_cons, List.length_nil]; omega)) (congrArg PyData.list hg.symm))) rfl) ?_
    rintro _ rfl
    have anyE : ∀ (x : Nat) (m : List Nat), ((m.map natD).any fun z => PyData.eqv z (natD x)) = decide (x ∈ m) := fun x m => by
      rw [List.any_map, Bool.eq_iff_iff, List.any_eq_true, decide_eq_true_iff]
      constructor
      · rintro ⟨y, hy, e⟩
        have e : PyData.eqv (natD y) (natD x) = true := e
        rw [eqv_int, decide_eq_true_iff] at e
        have : y = x := by omega
        rw [← this]; exact hy
      · intro hx
        refine ⟨x, hx, ?_⟩
        show PyData.eqv (natD x) (natD x) = true
        rw [eqv_int]; simp
    have hcond : ET (S.own a (.lst vs)) ⟨G.ps, (vs, (stays n ps l k).map natD) :: ow⟩ (tAnd (tTest (tOp (rNiP G.K) (tOp (rIx G.K) (tVar 1) (tVar 4)) (tVar 5))) (tTest (tOp (rEqP G.K) (tLc (iSeq G.K (tVar 6)) (gName 7) (tTest (tOp (rInP G.K) (tVar 7) (tVar 5))) (tVar 7) [7]) (tLst tNil)))) [some (webD n ps), some (lotD l), some (rawD a), some (.list ((goneL n ps (l.take (k + 1))).map natD)), some (natD k), some (lotD (l.drop (k + 1))), some (.list ((foesL n ps l[k]).map natD)), none] (stayAt n ps l k) :=
      et_is' (tt_and (tt_test (ee_op (hco (ee_var rfl) (ee_var rfl)) (ee_var (d := .tuple ((l.drop (k + 1)).map natD)) rfl) fun _ => rv_niT rfl (plain_nats _) (by simp [PyData.depth]))) fun _ => tt_test (ee_op (ee_lcV (l := foesL n ps l[k]) (F := natD) (f := natD) (p := fun j => decide (j ∈ l.drop (k + 1))) (ei_seqL (ee_var rfl)) (by simp) (by omega) fun j hj S' hz => ⟨et_is' (tt_test (ee_op (ee_var rfl) (ee_var (d := .tuple ((l.drop (k + 1)).map natD)) rfl) fun _ => rv_inT rfl (plain_nats _) (by simp [PyData.depth]))) (anyE _ _), fun _ => ee_var rfl⟩) (ee_lst aa_nil (by simp)) fun _ => rv_eq (x := .list (((foesL n ps l[k]).filter fun j => decide (j ∈ l.drop (k + 1))).map natD)) (y := .list []) (by rw [PyData.plain]; exact plain_nats _) rfl (by rw [PyData.depth, depth_nats]; exact Nat.le_trans (Nat.min_le_left _ _) (by omega)))) (by
          rw [anyE, show PyData.eqv (.list (((foesL n ps l[k]).filter fun j => decide (j ∈ l.drop (k + 1))).map natD)) (.list []) = decide (((foesL n ps l[k]).filter fun j => decide (j ∈ l.drop (k + 1))) = []) by rw [PyData.eqv]; exact eqv_nats _ []]
          unfold stayAt
          rw [hlk]
          simp)
    refine ms_if hcond (fun hb => ?_) fun hb => ?_
    · refine ms_app (a := a) (vs := vs) (ds := (stays n ps l k).map natD) (d := natD l[k]) (ee_var rfl) List.mem_cons_self upd_same List.mem_cons_self (hco (ee_var rfl) (ee_var rfl)) ?_ fun v _ => ?_
      · have := stays_len (n := n) (ps := ps) (l := l) (k := k); omega
      · refine ⟨a, vs ++ [v], (vs, (stays n ps l k).map natD) :: ow, some (natD k), some (lotD (l.drop (k + 1))), some (.list ((foesL n ps l[k]).map natD)), ha, hf, ?_, ?_⟩
        · rw [stays_succ, if_pos hb]; simp [hv]
        · rw [put_own, stays_succ, if_pos hb, hlk, List.map_append]; rfl
    · refine ms_es es_skip ⟨a, vs, ow, some (natD k), some (lotD (l.drop (k + 1))), some (.list ((foesL n ps l[k]).map natD)), ha, hf, ?_, ?_⟩
      · rw [stays_succ, if_neg (by rw [hb]; simp)]; simp [hv]
      · rw [stays_succ, if_neg (by rw [hb]; simp), List.append_nil]
  · rintro X ⟨a, vs, ow, x4, x5, x6, ha, hf, hv, rfl⟩
    refine ms_rel (a := a) (vs := vs) (ds := (stays n ps l l.length).map natD) (ad := S.ad) (f := S.fz) (i := 2) rfl ha upd_same List.mem_cons_self (gr_put hf) rfl ?_
    have hgl := gone_len (ps := ps) L hn l.length
    rw [List.take_length] at hgl ⊢
    have e3 : ∀ m : List Nat, m.map natD = (m.map fun (k : Nat) => (k : Int)).map PyData.int := fun m => by rw [List.map_map]; rfl
    refine ms_rt (es_ret (ee_tup (aa_cons (ee_cb (aa_cons (ee_cb (aa_cons (ee_var (d := .list ((stays n ps l l.length).map natD)) rfl) aa_nil) fun _ => rc_srtG) aa_nil) fun _ => rc_tupL) (aa_cons (ee_is (ee_cb (aa_cons (ee_srtSet (ns := (goneL n ps l).map fun (k : Nat) => (k : Int)) (ms := (withF n ps l).map fun (k : Nat) => (k : Int)) (aa_cons (ee_is (ee_var (d := .list ((goneL n ps l).map natD)) rfl) (congrArg PyData.list (e3 _))) aa_nil) (by rw [List.length_map]; omega) ?_ ?_) aa_nil) fun _ => rc_tupL) (congrArg PyData.tuple (e3 _).symm)) aa_nil)) (by simp))) ⟨rfl, fun b hb => hb, Gr.refl _⟩
    · exact List.pairwise_map.mpr ((withF_up (n := n) (ps := ps) (l := l)).imp fun {a b} h => by omega)
    · intro z
      rw [List.mem_map, List.mem_map]
      exact ⟨fun ⟨k, hk, e⟩ => ⟨k, (gone_mem L.lt).mpr hk, e⟩, fun ⟨k, hk, e⟩ => ⟨k, (gone_mem L.lt).mp hk, e⟩⟩
end
end KV
set_option Elab.async false
set_option linter.all false
set_option maxRecDepth 100000
set_option maxHeartbeats 4000000
/-! Evaluation: who goes, by a dict. -/
namespace KV
open PySem PySem.Spec PyProof.Rows L2 GxR KO Smx
def KD (kvs : List (Key × V)) (ks : List Nat) : Prop := kvs.map (·.1) = ks.map fun (k : Nat) => (Sum.inl (k : Int) : Key)
theorem KD.len {kvs : List (Key × V)} {ks : List Nat} (h : KD kvs ks) : kvs.length = ks.length := by
  have := congrArg List.length h
  simpa using this
theorem KD.put {kvs : List (Key × V)} {ks : List Nat} (h : KD kvs ks) (k : Nat) (v : V) : KD (putK kvs (Sum.inl (k : Int)) v) (addK ks k) := by
  have hm : (kvs.any fun kv => decide (kv.1 = (Sum.inl (k : Int) : Key))) = decide (k ∈ ks) := by
    rw [Bool.eq_iff_iff, List.any_eq_true, decide_eq_true_iff]
    constructor
    · rintro ⟨kv, h1, h2⟩
      have h2 := of_decide_eq_true h2
      have : kv.1 ∈ kvs.map (·.1) := List.mem_map.mpr ⟨kv, h1, rfl⟩
      rw [h, h2] at this
      obtain ⟨j, hj, e⟩ := List.mem_map.mp this
      injection e with e
      have : j = k := by omega
      rw [← this]; exact hj
    · intro hk
      have : (Sum.inl (k : Int) : Key) ∈ kvs.map (·.1) := by rw [h]; exact List.mem_map.mpr ⟨k, hk, rfl⟩
      obtain ⟨kv, h1, h2⟩ := List.mem_map.mp this
      exact ⟨kv, h1, decide_eq_true h2⟩
  unfold putK addK
  rw [hm]
  by_cases q : k ∈ ks
  · rw [if_pos q, if_pos (decide_eq_true q)]
    unfold KD
    rw [List.map_map, ← h]
    refine List.map_congr_left fun kv _ => ?_
    show (if kv.1 = _ then (kv.1, v) else kv).1 = kv.1
    split <;> rfl
  · rw [if_neg q, if_neg (by simpa using q)]
    unfold KD at h ⊢
    rw [List.map_append, List.map_append, h]; rfl
theorem fold_mem {l : List Nat} : ∀ {ks : List Nat} {j : Nat}, j ∈ l.foldl addK ks ↔ j ∈ ks ∨ j ∈ l := by
  induction l with
  | nil => intro ks j; simp
  | cons a l ih =>
    intro ks j
    rw [List.foldl_cons, ih, addK_mem, List.mem_cons]
    constructor
    · rintro ((h | h) | h)
      · exact .inl h
      · exact .inr (.inl h)
      · exact .inr (.inr h)
    · rintro (h | h | h)
      · exact .inl (.inl h)
      · exact .inl (.inr h)
      · exact .inr h
theorem fold_nd {l : List Nat} : ∀ {ks : List Nat}, ks.Nodup → (l.foldl addK ks).Nodup := by
  induction l with
  | nil => intro ks h; exact h
  | cons a l ih => intro ks h; exact ih (addK_nd h)
theorem fold_len {l : List Nat} : ∀ {ks : List Nat}, (l.foldl addK ks).length ≤ ks.length + l.length := by
  induction l with
  | nil => intro ks; exact Nat.le_refl _
  | cons a l ih =>
    intro ks
    have h1 := ih (ks := addK ks a)
    have h2 : (addK ks a).length ≤ ks.length + 1 := by unfold addK; split <;> simp
    rw [List.foldl_cons, List.length_cons]; omega
section
variable {G : Gd} {S : Hs} {te ta tb tc : TE} {d : PyData} {n i j : Nat} {ps : List (Nat × Nat)} {l : List Nat} {X : Sta} {P : Sta → Prop} {R : Sta → PyData → Prop}
/-- name = {k: True for k in ..} -/
theorem ms_dc {wi : TI} (h : EI X.S X.T wi X.es (l.map natD)) (hj : j < X.es.length) (hl : l.length ≤ 100000) (hp : ∀ a kvs, a ∉ X.S.ad → X.S.fz a = none → KD kvs (l.foldl addK []) → P ⟨X.S.own a (.dK kvs), X.T, X.es.set i (some (rawD a))⟩) : MS (tAsg (tDc wi (gName j) tYes (tVar j) (tC (.bl true)) [j]) (gName i)) X P R := fun σ H k D kn kr =>
  h σ _ k.inn H k.ext _ fun J H1 g1 w' Dd hD => by
    have w := w' (X.S.add Dd) (Gr.refl _)
    have k1 := k.go g1
    have e1 := k1.ext
    have ed := e1.take (o := HO.dK []) hD
    refine ⟨fun m c H' => c = l.length - m ∧ m ≤ l.length ∧ Gr H1 (hid ⟨[Dd], X.S.fz⟩ H') ∧ Ext (X.S.add Dd) (hid X.S H1) H' ∧ ∃ kvs, H' Dd = some (.dK kvs) ∧ KD kvs ((l.take m).foldl addK []), ⟨l.length, rfl, Nat.zero_le _, ?_, ed, [], upd_same, by rw [List.take_zero]; rfl⟩, ?_⟩
    · intro b o hb
      exact .inl (by rw [hid_out (by simpa using ne_of_none hb hD), upd_ne (ne_of_none hb hD)]; exact hb)
    rintro m c H' ⟨rfl, hm, gH, eH, kvs, hkv, hKD⟩
    by_cases hlt : m < l.length
    · have hlt' : m < (l.map natD).length := by rw [List.length_map]; exact hlt
      refine .inr ⟨w.go m H' eH hlt', fun H'' => Gr H1 (hid ⟨[Dd], X.S.fz⟩ H'') ∧ Ext (X.S.add Dd) (hid X.S H1) H'' ∧ ∃ kvs, H'' Dd = some (.dK kvs) ∧ KD kvs ((l.take (m + 1)).foldl addK []), fun H'' n' => ⟨l.length - (m + 1), by omega, rfl, hlt, n'⟩, fun x H'' y => ?_⟩
      obtain ⟨d', e0, g3, r3⟩ := w.yld m H' x H'' eH hlt' y
      rw [List.getElem?_map, List.getElem?_eq_getElem hlt] at e0
      cases e0
      cases r3
      have hlen : j < (L2.wipe σ [j]).length := by rw [L2.wipe_length, k.inn.len]; exact hj
      refine ⟨by rw [wipe_set _ _ (by simp), wipe_idem], ?_⟩
      unfold tYes
      dsimp only
      rw [if_pos rfl]
      have D3 : H'' Dd = some (.dK kvs) := g3.keep hkv fun _ z => by cases z
      have hz : (X.S.add Dd).fz Dd = none := e1.fr.back hD
      have hmm : Dd ∈ (X.S.add Dd).ad := List.mem_cons_self
      refine ⟨.int (l[m] : Nat), List.getElem?_set_self hlen, kvs, Sum.inl ((l[m] : Nat) : Int), rfl, D3, ?_, ?_, (eH.go g3).put hmm hz, _, upd_same, ?_⟩
      · rw [hKD.len]
        have := fold_len (l := l.take m) (ks := [])
        rw [List.length_take] at this
        exact Nat.lt_of_lt_of_le (show _ < 100001 by simp only [List.length_nil] at this; omega) (by decide)
      · rw [hid_upd (List.mem_singleton.mpr rfl)]
        exact gH.trans (g3.hid _)
      · have et : l.take (m + 1) = l.take m ++ [l[m]] := by rw [List.take_add_one, List.getElem?_eq_getElem hlt]; rfl
        rw [et, List.foldl_append]
        exact hKD.put _ _
    · have em : m = l.length := by omega
      subst em
      have hst := w.stop H' eH
      rw [List.length_map] at hst
      rw [List.take_length] at hKD
      refine .inl ⟨hst, ?_⟩
      have gg : Gr H H' := g1.trans (gH.trans hid_le)
      have nn : H Dd = none := g1.back hD
      exact kn _ _ H' (hp Dd kvs (fun z => k.trk Dd z nn) (k.fz.back nn) hKD) (fr_own gg nn) (own_ok k gg nn hkv rfl (fun p hp => (k.inn.tbs.ow p hp).mono (gr_own gg nn)) rfl)
/-- found[k] = True -/
theorem ms_dput {a : Addr} {kvs : List (Key × V)} {ks : List Nat} {m : Nat} (ho : EE X.S X.T ta X.es (rawD a)) (ha : a ∈ X.S.ad) (hl : X.S.fz a = some (.dK kvs)) (hK : KD kvs ks) (hi : EE X.S X.T tb X.es (natD m)) (hn : ks.length < 100000) (hp : ∀ kvs', KD kvs' (addK ks m) → P ⟨X.S.put a (.dK kvs'), X.T, X.es⟩) : MS (tAsg (tC (.bl true)) (gSub ta tb rSetD)) X P R := fun σ H k D kn kr =>
  ho σ _ k.inn H k.ext _ fun u H2 g2 r2 => hi σ _ k.inn H2 (k.ext.go g2) _ fun w H3 g3 r3 => by
    cases raw_inv r2
    cases r3
    have g := g2.trans g3
    have k3 := k.go g
    have e : H3 a = some (.dK kvs) := k3.fz.keep hl fun _ z => by cases z
    refine ⟨a, _, rfl, DPut.k (k := Sum.inl (m : Int)) e (by rw [hK.len]; exact Nat.lt_of_lt_of_le hn (by decide)), ?_⟩
    exact kn _ σ _ (hp _ (hK.put m _)) ((Fr.of g).trans (fr_put ha)) (put_ok k3 ha rfl fun p hp => k3.inn.tbs.ow p hp)
/-- sorted of a dict -/
theorem ee_srtD {K : PySem.W.Frag} {w : World} {es : Es} {T : Ks} {a : Addr} {kvs : List (Key × V)} {ks ms : List Nat} (h : EE S T te es (rawD a)) (hl : S.fz a = some (.dK kvs)) (hK : KD kvs ks) (hn : ks.length < 64) (hnd : ks.Nodup) (hm : ms.Pairwise (· < ·)) (he : ∀ k, k ∈ ms ↔ k ∈ ks) : EE S T (tCB (uSrt K w) (tCons te tNil)) es (.list (ms.map natD)) := fun σ B I H1 e Q q =>
  h σ B I H1 e _ fun v H2 g2 r => by
    have e2 := e.go g2
    refine .inr (.inr ⟨a, kvs, ks.map fun (k : Nat) => (k : Int), by rw [raw_inv r], .inl (e2.fr.keep hl fun _ z => by cases z), by rw [hK, List.map_map]; rfl, by rw [List.length_map]; exact hn, fun ys p hp hs hq => ?_⟩)
    have : ys = ms.map fun (k : Nat) => (k : Int) := by
      have hy : ∃ zs : List Nat, ys = zs.map fun (k : Nat) => (k : Int) := ⟨ys.map Int.toNat, by
        rw [List.map_map]
        have : ys.map (fun z => ((fun (k : Nat) => (k : Int)) ∘ Int.toNat) z) = ys.map id := List.map_congr_left fun z hz => by
          obtain ⟨k, _, rfl⟩ := List.mem_map.mp (hp.mem_iff.mp hz)
          simp
        rw [show ((fun (k : Nat) => (k : Int)) ∘ Int.toNat) = fun z => ((fun (k : Nat) => (k : Int)) ∘ Int.toNat) z from rfl, this, List.map_id]⟩
      obtain ⟨zs, rfl⟩ := hy
      congr 1
      have hp' : zs.Perm ks := by
        have := hp.map Int.toNat
        rw [List.map_map, List.map_map, show (Int.toNat ∘ fun (k : Nat) => (k : Int)) = id by funext k; simp, List.map_id, List.map_id] at this
        exact this
      refine up_eq ?_ hm fun k => by rw [hp'.mem_iff, he]
      have h1 := List.pairwise_map.mp hs
      have h2 : zs.Nodup := hp'.nodup_iff.mpr hnd
      exact (h1.and h2).imp fun {a b} h => by have := h.1; have := h.2; omega
    subst this
    refine q _ _ (g2.trans (.new hq)) (.lst (e2.isNew hq) ?_)
    have := Rps.ints (hid S (upd H2 p (.lst ((ms.map fun (k : Nat) => (k : Int)).map V.int)))) (ms.map fun (k : Nat) => (k : Int))
    rw [List.map_map (f := fun (k : Nat) => (k : Int)) (g := PyData.int)] at this
    exact this
theorem e_with_foes {ds : List PyData} (h : R_with_foes ds d) : MS (t_with_foes G) ⟨S, ⟨G.ps, []⟩, ds.map some ++ List.replicate (5 - ds.length) none⟩ (fun _ => False) (fun X d' => d' = d ∧ (∀ b ∈ S.ad, b ∈ X.S.ad) ∧ Gr S.fz X.S.fz) := by
  obtain ⟨n, ps, l, rfl, W, L, rfl⟩ := h
  have hn := W.le
  have hl := L.len
  refine ms_seq (P1 := fun X => ∃ a kvs x3 x4, a ∉ S.ad ∧ S.fz a = none ∧ KD kvs (l.foldl addK []) ∧ X = ⟨S.own a (.dK kvs), ⟨G.ps, []⟩, [some (webD n ps), some (lotD l), some (rawD a), x3, x4]⟩)
    (ms_dc (ei_seqT (ee_var (d := .tuple (l.map natD)) rfl)) (by simp) (by omega) fun a kvs h1 h2 h3 => ⟨a, kvs, none, none, h1, h2, h3, rfl⟩) ?_
  rintro X ⟨a, kvs, x3, x4, ha, hf, hK, rfl⟩
  -- the keys after the first k persons' foes
  let kf : Nat → List Nat := fun k => (l.take k).foldl (fun ks p => (foesL n ps p).foldl addK ks) (l.foldl addK [])
  have kf_succ : ∀ k (hk : k < l.length), kf (k + 1) = (foesL n ps l[k]).foldl addK (kf k) := fun k hk => by
    show (l.take (k + 1)).foldl _ _ = _
    rw [List.take_add_one, List.getElem?_eq_getElem hk]
    show (l.take k ++ [l[k]]).foldl _ _ = _
    rw [List.foldl_append]; rfl
  have kf_len : ∀ k, k ≤ l.length → (kf k).length ≤ l.length + 5 * k := by
    intro k
    induction k with
    | zero =>
      intro _
      have := fold_len (l := l) (ks := [])
      show (l.foldl addK []).length ≤ _
      simp only [List.length_nil] at this
      omega
    | succ k ih =>
      intro hk
      have h1 := ih (by omega)
      rw [kf_succ k (by omega)]
      have h2 := fold_len (l := foesL n ps l[k]) (ks := kf k)
      have h3 := foes_len (n := n) (ps := ps) (i := l[k])
      omega
  have kf_nd : ∀ k, k ≤ l.length → (kf k).Nodup := by
    intro k
    induction k with
    | zero => intro _; exact fold_nd List.nodup_nil
    | succ k ih =>
      intro hk
      rw [kf_succ k (by omega)]
      exact fold_nd (ih (by omega))
  have kf_mem : ∀ k, k ≤ l.length → ∀ j, j ∈ kf k ↔ j ∈ l ∨ ∃ i ∈ l.take k, j ∈ foesL n ps i := by
    intro k
    induction k with
    | zero =>
      intro _ j
      show j ∈ l.foldl addK [] ↔ _
      rw [fold_mem]
      simp
    | succ k ih =>
      intro hk j
      rw [kf_succ k (by omega), fold_mem, ih (by omega), List.take_add_one, List.getElem?_eq_getElem (by omega : k < l.length)]
      constructor
      · rintro ((h | ⟨i, hi, h⟩) | h)
        · exact .inl h
        · exact .inr ⟨i, List.mem_append_left _ hi, h⟩
        · exact .inr ⟨_, List.mem_append_right _ (List.mem_singleton.mpr rfl), h⟩
      · rintro (h | ⟨i, hi, h⟩)
        · exact .inl (.inl h)
        · rcases List.mem_append.mp hi with z | z
          · exact .inl (.inr ⟨i, z, h⟩)
          · rw [List.mem_singleton.mp z] at h
            exact .inr h
  refine ms_seq (P1 := fun X => ∃ a kvs x3 x4, a ∉ S.ad ∧ S.fz a = none ∧ KD kvs (kf l.length) ∧ X = ⟨S.own a (.dK kvs), ⟨G.ps, []⟩, [some (webD n ps), some (lotD l), some (rawD a), x3, x4]⟩)
    (ms_for (f0 := fun _ => none) (ys := l.map natD) (fun k X => ∃ a kvs x3 x4, a ∉ S.ad ∧ S.fz a = none ∧ KD kvs (kf k) ∧ X = ⟨S.own a (.dK kvs), ⟨G.ps, []⟩, [some (webD n ps), some (lotD l), some (rawD a), x3, x4]⟩) (ei2_seqT (ee_var (d := .tuple (l.map natD)) rfl)) ⟨a, kvs, x3, x4, ha, hf, hK, rfl⟩ (fun k X h b o z => by cases z) ?_ (fun X h => by simpa using h)) ?_
  · rintro k hk X ⟨a, kvs, x3, x4, ha, hf, hK, rfl⟩
    have hk' : k < l.length := by simpa using hk
    have e : (l.map natD)[k] = natD l[k] := by simp
    rw [e]
    have hfl := foes_len (n := n) (ps := ps) (i := l[k])
    refine ⟨_, eg_name' rfl, ms_for (f0 := fun _ => none) (ys := (foesL n ps l[k]).map natD) (fun m X => ∃ a kvs x4, a ∉ S.ad ∧ S.fz a = none ∧ KD kvs (((foesL n ps l[k]).take m).foldl addK (kf k)) ∧ X = ⟨S.own a (.dK kvs), ⟨G.ps, []⟩, [some (webD n ps), some (lotD l), some (rawD a), some (natD l[k]), x4]⟩) (ei2_seqL (c_foes W tab_of (ee_var rfl) (ee_var rfl))) ⟨a, kvs, x4, ha, hf, hK, rfl⟩ (fun m X h b o z => by cases z) ?_ ?_⟩
    · rintro m hm X ⟨a, kvs, x4, ha, hf, hK, rfl⟩
      have hm' : m < (foesL n ps l[k]).length := by simpa using hm
      have e : ((foesL n ps l[k]).map natD)[m] = natD (foesL n ps l[k])[m] := by simp
      rw [e]
      have h1 := kf_len k (by omega)
      have h2 := fold_len (l := (foesL n ps l[k]).take m) (ks := kf k)
      rw [List.length_take] at h2
      refine ⟨_, eg_name' rfl, ms_dput (a := a) (kvs := kvs) (ee_var rfl) List.mem_cons_self upd_same hK (ee_var rfl) (by omega) fun kvs' hK' => ⟨a, kvs', some (natD (foesL n ps l[k])[m]), ha, hf, ?_, by rw [put_own]; rfl⟩⟩
      rw [List.take_add_one, List.getElem?_eq_getElem hm']
      show KD kvs' (((foesL n ps l[k]).take m ++ [(foesL n ps l[k])[m]]).foldl addK (kf k))
      rw [List.foldl_append]
      exact hK'
    · rintro X ⟨a, kvs, x4, ha, hf, hK, rfl⟩
      rw [List.length_map, List.take_length, ← kf_succ k hk'] at hK
      exact ⟨a, kvs, some (natD l[k]), x4, ha, hf, hK, rfl⟩
  · rintro X ⟨a, kvs, x3, x4, ha, hf, hK, rfl⟩
    have h1 := kf_len l.length (Nat.le_refl _)
    refine ms_rt (es_ret (ee_cb (aa_cons (ee_srtD (ms := withF n ps l) (ee_var rfl) upd_same hK (by omega) (kf_nd _ (Nat.le_refl _)) withF_up fun k => ?_) aa_nil) fun _ => rc_tupL)) ⟨rfl, fun b hb => List.mem_cons_of_mem _ hb, gr_put hf⟩
    rw [kf_mem _ (Nat.le_refl _), List.take_length]
    unfold withF
    rw [List.mem_filter, List.mem_range]
    constructor
    · rintro ⟨_, h⟩
      simpa using h
    · intro h
      refine ⟨?_, by simpa using h⟩
      rcases h with h | ⟨i, _, h⟩
      · exact L.lt _ h
      · exact foes_lt h
end
end KV
set_option Elab.async false
set_option linter.all false
set_option maxRecDepth 100000
set_option maxHeartbeats 4000000
/-! Evaluation: a program, read. -/
namespace KV
open PySem PySem.Spec PyProof.Rows L2 GxR KO Smx
theorem fit_szr {m w : Nat} {s : Tab} (F : Fit m w s) {i j : Nat} (hi : i < m) (hj : j < w) : SzR 7 (gt s.1 i j) := by
  have := F.sz i j hi hj
  exact ⟨Nat.lt_of_le_of_lt this.1 (by decide), Nat.lt_of_le_of_lt this.2 (by decide)⟩
theorem fit_szrw {m w : Nat} {s : Tab} (F : Fit m w s) {i j : Nat} (hi : i < m) (hj : j ≤ w) : SzR 17 (gt s.1 i j) := by
  by_cases h : j < w
  · exact (fit_szr F hi h).mono (by omega)
  · have e : j = w := by omega
    subst e
    have := F.szw i hi
    exact ⟨Nat.lt_of_le_of_lt this.1 (by decide), Nat.lt_of_le_of_lt this.2 (by decide)⟩
theorem szr_mul {e f : Nat} {q r : Rat} (h1 : SzR e q) (h2 : SzR f r) : SzR (e + f) (q * r) := by
  rw [Rat.mul_def']
  obtain ⟨a1, a2⟩ := mk_le (q.num * r.num) (q.den * r.den) (Nat.mul_pos q.den_pos r.den_pos)
  have b1 := sz_mul (sz_num h1) (sz_num h2)
  have b3 := sz_mul (sz_den h1) (sz_den h2)
  unfold Sz at b1 b3
  rw [← Int.natCast_mul, Int.natAbs_natCast] at b3
  exact ⟨by omega, by omega⟩
theorem gt_row {s : Tab} {i : Nat} (h : i < s.1.length) : gt s.1 i = fun j => (s.1[i]).getD j 0 := by
  funext j
  unfold gt
  rw [getD_of (List.getElem?_eq_getElem h)]
theorem gt_at {s : Tab} {i j : Nat} (h : i < s.1.length) : gt s.1 i j = (s.1[i]).getD j 0 := by rw [gt_row h]
section
variable {G : Gd} {S S' : Hs} {T : Ks} {es : Es} {te ta tb tc tj tk : TE} {t : TA} {d : PyData} {p dx sg rl bl : Addr} {vs : List V} {n i j k : Nat} {s : Tab} {cs : List Rat}
theorem pfs_many : (pfs n sg rl bl).lookup ("many" : Str) = some (natV (2 * n)) := by
  unfold pfs; rfl
theorem PAt.to (h : PAt G S T p dx sg rl bl vs n s) (e : S'.fz = S.fz) : PAt G S' T p dx sg rl bl vs n s := ⟨e ▸ h.at_, e ▸ h.rows, h.rk, e ▸ h.basis, h.bk, h.sk, h.pr, h.pb, h.rb, h.vl⟩
theorem p_many (hG : GOk G) (h : PAt G S T p dx sg rl bl vs n s) (hz : S'.fz = S.fz) (he : EE S' T te es (rawD p)) : EE S' T (tFld G.K te "many") es (natD (2 * n)) := ee_fld he (by rw [hz]; exact h.at_) hG.cls hG.nM rfl kn_int
theorem p_rows (hG : GOk G) (h : PAt G S T p dx sg rl bl vs n s) (hz : S'.fz = S.fz) (he : EE S' T te es (rawD p)) : EE S' T (tFld G.K te "rows") es (rawD rl) := ee_fld he (by rw [hz]; exact h.at_) hG.cls hG.nR rfl kn_raw
theorem p_basis (hG : GOk G) (h : PAt G S T p dx sg rl bl vs n s) (hz : S'.fz = S.fz) (he : EE S' T te es (rawD p)) : EE S' T (tFld G.K te "basis") es (rawD bl) := ee_fld he (by rw [hz]; exact h.at_) hG.cls hG.nB rfl kn_raw
theorem p_signs (hG : GOk G) (h : PAt G S T p dx sg rl bl vs n s) (hz : S'.fz = S.fz) (he : EE S' T te es (rawD p)) : EE S' T (tFld G.K te "signs") es (.list (List.replicate n (ratD 1))) := ee_fld he (by rw [hz]; exact h.at_) hG.cls hG.nS rfl (kn_ow h.sk)
theorem p_row (hG : GOk G) (h : PAt G S T p dx sg rl bl vs n s) (hi : i < s.1.length) (hz : S'.fz = S.fz) (he : EE S' T te es (rawD p)) (hj : EE S' T tj es (natD i)) : EE S' T (tOp (rIx G.K) (tFld G.K te "rows") tj) es (rowD s.1[i]) :=
  ee_ixR (p_rows hG h hz he) (by rw [hz]; exact h.rows) h.rk hj (atI_nat (getL_map hi))
theorem p_bas (hG : GOk G) (h : PAt G S T p dx sg rl bl vs n s) (hi : i < s.2.length) (hz : S'.fz = S.fz) (he : EE S' T te es (rawD p)) (hj : EE S' T tj es (natD i)) : EE S' T (tOp (rIx G.K) (tFld G.K te "basis") tj) es (natD (gb s.2 i)) :=
  ee_is (ee_ixR (p_basis hG h hz he) (by rw [hz]; exact h.basis) h.bk hj (atI_nat (getL_map hi))) (by unfold gb; rw [getD_of (List.getElem?_eq_getElem hi)])
theorem ee_ent {r : List Rat} (he : EE S T te es (rowD r)) (hk : EE S T tk es (natD k)) (h : k < r.length) : EE S T (tOp (rIx G.K) te tk) es (ratD (r.getD k 0)) :=
  ee_is (ee_op he hk fun _ => rv_ixL (atI_nat (getL_map h))) (by rw [getD_of (List.getElem?_eq_getElem h)])
theorem tt_nz {q : Rat} (h : EE S T te es (ratD q)) : ET S T (tTest (tOp (rNeP G.K) (tOp (rIx G.K) te (tC (.int 0))) (tC (.int 0)))) es (decide (q ≠ 0)) :=
  et_is' (tt_test (ee_op (ee_num h) ee_int fun _ => rv_neI)) (by
    rw [Bool.eq_iff_iff]
    simp only [Bool.not_eq_true', decide_eq_false_iff_not, decide_eq_true_eq]
    exact ⟨fun h z => h (by rw [z]; rfl), fun h z => h (Rat.num_eq_zero.mp z)⟩)
theorem fit_rl {m w : Nat} {s : Tab} (F : Fit m w s) {i : Nat} (h : i < s.1.length) : (s.1[i]).length = w + 1 := by
  have := F.wf.row i (by have := F.wf.len; omega)
  rwa [getD_of (List.getElem?_eq_getElem h)] at this
/-- calls of readers -/
theorem ee_methF {R : Hs → Ks → List PyData → PyData → Prop} {m : Str} {ds : List PyData} (hG : GOk G) (h : PAt G S T p dx sg rl bl vs n s) (hz : S'.fz = S.fz) (hl : (pfs n sg rl bl).lookup m = none) (ho : EE S' T te es (rawD p)) (ha : EA S' T t es ds) (hT : T.ts = G.ps) (hR : R S' T (rawD p :: ds) d) : EE S' T (tMeth G.C m (spF G.ps R) [] C8.E0 te t) es d := fun σ B I H1 e Q q =>
  ho σ B I H1 e _ fun v H2 g2 r2 => by
    have e2 := e.go g2
    refine ⟨p, dx, pfs n sg rl bl, raw_inv r2, e2.fr.keep (by rw [hz]; exact h.at_) (fun _ z => by cases z), hl, ha σ B I H2 e2 _ fun us H3 g3 r3 => ?_⟩
    have e3 := e2.go g3
    exact ⟨S', T, rawD p :: ds, d, by rw [List.append_nil]; exact .cons (r2.mono (g3.hid _)) r3, e3.trk, e3.fr, I.tbs.mono e3.gr, hT, hR, fun v H4 g4 r4 => q v H4 ((g2.trans g3).trans g4) r4⟩
theorem spF_ok {Pl : List Addr} {R : Hs → Ks → List PyData → PyData → Prop} {ts : TS} {N : List Str} (h : ∀ (S : Hs) T ds d, T.ts = Pl → R S T ds d → ESr S T ts (ds.map some ++ List.replicate (N.length - ds.length) none) d) {vs : List V} {H : Hp} {Q : VK} {E : XK} (hs : spF Pl R vs H Q E) : ts { nx := fun _ H' => Q .non H', rt := Q } (L2.start N vs) H := by
  obtain ⟨S, T, ds, d, r, trk, fz, kn, hT, hR, k⟩ := hs
  have I : Inn T (L2.start N vs) (hid S H) (ds.map some ++ List.replicate (N.length - ds.length) none) := Inn.start r kn N
  rcases h S T ds d hT hR with q | ⟨rfl, es', q⟩
  · exact q H _ H ⟨trk, fz⟩ (Gr.refl _) I _ fun v H' g r => k v H' g r
  · exact q H _ H ⟨trk, fz⟩ (Gr.refl _) I _ fun σ H' g _ => k .non H' g .non
theorem c_mul (hG : GOk G) (h : PAt G S T p dx sg rl bl vs n s) (hz : S'.fz = S.fz) (F : Fit n (3 * n) s) (hn : n ≤ 5) (C : CsOk n cs) (hk : k ≤ 3 * n) (hT : T.ts = G.ps) (ho : EE S' T te es (rawD p)) (h1 : EE S' T ta es (.list (cs.map ratD))) (h2 : EE S' T tb es (natD k)) : EE S' T (tMeth G.C "multiplier" (sp_m_multiplier G) [] C8.E0 te (tCons ta (tCons tb tNil))) es (ratD (mul n s cs k)) :=
  ee_methF hG h hz rfl ho (aa_cons h1 (aa_cons h2 aa_nil)) hT ⟨p, dx, sg, rl, bl, vs, n, s, cs, k, rfl, h.to hz, F, hn, C, hk, rfl⟩
theorem CsOk.get (C : CsOk n cs) (hj : j < 3 * n) : cs[j]? = some (gc cs j) ∧ SzR 2 (gc cs j) := by
  have hj' : j < cs.length := by rw [C.len]; exact hj
  unfold gc
  rw [getD_of (List.getElem?_eq_getElem hj')]
  exact ⟨List.getElem?_eq_getElem hj', C.sz _ (List.getElem_mem hj')⟩
theorem ee_cst (C : CsOk n cs) (hj : j < 3 * n) (h : EE S T te es (.list (cs.map ratD))) (h2 : EE S T tj es (natD j)) : EE S T (tOp (rIx G.K) te tj) es (ratD (gc cs j)) := ee_op h h2 fun _ => rv_ixL (atI_nat (by rw [List.getElem?_map, (C.get hj).1]; rfl))
/-- a sum without the terms that are nothing -/
theorem sm_filter (f : Nat → Rat) (c : Nat → Bool) (h : ∀ i, c i = false → f i = 0) : ∀ m, (((List.range m).filter c).map f).sum = sm m f
  | 0 => rfl
  | m + 1 => by
    rw [List.range_succ, List.filter_append, List.map_append, List.sum_append, sm_filter f c h m]
    show _ = sm m f + f m
    congr 1
    cases e : c m with
    | true => simp [e, Rat.add_zero]
    | false => rw [h m e]; simp [e]
theorem mul_sz (F : Fit n (3 * n) s) (hn : n ≤ 5) (C : CsOk n cs) (hk : k ≤ 3 * n) : SzR 1000 (mul n s cs k) := by
  have h := szr_take (qs := (List.range n).map fun i => gc cs (gb s.2 i) * gt s.1 i k) (fun q hq => ?_) n
  · rw [List.take_of_length_le (by simp)] at h
    have e := sm_filter (fun i => gc cs (gb s.2 i) * gt s.1 i k) (fun _ => true) (fun i z => nomatch z) n
    rw [filter_yes] at e
    rw [e] at h
    exact h.mono (by omega)
  · obtain ⟨i, hi, rfl⟩ := List.mem_map.mp hq
    have hi := List.mem_range.mp hi
    exact (szr_mul (C.get (F.blt i hi)).2 (fit_szrw F hi hk)).mono (by omega)
theorem e_multiplier {ds : List PyData} (hG : GOk G) (hT : T.ts = G.ps) (h : R_mul G S T ds d) : ESr S T (t_m_multiplier G) (ds.map some ++ List.replicate (6 - ds.length) none) d := by
  obtain ⟨p, dx, sg, rl, bl, vs, n, s, cs, k, rfl, h, F, hn, C, hk, rfl⟩ := h
  have hP : ∀ x ∈ G.ps, x ∈ T.ts := fun x hx => hT ▸ hx
  have hl := F.wf.len
  have hbl := F.wf.blen
  let c : Nat → Bool := fun i => decide (gt s.1 i k ≠ 0) && decide (gc cs (gb s.2 i) ≠ 0)
  have hen : EI S T (iEnum G.K (tCons (tFld G.K (tVar 0) "rows") tNil)) [some (rawD p), some (.list (cs.map ratD)), some (natD k), none, none, none] ((List.range n).map fun i => .tuple [natD i, rowD (s.1.getD i [])]) := by
    have := ei_enumR (K := G.K) (te := tFld G.K (tVar 0) "rows") (es := [some (rawD p), some (.list (cs.map ratD)), some (natD k), none, none, none]) (p_rows hG h rfl (ee_var rfl)) h.rows h.rk
    have e : enumD (s.1.map rowD) = (List.range n).map fun i => .tuple [natD i, rowD (s.1.getD i [])] := by
      apply List.ext_getElem
      · simp [enumD, hl]
      · intro i h1 h2
        have hi : i < s.1.length := by simpa [enumD] using h1
        simp [enumD, List.getElem?_eq_getElem hi]
    rw [← e]; exact this
  have h1 : EE S T (tLc (iEnum G.K (tCons (tFld G.K (tVar 0) "rows") tNil)) (gTup G.K 2 (gCons (gName 4) (gCons (gName 5) gNil))) (tAnd (tTest (tOp (rNeP G.K) (tOp (rIx G.K) (tOp (rIx G.K) (tVar 5) (tVar 2)) (tC (.int 0))) (tC (.int 0)))) (tTest (tOp (rNeP G.K) (tOp (rIx G.K) (tOp (rIx G.K) (tVar 1) (tOp (rIx G.K) (tFld G.K (tVar 0) "basis") (tVar 4))) (tC (.int 0))) (tC (.int 0))))) (tVar 4) [4, 5]) [some (rawD p), some (.list (cs.map ratD)), some (natD k), none, none, none] (.list (((List.range n).filter c).map natD)) :=
    ee_lcM (l := List.range n) (F := fun i => .tuple [natD i, rowD (s.1.getD i [])]) (f := natD) (p := c) hen (fun i hi => by
      have hi := List.mem_range.mp hi
      have hi' : i < s.1.length := by omega
      have hrl := fit_rl F hi'
      have hgr : gt s.1 i k = (s.1.getD i []).getD k 0 := rfl
      have hlen : (s.1.getD i []).length = 3 * n + 1 := F.wf.row i hi
      refine ⟨[some (rawD p), some (.list (cs.map ratD)), some (natD k), none, some (natD i), some (rowD (s.1.getD i []))], fun S' hz => ⟨lc_pair (by simp) (by simp) rfl, ?_, fun _ => ee_var rfl⟩⟩
      exact tt_and (tt_nz (ee_ent (ee_var rfl) (ee_var rfl) (by rw [hlen]; omega))) fun _ => tt_nz (ee_cst C (F.blt i hi) (ee_var rfl) (p_bas hG h (by omega) hz (ee_var rfl) (ee_var rfl)))) (by rw [List.length_range]; omega)
  refine .inl (es_seq (es_set h1) (es_ret (ee_is (c_sum_of (qs := ((List.range n).filter c).map fun i => gc cs (gb s.2 i) * gt s.1 i k) (fun q hq => ?_) ?_ hP (ee_is (ee_lcV (l := (List.range n).filter c) (F := natD) (f := fun i => ratD (gc cs (gb s.2 i) * gt s.1 i k)) (p := fun _ => true) (ei_seqL (ee_var rfl)) (by simp) ?_ fun i hi S' hz => ⟨tt_yes, fun _ => ?_⟩) (by rw [filter_yes, List.map_map]; rfl))) ?_)))
  · obtain ⟨i, hi, rfl⟩ := List.mem_map.mp hq
    have hi := List.mem_range.mp (List.mem_filter.mp hi).1
    exact (szr_mul (C.get (F.blt i hi)).2 (fit_szrw F hi hk)).mono (by omega)
  · rw [List.length_map]
    exact Nat.le_trans (List.length_filter_le _ _) (by rw [List.length_range]; omega)
  · exact Nat.le_trans (List.length_filter_le _ _) (by rw [List.length_range]; omega)
  · have hi := List.mem_range.mp (List.mem_filter.mp hi).1
    have hi' : i < s.1.length := by omega
    have hrl := fit_rl F hi'
    refine c_by ((C.get (F.blt i hi)).2.mono (by omega)) ((fit_szrw F hi hk).mono (by omega)) hP (ee_cst C (F.blt i hi) (ee_var rfl) (p_bas hG h (by omega) hz (ee_var rfl) (ee_var rfl))) (ee_is (ee_ent (p_row hG h hi' hz (ee_var rfl) (ee_var rfl)) (ee_var rfl) (by rw [hrl]; omega)) ?_)
    rw [gt_row hi']
  · rw [sm_filter (fun i => gc cs (gb s.2 i) * gt s.1 i k) c (fun i hc => ?_) n]
    · rfl
    · have hc : (decide (gt s.1 i k ≠ 0) && decide (gc cs (gb s.2 i) ≠ 0)) = false := hc
      by_cases z : gt s.1 i k = 0
      · rw [z, Rat.mul_zero]
      · by_cases z' : gc cs (gb s.2 i) = 0
        · rw [z', Rat.zero_mul]
        · simp [z, z'] at hc
/-- a loop that may find what ends it; what it gives depends on where -/
theorem forO_first {step : Es → PyData → Out → Prop} {Pe : Nat → Es → Prop} {ys : List PyData} {bad : Nat → Bool} {dk : Nat → PyData} (h : ∀ k (hk : k < ys.length) es, Pe k es → (bad k = true → step es ys[k] (.rt (dk k))) ∧ (bad k = false → ∃ es', step es ys[k] (.nx es') ∧ Pe (k + 1) es')) : ∀ {es : Es}, Pe 0 es →
    (∃ k, k < ys.length ∧ bad k = true ∧ (∀ j, j < k → bad j = false) ∧ ForO step ys es (.rt (dk k))) ∨ ((∀ k, k < ys.length → bad k = false) ∧ ∃ es', ForO step ys es (.nx es') ∧ Pe ys.length es') := by
  have gen : ∀ m k es, k + m = ys.length → Pe k es → (∃ j, k ≤ j ∧ j < ys.length ∧ bad j = true ∧ (∀ i, k ≤ i → i < j → bad i = false) ∧ ForO step (ys.drop k) es (.rt (dk j))) ∨ ((∀ j, k ≤ j → j < ys.length → bad j = false) ∧ ∃ es', ForO step (ys.drop k) es (.nx es') ∧ Pe ys.length es') := by
    intro m
    induction m with
    | zero =>
      intro k es e p
      have : k = ys.length := by omega
      subst this
      rw [List.drop_length]
      exact .inr ⟨fun j h1 h2 => by omega, es, .nil, p⟩
    | succ m ih =>
      intro k es e p
      have hk : k < ys.length := by omega
      obtain ⟨h1, h2⟩ := h k hk es p
      rw [List.drop_eq_getElem_cons hk]
      cases hb : bad k with
      | true => exact .inl ⟨k, Nat.le_refl _, hk, hb, fun i i1 i2 => by omega, .out (h1 hb)⟩
      | false =>
        obtain ⟨e1, s1, p1⟩ := h2 hb
        rcases ih (k + 1) e1 (by omega) p1 with ⟨j, j1, j2, j3, j4, f⟩ | ⟨a, e2, f, p2⟩
        · refine .inl ⟨j, by omega, j2, j3, fun i i1 i2 => ?_, .go s1 f⟩
          by_cases z : i = k
          · rw [z]; exact hb
          · exact j4 i (by omega) i2
        · refine .inr ⟨fun j j1 j2 => ?_, e2, .go s1 f, p2⟩
          by_cases z : j = k
          · rw [z]; exact hb
          · exact a j (by omega) j2
  intro es p
  rcases gen ys.length 0 es (by omega) p with ⟨j, _, j2, j3, j4, f⟩ | ⟨a, q⟩
  · exact .inl ⟨j, j2, j3, fun i hi => j4 i (Nat.zero_le _) hi, f⟩
  · exact .inr ⟨fun k hk => a k (Nat.zero_le _) hk, q⟩
theorem find_first {c : Nat → Bool} {m k : Nat} (hk : k < m) (h : c k = true) (hn : ∀ j, j < k → c j = false) : (List.range m).find? c = some k := List.find?_range_eq_some.mpr ⟨h, List.mem_range.mpr hk, fun j hj => by rw [hn j hj]; rfl⟩
theorem find_none {c : Nat → Bool} {m : Nat} (h : ∀ j, j < m → c j = false) : (List.range m).find? c = none := List.find?_eq_none.mpr fun j hj => by rw [h j (List.mem_range.mp hj)]; simp
theorem e_rising {ds : List PyData} (hG : GOk G) (hT : T.ts = G.ps) (h : R_rising G S T ds d) : ESr S T (t_m_rising G) (ds.map some ++ List.replicate (4 - ds.length) none) d := by
  obtain ⟨p, dx, sg, rl, bl, vs, n, s, cs, cols, rfl, h, F, hn, C, hc, rfl⟩ := h
  have hP : ∀ x ∈ G.ps, x ∈ T.ts := fun x hx => hT ▸ hx
  refine .inl ?_
  have f := forO_first (ys := (List.range cols).map natD) (dk := natD) (bad := fun k => decide (mul n s cs k < gc cs k)) (es := [some (rawD p), some (.list (cs.map ratD)), some (natD cols), none]) (Pe := fun k es => ∃ x, es = [some (rawD p), some (.list (cs.map ratD)), some (natD cols), x])
    (step := fun es y o => ∃ es1, EG S T (gName 3) y es es1 ∧ ES S T (tIfS (tB (tCall (sp_less G) [] C8.E0 (tCons (tMeth G.C "multiplier" (sp_m_multiplier G) [] C8.E0 (tVar 0) (tCons (tVar 1) (tCons (tVar 3) tNil))) (tCons (tOp (rIx G.K) (tVar 1) (tVar 3)) tNil)))) (tRet (tVar 3)) tNext) es1 o) (by
      rintro k hk es ⟨x, rfl⟩
      have hk' : k < cols := by simpa using hk
      have e : ((List.range cols).map natD)[k] = natD k := by simp
      rw [e]
      have hcond : ET S T (tB (tCall (sp_less G) [] C8.E0 (tCons (tMeth G.C "multiplier" (sp_m_multiplier G) [] C8.E0 (tVar 0) (tCons (tVar 1) (tCons (tVar 3) tNil))) (tCons (tOp (rIx G.K) (tVar 1) (tVar 3)) tNil)))) [some (rawD p), some (.list (cs.map ratD)), some (natD cols), some (natD k)] (decide (mul n s cs k < gc cs k)) :=
        tt_B (c_less (mul_sz F hn C (by omega)) ((C.get (by omega)).2.mono (by omega)) hP (c_mul hG h rfl F hn C (by omega) hT (ee_var rfl) (ee_var rfl) (ee_var rfl)) (ee_cst C (by omega) (ee_var rfl) (ee_var rfl)))
      exact ⟨fun hb => ⟨_, eg_name' rfl, es_if (b := true) (et_is' hcond hb) (fun _ => es_ret (ee_var rfl)) fun z => nomatch z⟩, fun hb => ⟨_, ⟨_, eg_name' rfl, es_if (b := false) (et_is' hcond hb) (fun z => nomatch z) fun _ => es_skip⟩, _, rfl⟩⟩) ⟨none, rfl⟩
  have hw := ei_nat (S := S) (Ts := T) (es := [some (rawD p), some (.list (cs.map ratD)), some (natD cols), none]) (t := tCons (tVar 2) tNil) (k := cols) (aa_cons (ee_var rfl) aa_nil) (by omega)
  rcases f with ⟨k, hk, hb, hj, f⟩ | ⟨hb, es2, f, x, rfl⟩
  · have hk' : k < cols := by simpa using hk
    refine es_o (es_seq' (es_for hw f)) ?_
    show Out.rt (natD k) = .rt (optD ((List.range cols).find? _))
    rw [find_first hk' hb hj]
    rfl
  · refine es_o (es_seq (es_for hw f) (es_ret ee_non)) ?_
    show Out.rt .none = .rt (optD ((List.range cols).find? _))
    rw [find_none fun j hj => hb j (by simpa using hj)]
    rfl
theorem c_rising {cols : Nat} (hG : GOk G) (h : PAt G S T p dx sg rl bl vs n s) (hz : S'.fz = S.fz) (F : Fit n (3 * n) s) (hn : n ≤ 5) (C : CsOk n cs) (hk : cols ≤ 3 * n) (hT : T.ts = G.ps) (ho : EE S' T te es (rawD p)) (h1 : EE S' T ta es (.list (cs.map ratD))) (h2 : EE S' T tb es (natD cols)) : EE S' T (tMeth G.C "rising" (sp_m_rising G) [] C8.E0 te (tCons ta (tCons tb tNil))) es (optD (rise n s cs cols)) :=
  ee_methF hG h hz rfl ho (aa_cons h1 (aa_cons h2 aa_nil)) hT ⟨p, dx, sg, rl, bl, vs, n, s, cs, cols, rfl, h.to hz, F, hn, C, hk, rfl⟩
theorem szr_one : SzR 1 1 := ⟨by decide, by decide⟩
theorem e_prices {ds : List PyData} (hG : GOk G) (hT : T.ts = G.ps) (h : R_prices G S T ds d) : ESr S T (t_m_prices G) (ds.map some ++ List.replicate (4 - ds.length) none) d := by
  obtain ⟨p, dx, sg, rl, bl, vs, n, s, cs, rfl, h, F, hn, C, rfl⟩ := h
  have hP : ∀ x ∈ G.ps, x ∈ T.ts := fun x hx => hT ▸ hx
  have hen : EI S T (iEnum G.K (tCons (tFld G.K (tVar 0) "signs") tNil)) [some (rawD p), some (.list (cs.map ratD)), none, none] ((List.range n).map fun i => .tuple [natD i, ratD 1]) := by
    have := ei_enum (K := G.K) (es := [some (rawD p), some (.list (cs.map ratD)), none, none]) (aa_cons (p_signs (te := tVar 0) hG h rfl (ee_var rfl)) aa_nil)
    have e : enumD (List.replicate n (ratD 1)) = (List.range n).map fun i => .tuple [natD i, ratD 1] := by
      apply List.ext_getElem
      · simp [enumD]
      · intro i h1 h2
        simp [enumD]
    rw [← e]; exact this
  refine .inl (es_ret (ee_is (ee_lcM (l := List.range n) (F := fun i => .tuple [natD i, ratD 1]) (f := fun j => ratD (mul n s cs (2 * n + j))) (p := fun _ => true) hen (fun i hi => ?_) (by rw [List.length_range]; omega)) (by rw [filter_yes])))
  have hi := List.mem_range.mp hi
  refine ⟨[some (rawD p), some (.list (cs.map ratD)), some (natD i), some (ratD 1)], fun S' hz => ⟨lc_pair (by simp) (by simp) rfl, tt_yes, fun _ => ?_⟩⟩
  refine ee_is (c_by (q := 1) (szr_one.mono (by omega)) (mul_sz F hn C (k := 2 * n + i) (by omega)) hP (ee_var rfl) (c_mul hG h hz F hn C (by omega) hT (ee_var rfl) (ee_var rfl) (ee_is (ee_op (p_many hG h hz (ee_var rfl)) (ee_var rfl) fun _ => rv_addI) (congrArg PyData.int (by omega))))) ?_
  rw [Rat.one_mul]
theorem c_prices (hG : GOk G) (h : PAt G S T p dx sg rl bl vs n s) (hz : S'.fz = S.fz) (F : Fit n (3 * n) s) (hn : n ≤ 5) (C : CsOk n cs) (hT : T.ts = G.ps) (ho : EE S' T te es (rawD p)) (h1 : EE S' T ta es (.list (cs.map ratD))) : EE S' T (tMeth G.C "prices" (sp_m_prices G) [] C8.E0 te (tCons ta tNil)) es (.list ((List.range n).map fun j => ratD (mul n s cs (2 * n + j)))) :=
  ee_methF hG h hz rfl ho (aa_cons h1 aa_nil) hT ⟨p, dx, sg, rl, bl, vs, n, s, cs, rfl, h.to hz, F, hn, C, rfl⟩
end
end KV
set_option Elab.async false
set_option linter.all false
set_option maxRecDepth 100000
set_option maxHeartbeats 4000000
/-! Evaluation: a program, written. -/
namespace KV
open PySem PySem.Spec PyProof.Rows L2 GxR KO Smx
theorem spW_ok {Pl : List Addr} {R : Hs → Ks → List PyData → (Hs → Ks → PyData → Prop) → Prop} {ts : TS} {N : List Str} (h : ∀ (S : Hs) T ds Post, T.ts = Pl → R S T ds Post → MS ts ⟨S, T, ds.map some ++ List.replicate (N.length - ds.length) none⟩ (fun X => Post X.S X.T .none) (fun X d => Post X.S X.T d)) {vs : List V} {H : Hp} {Q : VK} {E : XK} (hs : spW Pl R vs H Q E) : ts { nx := fun _ H' => Q .non H', rt := Q } (L2.start N vs) H := by
  obtain ⟨S, T, ds, Post, r, trk, fz, kn, hT, hR, k⟩ := hs
  have I : Inn T (L2.start N vs) (hid S H) (ds.map some ++ List.replicate (N.length - ds.length) none) := Inn.start r kn N
  exact h S T ds Post hT hR (L2.start N vs) H ⟨I, trk, fz⟩ _ (fun X' σ' H' p f k' => k X'.S X'.T .none .non H' p f ⟨k'.trk, k'.fz, k'.inn.tbs, .non⟩) fun X' d v H' p f r' => k X'.S X'.T d v H' p f ⟨r'.trk, r'.fz, r'.kn, r'.rp⟩
section
variable {G : Gd} {S S' : Hs} {T T' : Ks} {es : Es} {te ta tb tc tj tk : TE} {t : TA} {u : TS} {d : PyData} {p dx sg rl bl : Addr} {vs vs' : List V} {n i j k r : Nat} {s : Tab} {cs : List Rat} {X : Sta} {P : Sta → Prop} {P1 : Sta → PyData → Prop} {R : Sta → PyData → Prop}
theorem me_meth {W : Hs → Ks → List PyData → (Hs → Ks → PyData → Prop) → Prop} {m : Str} {ds : List PyData} {fs : List (Str × V)} (hf : X.S.fz p = some (.ins G.C dx fs)) (hl : fs.lookup m = none) (ho : EE X.S X.T te X.es (rawD p)) (ha : EA X.S X.T t X.es ds) (hT : X.T.ts = G.ps) (hR : W X.S X.T (rawD p :: ds) fun S' T' d => P1 ⟨S', T', X.es⟩ d) : ME (tMeth G.C m (spW G.ps W) [] C8.E0 te t) X P1 := fun σ H k Q q =>
  ho σ _ k.inn H k.ext _ fun v H2 g2 r2 => by
    refine ⟨p, dx, fs, raw_inv r2, (k.go g2).fz.keep hf (fun _ z => by cases z), hl, ha σ _ k.inn H2 (k.ext.go g2) _ fun us H3 g3 r3 => ?_⟩
    have k3 := (k.go g2).go g3
    refine ⟨X.S, X.T, rawD p :: ds, _, by rw [List.append_nil]; exact .cons (r2.mono (g3.hid _)) r3, k3.trk, k3.fz, k3.inn.tbs, hT, hR, fun S' T' d v H' p' f r' => ?_⟩
    have f0 := (Fr.of (S := X.S) (g2.trans g3)).trans f
    have I' := k.inn.mono f0.keep
    exact q ⟨S', T', X.es⟩ d v H' p' f0 ⟨⟨I'.len, I'.get, r'.kn⟩, r'.trk, r'.fz⟩ r'.rp
theorem ms_drop (h : ME te X P1) (hp : ∀ X' d, P1 X' d → P X') : MS (tDrop te) X P R := fun σ H k D kn kr => h σ H k _ fun X' d v H' p' f k' r' => kn X' σ H' (hp X' d p') f k'
theorem ms_retM (h : ME te X P1) (hr : ∀ X' d, P1 X' d → R X' d) : MS (tRet te) X P R := fun σ H k D kn kr => h σ H k _ fun X' d v H' p' f k' r' => kr X' d v H' (hr X' d p') f ⟨k'.trk, k'.fz, k'.inn.tbs, r'⟩
theorem ms_ifM (h : ME te X P1) (hb : ∀ X' d, P1 X' d → d = .bool true) (h2 : ∀ X' d, P1 X' d → MS u X' P R) : MS (tIfS (tNot (tB te)) tNever u) X P R := fun σ H k D kn kr => h σ H k _ fun X' d v H' p' f k' r' => by
  have := hb X' d p'
  subst this
  cases r'
  refine ⟨true, rfl, ?_⟩
  show u D σ H'
  exact h2 X' _ p' σ H' k' D (fun X2 σ2 H2 p2 f2 k2 => kn X2 σ2 H2 p2 (f.trans f2) k2) fun X2 d v H2 r2 f2 k2 => kr X2 d v H2 r2 (f.trans f2) k2
theorem PAt.putR (h : PAt G S T p dx sg rl bl vs n s) {R' : List (List Rat)} (hv : vs'.length = R'.length) : PAt G (S.put rl (.lst vs')) (T.kn vs' (R'.map rowD)) p dx sg rl bl vs' n (R', s.2) :=
  ⟨by show upd S.fz rl _ p = _; rw [upd_ne h.pr]; exact h.at_, upd_same, List.mem_cons_self, by show upd S.fz rl _ bl = _; rw [upd_ne (fun z => h.rb z.symm)]; exact h.basis, List.mem_cons_of_mem _ h.bk, List.mem_cons_of_mem _ h.sk, h.pr, h.pb, h.rb, hv⟩
theorem PAt.putB (h : PAt G S T p dx sg rl bl vs n s) {B' : List Nat} : PAt G (S.put bl (.lst (B'.map natV))) (T.kn (B'.map natV) (B'.map natD)) p dx sg rl bl vs n (s.1, B') :=
  ⟨by show upd S.fz bl _ p = _; rw [upd_ne h.pb]; exact h.at_, by show upd S.fz bl _ rl = _; rw [upd_ne h.rb]; exact h.rows, List.mem_cons_of_mem _ h.rk, upd_same, List.mem_cons_self, List.mem_cons_of_mem _ h.sk, h.pr, h.pb, h.rb, h.vl⟩
theorem divInt_le (a b : Int) (hb : b ≠ 0) : (Rat.divInt a b).num.natAbs ≤ a.natAbs ∧ (Rat.divInt a b).den ≤ b.natAbs := by
  constructor
  · rw [Rat.num_divInt]
    refine Nat.le_trans (Int.natAbs_ediv_le_natAbs _ _) ?_
    rw [Int.natAbs_mul]
    rcases Int.lt_or_lt_of_ne hb with z | z
    · rw [Int.sign_eq_neg_one_of_neg z]; simp
    · rw [Int.sign_eq_one_of_pos z]; simp
  · rw [Rat.den_divInt, if_neg hb]
    exact Nat.div_le_self _ _
theorem szr_div {e f : Nat} {q r : Rat} (h1 : SzR e q) (h2 : SzR f r) (h0 : r ≠ 0) : SzR (e + f) (q / r) := by
  have hn : r.num ≠ 0 := fun z => h0 (Rat.num_eq_zero.mp z)
  have hd : (q.den : Int) * r.num ≠ 0 := Int.mul_ne_zero (by have := den_pos q; omega) hn
  rw [← rat_div]
  obtain ⟨a1, a2⟩ := divInt_le (q.num * r.den) ((q.den : Int) * r.num) hd
  have b1 := sz_mul (sz_num h1) (sz_den h2)
  have b2 := sz_mul (sz_den h1) (sz_num h2)
  unfold Sz at b1 b2
  exact ⟨by omega, by omega⟩
theorem map_zip {row pr : List Rat} (g : Rat → Rat → Rat) : (row.zip pr).map (fun ab => ratD (g ab.1 ab.2)) = (List.zipWith g row pr).map ratD := by
  rw [List.zip, List.map_zipWith, List.map_zipWith]
/-- a list of which the first i are done -/
def part {α : Type} (g : Nat → α → α) (L : List α) (i : Nat) : List α := L.mapIdx fun i' row => if i' < i then g i' row else row
theorem part_len {α : Type} {g : Nat → α → α} {L : List α} : (part g L i).length = L.length := by unfold part; rw [List.length_mapIdx]
theorem part_get {α : Type} {g : Nat → α → α} {L : List α} (h : j < L.length) : (part g L i)[j]'(by rw [part_len]; exact h) = if j < i then g j L[j] else L[j] := by
  unfold part
  rw [List.getElem_mapIdx]
theorem part_zero {α : Type} {g : Nat → α → α} {L : List α} : part g L 0 = L := by
  apply List.ext_getElem
  · rw [part_len]
  · intro j h1 h2
    rw [part_get h2, if_neg (by omega)]
theorem part_end {α : Type} {g : Nat → α → α} {L : List α} : part g L L.length = L.mapIdx g := by
  apply List.ext_getElem
  · rw [part_len, List.length_mapIdx]
  · intro j h1 h2
    have h3 : j < L.length := by rw [part_len] at h1; exact h1
    rw [part_get h3, if_pos h3, List.getElem_mapIdx]
theorem part_succ {α : Type} {g : Nat → α → α} {L : List α} (h : i < L.length) : part g L (i + 1) = (part g L i).set i (g i L[i]) := by
  apply List.ext_getElem
  · rw [List.length_set, part_len, part_len]
  · intro j h1 h2
    have hj : j < L.length := by rw [part_len] at h1; exact h1
    rw [part_get hj, List.getElem_set]
    by_cases e : i = j
    · subst e
      rw [if_pos rfl, if_pos (by omega)]
    · rw [if_neg e, part_get hj]
      by_cases z : j < i
      · rw [if_pos z, if_pos (by omega)]
      · rw [if_neg z, if_neg (by omega)]
theorem ixN_nat {m : Nat} (h : i < m) : ixN m (i : Int) = some i := by
  unfold ixN
  rw [if_pos (Int.natCast_nonneg i), if_pos (by omega), Int.toNat_natCast]
theorem e_turn {ds : List PyData} {Post : Hs → Ks → PyData → Prop} (hG : GOk G) (hT : T.ts = G.ps) (h : W_turn G S T ds Post) : MS (t_m_turn G) ⟨S, T, ds.map some ++ List.replicate (9 - ds.length) none⟩ (fun X => Post X.S X.T .none) (fun X d => Post X.S X.T d) := by
  obtain ⟨p, dx, sg, rl, bl, vs, n, s, r, k, rfl, h, F, hn, hr, hk, hp, hra, hba, hPost⟩ := h
  have hP : ∀ x ∈ G.ps, x ∈ T.ts := fun x hx => hT ▸ hx
  have hl := F.wf.len
  have hbl := F.wf.blen
  have hr' : r < s.1.length := by omega
  have hrl := fit_rl F hr'
  have e2 : (s.1[r]).getD k 0 = gt s.1 r k := by rw [gt_row hr']
  have e3 : prow s r k = (s.1[r]).map (· / gt s.1 r k) := by unfold prow; rw [getD_of (List.getElem?_eq_getElem hr')]
  have szrow : ∀ i (hi : i < s.1.length), ∀ a ∈ s.1[i], SzR 17 a := fun i hi a ha => by
    obtain ⟨j, hj, rfl⟩ := List.getElem_of_mem ha
    have := fit_szrw F (i := i) (j := j) (by omega) (by have := fit_rl F hi; omega)
    rwa [gt_at hi, getD_of (List.getElem?_eq_getElem hj)] at this
  have szpr : ∀ b ∈ prow s r k, SzR 24 b := fun b hb => by
    rw [e3] at hb
    obtain ⟨a, ha, rfl⟩ := List.mem_map.mp hb
    exact szr_div (szrow r hr' a ha) (fit_szr F hr hk) hp
  -- pivot
  refine ms_seq (P1 := fun X => X = ⟨S, T, [some (rawD p), some (natD r), some (natD k), some (ratD (gt s.1 r k)), none, none, none, none, none]⟩) (ms_es (es_set (ee_is (ee_ent (p_row hG h hr' rfl (ee_var rfl) (ee_var rfl)) (ee_var rfl) (by omega)) (congrArg ratD e2))) rfl) ?_
  rintro _ rfl
  -- the turned row
  refine ms_seq (P1 := fun X => ∃ v, X = ⟨S.put rl (.lst (vs.set r v)), T.kn (vs.set r v) ((s.1.map rowD).set r (rowD (prow s r k))), [some (rawD p), some (natD r), some (natD k), some (ratD (gt s.1 r k)), none, none, none, none, none]⟩)
    (ms_set (a := rl) (vs := vs) (ds := s.1.map rowD) (d := rowD (prow s r k)) (m := r) (p_rows hG h rfl (ee_var rfl)) hra h.rows h.rk (ee_var rfl) ?_ (ee_is (ee_lcV (l := s.1[r]) (F := ratD) (f := fun a => ratD (a / gt s.1 r k)) (p := fun _ => true) (ei_seqL (p_row hG h hr' rfl (ee_var rfl) (ee_var rfl))) (by simp) (by omega) fun a ha S' hz => ⟨tt_yes, fun _ => c_over ((szrow r hr' a ha).mono (by omega)) ((fit_szr F hr hk).mono (by omega)) hp hP (ee_var rfl) (ee_var rfl)⟩) (by rw [filter_yes, e3]; unfold rowD; rw [List.map_map]; rfl)) fun v _ => ⟨v, rfl⟩) ?_
  · exact ixN_nat (by rw [h.vl]; exact hr')
  rintro _ ⟨v, rfl⟩
  -- the others
  let L : List (List Rat) := s.1.set r (prow s r k)
  let g : Nat → List Rat → List Rat := trow r k (prow s r k)
  have hLl : L.length = n := by show (s.1.set r _).length = n; rw [List.length_set]; exact hl
  have hprl : (prow s r k).length = 3 * n + 1 := by rw [e3, List.length_map]; exact hrl
  have hLrow : ∀ i (hi : i < L.length), (L[i]).length = 3 * n + 1 := fun i hi => by
    show ((s.1.set r (prow s r k))[i]'hi).length = _
    rw [List.getElem_set]
    split
    · exact hprl
    · exact fit_rl F (by rw [hLl] at hi; omega)
  have hLne : ∀ i (hi : i < L.length), i ≠ r → L[i] = s.1[i]'(by rw [hLl] at hi; omega) := fun i hi hne => by
    show (s.1.set r (prow s r k))[i]'hi = _
    rw [List.getElem_set, if_neg (fun z => hne z.symm)]
  have hLr : ∀ (hi : r < L.length), L[r] = prow s r k := fun hi => by
    show (s.1.set r (prow s r k))[r]'hi = _
    rw [List.getElem_set, if_pos rfl]
  have mapset : (s.1.map rowD).set r (rowD (prow s r k)) = L.map rowD := by show _ = (s.1.set r _).map rowD; rw [List.map_set]
  rw [mapset]
  have h1 : PAt G (S.put rl (.lst (vs.set r v))) (T.kn (vs.set r v) (L.map rowD)) p dx sg rl bl (vs.set r v) n (L, s.2) := h.putR (by rw [List.length_set, h.vl]; omega)
  let J : Nat → Sta → Prop := fun i X => ∃ S' T' vs' x4 x5, S'.ad = S.ad ∧ (∀ b, b ≠ rl → S'.fz b = S.fz b) ∧ T'.ts = T.ts ∧ PAt G S' T' p dx sg rl bl vs' n (part g L i, s.2) ∧ X = ⟨S', T', [some (rawD p), some (natD r), some (natD k), some (ratD (gt s.1 r k)), x4, x5, none, none, none]⟩
  refine ms_seq (P1 := J n) (ms_for (f0 := fun _ => none) (ys := (List.range n).map natD) J (ei2_nat (aa_cons (ee_is (ee_lenR (p_rows hG h1 rfl (ee_var rfl)) h1.rows) (by rw [h1.vl]; show natD L.length = _; rw [hLl])) aa_nil) (by omega)) ?_ (fun i X h b o z => by cases z) ?_ (fun X h => by simpa using h)) ?_
  · exact ⟨S.put rl (.lst (vs.set r v)), T.kn (vs.set r v) (L.map rowD), vs.set r v, none, none, rfl, fun b hb => upd_ne hb, rfl, by rw [part_zero]; exact h1, rfl⟩
  · rintro i hi X ⟨S', T', vs', x4, x5, had, hfz, hts, h', rfl⟩
    have hi' : i < n := by simpa using hi
    have e : ((List.range n).map natD)[i] = natD i := by simp
    rw [e]
    have hiL : i < L.length := by omega
    have hP' : ∀ x ∈ G.ps, x ∈ T'.ts := fun x hx => by rw [hts, hT]; exact hx
    have hpl : (part g L i).length = n := by rw [part_len, hLl]
    have hpi : (part g L i)[i]'(by omega) = L[i] := by rw [part_get hiL, if_neg (by omega)]
    have hpr : ∀ (z : r < L.length), (part g L i)[r]'(by omega) = prow s r k := fun z => by
      rw [part_get z, hLr z]
      show (if r < i then trow r k (prow s r k) r (prow s r k) else prow s r k) = _
      have : trow r k (prow s r k) r (prow s r k) = prow s r k := if_pos (.inl rfl)
      rw [this]; split <;> rfl
    refine ⟨_, eg_name' rfl, ?_⟩
    refine ms_seq (P1 := fun X => X = ⟨S', T', [some (rawD p), some (natD r), some (natD k), some (ratD (gt s.1 r k)), some (natD i), some (ratD ((L[i]).getD k 0)), none, none, none]⟩) (ms_es (es_set (ee_is (ee_ent (p_row hG h' (by show i < (part g L i).length; omega) rfl (ee_var rfl) (ee_var rfl)) (ee_var rfl) (by show k < ((part g L i)[i]'(by omega)).length; rw [hpi, hLrow i hiL]; omega)) (by show ratD (((part g L i)[i]'(by omega)).getD k 0) = _; rw [hpi]))) rfl) ?_
    rintro _ rfl
    have hcond : ET S' T' (tAnd (tTest (tOp (rNeP G.K) (tVar 4) (tVar 1))) (tTest (tOp (rNeP G.K) (tOp (rIx G.K) (tVar 5) (tC (.int 0))) (tC (.int 0))))) [some (rawD p), some (natD r), some (natD k), some (ratD (gt s.1 r k)), some (natD i), some (ratD ((L[i]).getD k 0)), none, none, none] (decide (i ≠ r) && decide ((L[i]).getD k 0 ≠ 0)) :=
      tt_and (et_is' (tt_test (ee_op (ee_var rfl) (ee_var rfl) fun _ => rv_neI)) (by rw [Bool.eq_iff_iff]; simp; omega)) fun _ => tt_nz (ee_var rfl)
    have hgi : part g L (i + 1) = (part g L i).set i (g i L[i]) := part_succ hiL
    refine ms_if hcond (fun hb => ?_) fun hb => ?_
    · have hb2 : i ≠ r ∧ (L[i]).getD k 0 ≠ 0 := by simpa using hb
      have hge : g i L[i] = clr ((L[i]).getD k 0) L[i] (prow s r k) := by
        show trow r k (prow s r k) i L[i] = _
        unfold trow
        rw [if_neg (by intro z; rcases z with z | z; exact hb2.1 z; exact hb2.2 z)]
      have hri : r < L.length := by omega
      have hfs : SzR 7 ((L[i]).getD k 0) := by
        rw [hLne i hiL hb2.1]
        have := fit_szr F (i := i) (j := k) hi' hk
        rwa [gt_at (by omega)] at this
      refine ms_set (a := rl) (vs := vs') (ds := (part g L i).map rowD) (d := rowD (g i L[i])) (m := i) (p_rows hG h' rfl (ee_var rfl)) (had ▸ hra) h'.rows h'.rk (ee_var rfl) (ixN_nat (by rw [h'.vl]; show i < (part g L i).length; omega)) (ee_is (ee_lcM (l := (L[i]).zip (prow s r k)) (F := fun ab => .tuple [ratD ab.1, ratD ab.2]) (f := fun ab => ratD (ab.1 - (L[i]).getD k 0 * ab.2)) (p := fun _ => true) ?_ (fun ab hab => ?_) ?_) ?_) fun v _ => ?_
      · have hz := ei_zip (K := G.K) (S := S') (Ts := T') (es := [some (rawD p), some (natD r), some (natD k), some (ratD (gt s.1 r k)), some (natD i), some (ratD ((L[i]).getD k 0)), none, none, none]) (ys := (L[i]).map ratD) (zs := (prow s r k).map ratD) (aa_cons (ee_is (p_row (te := tVar 0) (tj := tVar 4) hG h' (i := i) (by show i < (part g L i).length; omega) rfl (ee_var rfl) (ee_var rfl)) (by show rowD ((part g L i)[i]'(by omega)) = _; rw [hpi]; rfl)) (aa_cons (ee_is (p_row (te := tVar 0) (tj := tVar 1) hG h' (i := r) (by show r < (part g L i).length; omega) rfl (ee_var rfl) (ee_var rfl)) (by show rowD ((part g L i)[r]'(by omega)) = _; rw [hpr hri]; rfl)) aa_nil))
        have ez : zipD ((L[i]).map ratD) ((prow s r k).map ratD) = ((L[i]).zip (prow s r k)).map fun ab => .tuple [ratD ab.1, ratD ab.2] := by
          unfold zipD
          rw [List.zip, List.map_zipWith, List.zipWith_map]
        rw [← ez]
        exact hz
      · obtain ⟨m1, m2⟩ := List.of_mem_zip (a := ab.1) (b := ab.2) hab
        rw [hLne i hiL hb2.1] at m1
        refine ⟨[some (rawD p), some (natD r), some (natD k), some (ratD (gt s.1 r k)), some (natD i), some (ratD ((L[i]).getD k 0)), none, some (ratD ab.1), some (ratD ab.2)], fun S2 hz => ⟨lc_pair (by simp) (by simp) rfl, tt_yes, fun _ => ?_⟩⟩
        exact c_minus ((szrow i (by omega) _ m1).mono (by omega)) ((szr_mul hfs (szpr _ m2)).mono (by omega)) hP' (ee_var rfl) (c_by (hfs.mono (by omega)) ((szpr _ m2).mono (by omega)) hP' (ee_var rfl) (ee_var rfl))
      · rw [List.length_zip, hLrow i hiL]; omega
      · rw [filter_yes, map_zip fun a b => a - (L[i]).getD k 0 * b, hge]; rfl
      · refine ⟨S'.put rl (.lst (vs'.set i v)), T'.kn (vs'.set i v) (((part g L i).map rowD).set i (rowD (g i L[i]))), vs'.set i v, some (natD i), some (ratD ((L[i]).getD k 0)), had, fun b hb' => ?_, hts, ?_, rfl⟩
        · show upd S'.fz rl _ b = _
          rw [upd_ne hb']; exact hfz b hb'
        · have := h'.putR (vs' := vs'.set i v) (R' := part g L (i + 1)) (by rw [List.length_set, h'.vl]; show (part g L i).length = _; rw [part_len, part_len])
          rw [hgi, List.map_set] at this
          rw [hgi]
          exact this
    · have hge : g i L[i] = L[i] := by
        show trow r k (prow s r k) i L[i] = _
        unfold trow
        rw [if_pos]
        simp only [Bool.and_eq_false_iff, decide_eq_false_iff_not, ne_eq, Decidable.not_not] at hb
        exact hb
      have : part g L (i + 1) = part g L i := by
        rw [hgi, hge]
        apply List.ext_getElem
        · rw [List.length_set]
        · intro j j1 j2
          rw [List.getElem_set]
          split
          · rename_i z; subst z; exact hpi.symm
          · rfl
      exact ms_es es_skip ⟨S', T', vs', some (natD i), some (ratD ((L[i]).getD k 0)), had, hfz, hts, by rw [this]; exact h', rfl⟩
  · rintro X ⟨S', T', vs', x4, x5, had, hfz, hts, h', rfl⟩
    have hend : part g L n = (trn s r k).1 := by
      have := part_end (g := g) (L := L)
      rw [hLl] at this
      exact this
    rw [hend] at h'
    have h'' : PAt G S' T' p dx sg rl bl vs' n ((trn s r k).1, s.2) := h'
    refine ms_set (a := bl) (vs := s.2.map natV) (ds := s.2.map natD) (d := natD k) (m := r) (p_basis hG h'' rfl (ee_var rfl)) (had ▸ hba) h''.basis h''.bk (ee_var rfl) (ixN_nat (by rw [List.length_map]; omega)) (ee_var rfl) fun v hv => ?_
    obtain ⟨_, hv⟩ := hv
    cases hv
    have := h''.putB (B' := s.2.set r k)
    rw [List.map_set, List.map_set] at this
    refine hPost (S'.put bl (.lst ((s.2.map natV).set r (natV k)))) (T'.kn ((s.2.map natV).set r (natV k)) ((s.2.map natD).set r (natD k))) vs' had (fun b b1 b2 => ?_) hts ?_
    · show upd S'.fz bl _ b = _
      rw [upd_ne b2]; exact hfz b b1
    · exact this
end
end KV
set_option Elab.async false
set_option linter.all false
set_option maxRecDepth 100000
set_option maxHeartbeats 4000000
/-! Evaluation: the climb. -/
namespace KV
open PySem PySem.Spec PyProof.Rows L2 GxR KO Smx
/-- while True, the turns counted -/
theorem ms_whileT {tb : TS} {X : Sta} {R : Sta → PyData → Prop} {m : Nat} (J : Nat → Sta → Prop) (h0 : J m X) (h : ∀ m X', J m X' → MS tb X' (fun X2 => ∃ m', m' < m ∧ J m' X2) R) : MS (tWhile (tB (tC (.bl true))) tb) X (fun _ => False) R := fun σ H k D kn kr => by
  refine ⟨fun m σ' H' => ∃ X', J m X' ∧ Fr X.S H X'.S H' ∧ StOk X' σ' H', ⟨m, X, h0, Fr.refl _ _, k⟩, ?_⟩
  rintro m σ' H' ⟨X', j, fr, k'⟩
  refine ⟨true, rfl, ?_⟩
  dsimp only
  rw [if_pos rfl]
  refine ⟨fun σ2 H2 => ∃ m', m' < m ∧ ∃ X2, J m' X2 ∧ Fr X.S H X2.S H2 ∧ StOk X2 σ2 H2, fun σ2 H2 ⟨m', a, b⟩ => ⟨m', a, b⟩, ?_⟩
  exact h m X' j σ' H' k' _ (fun X2 σ2 H2 ⟨m', hm, j2⟩ f2 k2 => ⟨m', hm, X2, j2, fr.trans f2, k2⟩) fun X2 d v H2 r2 f2 k2 => kr X2 d v H2 r2 (fr.trans f2) k2
def bestD : Option (Rat × Nat) → PyData
  | none => .none
  | some (q, j) => .tuple [ratD q, natD j]
section
variable {G : Gd} {S S' : Hs} {T T' : Ks} {es : Es} {te ta tb tc tj tk : TE} {t : TA} {u : TS} {d : PyData} {p dx sg rl bl : Addr} {vs vs' : List V} {n i j k r : Nat} {s : Tab} {cs : List Rat}
theorem rat_num_pos (q : Rat) : 0 < q.num ↔ 0 < q := by
  rw [← Rat.not_le, ← Int.not_le]
  constructor
  · intro h z
    refine h ?_
    rcases Int.lt_or_le 0 q.num with y | y
    · have : ¬ q < 0 := fun z' => by have := (num_neg q).mpr z'; omega
      have e : q = 0 := Rat.le_antisymm z (Rat.not_lt.mp this)
      rw [e] at y; exact absurd y (by decide)
    · exact y
  · intro h z
    refine h ?_
    rcases Int.lt_or_le q.num 0 with y | y
    · exact Rat.le_of_lt ((num_neg q).mp y)
    · have e : q.num = 0 := by omega
      rw [Rat.num_eq_zero.mp e]; exact Rat.le_refl
theorem tt_pos {q : Rat} (h : EE S T te es (ratD q)) : ET S T (tTest (tOp (uGt) (tOp (rIx G.K) te (tC (.int 0))) (tC (.int 0)))) es (decide (0 < q)) :=
  et_is' (tt_test (ee_op (ee_num h) ee_int fun _ => rv_gt)) (by
    congr 1
    exact propext (rat_num_pos q))
theorem atI_last {l : List PyData} {m : Nat} {z : PyData} (hl : l.length = m + 1) (h : l[m]? = some z) : atI l (-1) = some z := by
  unfold atI ixN
  rw [if_neg (by omega), if_pos (by omega), hl]
  show (some ((-1 : Int) + ((m + 1 : Nat) : Int)).toNat).bind (fun j => l[j]?) = _
  rw [show ((-1 : Int) + ((m + 1 : Nat) : Int)).toNat = m by omega]
  exact h
theorem best_inv (F : Fit n (3 * n) s) (hk : k < 3 * n) (hi : i ≤ n) {q : Rat} {b : Nat} (h : (List.range i).foldl (bstep (3 * n) s k) none = some (q, b)) : b < n ∧ SzR 24 q := by
  have hb := bst_n (3 * n) s k i
  rw [h] at hb
  obtain ⟨h1, h2, h3, _⟩ := hb
  refine ⟨by omega, ?_⟩
  rw [h3]
  exact szr_div (fit_szrw F (by omega) (Nat.le_refl _)) (fit_szr F (by omega) hk) (fun z => by rw [z] at h2; exact absurd h2 (Rat.lt_irrefl))
theorem enum_rows (hl : s.1.length = n) : enumD (s.1.map rowD) = (List.range n).map fun i => .tuple [natD i, rowD (s.1.getD i [])] := by
  apply List.ext_getElem
  · simp [enumD, hl]
  · intro i h1 h2
    have hi : i < s.1.length := by simpa [enumD] using h1
    simp [enumD, List.getElem?_eq_getElem hi]
theorem get_last {m : Nat} (hlen : (s.1.getD i []).length = m + 1) : ((s.1.getD i []).map ratD)[m]? = some (ratD (gt s.1 i m)) := by
  have hm : m < (s.1.getD i []).length := by omega
  rw [List.getElem?_map, List.getElem?_eq_getElem hm]
  show some (ratD _) = some (ratD ((s.1.getD i []).getD m 0))
  rw [getD_of (List.getElem?_eq_getElem hm)]
/-- one row of the search -/
theorem climb_row (hG : GOk G) (hT : T.ts = G.ps) (h : PAt G S T p dx sg rl bl vs n s) (F : Fit n (3 * n) s) (hn : n ≤ 5) (hk : k < 3 * n) {cD clD : PyData} {i : Nat} (hi : i < n) {x5 x6 x7 : Option PyData} :
    ∃ es1, EG S T (gTup G.K 2 (gCons (gName 5) (gCons (gName 6) gNil))) (.tuple [natD i, rowD (s.1.getD i [])]) [some (rawD p), some cD, some clD, some (natD k), some (bestD ((List.range i).foldl (bstep (3 * n) s k) none)), x5, x6, x7] es1 ∧
    ∃ es2, ES S T (tIfS (tTest (tOp (uGt) (tOp (rIx G.K) (tOp (rIx G.K) (tVar 6) (tVar 3)) (tC (.int 0))) (tC (.int 0)))) (tSeq (tAsg (tCall (sp_over G) [] C8.E0 (tCons (tOp (rIx G.K) (tVar 6) (tUn uNeg (tC (.int 1)))) (tCons (tOp (rIx G.K) (tVar 6) (tVar 3)) tNil))) (gName 7)) (tIfS (tOr (tTest (tOp (uIsN) (tVar 4) (tC .non))) (tOr (tB (tCall (sp_less G) [] C8.E0 (tCons (tVar 7) (tCons (tOp (rIx G.K) (tVar 4) (tC (.int 0))) tNil)))) (tAnd (tTest (tOp (rEqP G.K) (tVar 7) (tOp (rIx G.K) (tVar 4) (tC (.int 0))))) (tTest (tOp (uLt) (tOp (rIx G.K) (tFld G.K (tVar 0) "basis") (tVar 5)) (tOp (rIx G.K) (tFld G.K (tVar 0) "basis") (tOp (rIx G.K) (tVar 4) (tC (.int 1))))))))) (tAsg (tTup (tCons (tVar 7) (tCons (tVar 5) tNil))) (gName 4)) tNext)) tNext) es1 (.nx es2) ∧
    ∃ y5 y6 y7, es2 = [some (rawD p), some cD, some clD, some (natD k), some (bestD ((List.range (i + 1)).foldl (bstep (3 * n) s k) none)), y5, y6, y7] := by
  have hP : ∀ x ∈ G.ps, x ∈ T.ts := fun x hx => hT ▸ hx
  have hl := F.wf.len
  have hbl := F.wf.blen
  have hlen : (s.1.getD i []).length = 3 * n + 1 := F.wf.row i hi
  have hstep : (List.range (i + 1)).foldl (bstep (3 * n) s k) none = bstep (3 * n) s k ((List.range i).foldl (bstep (3 * n) s k) none) i := by rw [List.range_succ, List.foldl_append]; rfl
  rw [hstep]
  generalize hB : (List.range i).foldl (bstep (3 * n) s k) none = B
  have hinv : ∀ q b, B = some (q, b) → b < n ∧ SzR 24 q := fun q b e => best_inv F hk (i := i) (by omega) (hB.trans e)
  refine ⟨[some (rawD p), some cD, some clD, some (natD k), some (bestD B), some (natD i), some (rowD (s.1.getD i [])), x7], eg_pair, ?_⟩
  have hc1 : ET S T (tTest (tOp (uGt) (tOp (rIx G.K) (tOp (rIx G.K) (tVar 6) (tVar 3)) (tC (.int 0))) (tC (.int 0)))) [some (rawD p), some cD, some clD, some (natD k), some (bestD B), some (natD i), some (rowD (s.1.getD i [])), x7] (decide (0 < gt s.1 i k)) := tt_pos (ee_ent (ee_var rfl) (ee_var rfl) (by rw [hlen]; omega))
  by_cases hpos : 0 < gt s.1 i k
  · rw [decide_eq_true hpos] at hc1
    have hne : gt s.1 i k ≠ 0 := fun z => by rw [z] at hpos; exact absurd hpos Rat.lt_irrefl
    have hq : SzR 24 (gt s.1 i (3 * n) / gt s.1 i k) := szr_div (fit_szrw F hi (Nat.le_refl _)) (fit_szr F hi hk) hne
    have hhere : EE S T (tCall (sp_over G) [] C8.E0 (tCons (tOp (rIx G.K) (tVar 6) (tUn uNeg (tC (.int 1)))) (tCons (tOp (rIx G.K) (tVar 6) (tVar 3)) tNil))) [some (rawD p), some cD, some clD, some (natD k), some (bestD B), some (natD i), some (rowD (s.1.getD i [])), x7] (ratD (gt s.1 i (3 * n) / gt s.1 i k)) :=
      c_over ((fit_szrw F hi (Nat.le_refl _)).mono (by omega)) ((fit_szr F hi hk).mono (by omega)) hne hP (ee_op (ee_var (d := .list ((s.1.getD i []).map ratD)) rfl) (ee_un ee_int fun _ => ru_neg) fun _ => rv_ixL (atI_last (m := 3 * n) (by rw [List.length_map, hlen]) (get_last hlen))) (ee_ent (ee_var rfl) (ee_var rfl) (by rw [hlen]; omega))
    have hbas : ∀ {j : Nat} {tj : TE} {es : Es}, j < n → EE S T (tVar 0) es (rawD p) → EE S T tj es (natD j) → EE S T (tOp (rIx G.K) (tFld G.K (tVar 0) "basis") tj) es (natD (gb s.2 j)) := fun hj h1 h2 => p_bas hG h (by omega) rfl h1 h2
    have fin : ∀ {es1 : Es} {c : TT} {b : Bool}, es1 = [some (rawD p), some cD, some clD, some (natD k), some (bestD B), some (natD i), some (rowD (s.1.getD i [])), some (ratD (gt s.1 i (3 * n) / gt s.1 i k))] → ET S T c es1 b → bstep (3 * n) s k B i = (if b then some (gt s.1 i (3 * n) / gt s.1 i k, i) else B) →
        ∃ es2, ES S T (tIfS c (tAsg (tTup (tCons (tVar 7) (tCons (tVar 5) tNil))) (gName 4)) tNext) es1 (.nx es2) ∧ ∃ y5 y6 y7, es2 = [some (rawD p), some cD, some clD, some (natD k), some (bestD (bstep (3 * n) s k B i)), y5, y6, y7] := by
      intro es1 c b e hc hb
      subst e
      rw [hb]
      cases b with
      | true => exact ⟨_, es_if hc (fun _ => es_set (ee_tup (aa_cons (ee_var rfl) (aa_cons (ee_var rfl) aa_nil)) (by simp))) (fun z => nomatch z), _, _, _, rfl⟩
      | false => exact ⟨_, es_if hc (fun z => nomatch z) (fun _ => es_skip), _, _, _, rfl⟩
    have key : ∃ es2, ES S T (tIfS (tOr (tTest (tOp (uIsN) (tVar 4) (tC .non))) (tOr (tB (tCall (sp_less G) [] C8.E0 (tCons (tVar 7) (tCons (tOp (rIx G.K) (tVar 4) (tC (.int 0))) tNil)))) (tAnd (tTest (tOp (rEqP G.K) (tVar 7) (tOp (rIx G.K) (tVar 4) (tC (.int 0))))) (tTest (tOp (uLt) (tOp (rIx G.K) (tFld G.K (tVar 0) "basis") (tVar 5)) (tOp (rIx G.K) (tFld G.K (tVar 0) "basis") (tOp (rIx G.K) (tVar 4) (tC (.int 1))))))))) (tAsg (tTup (tCons (tVar 7) (tCons (tVar 5) tNil))) (gName 4)) tNext) [some (rawD p), some cD, some clD, some (natD k), some (bestD B), some (natD i), some (rowD (s.1.getD i [])), some (ratD (gt s.1 i (3 * n) / gt s.1 i k))] (.nx es2) ∧ ∃ y5 y6 y7, es2 = [some (rawD p), some cD, some clD, some (natD k), some (bestD (bstep (3 * n) s k B i)), y5, y6, y7] := by
      cases B with
      | none =>
        refine fin rfl (tt_or (b := true) (tt_test (ee_op (ee_var (d := .none) rfl) ee_non fun _ => rv_isY)) fun z => nomatch z) ?_
        unfold bstep
        rw [if_pos hpos]; rfl
      | some qb =>
        obtain ⟨q, b⟩ := qb
        obtain ⟨hbn, hqs⟩ := hinv q b rfl
        have hv4 : ∀ {S : Hs}, EE S T (tVar 4) [some (rawD p), some cD, some clD, some (natD k), some (bestD (some (q, b))), some (natD i), some (rowD (s.1.getD i [])), some (ratD (gt s.1 i (3 * n) / gt s.1 i k))] (.tuple [ratD q, natD b]) := ee_var rfl
        refine fin rfl (tt_or (tt_test (ee_op hv4 ee_non fun _ => rv_isX (by simp))) fun _ => tt_or (tt_B (c_less (hq.mono (by omega)) (hqs.mono (by omega)) hP (ee_var rfl) (ee_op hv4 ee_int fun _ => rv_ixT rfl))) fun _ => tt_and (tt_test (ee_op (ee_var (d := ratD _) rfl) (ee_op hv4 ee_int fun _ => rv_ixT (z := ratD q) rfl) fun _ => rv_eq rfl rfl (by simp [ratD, PyData.depth, PyData.depthAll]))) fun _ => tt_test (ee_op (hbas hi (ee_var rfl) (ee_var rfl)) (hbas hbn (ee_var rfl) (ee_op hv4 ee_int fun _ => rv_ixT rfl)) fun _ => rv_lt)) ?_
        rw [eqv_rat]
        unfold bstep
        rw [if_pos hpos]
        show (if _ ∨ (_ ∧ _) then _ else _) = _
        by_cases h1 : gt s.1 i (3 * n) / gt s.1 i k < q
        · rw [if_pos (.inl h1)]; simp [h1]
        · by_cases h2 : gt s.1 i (3 * n) / gt s.1 i k = q ∧ gb s.2 i < gb s.2 b
          · rw [if_pos (.inr h2)]
            have h3 : (gb s.2 i : Int) < (gb s.2 b : Int) := by have := h2.2; omega
            simp [h2.1, h2.2]
          · rw [if_neg (fun z => z.elim h1 h2)]
            by_cases h4 : gt s.1 i (3 * n) / gt s.1 i k = q
            · have h5 : ¬ gb s.2 i < gb s.2 b := fun z => h2 ⟨h4, z⟩
              rw [h4] at h1
              simp [h1, h4, h5]
            · simp [h1, h4]
    obtain ⟨es2, hk2, hy⟩ := key
    exact ⟨es2, es_if hc1 (fun _ => es_seq (es_set hhere) hk2) (fun z => nomatch z), hy⟩
  · rw [decide_eq_false hpos] at hc1
    refine ⟨_, es_if hc1 (fun z => nomatch z) (fun _ => es_skip), some (natD i), some (rowD (s.1.getD i [])), x7, ?_⟩
    unfold bstep
    rw [if_neg hpos]
theorem ms_ends {t u : TS} {X : Sta} {P : Sta → Prop} {R : Sta → PyData → Prop} (h : MS t X (fun _ => False) R) : MS (tSeq t u) X P R := ms_seq h fun _ z => z.elim
theorem e_climb {ds : List PyData} {Post : Hs → Ks → PyData → Prop} (hG : GOk G) (hT : T.ts = G.ps) (h : W_climb G S T ds Post) : MS (t_m_climb G) ⟨S, T, ds.map some ++ List.replicate (8 - ds.length) none⟩ (fun X => Post X.S X.T .none) (fun X d => Post X.S X.T d) := by
  obtain ⟨p, dx, sg, rl, bl, vs, n, s, cs, cols, m, s', rfl, h, hn, C, hc, hrun, hra, hba, hPost⟩ := h
  let J : Nat → Sta → Prop := fun m X => ∃ S1 T1 vs1 s1 x3 x4 x5 x6 x7, S1.ad = S.ad ∧ (∀ b, b ≠ rl → b ≠ bl → S1.fz b = S.fz b) ∧ T1.ts = T.ts ∧ PAt G S1 T1 p dx sg rl bl vs1 n s1 ∧ ClRun n (3 * n) cs cols m s1 s' ∧ X = ⟨S1, T1, [some (rawD p), some (.list (cs.map ratD)), some (natD cols), x3, x4, x5, x6, x7]⟩
  refine ms_mono (ms_whileT (m := m) J ⟨S, T, vs, s, none, none, none, none, none, rfl, fun b _ _ => rfl, rfl, h, hrun, rfl⟩ ?_) (fun X z => z.elim) (fun X d q => q)
  rintro m X ⟨S1, T1, vs1, s1, x3, x4, x5, x6, x7, had, hfz, hts, h1, hrun, rfl⟩
  have hT1 : T1.ts = G.ps := hts.trans hT
  have F : Fit n (3 * n) s1 := by cases m <;> exact hrun.1
  refine ms_seq (P1 := fun X => X = ⟨S1, T1, [some (rawD p), some (.list (cs.map ratD)), some (natD cols), some (optD (rise n s1 cs cols)), some .none, x5, x6, x7]⟩) (ms_es (es_par (aa_cons (c_rising hG h1 rfl F hn C hc hT1 (ee_var rfl) (ee_var rfl) (ee_var rfl)) (aa_cons ee_non aa_nil))) rfl) ?_
  rintro _ rfl
  cases m with
  | zero =>
    obtain ⟨_, hr, rfl⟩ := hrun
    rw [hr]
    refine ms_ends (ms_if (b := true) (tt_test (ee_op (ee_var (d := .none) rfl) ee_non fun _ => rv_isY)) (fun _ => ms_rt (es_ret ee_bl) ?_) fun z => nomatch z)
    exact hPost S1 T1 vs1 had hfz hts h1
  | succ m =>
    obtain ⟨_, k, q, r, hr, hb, hrun⟩ := hrun
    have hk : k < cols := List.mem_range.mp (List.mem_of_find?_eq_some hr)
    have hk3 : k < 3 * n := by omega
    obtain ⟨hrn, hpos, _, _⟩ : BestOf (3 * n) s1 k n (some (q, r)) := by
      have := bst_n (3 * n) s1 k n
      have hb' : (List.range n).foldl (bstep (3 * n) s1 k) none = some (q, r) := hb
      rwa [hb'] at this
    have hne : gt s1.1 r k ≠ 0 := fun z => by rw [z] at hpos; exact absurd hpos Rat.lt_irrefl
    rw [hr]
    refine ms_seq (P1 := fun X => X = ⟨S1, T1, [some (rawD p), some (.list (cs.map ratD)), some (natD cols), some (natD k), some .none, x5, x6, x7]⟩) (ms_es (es_if (b := false) (tt_test (ee_op (ee_var (d := natD k) rfl) ee_non fun _ => rv_isX (by simp))) (fun z => nomatch z) fun _ => es_skip) rfl) ?_
    rintro _ rfl
    obtain ⟨es2, hf, y5, y6, y7, rfl⟩ := forO_rel (ys := (List.range n).map fun i => PyData.tuple [natD i, rowD (s1.1.getD i [])]) (es := [some (rawD p), some (.list (cs.map ratD)), some (natD cols), some (natD k), some (bestD ((List.range 0).foldl (bstep (3 * n) s1 k) none)), x5, x6, x7]) (Pe := fun i es => ∃ x5 x6 x7, es = [some (rawD p), some (.list (cs.map ratD)), some (natD cols), some (natD k), some (bestD ((List.range i).foldl (bstep (3 * n) s1 k) none)), x5, x6, x7])
      (step := fun es y o => ∃ es1, EG S1 T1 (gTup G.K 2 (gCons (gName 5) (gCons (gName 6) gNil))) y es es1 ∧ ES S1 T1 (tIfS (tTest (tOp (uGt) (tOp (rIx G.K) (tOp (rIx G.K) (tVar 6) (tVar 3)) (tC (.int 0))) (tC (.int 0)))) (tSeq (tAsg (tCall (sp_over G) [] C8.E0 (tCons (tOp (rIx G.K) (tVar 6) (tUn uNeg (tC (.int 1)))) (tCons (tOp (rIx G.K) (tVar 6) (tVar 3)) tNil))) (gName 7)) (tIfS (tOr (tTest (tOp (uIsN) (tVar 4) (tC .non))) (tOr (tB (tCall (sp_less G) [] C8.E0 (tCons (tVar 7) (tCons (tOp (rIx G.K) (tVar 4) (tC (.int 0))) tNil)))) (tAnd (tTest (tOp (rEqP G.K) (tVar 7) (tOp (rIx G.K) (tVar 4) (tC (.int 0))))) (tTest (tOp (uLt) (tOp (rIx G.K) (tFld G.K (tVar 0) "basis") (tVar 5)) (tOp (rIx G.K) (tFld G.K (tVar 0) "basis") (tOp (rIx G.K) (tVar 4) (tC (.int 1))))))))) (tAsg (tTup (tCons (tVar 7) (tCons (tVar 5) tNil))) (gName 4)) tNext)) tNext) es1 o) (by
        rintro i hi es ⟨x5, x6, x7, rfl⟩
        have hi' : i < n := by simpa using hi
        have e : ((List.range n).map fun i => PyData.tuple [natD i, rowD (s1.1.getD i [])])[i] = .tuple [natD i, rowD (s1.1.getD i [])] := by simp
        rw [e]
        obtain ⟨es1, g1, es2, e2, y5, y6, y7, rfl⟩ := climb_row (x5 := x5) (x6 := x6) (x7 := x7) (cD := .list (cs.map ratD)) (clD := natD cols) hG hT1 h1 F hn hk3 hi'
        exact ⟨_, ⟨es1, g1, e2⟩, y5, y6, y7, rfl⟩) ⟨x5, x6, x7, rfl⟩
    rw [List.length_map, List.length_range] at hf
    have hb' : (List.range n).foldl (bstep (3 * n) s1 k) none = some (q, r) := hb
    rw [hb'] at hf
    have hen : EI S1 T1 (iEnum G.K (tCons (tFld G.K (tVar 0) "rows") tNil)) [some (rawD p), some (.list (cs.map ratD)), some (natD cols), some (natD k), some .none, x5, x6, x7] ((List.range n).map fun i => .tuple [natD i, rowD (s1.1.getD i [])]) := by
      rw [← enum_rows F.wf.len]
      exact ei_enumR (p_rows hG h1 rfl (ee_var rfl)) h1.rows h1.rk
    refine ms_seq (P1 := fun X => X = ⟨S1, T1, [some (rawD p), some (.list (cs.map ratD)), some (natD cols), some (natD k), some (bestD (some (q, r))), y5, y6, y7]⟩) (ms_es (es_for hen hf) rfl) ?_
    rintro _ rfl
    have hv4 : EE S1 T1 (tVar 4) [some (rawD p), some (.list (cs.map ratD)), some (natD cols), some (natD k), some (bestD (some (q, r))), y5, y6, y7] (.tuple [ratD q, natD r]) := ee_var rfl
    refine ms_seq (P1 := fun X => X = ⟨S1, T1, [some (rawD p), some (.list (cs.map ratD)), some (natD cols), some (natD k), some (bestD (some (q, r))), y5, y6, y7]⟩) (ms_es (es_if (b := false) (tt_test (ee_op hv4 ee_non fun _ => rv_isX (by simp))) (fun z => nomatch z) fun _ => es_skip) rfl) ?_
    rintro _ rfl
    refine ms_drop (P1 := fun X' d => J m X') (me_meth (p := p) (fs := pfs n sg rl bl) (ds := [natD r, natD k]) h1.at_ rfl (ee_var rfl) (aa_cons (ee_op hv4 ee_int fun _ => rv_ixT rfl) (aa_cons (ee_var rfl) aa_nil)) hT1 ?_) fun X' d j => ⟨m, Nat.lt_succ_self _, j⟩
    exact ⟨p, dx, sg, rl, bl, vs1, n, s1, r, k, rfl, h1, F, hn, hrn, hk3, hne, had ▸ hra, had ▸ hba, fun S2 T2 vs2 g1 g2 g3 g4 => ⟨S2, T2, vs2, trn s1 r k, _, _, _, _, _, g1.trans had, fun b b1 b2 => (g2 b b1 b2).trans (hfz b b1 b2), g3.trans hts, g4, hrun, rfl⟩⟩
end
end KV
set_option Elab.async false
set_option linter.all false
set_option maxRecDepth 100000
set_option maxHeartbeats 4000000
/-! Evaluation: the help leaves; the amounts. -/
namespace KV
open PySem PySem.Spec PyProof.Rows L2 GxR KO Smx
section
variable {G : Gd} {S S' : Hs} {T T' : Ks} {es : Es} {te ta tb tc tj tk : TE} {t : TA} {u : TS} {d : PyData} {p dx sg rl bl : Addr} {vs vs' : List V} {n i j k r : Nat} {s : Tab} {cs : List Rat} {ds : List PyData} {f0 : Hp}
theorem tt_tru (h : EE S T te es (.list ds)) : ET S T (tTru G.K te) es (!ds.isEmpty) := fun σ B I H1 e Q q => h σ B I H1 e _ fun v H2 g r => by
  cases r with
  | lst ha rs =>
    refine ⟨_, .inl ⟨_, .inl (.inl (hid_some ha).2), rfl⟩, ?_⟩
    have hl := rs.len
    rename_i xs
    have : xs.isEmpty = ds.isEmpty := by
      cases xs <;> cases ds <;> first | rfl | simp at hl
    rw [this]
    exact q H2 g
/-- from n - 1 down to 0 -/
theorem ei2_down {ta : TA} (h : EA S T ta es [.int ((n : Int) - 1), .int (-1), .int (-1)]) (hn : n ≤ 1000) : EI2 S f0 T (iRng3 ta) es ((List.range n).map fun i => natD (n - 1 - i)) := fun σ B I H1 e R q => h σ B I H1 e _ fun vs H2 g r => by
  cases r with
  | cons r1 r =>
    cases r with
    | cons r2 r =>
      cases r with
      | cons r3 r =>
        cases r; cases r1; cases r2; cases r3
        refine ⟨(n : Int) - 1, -1, -1, n, rfl, ?_, q _ H2 g fun S' _ => ?_⟩
        · have := RgC.neg (i := (n : Int) - 1) (j := -1) (by omega) (by omega) (by omega) (by omega)
          rwa [show (((n : Int) - 1) - (-1)).toNat = n by omega] at this
        · have hl : ((List.range n).map fun i => natD (n - 1 - i)).length = n := by simp
          refine ⟨fun i H _ hi => by rw [hl] at hi; exact hi, fun H _ => by rw [hl]; exact Nat.le_refl _, fun i H x H' e hi y => ?_⟩
          obtain ⟨rfl, rfl⟩ := y
          rw [hl] at hi
          refine ⟨natD (n - 1 - i), by simp [hi], Gr.refl _, ?_⟩
          have : (n : Int) - 1 + (i : Int) * (-1) = ((n - 1 - i : Nat) : Int) := by omega
          rw [this]
          exact .int _
theorem e_leave_help {Post : Hs → Ks → PyData → Prop} (hG : GOk G) (hT : T.ts = G.ps) (h : W_leave G S T ds Post) : MS (t_m_leave_help G) ⟨S, T, ds.map some ++ List.replicate (4 - ds.length) none⟩ (fun X => Post X.S X.T .none) (fun X d => Post X.S X.T d) := by
  obtain ⟨p, dx, sg, rl, bl, vs, n, s, s', rfl, h, hn1, hn, hrun, hra, hba, hPost⟩ := h
  let J : Nat → Sta → Prop := fun i X => ∃ S1 T1 vs1 s1 x1 x2 x3, S1.ad = S.ad ∧ (∀ b, b ≠ rl → b ≠ bl → S1.fz b = S.fz b) ∧ T1.ts = T.ts ∧ PAt G S1 T1 p dx sg rl bl vs1 n s1 ∧ LvRun n (3 * n) (2 * n) (n - i) s1 s' ∧ X = ⟨S1, T1, [some (rawD p), x1, x2, x3]⟩
  have hlen : s.1.length = n := by
    obtain ⟨m, rfl⟩ : ∃ m, n = m + 1 := ⟨n - 1, by omega⟩
    exact hrun.1.wf.len
  refine ms_for (f0 := fun _ => none) (ys := (List.range n).map fun i => natD (n - 1 - i)) J (ei2_down (aa_cons (ee_is (ee_op (ee_lenR (p_rows hG h rfl (ee_var rfl)) h.rows) ee_int fun _ => rv_sub) (by rw [h.vl, hlen])) (aa_cons (ee_un ee_int fun _ => ru_neg) (aa_cons (ee_un ee_int fun _ => ru_neg) aa_nil))) (by omega)) ⟨S, T, vs, s, none, none, none, rfl, fun b _ _ => rfl, rfl, h, hrun, rfl⟩ (fun k X h b o z => by cases z) ?_ ?_
  · rintro i hi X ⟨S1, T1, vs1, s1, x1, x2, x3, had, hfz, hts, h1, hrun, rfl⟩
    have hi' : i < n := by simpa using hi
    have e : ((List.range n).map fun i => natD (n - 1 - i))[i] = natD (n - 1 - i) := by simp
    rw [e]
    have hT1 : T1.ts = G.ps := hts.trans hT
    have en : n - i = (n - 1 - i) + 1 := by omega
    rw [en] at hrun
    obtain ⟨F, hcase⟩ := hrun
    have hjn : n - 1 - i < n := by omega
    have en2 : n - 1 - i = n - (i + 1) := by omega
    have hl := F.wf.len
    have hbl := F.wf.blen
    have hrl := fit_rl F (i := n - 1 - i) (by omega)
    refine ⟨_, eg_name' rfl, ?_⟩
    have hc : ET S1 T1 (tTest (tOp (uGe G.K) (tOp (rIx G.K) (tFld G.K (tVar 0) "basis") (tVar 1)) (tFld G.K (tVar 0) "many"))) [some (rawD p), some (natD (n - 1 - i)), x2, x3] (decide (2 * n ≤ gb s1.2 (n - 1 - i))) :=
      et_is' (tt_test (ee_op (p_bas hG h1 (by omega) rfl (ee_var rfl) (ee_var rfl)) (p_many hG h1 rfl (ee_var rfl)) fun _ => rv_geI)) (by rw [Bool.eq_iff_iff]; simp; omega)
    rcases hcase with ⟨hlt, hrun⟩ | ⟨hge, k, hk, hrun⟩
    · refine ms_if (b := false) (et_is' hc (decide_eq_false (by omega))) (fun z => nomatch z) fun _ => ms_es es_skip ⟨S1, T1, vs1, s1, some (natD (n - 1 - i)), x2, x3, had, hfz, hts, h1, by rw [← en2]; exact hrun, rfl⟩
    · have hkr : k < 2 * n := List.mem_range.mp (List.mem_of_find?_eq_some hk)
      have hkn : gt s1.1 (n - 1 - i) k ≠ 0 := by simpa using List.find?_some hk
      let c : Nat → Bool := fun k => decide (gt s1.1 (n - 1 - i) k ≠ 0)
      have hhead : ((List.range (2 * n)).filter c)[0]? = some k := by
        rw [← List.head?_eq_getElem?, List.head?_filter]; exact hk
      refine ms_if (b := true) (et_is' hc (decide_eq_true hge)) (fun _ => ?_) fun z => nomatch z
      refine ms_seq (P1 := fun X => X = ⟨S1, T1, [some (rawD p), some (natD (n - 1 - i)), some (.list (((List.range (2 * n)).filter c).map natD)), x3]⟩) (ms_es (es_set (ee_lcN (f := natD) (p := c) (aa_cons (p_many hG h1 rfl (ee_var rfl)) aa_nil) (by omega) (by simp) fun m hm S2 hz => ⟨et_is' (tt_nz (ee_ent (p_row hG h1 (by omega) hz (ee_var rfl) (ee_var rfl)) (ee_var rfl) (by rw [hrl]; omega))) (by rw [← gt_at]), fun _ => ee_var rfl⟩)) rfl) ?_
      rintro _ rfl
      refine ms_if (b := true) (et_is' (tt_tru (ee_var rfl)) ?_) (fun _ => ?_) fun z => nomatch z
      · cases e2 : (List.range (2 * n)).filter c with
        | nil => rw [e2] at hhead; cases hhead
        | cons a b => rfl
      · refine ms_drop (P1 := fun X' d => J (i + 1) X') (me_meth (p := p) (fs := pfs n sg rl bl) (ds := [natD (n - 1 - i), natD k]) h1.at_ rfl (ee_var rfl) (aa_cons (ee_var rfl) (aa_cons (ee_op (ee_var rfl) ee_int fun _ => rv_ixL (i := (0 : Nat)) (atI_nat (by rw [List.getElem?_map, hhead]; rfl))) aa_nil)) hT1 ?_) fun X' d j => j
        exact ⟨p, dx, sg, rl, bl, vs1, n, s1, n - 1 - i, k, rfl, h1, F, hn, hjn, by omega, hkn, had ▸ hra, had ▸ hba, fun S2 T2 vs2 g1 g2 g3 g4 => ⟨S2, T2, vs2, trn s1 (n - 1 - i) k, _, _, _, g1.trans had, fun b b1 b2 => (g2 b b1 b2).trans (hfz b b1 b2), g3.trans hts, g4, by rw [← en2]; exact hrun, rfl⟩⟩
  · rintro X ⟨S1, T1, vs1, s1, x1, x2, x3, had, hfz, hts, h1, hrun, rfl⟩
    rw [List.length_map, List.length_range, Nat.sub_self] at hrun
    have hrun : s' = s1 := hrun
    subst hrun
    exact hPost S1 T1 vs1 had hfz hts h1
theorem PAt.gr (h : PAt G S T p dx sg rl bl vs n s) (g : Gr S.fz S'.fz) : PAt G S' T p dx sg rl bl vs n s := ⟨g.keep h.at_ (fun _ z => by cases z), g.lst h.rows, h.rk, g.lst h.basis, h.bk, h.sk, h.pr, h.pb, h.rb, h.vl⟩
theorem spF_ms {Pl : List Addr} {R : Hs → Ks → List PyData → PyData → Prop} {ts : TS} {N : List Str} (h : ∀ (S : Hs) T ds d, T.ts = Pl → R S T ds d → MS ts ⟨S, T, ds.map some ++ List.replicate (N.length - ds.length) none⟩ (fun _ => False) (fun X d' => d' = d ∧ (∀ b ∈ S.ad, b ∈ X.S.ad) ∧ Gr S.fz X.S.fz))
    (hm : ∀ (S S' : Hs) T ds d, Gr S.fz S'.fz → R S T ds d → R S' T ds d) {vs : List V} {H : Hp} {Q : VK} {E : XK} (hs : spF Pl R vs H Q E) : ts { nx := fun _ H' => Q .non H', rt := Q } (L2.start N vs) H := by
  obtain ⟨S, T, ds, d, r, trk, fz, kn, hT, hR, k⟩ := hs
  -- all that is known of what is hidden
  let f : Hp := fun b => if b ∈ S.ad then H b else S.fz b
  have f0 : Gr f H := fun b o e => by
    have e : (if b ∈ S.ad then H b else S.fz b) = some o := e
    by_cases q : b ∈ S.ad
    · rw [if_pos q] at e; exact .inl e
    · rw [if_neg q] at e; exact fz b o e
  have f1 : Gr S.fz f := fun b o e => by
    by_cases q : b ∈ S.ad
    · rcases fz b o e with z | ⟨ps, ps', z1, z2, z3⟩
      · exact .inl (by show (if b ∈ S.ad then H b else S.fz b) = _; rw [if_pos q]; exact z)
      · exact .inr ⟨ps, ps', z1, by show (if b ∈ S.ad then H b else S.fz b) = _; rw [if_pos q]; exact z2, z3⟩
    · exact .inl (by show (if b ∈ S.ad then H b else S.fz b) = _; rw [if_neg q]; exact e)
  have I : Inn T (L2.start N vs) (hid S H) (ds.map some ++ List.replicate (N.length - ds.length) none) := Inn.start r kn N
  refine h ⟨S.ad, f⟩ T ds d hT (hm S ⟨S.ad, f⟩ T ds d f1 hR) (L2.start N vs) H ⟨I, trk, f0⟩ _ (fun _ _ _ z => z.elim) ?_
  rintro X' d' v H' ⟨rfl, h1, h2⟩ fr rt
  refine k v H' (fun b o e => ?_) (rt.rp.mono (hid_sub (S := S) (S' := X'.S) h1))
  by_cases q : b ∈ S.ad
  · exact (h2.trans rt.fz) b o (by show (if b ∈ S.ad then H b else S.fz b) = _; rw [if_pos q]; exact e)
  · rcases fr.gr b o (show hid S H b = some o by rw [hid_out q]; exact e) with z | ⟨ps, ps', z1, z2, z3⟩
    · exact .inl (hid_some z).2
    · exact .inr ⟨ps, ps', z1, (hid_some z2).2, z3⟩
/-- the amounts when i rows are read -/
def amtTo (n : Nat) (s : Tab) (i : Nat) : List Rat := (List.range (2 * n)).map fun j => sm i fun l => if gb s.2 l = j then gt s.1 l (3 * n) else 0
theorem amt_zero : amtTo n s 0 = List.replicate (2 * n) 0 := by
  unfold amtTo
  apply List.ext_getElem
  · simp
  · intro j h1 h2; simp [sm]
theorem amt_end : amtTo n s n = amtsL n s := rfl
theorem sm_nil : ∀ m, sm m (fun _ => 0) = 0
  | 0 => rfl
  | m + 1 => by show sm m _ + 0 = 0; rw [sm_nil m, Rat.add_zero]
theorem amt_set (hi : i < n) (hb : gb s.2 i < 2 * n) (hd : ∀ i l, i < n → l < n → gb s.2 i = gb s.2 l → i = l) : (amtTo n s i).set (gb s.2 i) (gt s.1 i (3 * n)) = amtTo n s (i + 1) := by
  unfold amtTo
  apply List.ext_getElem
  · simp
  · intro j h1 h2
    have hj : j < 2 * n := by simpa using h2
    rw [List.getElem_set]
    simp only [List.getElem_map, List.getElem_range]
    show _ = sm i _ + (if gb s.2 i = j then gt s.1 i (3 * n) else 0)
    by_cases e : gb s.2 i = j
    · rw [if_pos e, if_pos e]
      have : sm i (fun l => if gb s.2 l = j then gt s.1 l (3 * n) else 0) = 0 := by
        have z : sm i (fun l => if gb s.2 l = j then gt s.1 l (3 * n) else 0) = sm i fun _ => 0 := sm_congr fun l hl => by
          rw [if_neg]
          intro q
          have := hd i l hi (by omega) (e.trans q.symm)
          omega
        rw [z, sm_nil]
      rw [this, Rat.zero_add]
    · rw [if_neg e, if_neg e, Rat.add_zero]
theorem e_amounts (hG : GOk G) (hT : T.ts = G.ps) (h : R_amounts G S T ds d) : MS (t_m_amounts G) ⟨S, T, ds.map some ++ List.replicate (5 - ds.length) none⟩ (fun _ => False) (fun X d' => d' = d ∧ (∀ b ∈ S.ad, b ∈ X.S.ad) ∧ Gr S.fz X.S.fz) := by
  obtain ⟨p, dx, sg, rl, bl, vs, n, s, rfl, h, F, hn, hb, hd, rfl⟩ := h
  have hl := F.wf.len
  have hbl := F.wf.blen
  let J : Nat → Sta → Prop := fun i X => ∃ a us x2 x3 ow, a ∉ S.ad ∧ S.fz a = none ∧ us.length = 2 * n ∧ X = ⟨S.own a (.lst us), ⟨T.ts, (us, (amtTo n s i).map ratD) :: ow⟩, [some (rawD p), some (rawD a), x2, x3, none]⟩ ∧ ∀ q ∈ T.ow, q ∈ ow
  have toOwn : ∀ {a : Addr} {us : List V} {T1 : Ks}, S.fz a = none → (∀ q ∈ T.ow, q ∈ T1.ow) → PAt G (S.own a (.lst us)) T1 p dx sg rl bl vs n s := fun {a us T1} hf ho => by
    have h' := h.gr (S' := S.own a (.lst us)) (gr_put hf)
    exact ⟨h'.at_, h'.rows, ho _ h.rk, h'.basis, ho _ h.bk, ho _ h.sk, h.pr, h.pb, h.rb, h.vl⟩
  refine ms_seq (P1 := J 0) (ms_own (en_lc (l := List.range (2 * n)) (F := natD) (fun _ => ratD 0) (fun _ => true) (ei_nat (aa_cons (p_many hG h rfl (ee_var rfl)) aa_nil) (by omega)) (fun j hj => ⟨_, fun S' hz => ⟨lc_name (by simp) rfl, tt_yes, fun _ => ee_tup (aa_cons ee_int (aa_cons ee_int aa_nil)) (by simp)⟩⟩) (by rw [List.length_range]; omega)) fun a us h1 h2 h3 => ?_) ?_
  · have e : ((List.range (2 * n)).filter fun _ => true).map (fun _ => ratD 0) = (amtTo n s 0).map ratD := by
      rw [filter_yes, amt_zero]
      apply List.ext_getElem
      · simp
      · intro j j1 j2; simp
    rw [e] at h3 ⊢
    refine ⟨a, us, none, none, T.ow, h1, h2, ?_, rfl, fun q hq => hq⟩
    rw [h3, List.length_map]; unfold amtTo; simp
  rintro X ⟨a, us, x2, x3, ow, ha, hf, hlen, rfl, how⟩
  refine ms_seq (P1 := J n) (ms_for (f0 := S.fz) (ys := enumD (s.1.map rowD)) J (ei2_enumR (p_rows hG (toOwn hf fun q hq => List.mem_cons_of_mem _ (how q hq)) rfl (ee_var rfl)) (toOwn (us := us) (T1 := ⟨T.ts, (us, (amtTo n s 0).map ratD) :: ow⟩) hf fun q hq => List.mem_cons_of_mem _ (how q hq)).rows h.rows (List.mem_cons_of_mem _ (how _ h.rk))) ⟨a, us, x2, x3, ow, ha, hf, hlen, rfl, how⟩ ?_ ?_ ?_) ?_
  · rintro i X ⟨a, us, x2, x3, ow, ha, hf, hlen, rfl, how⟩
    exact gr_put hf
  · rintro i hi X ⟨a, us, x2, x3, ow, ha, hf, hlen, rfl, how⟩
    have hi' : i < n := by simpa [enumD, hl] using hi
    have e : (enumD (s.1.map rowD))[i] = .tuple [natD i, rowD (s.1.getD i [])] := by
      have : i < s.1.length := by omega
      simp [enumD, List.getElem?_eq_getElem this]
    rw [e]
    have h1 := toOwn (us := us) (T1 := ⟨T.ts, (us, (amtTo n s i).map ratD) :: ow⟩) hf fun q hq => List.mem_cons_of_mem _ (how q hq)
    have hrl : (s.1.getD i []).length = 3 * n + 1 := F.wf.row i hi'
    refine ⟨_, eg_pair, ms_if (b := true) (et_is' (tt_test (ee_op (p_bas hG h1 (i := i) (by omega) rfl (ee_var rfl) (ee_var rfl)) (p_many hG h1 rfl (ee_var rfl)) fun _ => rv_lt)) (by have := hb i hi'; simp; omega)) (fun _ => ?_) fun z => nomatch z⟩
    refine ms_set (a := a) (vs := us) (ds := (amtTo n s i).map ratD) (d := ratD (gt s.1 i (3 * n))) (m := gb s.2 i) (ee_var rfl) List.mem_cons_self upd_same List.mem_cons_self (p_bas hG h1 (i := i) (by omega) rfl (ee_var rfl) (ee_var rfl)) (ixN_nat (by rw [hlen]; exact hb i hi')) (ee_op (ee_var (d := .list ((s.1.getD i []).map ratD)) rfl) (ee_un ee_int fun _ => ru_neg) fun _ => rv_ixL (atI_last (m := 3 * n) (by rw [List.length_map, hrl]) (get_last hrl))) fun v _ => ?_
    refine ⟨a, us.set (gb s.2 i) v, some (natD i), some (rowD (s.1.getD i [])), (us, (amtTo n s i).map ratD) :: ow, ha, hf, by rw [List.length_set]; exact hlen, ?_, fun q hq => List.mem_cons_of_mem _ (how q hq)⟩
    rw [put_own, ← amt_set hi' (hb i hi') hd, List.map_set]
    rfl
  · intro X hJ
    have : (enumD (s.1.map rowD)).length = n := by simp [enumD, hl]
    rw [this] at hJ; exact hJ
  · rintro X ⟨a, us, x2, x3, ow, ha, hf, hlen, rfl, how⟩
    rw [amt_end]
    refine ms_rel (a := a) (vs := us) (ds := (amtsL n s).map ratD) (ad := S.ad) (f := S.fz) (i := 1) rfl ha upd_same List.mem_cons_self (gr_put hf) rfl ?_
    exact ms_rt (es_ret (ee_var (d := .list ((amtsL n s).map ratD)) rfl)) ⟨rfl, fun b hb => hb, Gr.refl _⟩
theorem c_amounts (hG : GOk G) (h : PAt G S T p dx sg rl bl vs n s) (hz : S'.fz = S.fz) (F : Fit n (3 * n) s) (hn : n ≤ 5) (hb : ∀ i, i < n → gb s.2 i < 2 * n) (hd : ∀ i l, i < n → l < n → gb s.2 i = gb s.2 l → i = l) (hT : T.ts = G.ps) (ho : EE S' T te es (rawD p)) : EE S' T (tMeth G.C "amounts" (sp_m_amounts G) [] C8.E0 te tNil) es (.list ((amtsL n s).map ratD)) :=
  ee_methF hG h hz rfl ho aa_nil hT ⟨p, dx, sg, rl, bl, vs, n, s, rfl, h.to hz, F, hn, hb, hd, rfl⟩
end
end KV
set_option Elab.async false
set_option linter.all false
set_option maxRecDepth 100000
set_option maxHeartbeats 4000000
/-! Evaluation: a program is made. -/
namespace KV
open PySem PySem.Spec PyProof.Rows L2 GxR KO Smx
theorem pfs_put {n : Nat} {sg rl bl : Addr} : putF "basis" (.ref bl) (putF "rows" (.ref rl) (putF "signs" (.ref sg) (putF "many" (natV (2 * n)) []))) = pfs n sg rl bl := by rfl
theorem putF_len (f : Str) (v : V) : ∀ fs : List (Str × V), (putF f v fs).length ≤ fs.length + 1
  | [] => by simp [putF]
  | (g, y) :: r => by
    have := putF_len f v r
    unfold putF
    split <;> simp <;> omega
section
variable {G : Gd} {S S' : Hs} {T T' : Ks} {es : Es} {te to ta tb tc tj tk : TE} {t : TA} {u : TS} {d : PyData} {p x dx sg rl bl : Addr} {vs vs' : List V} {n i j k r : Nat} {s : Tab} {ds : List PyData} {X : Sta} {P : Sta → Prop} {R : Sta → PyData → Prop} {f : Str} {fs : List (Str × V)}
theorem ms_fld (ho : EE X.S X.T to X.es (rawD x)) (hx : x ∈ X.S.ad) (hf : X.S.fz x = some (.ins G.C dx fs)) (c : Cls G.K G.C) (nA : NoAttr G.K G.C f) (hl : fs.length < 1000) (he : EE X.S X.T te X.es d) (hp : ∀ v, (∃ H, Rp H v d) → P ⟨X.S.put x (.ins G.C dx (putF f v fs)), X.T.kn [v] [d], X.es⟩) : MS (sFld G.K to te f) X P R := fun σ H k D kn kr =>
  he σ _ k.inn H k.ext _ fun v H1 g1 r1 => ho σ _ k.inn H1 (k.ext.go g1) _ fun u H2 g2 r2 => by
    cases raw_inv r2
    have k2 := (k.go g1).go g2
    refine ⟨x, G.C, dx, fs, rfl, k2.fz.keep hf (fun _ z => by cases z), c, nA, hl, ?_⟩
    exact kn _ σ _ (hp v ⟨_, r1⟩) ((Fr.of (g1.trans g2)).trans (fr_put hx)) (put_ok k2 hx rfl fun p hp => by
      rcases List.mem_cons.mp hp with q | q
      · rw [q]; exact .one (r1.mono (g2.hid _))
      · exact k2.inn.tbs.ow p q)
/-- a new list becomes a field -/
theorem ms_fldOwn (ho : ∀ a vs, EE (X.S.own a (.lst vs)) (X.T.kn vs ds) to X.es (rawD x)) (hx : x ∈ X.S.ad) (hf : X.S.fz x = some (.ins G.C dx fs)) (c : Cls G.K G.C) (nA : NoAttr G.K G.C f) (hl : fs.length < 1000) (he : EN X.S X.T te X.es ds) (hp : ∀ a vs, a ∉ X.S.ad → X.S.fz a = none → vs.length = ds.length → P ⟨(X.S.own a (.lst vs)).put x (.ins G.C dx (putF f (.ref a) fs)), X.T.kn vs ds, X.es⟩) : MS (sFld G.K to te f) X P R := fun σ H k D kn kr =>
  he σ _ k.inn H k.ext _ fun a vs H1 g1 n1 e1 r1 => by
    have hw : ∀ p ∈ (X.T.kn vs ds).ow, Rps (hid (X.S.own a (.lst vs)) H1) p.1 p.2 := fun p hp => by
      rcases List.mem_cons.mp hp with q | q
      · rw [q]; exact r1
      · exact (k.inn.tbs.ow p q).mono (gr_own g1 n1)
    have k1 : StOk ⟨X.S.own a (.lst vs), X.T.kn vs ds, X.es⟩ σ H1 := by
      have k0 := own_ok (i := X.es.length) (T' := X.T.kn vs ds) (es' := X.es.set X.es.length (some (rawD a))) k g1 n1 e1 rfl hw rfl
      have I0 := k.inn.mono (gr_own (f := upd X.S.fz a (.lst vs)) g1 n1)
      exact ⟨⟨I0.len, I0.get, k0.inn.tbs⟩, k0.trk, k0.fz⟩
    refine ho a vs σ _ k1.inn H1 k1.ext _ fun u H2 g2 r2 => ?_
    cases raw_inv r2
    have k2 := k1.go g2
    have nax : a ≠ x := fun z => k.trk x hx (z ▸ n1)
    have hx2 : (X.S.own a (.lst vs)).fz x = some (.ins G.C dx fs) := by show upd X.S.fz a _ x = _; rw [upd_ne (fun z => nax z.symm)]; exact hf
    refine ⟨x, G.C, dx, fs, rfl, k2.fz.keep hx2 (fun _ z => by cases z), c, nA, hl, ?_⟩
    have hxa : x ∈ (X.S.own a (.lst vs)).ad := List.mem_cons_of_mem _ hx
    exact kn _ σ _ (hp a vs (fun z => k.trk a z n1) (k.fz.back n1) r1.len) (((fr_own g1 n1).trans (Fr.of g2)).trans (fr_put hxa)) (put_ok k2 hxa rfl fun p hp => k2.inn.tbs.ow p hp)
/-- the first table's rows -/
theorem M0_list (A : Mat) (b : Nat → Rat) : (List.range (3 * n + 1)).map (M0 n A b i) = ((List.range n).map (A i) ++ (List.range n).map fun j => if j = i then 1 else 0) ++ ((List.range n).map fun j => if j = i then 1 else 0) ++ [b i] := by
  have e : 3 * n + 1 = ((n + n) + n) + 1 := by omega
  rw [e, List.range_add, List.range_add, List.range_add]
  rw [List.map_append, List.map_append, List.map_append, List.map_map, List.map_map, List.map_map]
  congr 1
  · congr 1
    · congr 1
      · exact List.map_congr_left fun j hj => M0_a (List.mem_range.mp hj)
      · exact List.map_congr_left fun j hj => M0_s (List.mem_range.mp hj)
    · refine List.map_congr_left fun j hj => ?_
      show M0 n A b i (n + n + j) = _
      rw [show n + n + j = 2 * n + j by omega]
      exact M0_h (List.mem_range.mp hj)
  · show [M0 n A b i (n + n + n + 0)] = _
    rw [show n + n + n + 0 = 3 * n by omega, M0_b]
theorem ratD_one : ratD 1 = .tuple [.int 1, .int 1] := rfl
theorem zo_szr {q : Rat} (h : q = 0 ∨ q = 1) : SzR 1 q := by
  rcases h with h | h
  · rw [h]; exact szr_zero
  · rw [h]; exact szr_one
theorem rows0_row {A : Mat} (hi : i < n) : (rows0 n A)[i]? = some ((List.range n).map (A i) ++ (List.range n).map fun j => if j = i then 1 else 0) := by
  unfold rows0
  rw [List.getElem?_map, List.getElem?_range hi]
  rfl
theorem rows0_len {A : Mat} : (rows0 n A).length = n := by unfold rows0; simp
theorem s0_row {A : Mat} {b : Nat → Rat} (hi : i < n) : (s0 n A b).1[i]? = some ((List.range (3 * n + 1)).map (M0 n A b i)) := by
  show ((List.range n).map fun i => (List.range (3 * n + 1)).map (M0 n A b i))[i]? = _
  rw [List.getElem?_map, List.getElem?_range hi]
  rfl
theorem s0_bas {A : Mat} {b : Nat → Rat} (hi : i < n) : (s0 n A b).2[i]? = some (2 * n + i) := by
  show ((List.range n).map (2 * n + ·))[i]? = _
  rw [List.getElem?_map, List.getElem?_range hi]
  rfl
theorem take_one {α : Type} {l : List α} {z : α} (h : l[i]? = some z) : l.take (i + 1) = l.take i ++ [z] := by rw [List.take_add_one, h]; rfl
theorem e_mk {Post : Hs → Ks → PyData → Prop} (hG : GOk G) (hT : T.ts = G.ps) (h : W_mk G S T ds Post) : MS (t_mk G) ⟨S, T, ds.map some ++ List.replicate (9 - ds.length) none⟩ (fun X => Post X.S X.T .none) (fun X d => Post X.S X.T d) := by
  obtain ⟨x, dx, n, A, cs, rfl, hx, hxa, hn1, hn, hA, Ct, hPost⟩ := h
  let b : Nat → Rat := fun i => ((cs.getD i 0 : Nat) : Rat)
  let rD : PyData := .list ((rows0 n A).map rowD)
  let gD : PyData := .list (cs.map fun c => ratD ((c : Nat) : Rat))
  have r0 : (rows0 n A)[0]? = some ((List.range n).map (A 0) ++ (List.range n).map fun j => if j = 0 then 1 else 0) := rows0_row (by omega)
  -- many
  refine ms_seq (P1 := fun X => X = ⟨S.put x (.ins G.C dx (putF "many" (natV (2 * n)) [])), T.kn [natV (2 * n)] [natD (2 * n)], [some (rawD x), some rD, some gD, none, none, none, none, none, none]⟩) (ms_fld (d := natD (2 * n)) (ee_var rfl) hxa hx hG.cls hG.nM (by decide) (ee_is (ee_cb (aa_cons (ee_op (ee_var (d := rD) rfl) ee_int fun _ => rv_ixL (i := (0 : Nat)) (z := .list (((List.range n).map (A 0) ++ (List.range n).map fun j => if j = 0 then 1 else 0).map ratD)) (atI_nat (by rw [List.getElem?_map, r0]; rfl))) aa_nil) fun _ => rc_lenL) (by
    rw [List.length_map, List.length_append, List.length_map, List.length_map, List.length_range]
    exact congrArg PyData.int (by omega))) fun v hv => by
      obtain ⟨_, hv⟩ := hv
      cases hv
      rfl) ?_
  rintro _ rfl
  -- signs
  refine ms_seq (P1 := fun X => ∃ sg, X = ⟨(S.put x (.ins G.C dx (putF "many" (natV (2 * n)) []))).put x (.ins G.C dx (putF "signs" (.ref sg) (putF "many" (natV (2 * n)) []))), (T.kn [natV (2 * n)] [natD (2 * n)]).kn [V.ref sg] [.list (List.replicate n (ratD 1))], [some (rawD x), some rD, some gD, none, none, none, none, none, none]⟩) (ms_fld (d := .list (List.replicate n (ratD 1))) (ee_var rfl) hxa upd_same hG.cls hG.nS (by have := putF_len "many" (natV (2 * n)) []; simp only [List.length_nil] at this; omega) (ee_is (ee_lcV (l := cs) (F := fun c => ratD ((c : Nat) : Rat)) (f := fun _ => ratD 1) (p := fun _ => true) (ei_seqL (ee_var (d := gD) rfl)) (by simp) (by have := Ct.len; omega) fun c hc S' hz => ⟨tt_yes, fun _ => ?_⟩) (by
    rw [filter_yes, List.map_const', Ct.len])) fun v hv => ?_) ?_
  · refine ee_if (b := false) (et_is' (tt_test (ee_op (ee_num (ee_var rfl)) ee_int fun _ => rv_lt)) ?_) (fun z => nomatch z) fun _ => ee_tup (aa_cons ee_int (aa_cons ee_int aa_nil)) (by simp)
    show decide ((c : Int) < 0) = false
    exact decide_eq_false (by omega)
  · obtain ⟨_, hv⟩ := hv
    cases hv
    exact ⟨_, rfl⟩
  rintro _ ⟨sg, rfl⟩
  -- rows, basis
  have fzx : ∀ b, b ≠ x → ((S.put x (.ins G.C dx (putF "many" (natV (2 * n)) []))).put x (.ins G.C dx (putF "signs" (.ref sg) (putF "many" (natV (2 * n)) [])))).fz b = S.fz b := fun b hb => by
    show upd (upd S.fz x _) x _ b = _
    rw [upd_ne hb, upd_ne hb]
  refine ms_seq (P1 := fun X => ∃ S1 rl, S1.ad = rl :: S.ad ∧ rl ∉ S.ad ∧ S.fz rl = none ∧ rl ≠ x ∧ (∀ b, b ≠ x → b ≠ rl → S1.fz b = S.fz b) ∧ S1.fz x = some (.ins G.C dx (putF "rows" (.ref rl) (putF "signs" (.ref sg) (putF "many" (natV (2 * n)) [])))) ∧ S1.fz rl = some (.lst []) ∧ X = ⟨S1, ((T.kn [natV (2 * n)] [natD (2 * n)]).kn [V.ref sg] [.list (List.replicate n (ratD 1))]).kn [] [], [some (rawD x), some rD, some gD, none, none, none, none, none, none]⟩) (ms_fldOwn (ds := []) (fun a vs => ee_var rfl) hxa upd_same hG.cls hG.nR (by have := putF_len "many" (natV (2 * n)) []; have := putF_len "signs" (V.ref sg) (putF "many" (natV (2 * n)) []); simp only [List.length_nil] at *; omega) (en_lst aa_nil (by simp)) fun a vs h1 h2 h3 => ?_) ?_
  · have hv : vs = [] := List.eq_nil_of_length_eq_zero h3
    subst hv
    have nax : a ≠ x := fun z => h1 (by rw [z]; exact hxa)
    exact ⟨_, a, rfl, h1, by rw [← fzx a nax]; exact h2, nax, fun b b1 b2 => by show upd (upd _ a _) x _ b = _; rw [upd_ne b1, upd_ne b2]; exact fzx b b1, upd_same, by show upd (upd _ a _) x _ a = _; rw [upd_ne nax, upd_same], rfl⟩
  rintro _ ⟨S1, rl, had1, hrl, hfrl, nrx, hfz1, hx1, hr1, rfl⟩
  let J : Nat → Sta → Prop := fun i X => ∃ S2 T2 bl vs x3 x4 x5, S2.ad = bl :: rl :: S.ad ∧ bl ∉ S.ad ∧ S.fz bl = none ∧ (∀ b, b ≠ x → b ≠ rl → b ≠ bl → S2.fz b = S.fz b) ∧ T2.ts = T.ts ∧ PAt G S2 T2 x dx sg rl bl vs n ((s0 n A b).1.take i, (s0 n A b).2.take i) ∧ X = ⟨S2, T2, [some (rawD x), some rD, some gD, x3, x4, x5, none, none, none]⟩
  refine ms_seq (P1 := J 0) (ms_fldOwn (x := x) (ds := []) (fun a vs => ee_var rfl) (by show x ∈ S1.ad; rw [had1]; exact List.mem_cons_of_mem _ hxa) hx1 hG.cls hG.nB (by have := putF_len "many" (natV (2 * n)) []; have := putF_len "signs" (V.ref sg) (putF "many" (natV (2 * n)) []); have := putF_len "rows" (V.ref rl) (putF "signs" (V.ref sg) (putF "many" (natV (2 * n)) [])); simp only [List.length_nil] at *; omega) (en_lst aa_nil (by simp)) fun a vs h1 h2 h3 => ?_) ?_
  · have hv : vs = [] := List.eq_nil_of_length_eq_zero h3
    subst hv
    have h1 : a ∉ rl :: S.ad := by rw [← had1]; exact h1
    have nax : a ≠ x := fun z => h1 (by rw [z]; exact List.mem_cons_of_mem _ hxa)
    have nar : a ≠ rl := fun z => h1 (by rw [z]; exact List.mem_cons_self)
    refine ⟨(S1.own a (.lst [])).put x (.ins G.C dx (putF "basis" (.ref a) (putF "rows" (.ref rl) (putF "signs" (.ref sg) (putF "many" (natV (2 * n)) []))))), (((T.kn [natV (2 * n)] [natD (2 * n)]).kn [V.ref sg] [.list (List.replicate n (ratD 1))]).kn [] []).kn [] [], a, [], none, none, none, by show a :: S1.ad = _; rw [had1], fun z => h1 (List.mem_cons_of_mem _ z), by rw [← hfz1 a nax nar]; exact h2, fun b b1 b2 b3 => ?_, rfl, ?_, rfl⟩
    · show upd (upd S1.fz a _) x _ b = _
      rw [upd_ne b1, upd_ne b3]; exact hfz1 b b1 b2
    · refine ⟨by show upd (upd S1.fz a _) x _ x = _; rw [upd_same, pfs_put], by show upd (upd S1.fz a _) x _ rl = _; rw [upd_ne nrx, upd_ne (fun z => nar z.symm)]; exact hr1, List.mem_cons_of_mem _ List.mem_cons_self, by show upd (upd S1.fz a _) x _ a = _; rw [upd_ne nax, upd_same]; rfl, List.mem_cons_self, List.mem_cons_of_mem _ (List.mem_cons_of_mem _ List.mem_cons_self), fun z => nrx z.symm, fun z => nax z.symm, fun z => nar z.symm, rfl⟩
  rintro X hJ0
  have hen : enumD ((rows0 n A).map rowD) = (List.range n).map fun i => .tuple [natD i, rowD ((List.range n).map (A i) ++ (List.range n).map fun j => if j = i then 1 else 0)] := by
    apply List.ext_getElem
    · simp [enumD, rows0_len]
    · intro i h1 h2
      have hi : i < n := by simpa using h2
      have hr := rows0_row (A := A) hi
      rw [List.getElem?_eq_getElem (by rw [rows0_len]; exact hi)] at hr
      simp only [enumD, List.getElem_mapIdx, List.getElem_map, List.getElem_range]
      rw [Option.some.inj hr]
  obtain ⟨S2, T2, bl, vs, x3, x4, x5, had2, hbl, hfbl, hfz2, hts2, h2, rfl⟩ := hJ0
  refine ms_for (f0 := fun _ => none) (ys := (List.range n).map fun i => .tuple [natD i, rowD ((List.range n).map (A i) ++ (List.range n).map fun j => if j = i then 1 else 0)]) J (by rw [← hen]; exact ei2_enum (aa_cons (ee_var (d := rD) rfl) aa_nil)) ⟨S2, T2, bl, vs, x3, x4, x5, had2, hbl, hfbl, hfz2, hts2, h2, rfl⟩ (fun k X h b o z => by cases z) ?_ ?_
  · rintro i hi X ⟨S2, T2, bl, vs, x3, x4, x5, had2, hbl, hfbl, hfz2, hts2, h2, rfl⟩
    have hi' : i < n := by simpa using hi
    have e : ((List.range n).map fun i => PyData.tuple [natD i, rowD ((List.range n).map (A i) ++ (List.range n).map fun j => if j = i then 1 else 0)])[i] = .tuple [natD i, rowD ((List.range n).map (A i) ++ (List.range n).map fun j => if j = i then 1 else 0)] := by simp
    rw [e]
    have hP : ∀ y ∈ G.ps, y ∈ T2.ts := fun y hy => by rw [hts2, hT]; exact hy
    have hs0r := s0_row (n := n) (A := A) (b := b) hi'
    have hs0b := s0_bas (n := n) (A := A) (b := b) hi'
    have hl1 : (s0 n A b).1.length = n := by show ((List.range n).map _).length = n; simp
    have hl2 : (s0 n A b).2.length = n := by show ((List.range n).map _).length = n; simp
    refine ⟨_, eg_pair, ?_⟩
    refine ms_seq (P1 := fun X => X = ⟨S2, T2, [some (rawD x), some rD, some gD, some (natD i), some (rowD ((List.range n).map (A i) ++ (List.range n).map fun j => if j = i then 1 else 0)), some (.list ((List.range n).map fun k => ratD (if k = i then 1 else 0))), none, none, none]⟩) (ms_es (es_set (ee_is (ee_lcN (k := n) (f := fun k => ratD (if k = i then 1 else 0)) (p := fun _ => true) (aa_cons (ee_is (ee_cb (aa_cons (ee_var (d := rD) rfl) aa_nil) fun _ => rc_lenL) (by rw [List.length_map, rows0_len])) aa_nil) (by omega) (by simp) fun k hk S' hz => ⟨tt_yes, fun _ => ?_⟩) (by rw [filter_yes]))) rfl) ?_
    · by_cases e : k = i
      · rw [if_pos e]
        exact ee_if (b := true) (et_is' (tt_test (ee_op (ee_var rfl) (ee_var rfl) fun _ => rv_eqI)) (by simp [e])) (fun _ => ee_tup (aa_cons ee_int (aa_cons ee_int aa_nil)) (by simp)) fun z => nomatch z
      · rw [if_neg e]
        exact ee_if (b := false) (et_is' (tt_test (ee_op (ee_var rfl) (ee_var rfl) fun _ => rv_eqI)) (by simp; omega)) (fun z => nomatch z) fun _ => ee_tup (aa_cons ee_int (aa_cons ee_int aa_nil)) (by simp)
    rintro _ rfl
    have hsgn : ∀ {S' : Hs} {es : Es}, S'.fz = S2.fz → EE S' T2 (tVar 0) es (rawD x) → EE S' T2 (tVar 3) es (natD i) → EE S' T2 (tOp (rIx G.K) (tFld G.K (tVar 0) "signs") (tVar 3)) es (ratD 1) := fun hz h1 h3 => ee_op (p_signs hG h2 hz h1) h3 fun _ => rv_ixL (atI_nat (by rw [List.getElem?_replicate, if_pos hi']))
    have hci : i < cs.length := by rw [Ct.len]; exact hi'
    have hcb : SzR 1000 ((cs[i] : Nat) : Rat) := (szr_nat (e := 20) (by have := Ct.le _ (List.getElem_mem hci); omega) (by omega)).mono (by omega)
    have hbi : b i = ((cs[i] : Nat) : Rat) := by show ((cs.getD i 0 : Nat) : Rat) = _; rw [getD_of (List.getElem?_eq_getElem hci)]
    have ra2 : rl ∈ S2.ad := by rw [had2]; exact List.mem_cons_of_mem _ List.mem_cons_self
    have ba2 : bl ∈ S2.ad := by rw [had2]; exact List.mem_cons_self
    have hvl : vs.length ≤ n := by have := h2.vl; rw [this]; show ((s0 n A b).1.take i).length ≤ n; rw [List.length_take]; omega
    refine ms_seq (P1 := fun X => ∃ v, X = ⟨S2.put rl (.lst (vs ++ [v])), T2.kn (vs ++ [v]) (((s0 n A b).1.take i).map rowD ++ [rowD ((List.range (3 * n + 1)).map (M0 n A b i))]), [some (rawD x), some rD, some gD, some (natD i), some (rowD ((List.range n).map (A i) ++ (List.range n).map fun j => if j = i then 1 else 0)), some (.list ((List.range n).map fun k => ratD (if k = i then 1 else 0))), none, none, none]⟩) (ms_app (a := rl) (vs := vs) (ds := ((s0 n A b).1.take i).map rowD) (d := rowD ((List.range (3 * n + 1)).map (M0 n A b i))) (p_rows hG h2 rfl (ee_var rfl)) ra2 h2.rows h2.rk (ee_is (ee_op (ee_op (ee_lcV (l := (List.range n).map (A i) ++ (List.range n).map fun j => if j = i then 1 else 0) (F := ratD) (f := ratD) (p := fun _ => true) (ei_seqL (ee_var rfl)) (by simp) (by simp only [List.length_append, List.length_map, List.length_range]; omega) fun q hq S' hz => ⟨tt_yes, fun _ => ee_is (c_by ((zo_szr ?_).mono (by omega)) (szr_one.mono (by omega)) hP (ee_var rfl) (hsgn hz (ee_var rfl) (ee_var rfl))) (by rw [Rat.mul_one])⟩) (ee_var rfl) fun _ => rv_addL ?_) (ee_lst (aa_cons (ee_is (c_by (q := ((cs[i] : Nat) : Rat)) hcb (szr_one.mono (by omega)) hP (ee_op (ee_var (d := gD) rfl) (ee_var rfl) fun _ => rv_ixL (atI_nat (by rw [List.getElem?_map, List.getElem?_eq_getElem hci]; rfl))) (hsgn rfl (ee_var rfl) (ee_var rfl))) (by rw [Rat.mul_one])) aa_nil) (by simp)) fun _ => rv_addL ?_) ?_) (by omega) fun v _ => ⟨v, rfl⟩) ?_
    · rcases List.mem_append.mp hq with z | z
      · obtain ⟨j, _, rfl⟩ := List.mem_map.mp z
        exact hA i j
      · obtain ⟨j, _, rfl⟩ := List.mem_map.mp z
        by_cases e : j = i
        · exact .inr (if_pos e)
        · exact .inl (if_neg e)
    · rw [filter_yes]; simp only [List.length_append, List.length_map, List.length_range]; omega
    · rw [filter_yes]; simp only [List.length_append, List.length_map, List.length_range, List.length_cons, List.length_nil]; omega
    · rw [filter_yes, M0_list]
      unfold rowD
      rw [List.map_append, List.map_append, List.map_append, hbi]
      congr 2
      simp only [List.map_append, List.map_map]
      rfl
    rintro _ ⟨v, rfl⟩
    have h3 : PAt G (S2.put rl (.lst (vs ++ [v]))) (T2.kn (vs ++ [v]) (((s0 n A b).1.take i).map rowD ++ [rowD ((List.range (3 * n + 1)).map (M0 n A b i))])) x dx sg rl bl (vs ++ [v]) n ((s0 n A b).1.take (i + 1), (s0 n A b).2.take i) := by
      have := h2.putR (vs' := vs ++ [v]) (R' := (s0 n A b).1.take (i + 1)) (by rw [List.length_append, h2.vl, take_one hs0r, List.length_append]; rfl)
      rw [take_one hs0r, List.map_append] at this
      rw [take_one hs0r]
      exact this
    refine ms_app (a := bl) (vs := ((s0 n A b).2.take i).map natV) (ds := ((s0 n A b).2.take i).map natD) (d := natD (2 * n + i)) (p_basis hG h3 rfl (ee_var rfl)) ba2 h3.basis h3.bk (ee_is (ee_op (p_many hG h3 rfl (ee_var rfl)) (ee_var rfl) fun _ => rv_addI) (congrArg PyData.int (by omega))) (by rw [List.length_map, List.length_take]; omega) fun w hw => ?_
    obtain ⟨_, hw⟩ := hw
    cases hw
    refine ⟨(S2.put rl (.lst (vs ++ [v]))).put bl (.lst (((s0 n A b).2.take i).map natV ++ [natV (2 * n + i)])), (T2.kn (vs ++ [v]) (((s0 n A b).1.take i).map rowD ++ [rowD ((List.range (3 * n + 1)).map (M0 n A b i))])).kn (((s0 n A b).2.take i).map natV ++ [natV (2 * n + i)]) (((s0 n A b).2.take i).map natD ++ [natD (2 * n + i)]), bl, vs ++ [v], some (natD i), some (rowD ((List.range n).map (A i) ++ (List.range n).map fun j => if j = i then 1 else 0)), some (.list ((List.range n).map fun k => ratD (if k = i then 1 else 0))), had2, hbl, hfbl, fun c c1 c2 c3 => ?_, hts2, ?_, rfl⟩
    · show upd (upd S2.fz rl _) bl _ c = _
      rw [upd_ne c3, upd_ne c2]; exact hfz2 c c1 c2 c3
    · have := h3.putB (B' := (s0 n A b).2.take (i + 1))
      rw [take_one hs0b, List.map_append, List.map_append] at this
      rw [take_one hs0b]
      exact this
  · rintro X ⟨S2, T2, bl, vs, x3, x4, x5, had2, hbl, hfbl, hfz2, hts2, h2, rfl⟩
    rw [List.length_map, List.length_range] at h2
    have hl1 : (s0 n A b).1.length = n := by show ((List.range n).map _).length = n; simp
    have hl2 : (s0 n A b).2.length = n := by show ((List.range n).map _).length = n; simp
    rw [List.take_of_length_le (by omega), List.take_of_length_le (by omega)] at h2
    exact hPost S2 T2 sg rl bl vs had2 hrl hbl hfz2 hfrl hfbl hts2 h2
end
end KV
set_option Elab.async false
set_option linter.all false
set_option maxRecDepth 100000
set_option maxHeartbeats 4000000
/-! Evaluation: solved. -/
namespace KV
open PySem PySem.Spec PyProof.Rows L2 GxR KO Smx
section
variable {G : Gd} {S S' : Hs} {T T' : Ks} {es : Es} {te to ta tb tc tj tk : TE} {t : TA} {u : TS} {d : PyData} {n i j k : Nat} {ds : List PyData} {X : Sta} {P : Sta → Prop} {P1 : Sta → PyData → Prop} {R : Sta → PyData → Prop}
theorem me_make {W : Hs → Ks → List PyData → (Hs → Ks → PyData → Prop) → Prop} (ha : EA X.S X.T t X.es ds) (hT : X.T.ts = G.ps)
    (hR : ∀ x dx, x ∉ X.S.ad → X.S.fz x = none → W (X.S.own x (.ins G.C dx [])) X.T (rawD x :: ds) fun S' T' d => d = .none ∧ P1 ⟨S', T', X.es⟩ (rawD x)) : ME (tMake G.C (spW G.ps W) [] C8.E0 t) X P1 := fun σ H k Q q =>
  ha σ _ k.inn H k.ext _ fun vs H1 g1 r1 x dx hx hdx hne => by
    have k1 := k.go g1
    have gN : Gr H1 (upd (upd H1 dx (.own x)) x (.ins G.C dx [])) := (Gr.new hdx).trans (Gr.new (by rw [upd_ne (fun z => hne z.symm)]; exact hx))
    have g := g1.trans gN
    have hx0 : H x = none := g1.back hx
    have k0 := own_ok (i := X.es.length) (T' := X.T) (es' := X.es.set X.es.length (some (rawD x))) (o := .ins G.C dx []) k g hx0 upd_same rfl (fun p hp => (k.inn.tbs.ow p hp).mono (gr_own g hx0)) rfl
    have I0 := k.inn.mono (gr_own (f := upd X.S.fz x (.ins G.C dx [])) (S := X.S) g hx0)
    have k2 : StOk ⟨X.S.own x (.ins G.C dx []), X.T, X.es⟩ σ (upd (upd H1 dx (.own x)) x (.ins G.C dx [])) := ⟨⟨I0.len, I0.get, k0.inn.tbs⟩, k0.trk, k0.fz⟩
    refine ⟨X.S.own x (.ins G.C dx []), X.T, rawD x :: ds, _, by rw [List.append_nil]; exact .cons (.raw x) (r1.mono (gr_own gN hx)), k2.trk, k2.fz, k2.inn.tbs, hT, hR x dx (fun z => k1.trk x z hx) (k1.fz.back hx), fun S' T' d v H' p' f r' => ?_⟩
    obtain ⟨rfl, p'⟩ := p'
    have e : v = .non := by cases r'.rp; rfl
    have f0 : Fr X.S H S' H' := (fr_own g hx0).trans f
    have I' := k.inn.mono f0.keep
    exact ⟨e, q ⟨S', T', X.es⟩ (rawD x) (.ref x) H' p' f0 ⟨⟨I'.len, I'.get, r'.kn⟩, r'.trk, r'.fz⟩ (.raw x)⟩
theorem ms_setM (h : ME te X P1) (hp : ∀ X' d, P1 X' d → P ⟨X'.S, X'.T, X'.es.set i (some d)⟩) : MS (tAsg te (gName i)) X P R := fun σ H k D kn kr => h σ H k _ fun X' d v H' p' f k' r' => kn ⟨X'.S, X'.T, X'.es.set i (some d)⟩ _ H' (hp X' d p') f ⟨k'.inn.set r' i, k'.trk, k'.fz⟩
theorem szr2_m1 : SzR 2 (-1) := ⟨by decide, by decide⟩
theorem csOk1 : CsOk n (c1 n) := ⟨by unfold c1; simp; omega, fun c hc => by
  unfold c1 at hc
  rcases List.mem_append.mp hc with q | q
  · rw [(List.mem_replicate.mp q).2]; exact szr_zero.mono (by omega)
  · rw [(List.mem_replicate.mp q).2]; exact szr2_m1⟩
theorem csOk2 : CsOk n (c2 n) := ⟨by unfold c2; simp; omega, fun c hc => by
  unfold c2 at hc
  rcases List.mem_append.mp hc with q | q
  · rcases List.mem_append.mp q with q | q
    · rw [(List.mem_replicate.mp q).2]; exact szr_one.mono (by omega)
    · rw [(List.mem_replicate.mp q).2]; exact szr_zero.mono (by omega)
  · rw [(List.mem_replicate.mp q).2]; exact szr_zero.mono (by omega)⟩
theorem e_solved (hG : GOk G) (S : Hs) (h : R_solved ds d) : MS (t_solved G) ⟨S, ⟨G.ps, []⟩, ds.map some ++ List.replicate (8 - ds.length) none⟩ (fun _ => False) (fun X d' => d' = d ∧ (∀ b ∈ S.ad, b ∈ X.S.ad) ∧ Gr S.fz X.S.fz) := by
  obtain ⟨n, A, cs, t3, rfl, hn1, hn, hA, Ct, ⟨n1, t1, t2, n2, r1, F1, m1, r2, r3, F3, B3, D3⟩, rfl⟩ := h
  let rD : PyData := .list ((rows0 n A).map rowD)
  let gD : PyData := .list (cs.map fun c => ratD ((c : Nat) : Rat))
  let aD : PyData := .list ((List.replicate n (1 : Rat) ++ List.replicate n 0).map ratD)
  have hal : (List.replicate n (1 : Rat) ++ List.replicate n 0).length = 2 * n := by simp; omega
  let J : Tab → Option PyData → Option PyData → Sta → Prop := fun s x4 x5 X => ∃ S1 T1 x dx sg rl bl vs, S1.ad = bl :: rl :: x :: S.ad ∧ Gr S.fz S1.fz ∧ (S.fz rl = none ∧ S.fz bl = none) ∧ T1.ts = G.ps ∧ PAt G S1 T1 x dx sg rl bl vs n s ∧ X = ⟨S1, T1, [some rD, some gD, some aD, some (rawD x), x4, x5, none, none]⟩
  -- made
  refine ms_seq (P1 := J (s0 n A (costR cs)) none none) (ms_setM (P1 := fun X d => ∃ S1 T1 x dx sg rl bl vs, S1.ad = bl :: rl :: x :: S.ad ∧ Gr S.fz S1.fz ∧ (S.fz rl = none ∧ S.fz bl = none) ∧ T1.ts = G.ps ∧ PAt G S1 T1 x dx sg rl bl vs n (s0 n A (costR cs)) ∧ d = rawD x ∧ X = ⟨S1, T1, [some rD, some gD, some aD, none, none, none, none, none]⟩) (me_make (ds := [rD, gD]) (aa_cons (ee_var rfl) (aa_cons (ee_var rfl) aa_nil)) rfl fun x dx hx hfx => ?_) ?_) ?_
  · refine ⟨x, dx, n, A, cs, rfl, upd_same, List.mem_cons_self, hn1, hn, hA, Ct, fun S' T' sg rl bl vs had hrl hbl hfz hfrl hfbl hts h => ⟨rfl, S', T', x, dx, sg, rl, bl, vs, had, fun c o e => .inl ?_, ⟨?_, ?_⟩, hts, h, rfl, rfl⟩⟩
    · have cx : c ≠ x := fun z => by rw [z] at e; rw [show S.fz x = none from hfx] at e; cases e
      have e2 : (S.own x (.ins G.C dx [])).fz c = some o := by show upd S.fz x _ c = _; rw [upd_ne cx]; exact e
      have cr : c ≠ rl := fun z => by rw [z] at e2; rw [show (S.own x (.ins G.C dx [])).fz rl = none from hfrl] at e2; cases e2
      have cb : c ≠ bl := fun z => by rw [z] at e2; rw [show (S.own x (.ins G.C dx [])).fz bl = none from hfbl] at e2; cases e2
      rw [hfz c cx cr cb]; exact e2
    · have hr : rl ≠ x := fun z => hrl (by rw [z]; exact List.mem_cons_self)
      have hfrl : upd S.fz x (.ins G.C dx []) rl = none := hfrl
      rwa [upd_ne hr] at hfrl
    · have hr : bl ≠ x := fun z => hbl (by rw [z]; exact List.mem_cons_self)
      have hfbl : upd S.fz x (.ins G.C dx []) bl = none := hfbl
      rwa [upd_ne hr] at hfbl
  · rintro X d ⟨S1, T1, x, dx, sg, rl, bl, vs, h1, h2, h3, h4, h5, rfl, rfl⟩
    exact ⟨S1, T1, x, dx, sg, rl, bl, vs, h1, h2, h3, h4, h5, rfl⟩
  rintro _ ⟨S1, T1, x, dx, sg, rl, bl, vs, had, hgr, ⟨hn1', hn2'⟩, hT, h, rfl⟩
  -- helping
  refine ms_seq (P1 := fun X => X = ⟨S1, T1, [some rD, some gD, some aD, some (rawD x), some (.list ((c1 n).map ratD)), none, none, none]⟩) (ms_es (es_set (ee_is (ee_op (ee_lcV (l := List.replicate n (1 : Rat) ++ List.replicate n 0) (F := ratD) (f := fun _ => ratD 0) (p := fun _ => true) (ei_seqL (ee_var (d := aD) rfl)) (by simp) (by omega) fun c hc S' hz => ⟨tt_yes, fun _ => ee_tup (aa_cons ee_int (aa_cons ee_int aa_nil)) (by simp)⟩)
    (ee_lcV (l := rows0 n A) (F := rowD) (f := fun _ => ratD (-1)) (p := fun _ => true) (ei_seqL (ee_var (d := rD) rfl)) (by simp) (by rw [rows0_len]; omega) fun c hc S' hz => ⟨tt_yes, fun _ => ee_tup (aa_cons (ee_un ee_int fun _ => ru_neg) (aa_cons ee_int aa_nil)) (by simp)⟩) fun _ => rv_addL ?_) ?_)) rfl) ?_
  · rw [filter_yes, filter_yes, List.length_map, List.length_map, rows0_len]; omega
  · rw [filter_yes, filter_yes, List.map_const', List.map_const', rows0_len, hal]
    unfold c1
    rw [List.map_append, List.map_replicate, List.map_replicate]
  rintro _ rfl
  -- climb
  have hra : rl ∈ S1.ad := by rw [had]; exact List.mem_cons_of_mem _ List.mem_cons_self
  have hba : bl ∈ S1.ad := by rw [had]; exact List.mem_cons_self
  have grow : ∀ {S1 S2 : Hs}, Gr S.fz S1.fz → (∀ b, b ≠ rl → b ≠ bl → S2.fz b = S1.fz b) → Gr S.fz S2.fz := fun {S1 S2} h1 h2 c o e => by
    have cr : c ≠ rl := fun z => by rw [z, hn1'] at e; cases e
    have cb : c ≠ bl := fun z => by rw [z, hn2'] at e; cases e
    rw [h2 c cr cb]
    exact h1 c o e
  let I : Tab → Option PyData → Option PyData → Sta → Prop := fun s x4 x5 X => ∃ S2 T2 vs2, S2.ad = S1.ad ∧ Gr S.fz S2.fz ∧ T2.ts = G.ps ∧ PAt G S2 T2 x dx sg rl bl vs2 n s ∧ X = ⟨S2, T2, [some rD, some gD, some aD, some (rawD x), x4, x5, none, none]⟩
  refine ms_seq (P1 := I t1 (some (.list ((c1 n).map ratD))) none) (ms_drop (P1 := fun X' d => I t1 (some (.list ((c1 n).map ratD))) none X') (me_meth (p := x) (fs := pfs n sg rl bl) (ds := [.list ((c1 n).map ratD), natD (2 * n)]) h.at_ rfl (ee_var rfl) (aa_cons (ee_var rfl) (aa_cons (p_many hG h rfl (ee_var rfl)) aa_nil)) hT ?_) fun X' d j => j) ?_
  · exact ⟨x, dx, sg, rl, bl, vs, n, _, c1 n, 2 * n, n1, t1, rfl, h, hn, csOk1, by omega, r1, hra, hba, fun S2 T2 vs2 g1 g2 g3 g4 => ⟨S2, T2, vs2, g1, grow hgr g2, g3.trans hT, g4, rfl⟩⟩
  rintro _ ⟨S2, T2, vs2, had2, hgr2, hT2, h2, rfl⟩
  have hra2 : rl ∈ S2.ad := had2 ▸ hra
  have hba2 : bl ∈ S2.ad := had2 ▸ hba
  -- it fits
  refine ms_seq (P1 := fun X => X = ⟨S2, T2, [some rD, some gD, some aD, some (rawD x), some (.list ((c1 n).map ratD)), none, none, none]⟩) (ms_if (b := false) (et_is' (tt_test (ee_op (ee_op (ee_is (c_mul hG h2 rfl F1 hn csOk1 (Nat.le_refl _) hT2 (ee_var rfl) (ee_var rfl) (ee_is (ee_op (p_many hG h2 rfl (ee_var rfl)) (ee_cb (aa_cons (ee_var (d := rD) rfl) aa_nil) fun _ => rc_lenL) fun _ => rv_addI) (congrArg PyData.int ?_))) (congrArg ratD m1)) ee_int fun _ => rv_ixT (z := .int 0) rfl) ee_int fun _ => rv_lt)) (by decide)) (fun z => nomatch z) fun _ => ms_es es_skip rfl) ?_
  · rw [List.length_map, rows0_len]; omega
  rintro _ rfl
  -- leave_help
  let I2 : Tab → Option PyData → Option PyData → Sta → Prop := fun s x4 x5 X => ∃ S3 T3 vs3, S3.ad = S1.ad ∧ Gr S.fz S3.fz ∧ T3.ts = G.ps ∧ PAt G S3 T3 x dx sg rl bl vs3 n s ∧ X = ⟨S3, T3, [some rD, some gD, some aD, some (rawD x), x4, x5, none, none]⟩
  refine ms_seq (P1 := I t2 (some (.list ((c1 n).map ratD))) none) (ms_drop (P1 := fun X' d => I t2 (some (.list ((c1 n).map ratD))) none X') (me_meth (p := x) (fs := pfs n sg rl bl) (ds := []) h2.at_ rfl (ee_var rfl) aa_nil hT2 ?_) fun X' d j => j) ?_
  · exact ⟨x, dx, sg, rl, bl, vs2, n, t1, t2, rfl, h2, hn1, hn, r2, hra2, hba2, fun S3 T3 vs3 g1 g2 g3 g4 => ⟨S3, T3, vs3, g1.trans had2, grow hgr2 g2, g3.trans hT2, g4, rfl⟩⟩
  rintro _ ⟨S3, T3, vs3, had3, hgr3, hT3, h3, rfl⟩
  -- the costs
  refine ms_seq (P1 := fun X => X = ⟨S3, T3, [some rD, some gD, some aD, some (rawD x), some (.list ((c1 n).map ratD)), some (.list ((c2 n).map ratD)), none, none]⟩) (ms_es (es_set (ee_is (ee_op (ee_cb (aa_cons (ee_var (d := aD) rfl) aa_nil) fun _ => rc_lstL) (ee_lcV (l := rows0 n A) (F := rowD) (f := fun _ => ratD 0) (p := fun _ => true) (ei_seqL (ee_var (d := rD) rfl)) (by simp) (by rw [rows0_len]; omega) fun c hc S' hz => ⟨tt_yes, fun _ => ee_tup (aa_cons ee_int (aa_cons ee_int aa_nil)) (by simp)⟩) fun _ => rv_addL ?_) ?_)) rfl) ?_
  · rw [filter_yes, List.length_map, List.length_map, rows0_len, hal]; omega
  · rw [filter_yes, List.map_const', rows0_len]
    unfold c2
    rw [List.map_append (l₁ := List.replicate n (1 : Rat) ++ List.replicate n 0), List.map_replicate (n := n) (a := (0 : Rat))]
  rintro _ rfl
  -- climb again
  refine ms_ifM (P1 := fun X' d => d = .bool true ∧ I t3 (some (.list ((c1 n).map ratD))) (some (.list ((c2 n).map ratD))) X') (me_meth (p := x) (fs := pfs n sg rl bl) (ds := [.list ((c2 n).map ratD), natD (2 * n)]) h3.at_ rfl (ee_var rfl) (aa_cons (ee_var rfl) (aa_cons (p_many hG h3 rfl (ee_var rfl)) aa_nil)) hT3 ?_) (fun X' d j => j.1) ?_
  · exact ⟨x, dx, sg, rl, bl, vs3, n, t2, c2 n, 2 * n, n2, t3, rfl, h3, hn, csOk2, by omega, r3, had3 ▸ hra, had3 ▸ hba, fun S4 T4 vs4 g1 g2 g3 g4 => ⟨rfl, S4, T4, vs4, g1.trans had3, grow hgr3 g2, g3.trans hT3, g4, rfl⟩⟩
  rintro _ d ⟨rfl, S4, T4, vs4, had4, hgr4, hT4, h4, rfl⟩
  exact ms_rt (es_ret (ee_tup (aa_cons ee_str (aa_cons (c_amounts hG h4 rfl F3 hn B3 D3 hT4 (ee_var rfl)) (aa_cons (c_prices hG h4 rfl F3 hn csOk2 hT4 (ee_var rfl) (ee_var rfl)) aa_nil))) (by simp))) ⟨rfl, fun b hb => by show b ∈ S4.ad; rw [had4, had]; exact List.mem_cons_of_mem _ (List.mem_cons_of_mem _ (List.mem_cons_of_mem _ hb)), hgr4⟩
theorem c_solved {A : Mat} {cs : List Nat} {t3 : Tab} (hn1 : 1 ≤ n) (hn : n ≤ 5) (hA : ∀ i j, A i j = 0 ∨ A i j = 1) (Ct : Csts n cs) (hS : Solv n A (costR cs) t3) (hP : ∀ x ∈ G.ps, x ∈ T.ts) (h1 : EE S T ta es (.list ((rows0 n A).map rowD))) (h2 : EE S T tb es (.list (cs.map fun c => ratD ((c : Nat) : Rat)))) (h3 : EE S T tc es (.list ((List.replicate n (1 : Rat) ++ List.replicate n 0).map ratD))) : EE S T (tCall (sp_solved G) [] C8.E0 (tCons ta (tCons tb (tCons tc tNil)))) es (.tuple [.str "best", .list ((amtsL n t3).map ratD), .list ((List.range n).map fun j => ratD (mul n t3 (c2 n) (2 * n + j)))]) :=
  ee_call (aa_cons h1 (aa_cons h2 (aa_cons h3 aa_nil))) ⟨n, A, cs, t3, rfl, hn1, hn, hA, Ct, hS, rfl⟩ hP
end
end KV
set_option Elab.async false
set_option linter.all false
set_option maxRecDepth 100000
set_option maxHeartbeats 4000000
/-! Evaluation: papers. -/
namespace KV
open PySem PySem.Spec PyProof.Rows L2 GxR KO Smx
theorem near_of {n : Nat} {ps : List (Nat × Nat)} {cs : List Nat} (W : Web n ps) (C : Csts n cs) : Near n (nearA n ps) (costR cs) where
  n5 := W.le
  zo i j _ _ := by
    unfold nearA
    by_cases e : j ∈ i :: foesL n ps i
    · rw [if_pos e]; exact .inr rfl
    · rw [if_neg e]; exact .inl rfl
  dg i _ := if_pos List.mem_cons_self
  bI i _ := ⟨((cs.getD i 0 : Nat) : Int), rfl⟩
  b0 i _ := by unfold costR; exact_mod_cast Nat.zero_le _
  bt i hi := by
    unfold costR
    have hi' : i < cs.length := by rw [C.len]; exact hi
    rw [getD_of (List.getElem?_eq_getElem hi')]
    exact_mod_cast C.le _ (List.getElem_mem hi')
theorem best_ex {n : Nat} {ps : List (Nat × Nat)} {cs : List Nat} (W : Web n ps) (C : Csts n cs) : ∃ t3, Best n ps cs t3 := by
  obtain ⟨n1, t1, t2, n2, t3, a, b, c, d, e, f, g, h, i, j⟩ := (near_of W C).solved
  exact ⟨t3, ⟨n1, t1, t2, n2, a, b, c, d, e, f, g, h⟩, i, j⟩
theorem paper_is {n : Nat} {ps : List (Nat × Nat)} {cs : List Nat} (W : Web n ps) (C : Csts n cs) : ∃ t3, Best n ps cs t3 ∧ paperQ n ps cs = (amtsL n t3).take n := by
  have h := best_ex W C
  exact ⟨h.choose, h.choose_spec, dif_pos h⟩
section
variable {G : Gd} {S S' : Hs} {T T' Ts : Ks} {es : Es} {te to ta tb tc tj tk : TE} {t : TA} {u : TS} {d : PyData} {n i j k : Nat} {ps : List (Nat × Nat)} {cs : List Nat} {ds : List PyData} {X : Sta} {P : Sta → Prop} {P1 : Sta → PyData → Prop} {R : Sta → PyData → Prop} {K : PySem.W.Frag}
theorem ms_ownTup (h1 : EE X.S X.T te X.es d) (h2 : EN X.S X.T to X.es ds) (hp : ∀ a vs, a ∉ X.S.ad → X.S.fz a = none → vs.length = ds.length → P ⟨X.S.own a (.lst vs), X.T.kn vs ds, (X.es.set i (some d)).set j (some (rawD a))⟩) : MS (tAsg (tTup (tCons te (tCons to tNil))) (gTup K 2 (gCons (gName i) (gCons (gName j) gNil)))) X P R := fun σ H k D kn kr =>
  h1 σ _ k.inn H k.ext _ fun v H1 g1 r1 => h2 σ _ k.inn H1 (k.ext.go g1) _ fun a vs H2 g2 n2 e2 r2 => ⟨(show 2 ≤ sizeLine by decide), fun p hp' => by
    have g3 : Gr H1 (upd H2 p (.tup [v, .ref a])) := g2.trans (.new hp')
    have ap : a ≠ p := fun z => by rw [z, hp'] at e2; cases e2
    have k1 : StOk ⟨X.S, X.T, X.es.set i (some d)⟩ (σ.set i (some v)) H1 := ⟨(k.go g1).inn.set r1 i, (k.go g1).trk, (k.go g1).fz⟩
    have k3 := own_ok (i := j) (T' := X.T.kn vs ds) (es' := (X.es.set i (some d)).set j (some (rawD a))) (o := .lst vs) k1 g3 n2 (by rw [upd_ne ap]; exact e2) rfl (fun q hq => by
      rcases List.mem_cons.mp hq with z | z
      · rw [z]; exact r2.mono ((Gr.new hp').hid _)
      · exact (k1.inn.tbs.ow q z).mono (gr_own g3 n2)) rfl
    exact ⟨_, _, rfl, .inl (.inl upd_same), rfl, _, _, rfl, _, _, rfl, rfl, kn _ _ _ (hp a vs (fun z => k1.trk a z n2) (k1.fz.back n2) r2.len) ((Fr.of g1).trans (fr_own g3 n2)) k3⟩⟩
theorem any_nats (x : Nat) (m : List Nat) : ((m.map natD).any fun z => PyData.eqv z (natD x)) = decide (x ∈ m) := by
  rw [Bool.eq_iff_iff, List.any_eq_true, decide_eq_true_iff]
  constructor
  · rintro ⟨z, hz, e⟩
    obtain ⟨y, hy, rfl⟩ := List.mem_map.mp hz
    rw [eqv_int, decide_eq_true_iff] at e
    have : y = x := by omega
    exact this ▸ hy
  · intro h
    exact ⟨natD x, List.mem_map_of_mem h, by rw [eqv_int]; simp⟩
theorem cut_to {α : Type} {f : α → PyData} {l : List α} {k : Nat} (h : k ≤ l.length) : cutD (l.map f) none (some (k : Int)) = (l.take k).map f := by
  unfold cutD
  rw [HT.sIx_nat, HT.sIx_none, List.length_map, Nat.min_eq_left h, List.drop_zero, Nat.sub_zero, List.map_take]
theorem ee_zo {tt : TT} {b : Bool} {q : Rat} (h : ET S T tt es b) (hq : q = if b then 1 else 0) : EE S T (tTup (tCons (tIf tt (tC (.int 1)) (tC (.int 0))) (tCons (tC (.int 1)) tNil))) es (ratD q) := by
  subst hq
  cases b with
  | true => exact ee_tup (aa_cons (ee_if h (fun _ => ee_int) fun z => nomatch z) (aa_cons ee_int aa_nil)) (by simp)
  | false => exact ee_tup (aa_cons (ee_if h (fun z => nomatch z) fun _ => ee_int) (aa_cons ee_int aa_nil)) (by simp)
theorem amts_len {s : Tab} : (amtsL n s).length = 2 * n := by unfold amtsL; simp
theorem rows0_snoc {A : Mat} (hi : i < n) : (rows0 n A).take (i + 1) = (rows0 n A).take i ++ [(List.range n).map (A i) ++ (List.range n).map fun j => if j = i then 1 else 0] := take_one (rows0_row hi)
theorem aims_is : (List.range (2 * n)).map (fun k => if k < n then (1 : Rat) else 0) = List.replicate n 1 ++ List.replicate n 0 := by
  apply List.ext_getElem
  · simp; omega
  · intro k h1 h2
    simp only [List.getElem_map, List.getElem_range]
    by_cases e : k < n
    · rw [if_pos e, List.getElem_append_left (by simpa using e), List.getElem_replicate]
    · rw [if_neg e, List.getElem_append_right (by simpa using e), List.getElem_replicate]
theorem e_paper_of (hG : GOk G) (S : Hs) (h : R_paper_of ds d) : MS (t_paper_of G) ⟨S, ⟨G.ps, []⟩, ds.map some ++ List.replicate (10 - ds.length) none⟩ (fun _ => False) (fun X d' => d' = d ∧ (∀ b ∈ S.ad, b ∈ X.S.ad) ∧ Gr S.fz X.S.fz) := by
  obtain ⟨n, ps, cs, rfl, W, Ct, rfl⟩ := h
  have hn := W.le
  have hn1 := W.pos
  obtain ⟨t3, hB, hpap⟩ := paper_is W Ct
  let wD := webD n ps
  let J : Nat → Sta → Prop := fun i X => ∃ a vs x4 x5 x6 ow, a ∉ S.ad ∧ S.fz a = none ∧ vs.length = i ∧ X = ⟨S.own a (.lst vs), ⟨G.ps, (vs, ((rows0 n (nearA n ps)).take i).map rowD) :: ow⟩, [some (webD n ps), some (lotD cs), some (natD n), some (rawD a), x4, x5, x6, none, none, none]⟩
  refine ms_seq (P1 := J 0) (ms_ownTup (ds := []) (ee_web0 (ee_var rfl)) (en_lst aa_nil (by simp)) fun a vs h1 h2 h3 => ?_) ?_
  · have hv : vs = [] := List.eq_nil_of_length_eq_zero h3
    subst hv
    exact ⟨a, [], none, none, none, [], h1, h2, rfl, rfl⟩
  rintro X hJ0
  refine ms_seq (P1 := J n) ?_ ?_
  · obtain ⟨a, vs, x4, x5, x6, ow, ha, hf, hl, rfl⟩ := hJ0
    refine ms_for (f0 := fun _ => none) (ys := (List.range n).map natD) J (ei2_nat (aa_cons (ee_var rfl) aa_nil) (by omega)) ⟨a, vs, x4, x5, x6, ow, ha, hf, hl, rfl⟩ (fun i X h b o z => by cases z) ?_ (fun X h => by simpa using h)
    rintro i hi X ⟨a, vs, x4, x5, x6, ow, ha, hf, hl, rfl⟩
    have hi' : i < n := by simpa using hi
    have e : ((List.range n).map natD)[i] = natD i := by simp
    rw [e]
    have hfl := foes_len (n := n) (ps := ps) (i := i)
    refine ⟨_, eg_name' rfl, ?_⟩
    refine ms_seq (P1 := fun X => X = ⟨S.own a (.lst vs), ⟨G.ps, (vs, ((rows0 n (nearA n ps)).take i).map rowD) :: ow⟩, [some (webD n ps), some (lotD cs), some (natD n), some (rawD a), some (natD i), some (.list ((i :: foesL n ps i).map natD)), x6, none, none, none]⟩) (ms_es (es_set (ee_is (ee_lst (aa_cons (ee_var rfl) (aa_starL (c_foes W tab_of (ee_var rfl) (ee_var rfl)) aa_nil)) ?_) (by rw [List.append_nil]; rfl))) rfl) ?_
    · rw [List.append_nil, List.length_cons, List.length_map]; omega
    rintro _ rfl
    refine ms_seq (P1 := fun X => X = ⟨S.own a (.lst vs), ⟨G.ps, (vs, ((rows0 n (nearA n ps)).take i).map rowD) :: ow⟩, [some (webD n ps), some (lotD cs), some (natD n), some (rawD a), some (natD i), some (.list ((i :: foesL n ps i).map natD)), some (.list ((List.range n).map fun k => ratD (if k = i then 1 else 0))), none, none, none]⟩) (ms_es (es_set (ee_is (ee_lcN (k := n) (f := fun k => ratD (if k = i then 1 else 0)) (p := fun _ => true) (aa_cons (ee_var rfl) aa_nil) (by omega) (by simp) fun k hk S' hz => ⟨tt_yes, fun _ => ee_zo (b := decide (k = i)) (et_is' (tt_test (ee_op (ee_var rfl) (ee_var rfl) fun _ => rv_eqI)) (by rw [Bool.eq_iff_iff]; simp; omega)) (by simp)⟩) (by rw [filter_yes]))) rfl) ?_
    rintro _ rfl
    refine ms_app (a := a) (vs := vs) (ds := ((rows0 n (nearA n ps)).take i).map rowD) (d := rowD ((List.range n).map (nearA n ps i) ++ (List.range n).map fun j => if j = i then 1 else 0)) (ee_var rfl) List.mem_cons_self upd_same List.mem_cons_self (ee_is (ee_op (ee_lcN (k := n) (f := fun k => ratD (nearA n ps i k)) (p := fun _ => true) (aa_cons (ee_var rfl) aa_nil) (by omega) (by simp) fun k hk S' hz => ⟨tt_yes, fun _ => ee_zo (b := decide (k ∈ i :: foesL n ps i)) (et_is' (tt_test (ee_op (ee_var (d := natD k) rfl) (ee_var (d := .list ((i :: foesL n ps i).map natD)) rfl) fun _ => rv_inL rfl (plain_nats _) (by simp [PyData.depth]))) (any_nats _ _)) (by unfold nearA; simp)⟩) (ee_var rfl) fun _ => rv_addL ?_) ?_) (by omega) fun v _ => ?_
    · rw [filter_yes, List.length_map, List.length_map, List.length_range]; omega
    · rw [filter_yes]
      unfold rowD
      rw [List.map_append, List.map_map, List.map_map]; rfl
    · refine ⟨a, vs ++ [v], some (natD i), some (.list ((i :: foesL n ps i).map natD)), some (.list ((List.range n).map fun k => ratD (if k = i then 1 else 0))), (vs, ((rows0 n (nearA n ps)).take i).map rowD) :: ow, ha, hf, by rw [List.length_append, hl]; rfl, ?_⟩
      rw [put_own, rows0_snoc hi', List.map_append]; rfl
  rintro X ⟨a, vs, x4, x5, x6, ow, ha, hf, hl, rfl⟩
  refine ms_rel (a := a) (vs := vs) (ds := (rows0 n (nearA n ps)).map rowD) (ad := S.ad) (f := S.fz) (i := 3) rfl ha upd_same (by rw [List.take_of_length_le (by rw [rows0_len]; omega)]; exact List.mem_cons_self) (gr_put hf) rfl ?_
  show MS _ ⟨⟨S.ad, S.fz⟩, _, [some (webD n ps), some (lotD cs), some (natD n), some (.list ((rows0 n (nearA n ps)).map rowD)), x4, x5, x6, none, none, none]⟩ _ _
  refine ms_seq (P1 := fun X => X = ⟨⟨S.ad, S.fz⟩, ⟨G.ps, (vs, ((rows0 n (nearA n ps)).take n).map rowD) :: ow⟩, [some (webD n ps), some (lotD cs), some (natD n), some (.list ((rows0 n (nearA n ps)).map rowD)), x4, x5, x6, some (.list ((List.replicate n (1 : Rat) ++ List.replicate n 0).map ratD)), none, none]⟩) (ms_es (es_set (ee_is (ee_lcN (k := 2 * n) (f := fun k => ratD (if k < n then 1 else 0)) (p := fun _ => true) (aa_cons (ee_is (ee_op ee_int (ee_var (d := natD n) rfl) fun _ => rv_mulI ?_) (congrArg PyData.int (by omega))) aa_nil) (by omega) (by simp) fun k hk S' hz => ⟨tt_yes, fun _ => ee_zo (b := decide (k < n)) (et_is' (tt_test (ee_op (ee_var rfl) (ee_var rfl) fun _ => rv_lt)) (by rw [Bool.eq_iff_iff]; simp)) (by simp)⟩) ?_)) rfl) ?_
  · show (2 : Int).natAbs.log2 + (n : Int).natAbs.log2 < 1000000
    have h1 := Nat.log2_le_self (2 : Int).natAbs
    have h2 := Nat.log2_le_self (n : Int).natAbs
    omega
  · rw [filter_yes, ← aims_is, List.map_map]; rfl
  rintro _ rfl
  refine ms_rt (d := .list (((amtsL n t3).take n).map ratD)) (es_ret (ee_is (ee_slL (xs := (amtsL n t3).map ratD) (ee_op (c_solved (A := nearA n ps) hn1 hn (fun i j => ?_) Ct hB.1 tab_of (ee_var rfl) (ee_is (ee_lcV (l := cs) (F := natD) (f := fun c => ratD ((c : Nat) : Rat)) (p := fun _ => true) (ei_seqT (ee_var (d := .tuple (cs.map natD)) rfl)) (by simp) (by rw [Ct.len]; omega) fun c hc S' hz => ⟨tt_yes, fun _ => ee_is (ee_tup (aa_cons (ee_var rfl) (aa_cons ee_int aa_nil)) (by simp)) (ratD_nat _).symm⟩) (by rw [filter_yes])) (ee_var rfl)) ee_int fun _ => rv_ixT rfl) oo_none (oo_some (ee_var (d := natD n) rfl))) ?_)) ?_
  · unfold nearA
    by_cases e : j ∈ i :: foesL n ps i
    · rw [if_pos e]; exact .inr rfl
    · rw [if_neg e]; exact .inl rfl
  · rw [cut_to (by rw [amts_len]; omega)]
  · exact ⟨by rw [hpap], fun b hb => hb, Gr.refl _⟩
theorem c_paper_of (W : Web n ps) (Ct : Csts n cs) (hP : ∀ x ∈ G.ps, x ∈ Ts.ts) (h : EE S Ts ta es (webD n ps)) (h1 : EE S Ts tb es (lotD cs)) : EE S Ts (tCall (sp_paper_of G) [] C8.E0 (tCons ta (tCons tb tNil))) es (.list ((paperQ n ps cs).map ratD)) := ee_call (aa_cons h (aa_cons h1 aa_nil)) ⟨n, ps, cs, rfl, W, Ct, rfl⟩ hP
theorem e_forget_paper (h : R_forget_paper ds d) : ESr S ⟨G.ps, []⟩ (t_forget_paper G) (ds.map some ++ List.replicate (2 - ds.length) none) d := by
  obtain ⟨n, ps, cs, rfl, W, Ct, rfl⟩ := h
  exact .inl (es_seq (es_drop (c_need_costs W Ct tab_of (ee_var rfl) (ee_var rfl))) (es_ret (ee_cb (aa_cons (c_paper_of W Ct tab_of (ee_var rfl) (ee_var rfl)) aa_nil) fun _ => rc_tupL)))
theorem c_forget_paper (W : Web n ps) (Ct : Csts n cs) (hP : ∀ x ∈ G.ps, x ∈ Ts.ts) (h : EE S Ts ta es (webD n ps)) (h1 : EE S Ts tb es (lotD cs)) : EE S Ts (tCall (sp_forget_paper G) [] C8.E0 (tCons ta (tCons tb tNil))) es (papD (paperQ n ps cs)) := ee_call (aa_cons h (aa_cons h1 aa_nil)) ⟨n, ps, cs, rfl, W, Ct, rfl⟩ hP
theorem paper_len (W : Web n ps) (Ct : Csts n cs) : (paperQ n ps cs).length = n := by
  obtain ⟨t3, hB, hpap⟩ := paper_is W Ct
  rw [hpap, List.length_take, amts_len]; omega
theorem paper_sz (W : Web n ps) (Ct : Csts n cs) : ∀ q ∈ paperQ n ps cs, SzR 17 q := fun q hq => by
  obtain ⟨t3, ⟨⟨n1, t1, t2, n2, _, _, _, _, _, F, _, D⟩, _⟩, hpap⟩ := paper_is W Ct
  rw [hpap] at hq
  have hq := List.mem_of_mem_take hq
  unfold amtsL at hq
  obtain ⟨j, _, rfl⟩ := List.mem_map.mp hq
  by_cases hin : ∃ i, i < n ∧ gb t3.2 i = j
  · obtain ⟨i, hi, e⟩ := hin
    have : val n (3 * n) (gt t3.1) (gb t3.2) j = gt t3.1 i (3 * n) := by
      unfold val
      rw [sm_one hi fun l hl hne => if_neg fun z => hne (D l i hl hi (z.trans e.symm)), if_pos e]
    rw [this]
    exact fit_szrw F hi (Nat.le_refl _)
  · have : val n (3 * n) (gt t3.1) (gb t3.2) j = 0 := sm_zero fun i hi => if_neg fun z => hin ⟨i, hi, z⟩
    rw [this]
    exact szr_zero.mono (by omega)
def nnD : PyData → Bool
  | .tuple (.int a :: _) => decide (0 ≤ a)
  | _ => false
theorem nn_all (qs : List Rat) : (qs.map ratD).all nnD = qs.all fun q => decide (0 ≤ q) := by
  rw [List.all_map]
  congr 1
  funext q
  show decide (0 ≤ q.num) = decide (0 ≤ q)
  congr 1
  exact propext Rat.num_nonneg
theorem c_fits_less {qs : List Rat} {p : Nat} (hn : n ≤ 5) (Ct : Csts n cs) (hp : p < n) (hq : ∀ q ∈ qs, SzR 40 q) (hP : ∀ x ∈ G.ps, x ∈ Ts.ts) (h1 : EE S Ts ta es (lotD cs)) (h2 : EE S Ts tb es (natD p)) (h3 : EE S Ts tc es (ratD (nearQ n ps qs p))) :
    EE S Ts (tCall (sp_less G) [] C8.E0 (tCons (tTup (tCons (tOp (rIx G.K) ta tb) (tCons (tC (.int 1)) tNil))) (tCons tc tNil))) es (.bool (decide (((cs.getD p 0 : Nat) : Rat) < nearQ n ps qs p))) := by
  have hp' : p < cs.length := by rw [Ct.len]; exact hp
  have hc := Ct.le _ (List.getElem_mem hp')
  rw [getD_of (List.getElem?_eq_getElem hp')]
  exact c_less ((szr_nat (e := 20) (by omega) (by omega)).mono (by omega)) (near_sz hq hn) hP (ee_is (ee_tup (aa_cons (ee_op (z := natD cs[p]) h1 h2 fun _ => rv_ixT (atI_nat (getL_map hp'))) (aa_cons ee_int aa_nil)) (by simp)) (ratD_nat _).symm) h3
theorem e_shows_forget_paper (hG : GOk G) (h : R_shows_forget_paper ds d) : ESr S ⟨G.ps, []⟩ (t_shows_forget_paper G) (ds.map some ++ List.replicate (6 - ds.length) none) d := by
  obtain ⟨n, ps, cs, v, rfl, W, Ct, ⟨qs, rfl, hq, hl, rfl⟩ | ⟨ht, hp, rfl⟩⟩ := h
  · have hn := W.le
    refine .inl (es_seq (es_drop (c_need_costs W Ct tab_of (ee_var rfl) (ee_var rfl))) ?_)
    have hpl : (papD qs).plain = true := by unfold papD; rw [PyData.plain]; exact plain_map plain_rat qs
    have hcond : ET S ⟨G.ps, []⟩ (tOr (tNot (tB (tCB (uIsi G.K) (tCons (tVar 2) (tCons (tC (.ty "tuple")) tNil))))) (tOr (tTest (tOp (rNeP G.K) (tCB (uLen G.K) (tCons (tVar 2) tNil)) (tOp (rIx G.K) (tVar 0) (tC (.int 0))))) (tNot (tB (GX.tAllG (G.p_shows_forget_paper) (iSeq G.K (tVar 2)) (tAndV (tCall (sp_is_ratio G) [] C8.E0 (tCons (tVar 0) tNil)) (tOp (uGe G.K) (tOp (rIx G.K) (tVar 0) (tC (.int 0))) (tC (.int 0)))) []))))) [some (webD n ps), some (lotD cs), some (papD qs), none, none, none] (!(decide (qs.length = n) && qs.all fun q => decide (0 ≤ q))) :=
      et_is' (tt_or (tt_not (tt_B (ee_isTup (ee_var rfl) hpl))) fun _ => tt_or (tt_test (ee_op (ee_cb (aa_cons (ee_var (d := .tuple (qs.map ratD)) rfl) aa_nil) fun _ => rc_lenT) (ee_web0 (ee_var rfl)) fun _ => rv_neI)) fun _ => tt_not (tt_B (ee_all nnD hG.shw (ei_seqT (ee_var (d := .tuple (qs.map ratD)) rfl)) fun y hy => by
        obtain ⟨q, hq', rfl⟩ := List.mem_map.mp hy
        exact ee_is (ee_and (c_is_ratio ((hq q hq').mono (by omega)) tab_of (ee_var rfl)) fun _ => ee_op (ee_num (ee_var rfl)) ee_int fun _ => rv_geI) (by rw [Bool.true_and]; rfl)))) (by
        rw [nn_all, List.length_map, Bool.not_and]
        have : decide ((qs.length : Int) = (n : Int)) = decide (qs.length = n) := by rw [Bool.eq_iff_iff]; simp; omega
        rw [this]; rfl)
    by_cases hb : (decide (qs.length = n) && qs.all fun q => decide (0 ≤ q)) = true
    · rw [hb] at hcond
      refine es_seq (es_if hcond (fun z => nomatch z) fun _ => es_skip) ?_
      have hlen : qs.length = n := by simp only [Bool.and_eq_true, decide_eq_true_eq] at hb; exact hb.1
      have f2 := forO_find (d := .bool false) (ys := (List.range n).map natD) (es := [some (webD n ps), some (lotD cs), some (papD qs), none, none, none]) (Pe := fun k es => ∃ x y, es = [some (webD n ps), some (lotD cs), some (papD qs), x, y, none]) (bad := fun k => decide (((cs.getD k 0 : Nat) : Rat) < nearQ n ps qs k))
        (step := fun es y o => ∃ es1, EG S ⟨G.ps, []⟩ (gName 3) y es es1 ∧ ES S ⟨G.ps, []⟩ (tSeq (tAsg (tCall (sp_sum_of G) [] C8.E0 (tCons (tLst (tCons (tOp (rIx G.K) (tVar 2) (tVar 3)) (StX.tStar G.K (tLc (iSeq G.K (tCall (sp_foes G) [] C8.E0 (tCons (tVar 0) (tCons (tVar 3) tNil)))) (gName 5) tYes (tOp (rIx G.K) (tVar 2) (tVar 5)) [5]) tNil))) tNil)) (gName 4)) (tIfS (tB (tCall (sp_less G) [] C8.E0 (tCons (tTup (tCons (tOp (rIx G.K) (tVar 1) (tVar 3)) (tCons (tC (.int 1)) tNil))) (tCons (tVar 4) tNil)))) (tRet (tC (.bl false))) tNext)) es1 o) (by
          rintro k hk es ⟨x, y, rfl⟩
          have hk' : k < n := by simpa using hk
          have hkq : k < qs.length := by omega
          have e : ((List.range n).map natD)[k] = natD k := by simp
          rw [e]
          have hfl := foes_len (n := n) (ps := ps) (i := k)
          have hsum : EE S ⟨G.ps, []⟩ (tCall (sp_sum_of G) [] C8.E0 (tCons (tLst (tCons (tOp (rIx G.K) (tVar 2) (tVar 3)) (StX.tStar G.K (tLc (iSeq G.K (tCall (sp_foes G) [] C8.E0 (tCons (tVar 0) (tCons (tVar 3) tNil)))) (gName 5) tYes (tOp (rIx G.K) (tVar 2) (tVar 5)) [5]) tNil))) tNil)) [some (webD n ps), some (lotD cs), some (papD qs), some (natD k), y, none] (ratD (nearQ n ps qs k)) :=
            c_sum_of (qs := (k :: foesL n ps k).map fun j => qs.getD j 0) (fun q hq' => by
              obtain ⟨j, hj, rfl⟩ := List.mem_map.mp hq'
              have hj' : j < qs.length := by
                rcases List.mem_cons.mp hj with z | z
                · omega
                · have := foes_lt z; omega
              rw [getD_of (List.getElem?_eq_getElem hj')]
              exact hq _ (List.getElem_mem hj')) (by simp only [List.length_map, List.length_cons]; omega) tab_of (ee_is (ee_lst (aa_cons (d := ratD (qs.getD k 0)) (ee_is (ee_op (ee_var (d := .tuple (qs.map ratD)) rfl) (ee_var rfl) fun _ => rv_ixT (atI_nat (getL_map hkq))) (by rw [getD_of (List.getElem?_eq_getElem hkq)])) (aa_starL (ee_lcV (l := foesL n ps k) (F := natD) (f := fun j => ratD (qs.getD j 0)) (p := fun _ => true) (ei_seqL (c_foes W tab_of (ee_var rfl) (ee_var rfl))) (by simp) (by omega) fun j hj S' hz => ⟨tt_yes, fun _ => ?_⟩) aa_nil)) ?_) (by rw [filter_yes, List.append_nil, List.map_map]; rfl))
          · have hc := c_fits_less (ps := ps) (es := [some (webD n ps), some (lotD cs), some (papD qs), some (natD k), some (ratD (nearQ n ps qs k)), none]) (S := S) (Ts := ⟨G.ps, []⟩) (G := G) (ta := tVar 1) (tb := tVar 3) (tc := tVar 4) hn Ct hk' hq tab_of (ee_var rfl) (ee_var rfl) (ee_var rfl)
            exact ⟨fun hb => ⟨_, eg_name' rfl, es_seq (es_set hsum) (es_if (b := true) (et_is' (tt_B hc) hb) (fun _ => es_ret ee_bl) fun z => nomatch z)⟩, fun hb => ⟨_, ⟨_, eg_name' rfl, es_seq (es_set hsum) (es_if (b := false) (et_is' (tt_B hc) hb) (fun z => nomatch z) fun _ => es_skip)⟩, _, _, rfl⟩⟩
          · have hj' : j < qs.length := by have := foes_lt hj; omega
            refine ee_is (ee_op (ee_var (d := .tuple (qs.map ratD)) rfl) (ee_var rfl) fun _ => rv_ixT (atI_nat (getL_map hj'))) ?_
            rw [getD_of (List.getElem?_eq_getElem hj')]
          · rw [filter_yes, List.append_nil, List.length_cons, List.length_map]; omega) ⟨none, none, rfl⟩
      have hw := ei_nat (S := S) (Ts := ⟨G.ps, []⟩) (es := [some (webD n ps), some (lotD cs), some (papD qs), none, none, none]) (k := n) (aa_cons (ee_web0 (G := G) (n := n) (ps := ps) (te := tVar 0) (ee_var rfl)) aa_nil) (by omega)
      rcases f2 with ⟨⟨k, hk, hb2⟩, hf2⟩ | ⟨hb2, es2, hf2, x2, y2, he2⟩
      · refine es_o (es_seq' (es_for hw hf2)) ?_
        have hk' : k < n := by simpa using hk
        have : ((List.range n).all fun i => decide (nearQ n ps qs i ≤ ((cs.getD i 0 : Nat) : Rat))) = false := by
          rw [List.all_eq_false]
          refine ⟨k, List.mem_range.mpr hk', ?_⟩
          have := of_decide_eq_true hb2
          simpa using Rat.not_le.mpr this
        unfold fitsQ
        rw [this]; simp
      · subst he2
        have : ((List.range n).all fun i => decide (nearQ n ps qs i ≤ ((cs.getD i 0 : Nat) : Rat))) = true := by
          rw [List.all_eq_true]
          intro k hk
          have := (lt_le _ _).mp (hb2 k (by simpa using hk))
          simpa using this
        have hff : fitsQ n ps cs qs = true := by unfold fitsQ; rw [this, hb]; rfl
        rw [hff, Bool.true_and]
        refine es_seq (es_for hw hf2) (es_ret (ee_is (ee_op (c_sum_of hq hl tab_of (ee_cb (aa_cons (ee_var (d := .tuple (qs.map ratD)) rfl) aa_nil) fun _ => rc_lstT)) (c_sum_of (fun q hq => (paper_sz W Ct q hq).mono (by omega)) (by rw [paper_len W Ct]; omega) tab_of (c_paper_of W Ct tab_of (ee_var rfl) (ee_var rfl))) fun _ => rv_eq rfl rfl (by simp [ratD, PyData.depth, PyData.depthAll])) (by rw [eqv_rat])))
    · have hb := Bool.eq_false_iff.mpr hb
      rw [hb] at hcond
      refine es_o (es_seq' (es_if hcond (fun _ => es_ret ee_bl) fun z => nomatch z)) ?_
      unfold fitsQ
      rw [hb]; rfl
  · refine .inl (es_seq (es_drop (c_need_costs W Ct tab_of (ee_var rfl) (ee_var rfl))) (es_seq' (es_if (b := true) (et_is' (tt_or (b := true) (tt_not (tt_B (ee_isTup (ee_var rfl) hp))) fun z => ?_) ?_) (fun _ => es_ret ee_bl) fun z => nomatch z)))
    · rw [ht] at z; cases z
    · rw [ht]; rfl
end
end KV
set_option Elab.async false
set_option linter.all false
set_option maxRecDepth 100000
set_option maxHeartbeats 4000000
/-! The paper: it fits, nothing that fits is more, no covering lot costs less. -/
namespace KV
open PySem PySem.Spec PyProof.Rows L2 GxR KO Smx
section
variable {n i j k : Nat} {ps : List (Nat × Nat)} {cs l : List Nat} {qs : List Rat} {x : Nat → Rat}
theorem range_of (h : qs.length = n) : qs = (List.range n).map fun j => qs.getD j 0 := by
  apply List.ext_getElem
  · simp [h]
  · intro i h1 h2
    simp only [List.getElem_map, List.getElem_range]
    rw [getD_of (List.getElem?_eq_getElem h1)]
theorem sum_sm (h : qs.length = n) : qs.sum = sm n fun j => qs.getD j 0 := by
  have e := sm_filter (fun j => qs.getD j 0) (fun _ => true) (fun i z => nomatch z) n
  rw [filter_yes, ← range_of h] at e
  exact e
theorem filter_sm (f : Nat → Rat) (c : Nat → Bool) (m : Nat) : (((List.range m).filter c).map f).sum = sm m fun j => if c j = true then f j else 0 := by
  have e := sm_filter (fun j => if c j = true then f j else 0) c (fun i z => by simp [z]) m
  rw [← e]
  congr 1
  refine List.map_congr_left fun j hj => ?_
  rw [if_pos (List.mem_filter.mp hj).2]
theorem foes_irr (W : Web n ps) : i ∉ foesL n ps i := fun h => foes_ne W h rfl
theorem near_sm (W : Web n ps) (hi : i < n) : nearQ n ps qs i = sm n fun j => nearA n ps i j * qs.getD j 0 := by
  unfold nearQ
  rw [List.map_cons, List.sum_cons]
  have e1 : ((foesL n ps i).map fun j => qs.getD j 0).sum = sm n fun j => if (decide ((min i j, max i j) ∈ ps)) = true then qs.getD j 0 else 0 := filter_sm _ _ n
  have e2 : qs.getD i 0 = sm n fun j => if j = i then qs.getD j 0 else 0 := by
    rw [sm_one hi fun j _ hne => if_neg hne, if_pos rfl]
  rw [e1, e2, ← sm_add]
  refine sm_congr fun j hj => ?_
  unfold nearA
  by_cases hji : j = i
  · subst hji
    have hn : ¬ (min j j, max j j) ∈ ps := fun h => foes_irr W (List.mem_filter.mpr ⟨List.mem_range.mpr hi, by simpa using h⟩)
    rw [if_pos rfl, if_neg (by simpa using hn), if_pos List.mem_cons_self]; grind
  · rw [if_neg hji]
    by_cases hm : (min i j, max i j) ∈ ps
    · have hf : j ∈ foesL n ps i := List.mem_filter.mpr ⟨List.mem_range.mpr hj, by simpa using hm⟩
      rw [if_pos (by simpa using hm), if_pos (List.mem_cons_of_mem _ hf)]; grind
    · rw [if_neg (by simpa using hm), if_neg (fun z => (List.mem_cons.mp z).elim hji fun z => hm (by simpa using (List.mem_filter.mp z).2))]; grind
theorem fits_iff (W : Web n ps) (hl : qs.length = n) : fitsQ n ps cs qs = true ↔ Feas n (nearA n ps) (costR cs) fun j => qs.getD j 0 := by
  unfold fitsQ Feas costR
  simp only [Bool.and_eq_true, decide_eq_true_eq, List.all_eq_true, List.mem_range]
  constructor
  · rintro ⟨⟨_, h1⟩, h2⟩
    refine ⟨fun j hj => ?_, fun i hi => ?_⟩
    · have hj' : j < qs.length := by omega
      show 0 ≤ qs.getD j 0
      rw [getD_of (List.getElem?_eq_getElem hj')]
      exact h1 _ (List.getElem_mem hj')
    · rw [← near_sm W hi]; exact h2 i hi
  · rintro ⟨h1, h2⟩
    refine ⟨⟨hl, fun q hq => ?_⟩, fun i hi => ?_⟩
    · obtain ⟨j, hj, rfl⟩ := List.getElem_of_mem hq
      have := h1 j (by omega)
      rwa [getD_of (List.getElem?_eq_getElem hj)] at this
    · rw [near_sm W hi]; exact h2 i hi
theorem sm_congr_feas {A : Mat} {b : Nat → Rat} {x y : Nat → Rat} (h : ∀ j, j < n → x j = y j) (f : Feas n A b x) : Feas n A b y :=
  ⟨fun j hj => h j hj ▸ f.1 j hj, fun i hi => by rw [← sm_congr (f := fun j => A i j * x j) fun j hj => by rw [h j hj]]; exact f.2 i hi⟩
theorem fits_len (h : fitsQ n ps cs qs = true) : qs.length = n := by
  unfold fitsQ at h
  simp only [Bool.and_eq_true, decide_eq_true_eq] at h
  exact h.1.1
/-- the paper fits, and is best -/
theorem paper_best (W : Web n ps) (C : Csts n cs) : fitsQ n ps cs (paperQ n ps cs) = true ∧ ∀ qs, fitsQ n ps cs qs = true → qs.sum ≤ (paperQ n ps cs).sum := by
  obtain ⟨t3, ⟨_, F, O⟩, hp⟩ := paper_is W C
  have hl := paper_len W C
  have hx : ∀ j, j < n → val n (3 * n) (gt t3.1) (gb t3.2) j = (paperQ n ps cs).getD j 0 := fun j hj => by
    rw [hp, List.getD_eq_getElem?_getD, List.getElem?_take, if_pos hj]
    unfold amtsL
    rw [List.getElem?_map, List.getElem?_range (by omega)]; rfl
  refine ⟨(fits_iff W hl).mpr (sm_congr_feas hx F), fun qs hq => ?_⟩
  have hlq := fits_len hq
  rw [sum_sm hlq, sum_sm hl, ← sm_congr hx]
  exact O _ ((fits_iff W hlq).mp hq)
theorem lot_filter (L : Lot n l) : l = (List.range n).filter fun j => decide (j ∈ l) := up_eq L.up ((range_up n).sublist List.filter_sublist) fun k => by
  rw [List.mem_filter, List.mem_range]
  constructor
  · intro h; exact ⟨L.lt k h, by simpa using h⟩
  · rintro ⟨_, h⟩; simpa using h
theorem lot_sm (L : Lot n l) (f : Nat → Rat) : (l.map f).sum = sm n fun j => if j ∈ l then f j else 0 := by
  have e := filter_sm f (fun j => decide (j ∈ l)) n
  rw [← lot_filter L] at e
  rw [e]
  exact sm_congr fun j _ => by simp
theorem cost_rat (cs : List Nat) : ∀ l : List Nat, ((cost cs l : Nat) : Rat) = (l.map (costR cs)).sum
  | [] => rfl
  | a :: l => by
    have ih := cost_rat cs l
    unfold cost at ih ⊢
    rw [List.map_cons, List.sum_cons, List.map_cons, List.sum_cons, ← ih]
    unfold costR
    rw [Rat.natCast_add]
theorem fits_cost (W : Web n ps) (L : Lot n l) (hc : cov n ps l = true) (hf : fitsQ n ps cs qs = true) : qs.sum ≤ ((cost cs l : Nat) : Rat) := by
  have hl := fits_len hf
  obtain ⟨f0, f1⟩ := (fits_iff W hl).mp hf
  rw [sum_sm hl, cost_rat, lot_sm L]
  have s1 : (sm n fun i => if i ∈ l then sm n (fun j => nearA n ps i j * qs.getD j 0) else 0) ≤ sm n fun i => if i ∈ l then costR cs i else 0 := sm_le fun i hi => by
    by_cases h : i ∈ l
    · rw [if_pos h, if_pos h]; exact f1 i hi
    · rw [if_neg h, if_neg h]; exact Rat.le_refl
  refine Rat.le_trans ?_ s1
  have s2 : (sm n fun i => if i ∈ l then sm n (fun j => nearA n ps i j * qs.getD j 0) else 0) = sm n fun j => sm n fun i => if i ∈ l then nearA n ps i j * qs.getD j 0 else 0 := by
    rw [← sm_swap]
    refine sm_congr fun i hi => ?_
    by_cases h : i ∈ l
    · simp only [if_pos h]
    · simp only [if_neg h]
      exact (sm_zero fun _ _ => rfl).symm
  rw [s2]
  refine sm_le fun j hj => ?_
  have g0 : 0 ≤ qs.getD j 0 := f0 j hj
  have all : ∀ i, i < n → 0 ≤ (if i ∈ l then nearA n ps i j * qs.getD j 0 else 0) := fun i hi => by
    by_cases h : i ∈ l
    · rw [if_pos h]
      unfold nearA
      split
      · grind
      · grind
    · rw [if_neg h]; exact Rat.le_refl
  have one : ∃ i, i < n ∧ i ∈ l ∧ j ∈ i :: foesL n ps i := by
    rcases cov_iff.mp hc j hj with h | ⟨i, hi, h⟩
    · exact ⟨j, hj, h, List.mem_cons_self⟩
    · exact ⟨i, L.lt i hi, hi, List.mem_cons_of_mem _ h⟩
  obtain ⟨i, hi, hil, hn⟩ := one
  have e1 : qs.getD j 0 = sm n fun m => if m = i then qs.getD j 0 else 0 := by
    rw [sm_one hi fun m _ hne => if_neg hne, if_pos rfl]
  have s3 : (sm n fun m => if m = i then qs.getD j 0 else 0) ≤ sm n fun i => if i ∈ l then nearA n ps i j * qs.getD j 0 else 0 := sm_le fun m hm => by
    by_cases h : m = i
    · subst h
      rw [if_pos rfl, if_pos hil]
      unfold nearA
      rw [if_pos hn]; grind
    · rw [if_neg h]; exact all m hm
  rw [← e1] at s3
  exact s3
theorem paper_under (W : Web n ps) (C : Csts n cs) : (paperQ n ps cs).sum ≤ ((bestC n ps cs : Nat) : Rat) := by
  obtain ⟨⟨m, hm, e⟩, _⟩ := best_of n ps cs
  have h := lotsC_mem.mp hm
  rw [← e]
  exact fits_cost W h.1 h.2 (paper_best W C).1
end
end KV
set_option Elab.async false
set_option linter.all false
set_option maxRecDepth 100000
set_option maxHeartbeats 4000000
/-! Evaluation: the law's draws, and its comparison. -/
namespace KV
open PySem PySem.Spec PyProof.Rows L2 GxR KO Smx
theorem ScrAt.mono {K : PySem.W.Frag} {S S' : Hs} {T T' : Ks} {b : Addr} {sc : List Int} (h : ScrAt K S T b sc) (hf : ∀ c o xs, S.fz c = some (.frz o (.lst xs)) → S'.fz c = some (.frz o (.lst xs))) (ho : ∀ q ∈ T.ow, q ∈ T'.ow) : ScrAt K S' T' b sc := by
  rcases h with ⟨o, h⟩ | h | h
  · exact .inl ⟨o, hf _ _ _ h⟩
  · exact .inr (.inl (ho _ h))
  · exact .inr (.inr h)
theorem ScrAt.sq {K : PySem.W.Frag} {S : Hs} {T : Ks} {b : Addr} {sc : List Int} (h : ScrAt K S T b sc) {B H : Hp} (k : Kn T B) (e : Ext S B H) : SqL K H b (sc.map V.int) := by
  rcases h with ⟨o, h⟩ | h | h
  · exact .inl (.inr ⟨o, e.fr.keep h fun _ z => by cases z⟩)
  · have r := k.ow _ h
    cases r with
    | cons r _ =>
      cases r with
      | lst hb rs =>
        rw [Rps.of_ints rs] at hb
        exact .inl (.inl (hid_some (e.gr.lst hb)).2)
  · exact .inr h
theorem ScrAt.upd {K : PySem.W.Frag} {S S' : Hs} {T T' : Ks} {a b : Addr} {sc : List Int} {vs : List V} (h : ScrAt K S T b sc) (ha : S.fz a = some (.lst vs)) (hf : ∀ c, c ≠ a → S'.fz c = S.fz c) (ho : ∀ q ∈ T.ow, q ∈ T'.ow) : ScrAt K S' T' b sc :=
  h.mono (fun c o xs e => by
    have hc : c ≠ a := fun z => by rw [z, ha] at e; cases e
    rw [hf c hc]; exact e) ho
structure RowIs (K : PySem.W.Frag) (S : Hs) (T : Ks) (a b : Addr) (vs : List V) (sc : List Int) (k : Nat) (seed rest : Int) : Prop where
  own : a ∈ S.ad
  at_ : S.fz a = some (.lst vs)
  len : vs.length = 4
  kn : (vs, [rawD b, natD k, .int seed, .int rest]) ∈ T.ow
  scr : ScrAt K S T b sc
/-- within a draw -/
def Dr (K : PySem.W.Frag) (S : Hs) (T : Ks) (a b : Addr) (sc : List Int) (many : Int) (k : Nat) (seed rest : Int) (x2 x3 : Option PyData) (X : Sta) : Prop := ∃ S1 T1 vs, S1.ad = S.ad ∧ (∀ c, c ≠ a → S1.fz c = S.fz c) ∧ T1.ts = T.ts ∧ (∀ q ∈ T.ow, q ∈ T1.ow) ∧ RowIs K S1 T1 a b vs sc k seed rest ∧ X = ⟨S1, T1, [some (rawD a), some (.int many), x2, x3]⟩
section
variable {G : Gd} {S S' : Hs} {T T' Ts : Ks} {es : Es} {te to ta tb tc tj tk : TE} {t : TA} {u : TS} {d : PyData} {n i j : Nat} {ds : List PyData} {X : Sta} {P : Sta → Prop} {P1 : Sta → PyData → Prop} {R : Sta → PyData → Prop} {K : PySem.W.Frag} {a b : Addr} {vs : List V} {sc : List Int} {many seed rest w : Int} {k : Nat} {x2 x3 : Option PyData}
theorem row_ix {z : PyData} {m : Int} (h : RowIs K S T a b vs sc k seed rest) (he : EE S T te es (rawD a)) (hi : atI [rawD b, natD k, .int seed, .int rest] m = some z) : EE S T (tOp (rIx K) te (tC (.int m))) es z := ee_ixR he h.at_ h.kn ee_int hi
theorem row_set1 {k' : Nat} (h : Dr G.K S T a b sc many k seed rest x2 x3 X) (he : EE X.S X.T te X.es (natD k')) : MS (tAsg te (gSub (tVar 0) (tC (.int 1)) rSetL)) X (Dr G.K S T a b sc many k' seed rest x2 x3) R := by
  obtain ⟨S1, T1, vs, h1, h2, h3, h4, r, rfl⟩ := h
  refine ms_set (a := a) (vs := vs) (m := 1) (ee_var rfl) r.own r.at_ r.kn ee_int (by rw [r.len]; rfl) he fun v _ => ⟨S1.put a (.lst (vs.set 1 v)), T1.kn (vs.set 1 v) [rawD b, natD k', .int seed, .int rest], vs.set 1 v, h1, fun b hb => ?_, h3, fun q hq => List.mem_cons_of_mem _ (h4 q hq), ⟨r.own, upd_same, by rw [List.length_set]; exact r.len, List.mem_cons_self, r.scr.upd r.at_ (fun c hc => upd_ne hc) fun q hq => List.mem_cons_of_mem _ hq⟩, rfl⟩
  show upd S1.fz a _ b = _
  rw [upd_ne hb]; exact h2 b hb
theorem row_set2 (h : Dr G.K S T a b sc many k seed rest x2 x3 X) (he : EE X.S X.T te X.es (.int w)) : MS (tAsg te (gSub (tVar 0) (tC (.int 2)) rSetL)) X (Dr G.K S T a b sc many k w rest x2 x3) R := by
  obtain ⟨S1, T1, vs, h1, h2, h3, h4, r, rfl⟩ := h
  refine ms_set (a := a) (vs := vs) (m := 2) (ee_var rfl) r.own r.at_ r.kn ee_int (by rw [r.len]; rfl) he fun v _ => ⟨S1.put a (.lst (vs.set 2 v)), T1.kn (vs.set 2 v) [rawD b, natD k, .int w, .int rest], vs.set 2 v, h1, fun b hb => ?_, h3, fun q hq => List.mem_cons_of_mem _ (h4 q hq), ⟨r.own, upd_same, by rw [List.length_set]; exact r.len, List.mem_cons_self, r.scr.upd r.at_ (fun c hc => upd_ne hc) fun q hq => List.mem_cons_of_mem _ hq⟩, rfl⟩
  show upd S1.fz a _ b = _
  rw [upd_ne hb]; exact h2 b hb
theorem row_set3 (h : Dr G.K S T a b sc many k seed rest x2 x3 X) (he : EE X.S X.T te X.es (.int w)) : MS (tAsg te (gSub (tVar 0) (tC (.int 3)) rSetL)) X (Dr G.K S T a b sc many k seed w x2 x3) R := by
  obtain ⟨S1, T1, vs, h1, h2, h3, h4, r, rfl⟩ := h
  refine ms_set (a := a) (vs := vs) (m := 3) (ee_var rfl) r.own r.at_ r.kn ee_int (by rw [r.len]; rfl) he fun v _ => ⟨S1.put a (.lst (vs.set 3 v)), T1.kn (vs.set 3 v) [rawD b, natD k, .int seed, .int w], vs.set 3 v, h1, fun b hb => ?_, h3, fun q hq => List.mem_cons_of_mem _ (h4 q hq), ⟨r.own, upd_same, by rw [List.length_set]; exact r.len, List.mem_cons_self, r.scr.upd r.at_ (fun c hc => upd_ne hc) fun q hq => List.mem_cons_of_mem _ hq⟩, rfl⟩
  show upd S1.fz a _ b = _
  rw [upd_ne hb]; exact h2 b hb
theorem seed_mul (h0 : 0 ≤ seed) (h1 : seed < 2147483647) : CMulW seed 48271 := by
  show seed.natAbs.log2 + (48271 : Int).natAbs.log2 < 1000000
  have a1 : seed.natAbs.log2 < 32 := by
    by_cases z : seed.natAbs = 0
    · rw [z]; decide
    · exact (Nat.log2_lt z).mpr (by omega)
  have a2 : (48271 : Int).natAbs.log2 < 32 := (Nat.log2_lt (by decide)).mpr (by decide)
  omega
theorem many_div (h0 : 1 ≤ many) (h1 : many ≤ 1000) (w : Int) : CDivW w many := by
  refine ⟨by omega, ?_⟩
  have := (Nat.log2_lt (n := many.natAbs) (k := 10) (by omega)).mpr (by omega)
  omega
theorem ee_lenS (h : ScrAt K S T b sc) (he : EE S T te es (rawD b)) : EE S T (tCB (uLen K) (tCons te tNil)) es (.int sc.length) := fun σ B I H1 e Q q =>
  he σ B I H1 e _ fun v H2 g2 r => ⟨b, sc.map V.int, by rw [raw_inv r], .inl (h.sq I.tbs (e.go g2)), by rw [List.length_map]; exact q _ H2 g2 (.int _)⟩
theorem ee_ixS {z : Int} (h : ScrAt K S T b sc) (he : EE S T te es (rawD b)) (hj : EE S T tj es (natD j)) (hz : sc[j]? = some z) : EE S T (tOp (rIx K) te tj) es (.int z) := fun σ B I H1 e Q q =>
  he σ B I H1 e _ fun v H2 g2 r2 => hj σ B I H2 (e.go g2) _ fun u H3 g3 r3 => by
    cases r3
    exact .inl ⟨b, sc.map V.int, (j : Int), .int z, raw_inv r2, rfl, h.sq I.tbs ((e.go g2).go g3), atI_nat (by rw [List.getElem?_map, hz]; rfl), q _ H3 (g2.trans g3) (.int _)⟩
theorem e_w_taken {Post : Hs → Ks → PyData → Prop} (hT : T.ts = G.ps) (h : W_taken G.K S T ds Post) : MS (t_w_taken G) ⟨S, T, ds.map some ++ List.replicate (4 - ds.length) none⟩ (fun X => Post X.S X.T .none) (fun X d => Post X.S X.T d) := by
  obtain ⟨a, sc, many, rfl, ⟨b, vs, k, seed, rest, h1, h2, h3, h4, h0, h5, h6, h7⟩, hm1, hm2, hPost⟩ := h
  have ret : ∀ {k : Nat} {seed rest r : Int} {x2 x3 : Option PyData} {X : Sta}, Dr G.K S T a b sc many k seed rest x2 x3 X → 0 ≤ seed → seed < 2147483647 → 0 ≤ rest → 0 ≤ r → r < many → Post X.S X.T (.int r) := fun {k seed rest r x2 x3 X} hd b1 b2 b3 b4 b5 => by
    obtain ⟨S1, T1, vs, g1, g2, g3, g4, rr, rfl⟩ := hd
    exact hPost S1 T1 r g1 g2 g3 g4 ⟨b, vs, k, seed, rest, rr.own, rr.at_, rr.len, rr.kn, rr.scr, b1, b2, b3⟩ b4 b5
  have D0 : Dr G.K S T a b sc many k seed rest none none ⟨S, T, [some (rawD a), some (.int many), none, none]⟩ := ⟨S, T, vs, rfl, fun _ _ => rfl, rfl, fun _ hq => hq, ⟨h1, h2, h3, h4, h0⟩, rfl⟩
  have r0 : RowIs G.K S T a b vs sc k seed rest := ⟨h1, h2, h3, h4, h0⟩
  have mp : 0 < many := by omega
  have hc0 : ET S T (tTest (tOp (uGt) (tOp (rIx G.K) (tVar 0) (tC (.int 3))) (tC (.int 0)))) [some (rawD a), some (.int many), none, none] (decide (0 < rest)) := tt_test (ee_op (row_ix r0 (ee_var rfl) rfl) ee_int fun _ => rv_gt)
  by_cases hr : 0 < rest
  · -- the rest of a great cell
    rw [decide_eq_true hr] at hc0
    refine ms_ends (ms_if hc0 (fun _ => ?_) fun z => nomatch z)
    refine ms_seq (P1 := Dr G.K S T a b sc many k seed rest (some (.int (rest % many))) none) (ms_es (es_set (ee_op (ee_cb (aa_cons (row_ix r0 (ee_var rfl) rfl) aa_nil) fun _ => rc_int) (ee_var rfl) fun _ => rv_mod mp)) ⟨S, T, vs, rfl, fun _ _ => rfl, rfl, fun _ hq => hq, r0, rfl⟩) fun X hX => ?_
    refine ms_seq (P1 := Dr G.K S T a b sc many k seed (rest / many) (some (.int (rest % many))) none) (row_set3 hX ?_) fun X hX => ?_
    · obtain ⟨S1, T1, vs, g1, g2, g3, g4, rr, rfl⟩ := hX
      exact ee_op (row_ix rr (ee_var rfl) rfl) (ee_var rfl) fun _ => rv_fdvP (many_div hm1 hm2 _)
    have hp := ret hX h5 h6 (Int.ediv_nonneg h7 (by omega)) (Int.emod_nonneg rest (by omega)) (Int.emod_lt_of_pos rest mp)
    obtain ⟨S1, T1, vs, g1, g2, g3, g4, rr, rfl⟩ := hX
    exact ms_rt (es_ret (ee_var rfl)) hp
  · rw [decide_eq_false hr] at hc0
    refine ms_seq (P1 := Dr G.K S T a b sc many k seed rest none none) (ms_if hc0 (fun z => nomatch z) fun _ => ms_es es_skip D0) fun X hX => ?_
    refine ms_seq (P1 := Dr G.K S T a b sc many (k + 1) seed rest none none) (row_set1 hX ?_) fun X hX => ?_
    · obtain ⟨S1, T1, vs, g1, g2, g3, g4, rr, rfl⟩ := hX
      exact ee_op (row_ix (z := natD k) rr (ee_var rfl) rfl) ee_int fun _ => rv_addI
    by_cases hk : sc.length < k + 1
    · refine ms_ends (ms_mono (ms_if (b := true) (P := fun _ => False) ?_ (fun _ => ?_) fun z => nomatch z) (fun _ z => z) fun X d z => z)
      · obtain ⟨S1, T1, vs, g1, g2, g3, g4, rr, rfl⟩ := hX
        exact et_is' (tt_test (ee_op (row_ix (z := natD (k + 1)) rr (ee_var rfl) rfl) (ee_lenS rr.scr (row_ix (z := rawD b) rr (ee_var rfl) rfl)) fun _ => rv_gt)) (decide_eq_true (by omega))
      · refine ms_seq (P1 := Dr G.K S T a b sc many (k + 1) ((seed * 48271 + 11) % 2147483647) rest none none) (row_set2 hX ?_) fun X hX => ?_
        · obtain ⟨S1, T1, vs, g1, g2, g3, g4, rr, rfl⟩ := hX
          exact ee_op (ee_cb (aa_cons (ee_op (ee_op (row_ix rr (ee_var rfl) rfl) ee_int fun _ => rv_mulI (seed_mul h5 h6)) ee_int fun _ => rv_addI) aa_nil) fun _ => rc_int) ee_int fun _ => rv_mod (by decide)
        have hp := ret (r := (seed * 48271 + 11) % 2147483647 / 7 % many) hX (Int.emod_nonneg _ (by decide)) (Int.emod_lt_of_pos _ (by decide)) h7 (Int.emod_nonneg _ (by omega)) (Int.emod_lt_of_pos _ mp)
        obtain ⟨S1, T1, vs, g1, g2, g3, g4, rr, rfl⟩ := hX
        exact ms_rt (es_ret (ee_op (ee_cb (aa_cons (ee_op (row_ix rr (ee_var rfl) rfl) ee_int fun _ => rv_fdvP ⟨by decide, by decide⟩) aa_nil) fun _ => rc_int) (ee_var rfl) fun _ => rv_mod mp)) hp
    · have hk' : k < sc.length := by omega
      refine ms_seq (P1 := Dr G.K S T a b sc many (k + 1) seed rest none none) (ms_if (b := false) ?_ (fun z => nomatch z) fun _ => ms_es es_skip ?_) fun X hX => ?_
      · obtain ⟨S1, T1, vs, g1, g2, g3, g4, rr, rfl⟩ := hX
        exact et_is' (tt_test (ee_op (row_ix (z := natD (k + 1)) rr (ee_var rfl) rfl) (ee_lenS rr.scr (row_ix (z := rawD b) rr (ee_var rfl) rfl)) fun _ => rv_gt)) (decide_eq_false (by omega))
      · exact hX
      refine ms_seq (P1 := Dr G.K S T a b sc many (k + 1) seed rest none (some (.int sc[k]))) ?_ fun X hX => ?_
      · obtain ⟨S1, T1, vs, g1, g2, g3, g4, rr, rfl⟩ := hX
        exact ms_es (es_set (ee_ixS rr.scr (row_ix (z := rawD b) rr (ee_var rfl) rfl) (ee_is (ee_op (row_ix (z := natD (k + 1)) rr (ee_var rfl) rfl) ee_int fun _ => rv_sub) (show PyData.int (((k + 1 : Nat) : Int) - 1) = natD k from congrArg PyData.int (by omega))) (List.getElem?_eq_getElem hk'))) ⟨S1, T1, vs, g1, g2, g3, g4, rr, rfl⟩
      refine ms_seq (P1 := Dr G.K S T a b sc many (k + 1) ((seed * 48271 + sc[k] + 11) % 2147483647) rest none (some (.int sc[k]))) (row_set2 hX ?_) fun X hX => ?_
      · obtain ⟨S1, T1, vs, g1, g2, g3, g4, rr, rfl⟩ := hX
        exact ee_op (ee_cb (aa_cons (ee_op (ee_op (ee_op (row_ix rr (ee_var rfl) rfl) ee_int fun _ => rv_mulI (seed_mul h5 h6)) (ee_var rfl) fun _ => rv_addI) ee_int fun _ => rv_addI) aa_nil) fun _ => rc_int) ee_int fun _ => rv_mod (by decide)
      have fin : ∀ {rest' : Int} {X : Sta}, 0 ≤ rest' → Dr G.K S T a b sc many (k + 1) ((seed * 48271 + sc[k] + 11) % 2147483647) rest' none (some (.int sc[k])) X → MS (tRet (tOp (uMod) (tCB (uInt) (tCons (tVar 3) tNil)) (tVar 1))) X (fun X => Post X.S X.T .none) (fun X d => Post X.S X.T d) := fun {rest' X} h0 hX => by
        have hp := ret (r := sc[k] % many) hX (Int.emod_nonneg _ (by decide)) (Int.emod_lt_of_pos _ (by decide)) h0 (Int.emod_nonneg _ (by omega)) (Int.emod_lt_of_pos _ mp)
        obtain ⟨S1, T1, vs, g1, g2, g3, g4, rr, rfl⟩ := hX
        exact ms_rt (es_ret (ee_op (ee_cb (aa_cons (ee_var rfl) aa_nil) fun _ => rc_int) (ee_var rfl) fun _ => rv_mod mp)) hp
      have hc1 : ET X.S X.T (tTest (tOp (uGe G.K) (tVar 3) (tOp (uPow) (tC (.int 10)) (tC (.int 18))))) X.es (decide ((10 : Int) ^ 18 ≤ sc[k])) := by
        obtain ⟨S1, T1, vs, g1, g2, g3, g4, rr, rfl⟩ := hX
        exact tt_test (ee_op (ee_var (d := .int sc[k]) rfl) (ee_op (z := .int ((10 : Int) ^ 18)) ee_int ee_int fun _ => rv_pow ⟨by decide, by decide, by decide⟩) fun _ => rv_geI)
      by_cases hg : (10 : Int) ^ 18 ≤ sc[k]
      · rw [decide_eq_true hg] at hc1
        refine ms_seq (P1 := Dr G.K S T a b sc many (k + 1) ((seed * 48271 + sc[k] + 11) % 2147483647) (sc[k] / many) none (some (.int sc[k]))) (ms_if hc1 (fun _ => row_set3 hX ?_) fun z => nomatch z) fun X hX => fin (Int.ediv_nonneg (Int.le_trans (by decide) hg) (by omega)) hX
        obtain ⟨S1, T1, vs, g1, g2, g3, g4, rr, rfl⟩ := hX
        exact ee_op (ee_var rfl) (ee_var rfl) fun _ => rv_fdvP (many_div hm1 hm2 _)
      · rw [decide_eq_false hg] at hc1
        exact ms_seq (P1 := Dr G.K S T a b sc many (k + 1) ((seed * 48271 + sc[k] + 11) % 2147483647) rest none (some (.int sc[k]))) (ms_if hc1 (fun z => nomatch z) fun _ => ms_es es_skip hX) fun X hX => fin h7 hX
end
end KV
set_option Elab.async false
set_option linter.all false
set_option maxRecDepth 100000
set_option maxHeartbeats 4000000
/-! Evaluation: the law's comparison. -/
namespace KV
open PySem PySem.Spec PyProof.Rows L2 GxR KO Smx
section
variable {G : Gd} {S S' : Hs} {T T' Ts : Ks} {es : Es} {te to ta tb tc tj tk : TE} {t : TA} {u : TS} {d x : PyData} {n i j k : Nat} {ds : List PyData}
/-- of one piece -/
def Atom (x : PyData) : Prop := (∃ i, x = .int i) ∨ ∃ b, x = .bool b
theorem e_alike_atom (hx : Atom x) (hp : x.plain = true := by cases x <;> rfl) : ES S ⟨G.ps, []⟩ (tSeq (tIfS (tOr (tTest (tOp (uIsN) (tVar 1) (tC .non))) (tB (tCB (uIsi G.K) (tCons (tVar 1) (tCons (tC (.ty "str")) tNil))))) (tRet (tAndV (tOp (rEqP G.K) (tVar 0) (tVar 1)) (tOp (rEqP G.K) (tCB (uIsi G.K) (tCons (tVar 0) (tCons (tC (.ty "str")) tNil))) (tCB (uIsi G.K) (tCons (tVar 1) (tCons (tC (.ty "str")) tNil)))))) tNext) (tRet (tAndV (tCB (uIsi G.K) (tCons (tVar 0) (tCons (tC (.ty "int")) tNil))) (tAndV (tOp (rEqP G.K) (tCB (uIsi G.K) (tCons (tVar 0) (tCons (tC (.ty "bool")) tNil))) (tCB (uIsi G.K) (tCons (tVar 1) (tCons (tC (.ty "bool")) tNil)))) (tOp (rEqP G.K) (tVar 0) (tVar 1)))))) [some x, some x, none] (.rt (.bool true)) := by
  have hn : x ≠ .none := by rcases hx with ⟨i, rfl⟩ | ⟨b, rfl⟩ <;> simp
  have hs : isStrD x = false := by rcases hx with ⟨i, rfl⟩ | ⟨b, rfl⟩ <;> rfl
  have hi : isIntD x = true := by rcases hx with ⟨i, rfl⟩ | ⟨b, rfl⟩ <;> rfl
  have hd : x.depth = 0 := by rcases hx with ⟨i, rfl⟩ | ⟨b, rfl⟩ <;> rfl
  have he : PyData.eqv x x = true := by
    rcases hx with ⟨i, rfl⟩ | ⟨b, rfl⟩
    · rw [eqv_int]; simp
    · simp [PyData.eqv]
  have hbb : ∀ b : Bool, PyData.eqv (.bool b) (.bool b) = true := fun b => by simp [PyData.eqv]
  refine es_seq (es_if (b := false) (et_is' (tt_or (tt_test (ee_op (ee_var rfl) ee_non fun _ => rv_isX hn)) fun _ => tt_B (ee_isStr (ee_var rfl) hp)) (by rw [hs]; rfl)) (fun z => nomatch z) fun _ => es_skip) (es_ret (ee_is (ee_and (ee_isInt (ee_var rfl) hp) fun _ => ee_and (ee_op (ee_isBool (ee_var rfl) hp) (ee_isBool (ee_var rfl) hp) fun _ => rv_eq rfl rfl (by simp [PyData.depth])) fun _ => ee_op (ee_var rfl) (ee_var rfl) fun _ => rv_eq hp hp (by rw [hd]; omega)) (by rw [hi, hbb, he]; rfl)))
theorem e_w_alike0 (h : R_alike 0 ds d) : ESr S ⟨G.ps, []⟩ (t_w_alike0 G) (ds.map some ++ List.replicate (3 - ds.length) none) d := by
  obtain ⟨x, rfl, hx, rfl⟩ := h
  have ha : Atom x := by
    cases x with
    | int i => exact .inl ⟨i, rfl⟩
    | bool b => exact .inr ⟨b, rfl⟩
    | _ => exact hx.elim
  have hp : x.plain = true := by rcases ha with ⟨i, rfl⟩ | ⟨b, rfl⟩ <;> rfl
  have ht : isTupD x = false := by rcases ha with ⟨i, rfl⟩ | ⟨b, rfl⟩ <;> rfl
  have hl : isLstD x = false := by rcases ha with ⟨i, rfl⟩ | ⟨b, rfl⟩ <;> rfl
  exact .inl (es_seq (es_if (b := false) (et_is' (tt_B (ee_isTL (ee_var rfl) hp)) (by rw [ht, hl]; rfl)) (fun z => nomatch z) fun _ => es_skip) (e_alike_atom ha hp))
theorem alk_plain : ∀ {k : Nat} {x : PyData}, Alk k x → x.plain = true ∧ x.depth ≤ k
  | _, .int _, _ => ⟨rfl, Nat.zero_le _⟩
  | _, .bool _, _ => ⟨rfl, Nat.zero_le _⟩
  | k + 1, .tuple xs, h => by
    have h1 : ∀ xs : List PyData, (∀ y ∈ xs, Alk k y) → PyData.plainAll xs = true ∧ PyData.depthAll xs ≤ k := fun xs => by
      induction xs with
      | nil => exact fun _ => ⟨rfl, Nat.zero_le _⟩
      | cons y ys ih =>
        intro hy
        obtain ⟨a1, a2⟩ := alk_plain (hy y List.mem_cons_self)
        obtain ⟨b1, b2⟩ := ih fun z hz => hy z (List.mem_cons_of_mem _ hz)
        rw [PyData.plainAll, PyData.depthAll, a1, b1]
        exact ⟨rfl, by omega⟩
    obtain ⟨a1, a2⟩ := h1 xs h.2
    rw [PyData.plain, PyData.depth]
    exact ⟨a1, by omega⟩
  | 0, .tuple _, h => h.elim
  | 0, .none, h | _ + 1, .none, h | 0, .str _, h | _ + 1, .str _, h | 0, .list _, h | _ + 1, .list _, h | 0, .dict _, h | _ + 1, .dict _, h => h.elim
theorem e_w_alike (h : R_alike (k + 1) ds d) : ESr S ⟨G.ps, []⟩ (t_w_alike G (spR G.ps (R_alike k))) (ds.map some ++ List.replicate (3 - ds.length) none) d := by
  obtain ⟨x, rfl, hx, rfl⟩ := h
  obtain ⟨hp, hd⟩ := alk_plain hx
  by_cases ha : Atom x
  · have ht : isTupD x = false := by rcases ha with ⟨i, rfl⟩ | ⟨b, rfl⟩ <;> rfl
    have hl : isLstD x = false := by rcases ha with ⟨i, rfl⟩ | ⟨b, rfl⟩ <;> rfl
    exact .inl (es_seq (es_if (b := false) (et_is' (tt_B (ee_isTL (ee_var rfl) hp)) (by rw [ht, hl]; rfl)) (fun z => nomatch z) fun _ => es_skip) (e_alike_atom ha hp))
  · obtain ⟨xs, rfl, hl, hxs⟩ : ∃ xs, x = .tuple xs ∧ xs.length ≤ 1000 ∧ ∀ y ∈ xs, Alk k y := by
      cases x with
      | int i => exact absurd (.inl ⟨i, rfl⟩) ha
      | bool b => exact absurd (.inr ⟨b, rfl⟩) ha
      | tuple xs => exact ⟨xs, rfl, hx⟩
      | _ => exact hx.elim
    refine .inl (es_seq' (es_if (b := true) (et_is' (tt_B (ee_isTL (ee_var rfl) hp)) rfl) (fun _ => ?_) fun z => nomatch z))
    refine es_seq (es_if (b := false) (et_is' (tt_or (tt_not (tt_B (ee_isTL (ee_var rfl) hp))) fun _ => tt_test (ee_op (ee_isLst (ee_var rfl) hp) (ee_isLst (ee_var rfl) hp) fun _ => rv_ne rfl rfl (by simp [PyData.depth]))) (by simp [isTupD, isLstD, PyData.eqv])) (fun z => nomatch z) fun _ => es_skip) ?_
    refine es_seq (es_if (b := false) (et_is' (tt_test (ee_op (ee_cb (aa_cons (ee_var rfl) aa_nil) fun _ => rc_lenT) (ee_cb (aa_cons (ee_var rfl) aa_nil) fun _ => rc_lenT) fun _ => rv_neI)) (by simp)) (fun z => nomatch z) fun _ => es_skip) ?_
    refine es_ret (ee_is (ee_op (ee_is (ee_lcN (k := xs.length) (f := fun j => natD j) (p := fun _ => false) (aa_cons (ee_cb (aa_cons (ee_var (d := .tuple xs) rfl) aa_nil) fun _ => rc_lenT) aa_nil) (by omega) (by simp) fun j hj S' hz => ⟨et_is' (tt_not (tt_B (ee_call (aa_cons (d := xs[j]) ?_ (aa_cons (d := xs[j]) ?_ aa_nil)) ⟨xs[j], rfl, hxs _ (List.getElem_mem hj), rfl⟩ tab_of))) rfl, fun z => nomatch z⟩) (show PyData.list (((List.range xs.length).filter fun _ => false).map fun j => natD j) = .list [] by rw [List.filter_eq_nil_iff.mpr (by simp)]; rfl)) (ee_lst aa_nil (by simp)) fun _ => rv_eq rfl rfl (by simp [PyData.depth, PyData.depthAll])) (by simp [PyData.eqv, PyData.eqvAll]))
    · exact ee_op (ee_var (d := .tuple xs) rfl) (ee_var (d := natD j) rfl) fun _ => rv_ixT (atI_nat (List.getElem?_eq_getElem hj))
    · exact ee_op (ee_var (d := .tuple xs) rfl) (ee_var (d := natD j) rfl) fun _ => rv_ixT (atI_nat (List.getElem?_eq_getElem hj))
theorem c_w_alike (hx : Alk 2 x) (hP : ∀ y ∈ G.ps, y ∈ Ts.ts) (h1 : EE S Ts ta es x) (h2 : EE S Ts tb es x) : EE S Ts (tCall (sp_w_alike G) [] C8.E0 (tCons ta (tCons tb tNil))) es (.bool true) := ee_call (aa_cons h1 (aa_cons h2 aa_nil)) ⟨x, rfl, hx, rfl⟩ hP
end
end KV
set_option Elab.async false
set_option linter.all false
set_option maxRecDepth 100000
set_option maxHeartbeats 4000000
/-! Evaluation: the law's web. -/
namespace KV
open PySem PySem.Spec PyProof.Rows L2 GxR KO Smx
/-- tests that write -/
def MT (t : TT) (X : Sta) (P : Sta → Bool → Prop) : Prop := ∀ σ H, StOk X σ H → ∀ Q : Bool → Hp → Prop, (∀ X' b H', P X' b → Fr X.S H X'.S H' → StOk X' σ H' → Q b H') → t σ H Q
/-- all but the row of draws is as it was -/
structure Up (K : PySem.W.Frag) (a : Addr) (sc : List Int) (X X' : Sta) : Prop where
  es : X'.es = X.es
  ad : X'.S.ad = X.S.ad
  fz : ∀ b, b ≠ a → X'.S.fz b = X.S.fz b
  ts : X'.T.ts = X.T.ts
  ow : ∀ q ∈ X.T.ow, q ∈ X'.T.ow
  row : RowAt K X'.S X'.T a sc
section
variable {G : Gd} {S S' : Hs} {T T' Ts : Ks} {es : Es} {te to ta tb tc tj tk : TE} {t : TA} {tt tu : TT} {u t1 t2 : TS} {d x y z : PyData} {n i j k : Nat} {ds : List PyData} {X X1 X2 : Sta} {P : Sta → Prop} {P1 P2 : Sta → PyData → Prop} {PB PB1 : Sta → Bool → Prop} {R : Sta → PyData → Prop} {K : PySem.W.Frag} {r : R2} {a : Addr} {sc : List Int} {m : Int}
theorem Up.refl (h : RowAt G.K X.S X.T a sc) : Up G.K a sc X X := ⟨rfl, rfl, fun _ _ => rfl, rfl, fun _ h => h, h⟩
theorem Up.trans (h : Up G.K a sc X X1) (h' : Up G.K a sc X1 X2) : Up G.K a sc X X2 := ⟨h'.es.trans h.es, h'.ad.trans h.ad, fun b hb => (h'.fz b hb).trans (h.fz b hb), h'.ts.trans h.ts, fun q hq => h'.ow q (h.ow q hq), h'.row⟩
theorem me_opL (h1 : ME ta X P1) (h2 : ∀ X' x, P1 X' x → ∃ y z, EE X'.S X'.T tb X'.es y ∧ (∀ B, RV X'.S r x y B z) ∧ P2 X' z) : ME (tOp r ta tb) X P2 := fun σ H k Q q => h1 σ H k _ fun X' x v H' p' f k' r' => by
  obtain ⟨y, z, he, hr, hp⟩ := h2 X' x p'
  exact he σ _ k'.inn H' k'.ext _ fun u H2 g2 r2 => hr (hid X'.S H') v u H2 (k'.ext.go g2) (r'.mono (g2.hid _)) r2 Q fun w H3 g3 r3 => q X' z w H3 hp (f.trans (Fr.of (g2.trans g3))) (k'.go (g2.trans g3)) r3
theorem me_opR (h1 : EE X.S X.T ta X.es x) (h2 : ME tb X P1) (h : ∀ X' y, P1 X' y → ∃ z, (∀ B, RV X'.S r x y B z) ∧ P2 X' z) : ME (tOp r ta tb) X P2 := fun σ H k Q q => h1 σ _ k.inn H k.ext _ fun v H1 g1 r1 => h2 σ H1 (k.go g1) _ fun X' y u H' p' f k' r' => by
  obtain ⟨z, hr, hp⟩ := h X' y p'
  exact hr (hid X'.S H') v u H' k'.ext (r1.mono f.keep) r' Q fun w H3 g3 r3 => q X' z w H3 hp ((Fr.of g1).trans (f.trans (Fr.of g3))) (k'.go g3) r3
theorem me_call {W : Hs → Ks → List PyData → (Hs → Ks → PyData → Prop) → Prop} (ha : EA X.S X.T t X.es ds) (hT : X.T.ts = G.ps) (hR : W X.S X.T ds fun S' T' d => P1 ⟨S', T', X.es⟩ d) : ME (tCall (spW G.ps W) [] C8.E0 t) X P1 := fun σ H k Q q =>
  ha σ _ k.inn H k.ext _ fun us H3 g3 r3 => by
    have k3 := k.go g3
    refine ⟨X.S, X.T, ds, _, by rw [List.append_nil]; exact r3, k3.trk, k3.fz, k3.inn.tbs, hT, hR, fun S' T' d v H' p' f r' => ?_⟩
    have f0 := (Fr.of (S := X.S) g3).trans f
    have I' := k.inn.mono f0.keep
    exact q ⟨S', T', X.es⟩ d v H' p' f0 ⟨⟨I'.len, I'.get, r'.kn⟩, r'.trk, r'.fz⟩ r'.rp
theorem ms_parOwn (h1 : ME te X P1) (h2 : ∀ X' d, P1 X' d → EN X'.S X'.T to X'.es ds) (hp : ∀ X' d a vs, P1 X' d → a ∉ X'.S.ad → X'.S.fz a = none → vs.length = ds.length → P ⟨X'.S.own a (.lst vs), X'.T.kn vs ds, (X'.es.set i (some d)).set j (some (rawD a))⟩) : MS (tPar i j (tCons te (tCons to tNil))) X P R := fun σ H k D kn kr =>
  h1 σ H k _ fun X' d v H1 p' f1 k1 r1 => h2 X' d p' σ _ k1.inn H1 k1.ext _ fun a vs H2 g2 n2 e2 r2 => ⟨v, .ref a, rfl, by
    have k1' : StOk ⟨X'.S, X'.T, X'.es.set i (some d)⟩ (σ.set i (some v)) H1 := ⟨k1.inn.set r1 i, k1.trk, k1.fz⟩
    have k3 := own_ok (i := j) (T' := X'.T.kn vs ds) (es' := (X'.es.set i (some d)).set j (some (rawD a))) (o := .lst vs) k1' g2 n2 e2 rfl (fun q hq => by
      rcases List.mem_cons.mp hq with z | z
      · rw [z]; exact r2
      · exact (k1'.inn.tbs.ow q z).mono (gr_own g2 n2)) rfl
    exact kn _ _ _ (hp X' d a vs p' (fun z => k1.trk a z n2) (k1.fz.back n2) r2.len) (f1.trans (fr_own g2 n2)) k3⟩
theorem ms_ifT (h : MT tt X PB) (h1 : ∀ X', PB X' true → MS t1 X' P R) (h2 : ∀ X', PB X' false → MS t2 X' P R) : MS (tIfS tt t1 t2) X P R := fun σ H k D kn kr => h σ H k _ fun X' b H' p f k' => by
  cases b with
  | true =>
    show t1 D σ H'
    exact h1 X' p σ H' k' D (fun X2 σ' H2 p2 f2 k2 => kn X2 σ' H2 p2 (f.trans f2) k2) fun X2 d v H2 r2 f2 k2 => kr X2 d v H2 r2 (f.trans f2) k2
  | false =>
    show t2 D σ H'
    exact h2 X' p σ H' k' D (fun X2 σ' H2 p2 f2 k2 => kn X2 σ' H2 p2 (f.trans f2) k2) fun X2 d v H2 r2 f2 k2 => kr X2 d v H2 r2 (f.trans f2) k2
/-! tests of which only the row of draws may change -/
theorem mu_et {b : Bool} (hr : RowAt G.K X.S X.T a sc) (h : ET X.S X.T tt X.es b) : MT tt X fun X' _ => Up G.K a sc X X' := fun σ H k Q q => h σ _ k.inn H k.ext _ fun H1 g => q X b H1 (Up.refl hr) (.of g) (k.go g)
theorem mu_and (h1 : MT tt X fun X' _ => Up G.K a sc X X') (h2 : ∀ X', Up G.K a sc X X' → MT tu X' fun X2 _ => Up G.K a sc X' X2) : MT (tAnd tt tu) X fun X' _ => Up G.K a sc X X' := fun σ H k Q q => h1 σ H k _ fun X' b H' p f k' => by
  cases b with
  | true =>
    show tu σ H' Q
    exact h2 X' p σ H' k' Q fun X2 b H2 p2 f2 k2 => q X2 b H2 (p.trans p2) (f.trans f2) k2
  | false =>
    show Q false H'
    exact q X' false H' p f k'
theorem mu_or (h1 : MT tt X fun X' _ => Up G.K a sc X X') (h2 : ∀ X', Up G.K a sc X X' → MT tu X' fun X2 _ => Up G.K a sc X' X2) : MT (tOr tt tu) X fun X' _ => Up G.K a sc X X' := fun σ H k Q q => h1 σ H k _ fun X' b H' p f k' => by
  cases b with
  | true =>
    show Q true H'
    exact q X' true H' p f k'
  | false =>
    show tu σ H' Q
    exact h2 X' p σ H' k' Q fun X2 b H2 p2 f2 k2 => q X2 b H2 (p.trans p2) (f.trans f2) k2
theorem mu_test (h : ME te X fun X' d => Up G.K a sc X X' ∧ ∃ b, d = .bool b) : MT (tTest te) X fun X' _ => Up G.K a sc X X' := fun σ H k Q q => h σ H k _ fun X' d v H' p f k' r' => by
  obtain ⟨p, b, rfl⟩ := p
  cases r'
  exact ⟨b, rfl, q X' b H' p f k'⟩
theorem me_taken (hr : RowAt G.K X.S X.T a sc) (hT : X.T.ts = G.ps) (hm1 : 1 ≤ m) (hm2 : m ≤ 1000) (h1 : EE X.S X.T ta X.es (rawD a)) (h2 : EE X.S X.T tb X.es (.int m)) : ME (tCall (sp_w_taken G) [] C8.E0 (tCons ta (tCons tb tNil))) X fun X' d => Up G.K a sc X X' ∧ ∃ r : Int, d = .int r ∧ 0 ≤ r ∧ r < m :=
  me_call (aa_cons h1 (aa_cons h2 aa_nil)) hT ⟨a, sc, m, rfl, hr, hm1, hm2, fun S' T' r g1 g2 g3 g4 g5 g6 g7 => ⟨⟨rfl, g1, g2, g3, g4, g5⟩, r, rfl, g6, g7⟩⟩
/-- taken(row, m) == c -/
theorem mu_draw {c : Int} (hr : RowAt G.K X.S X.T a sc) (hT : X.T.ts = G.ps) (hm1 : 1 ≤ m) (hm2 : m ≤ 1000) (h1 : EE X.S X.T ta X.es (rawD a)) : MT (tTest (tOp (rEqP K) (tCall (sp_w_taken G) [] C8.E0 (tCons ta (tCons (tC (.int m)) tNil))) (tC (.int c)))) X fun X' _ => Up G.K a sc X X' :=
  mu_test (me_opL (me_taken hr hT hm1 hm2 h1 ee_int) fun X' x ⟨hu, r, e, _, _⟩ => ⟨.int c, .bool (decide (r = c)), ee_int, by rw [e]; exact fun _ => rv_eqI, hu, _, rfl⟩)
theorem ei2_range2 {f0 : Hp} {ta : TA} {m n : Int} (h : EA S Ts ta es [.int m, .int n]) (h0 : -(2 ^ 62) ≤ m ∧ m < 2 ^ 62 ∧ -(2 ^ 62) ≤ n ∧ n < 2 ^ 62) : EI2 S f0 Ts (iRng2 ta) es (rangeD m (n - m).toNat) := fun σ B I H1 e R q => h σ B I H1 e _ fun vs H2 g r => by
  cases r with
  | cons r rs =>
    cases rs with
    | cons r' rs => cases rs; cases r; cases r'; exact ⟨m, n, rfl, h0, q _ H2 g fun _ _ => walkD_range⟩
/-- pairs up to (i, j) -/
structure Prs (n : Nat) (ps : List (Nat × Nat)) (i j : Nat) : Prop where
  pr : ∀ p ∈ ps, p.1 < p.2 ∧ p.2 < n ∧ (p.1 < i ∨ (p.1 = i ∧ p.2 < j))
  so : ps.Pairwise fun p q => p.1 < q.1 ∨ (p.1 = q.1 ∧ p.2 < q.2)
  few : ps.length ≤ 10 * i + j
theorem Prs.more {ps : List (Nat × Nat)} {j' : Nat} (h : Prs n ps i j) (hj : j ≤ j') : Prs n ps i j' := ⟨fun p hp => by obtain ⟨a, b, c⟩ := h.pr p hp; exact ⟨a, b, by omega⟩, h.so, by have := h.few; omega⟩
theorem Prs.next {ps : List (Nat × Nat)} (h : Prs n ps i j) (hj : j ≤ 10) : Prs n ps (i + 1) 0 := ⟨fun p hp => by obtain ⟨a, b, c⟩ := h.pr p hp; exact ⟨a, b, by omega⟩, h.so, by have := h.few; omega⟩
theorem Prs.add {ps : List (Nat × Nat)} (h : Prs n ps i j) (h1 : i < j) (h2 : j < n) : Prs n (ps ++ [(i, j)]) i (j + 1) := ⟨fun p hp => by
  rcases List.mem_append.mp hp with q | q
  · obtain ⟨a, b, c⟩ := h.pr p q; exact ⟨a, b, by omega⟩
  · rw [List.mem_singleton.mp q]; exact ⟨h1, h2, .inr ⟨rfl, Nat.lt_succ_self _⟩⟩, List.pairwise_append.mpr ⟨h.so, List.pairwise_singleton _ _, fun p hp q hq => by
  rw [List.mem_singleton.mp hq]
  obtain ⟨a, b, c⟩ := h.pr p hp
  exact c⟩, by have := h.few; rw [List.length_append, List.length_singleton]; omega⟩
/-- within the drawing of a web -/
def Wb (K : PySem.W.Frag) (S : Hs) (T : Ks) (a p : Addr) (sc : List Int) (n : Nat) (way : Option PyData) (ps : List (Nat × Nat)) (x5 x6 x7 : Option PyData) (X : Sta) : Prop := ∃ S1 T1 vs, S1.ad = p :: S.ad ∧ (∀ b, b ≠ a → b ≠ p → S1.fz b = S.fz b) ∧ T1.ts = T.ts ∧ (∀ q ∈ T.ow, q ∈ T1.ow) ∧ RowAt K S1 T1 a sc ∧ S1.fz p = some (.lst vs) ∧ (vs, ps.map pairD) ∈ T1.ow ∧ vs.length = ps.length ∧ X = ⟨S1, T1, [some (rawD a), some (.int 5), some (natD n), some (rawD p), way, x5, x6, x7]⟩
theorem Wb.up {p : Addr} {way x5 x6 x7 : Option PyData} {ps : List (Nat × Nat)} (hp : p ≠ a) (h : Wb G.K S T a p sc n way ps x5 x6 x7 X) (hu : Up G.K a sc X X1) : Wb G.K S T a p sc n way ps x5 x6 x7 X1 := by
  obtain ⟨S1, T1, vs, h1, h2, h3, h4, h5, h6, h7, h8, rfl⟩ := h
  obtain ⟨g1, g2, g3, g4, g5, g6⟩ := hu
  refine ⟨X1.S, X1.T, vs, g2.trans h1, fun b b1 b2 => (g3 b b1).trans (h2 b b1 b2), g4.trans h3, fun q hq => g5 q (h4 q hq), g6, (g3 p hp).trans h6, g5 _ h7, h8, ?_⟩
  cases X1
  simp only at g1 ⊢
  rw [g1]
theorem RowAt.own {p : Addr} {o : HO} {vs : List V} (h : RowAt G.K S T a sc) (hp : p ≠ a) (hn : S.fz p = none) : RowAt G.K (S.own p o) (T.kn vs ds) a sc := by
  obtain ⟨b, ws, k, seed, rest, h1, h2, h3, h4, h0, h5⟩ := h
  refine ⟨b, ws, k, seed, rest, List.mem_cons_of_mem _ h1, ?_, h3, List.mem_cons_of_mem _ h4, h0.mono (fun c o xs e => ?_) fun q hq => List.mem_cons_of_mem _ hq, h5⟩
  · show upd S.fz p o a = _
    rw [upd_ne (fun z => hp z.symm)]; exact h2
  · show upd S.fz p _ c = _
    rw [upd_ne (fun z => by rw [z, hn] at e; cases e)]; exact e
theorem RowAt.put {p : Addr} {o : HO} {vs vs0 : List V} (h : RowAt G.K S T a sc) (hp : p ≠ a) (hl : S.fz p = some (.lst vs0)) : RowAt G.K (S.put p o) (T.kn vs ds) a sc := by
  obtain ⟨b, ws, k, seed, rest, h1, h2, h3, h4, h0, h5⟩ := h
  refine ⟨b, ws, k, seed, rest, h1, ?_, h3, List.mem_cons_of_mem _ h4, h0.upd hl (fun c hc => upd_ne hc) fun q hq => List.mem_cons_of_mem _ hq, h5⟩
  show upd S.fz p o a = _
  rw [upd_ne (fun z => hp z.symm)]; exact h2
theorem RowAt.mem (h : RowAt G.K S T a sc) : a ∈ S.ad := by
  obtain ⟨b, ws, k, seed, rest, h1, _⟩ := h
  exact h1
theorem e_w_web {Post : Hs → Ks → PyData → Prop} (hT : T.ts = G.ps) (h : W_web G.K S T ds Post) : MS (t_w_web G) ⟨S, T, ds.map some ++ List.replicate (8 - ds.length) none⟩ (fun X => Post X.S X.T .none) (fun X d => Post X.S X.T d) := by
  obtain ⟨a, sc, rfl, hrow, hPost⟩ := h
  let X0 : Sta := ⟨S, T, [some (rawD a), some (.int 5), none, none, none, none, none, none]⟩
  refine ms_seq (P1 := fun X => ∃ n p, 1 ≤ n ∧ n ≤ 5 ∧ p ∉ S.ad ∧ S.fz p = none ∧ p ≠ a ∧ Wb G.K S T a p sc n none [] none none none X) (ms_parOwn (X := X0) (ds := []) (P1 := fun X' z => Up G.K a sc X0 X' ∧ ∃ n : Nat, z = natD n ∧ 1 ≤ n ∧ n ≤ 5) (me_opR ee_int (me_taken (X := X0) (m := 5) hrow hT (by decide) (by decide) (ee_var rfl) (ee_var rfl)) fun X' y hy => ?_) (fun X' d _ => en_lst aa_nil (by simp)) fun X' d p vs hd h1 h2 h3 => ?_) ?_
  · obtain ⟨hu, r, rfl, r0, r1⟩ := hy
    exact ⟨.int (1 + r), fun _ => rv_addI, hu, (1 + r).toNat, congrArg PyData.int (by omega), by omega, by omega⟩
  · obtain ⟨hu, n, rfl, n1, n5⟩ := hd
    have hv : vs = [] := List.eq_nil_of_length_eq_zero h3
    subst hv
    have pa : p ≠ a := fun z => h1 (by rw [z]; exact hu.row.mem)
    have h1' : p ∉ S.ad := by rw [hu.ad] at h1; exact h1
    have h2' : S.fz p = none := by rw [hu.fz p pa] at h2; exact h2
    refine ⟨n, p, n1, n5, h1', h2', pa, X'.S.own p (.lst []), X'.T.kn [] [], [], by show p :: X'.S.ad = _; rw [hu.ad], fun b b1 b2 => ?_, hu.ts, fun q hq => List.mem_cons_of_mem _ (hu.ow q hq), hu.row.own pa h2, upd_same, List.mem_cons_self, rfl, ?_⟩
    · show upd X'.S.fz p _ b = _
      rw [upd_ne b2, hu.fz b b1]
    · rw [hu.es]; rfl
  rintro X ⟨n, p, n1, n5, hp1, hp2, pa, hW⟩
  -- the way
  refine ms_seq (P1 := fun X => ∃ w : Int, Wb G.K S T a p sc n (some (.int w)) [] none none none X) (ms_setM (P1 := fun X' d => Up G.K a sc X X' ∧ ∃ r : Int, d = .int r ∧ 0 ≤ r ∧ r < 4) ?_ fun X' d hd => ?_) ?_
  · obtain ⟨S1, T1, vs, g1, g2, g3, g4, g5, g6, g7, g8, rfl⟩ := hW
    exact me_taken g5 (g3.trans hT) (by decide) (by decide) (ee_var rfl) ee_int
  · obtain ⟨hu, w, rfl, _, _⟩ := hd
    obtain ⟨S1, T1, vs, g1, g2, g3, g4, g5, g6, g7, g8, rfl⟩ := hW.up pa hu
    exact ⟨w, S1, T1, vs, g1, g2, g3, g4, g5, g6, g7, g8, rfl⟩
  rintro X ⟨w, hW⟩
  let J : Nat → Sta → Prop := fun i X => ∃ ps x5 x6 x7, Prs n ps i 0 ∧ Wb G.K S T a p sc n (some (.int w)) ps x5 x6 x7 X
  refine ms_seq (P1 := J n) ?_ ?_
  · have hJ0 : J 0 X := ⟨[], none, none, none, ⟨by simp, List.Pairwise.nil, by simp⟩, hW⟩
    have hE : EI2 X.S (fun _ => none) X.T (iRng1 (tCons (tVar 2) tNil)) X.es ((List.range n).map natD) := by
      obtain ⟨S1, T1, vs, g1, g2, g3, g4, g5, g6, g7, g8, rfl⟩ := hW
      exact ei2_nat (aa_cons (ee_var rfl) aa_nil) (by omega)
    refine ms_for (f0 := fun _ => none) (ys := (List.range n).map natD) J hE hJ0 (fun i X h b o z => by cases z) ?_ (fun X h => by simpa using h)
    rintro i hi X ⟨ps, x5, x6, x7, hps, S1, T1, vs, g1, g2, g3, g4, g5, g6, g7, g8, rfl⟩
    have hi' : i < n := by simpa using hi
    have e : ((List.range n).map natD)[i] = natD i := by simp
    rw [e]
    refine ⟨_, eg_name' rfl, ?_⟩
    let J2 : Nat → Sta → Prop := fun q X => ∃ ps x6 x7, Prs n ps i (i + 1 + q) ∧ Wb G.K S T a p sc n (some (.int w)) ps (some (natD i)) x6 x7 X
    have hlen : (rangeD ((i : Int) + 1) ((n : Int) - ((i : Int) + 1)).toNat).length = n - (i + 1) := by simp [rangeD]; omega
    refine ms_for (f0 := fun _ => none) (ys := rangeD ((i : Int) + 1) ((n : Int) - ((i : Int) + 1)).toNat) J2 (ei2_range2 (aa_cons (ee_op (ee_var (d := natD i) rfl) ee_int fun _ => rv_addI) (aa_cons (ee_var (d := natD n) rfl) aa_nil)) ⟨by omega, by omega, by omega, by omega⟩) ⟨ps, x6, x7, hps.more (by omega), S1, T1, vs, g1, g2, g3, g4, g5, g6, g7, g8, rfl⟩ (fun i X h b o z => by cases z) ?_ ?_
    · rintro q hq X ⟨ps, x6, x7, hps, S1, T1, vs, g1, g2, g3, g4, g5, g6, g7, g8, rfl⟩
      have hq' : i + 1 + q < n := by rw [hlen] at hq; omega
      have e : (rangeD ((i : Int) + 1) ((n : Int) - ((i : Int) + 1)).toNat)[q] = natD (i + 1 + q) := by
        simp only [rangeD, List.getElem_map, List.getElem_range]
        exact congrArg PyData.int (by omega)
      rw [e]
      refine ⟨_, eg_name' rfl, ?_⟩
      have hE : ∃ b, EE S1 T1 (tOrV (tOp (rEqP G.K) (tVar 6) (tOp (uAdd G.K) (tVar 5) (tC (.int 1)))) (tAndV (tOp (rEqP G.K) (tVar 5) (tC (.int 0))) (tAndV (tOp (rEqP G.K) (tVar 6) (tOp (uSub) (tVar 2) (tC (.int 1)))) (tOp (rEqP G.K) (tVar 4) (tC (.int 1)))))) [some (rawD a), some (.int 5), some (natD n), some (rawD p), some (.int w), some (natD i), some (natD (i + 1 + q)), x7] (.bool b) :=
        ⟨_, ee_or (ee_op (ee_var rfl) (ee_op (ee_var (d := natD i) rfl) ee_int fun _ => rv_addI) fun _ => rv_eqI) fun _ => ee_and (ee_op (ee_var (d := natD i) rfl) ee_int fun _ => rv_eqI) fun _ => ee_and (ee_op (ee_var rfl) (ee_op (ee_var (d := natD n) rfl) ee_int fun _ => rv_sub) fun _ => rv_eqI) fun _ => ee_op (ee_var rfl) ee_int fun _ => rv_eqI⟩
      obtain ⟨b, hb⟩ := hE
      refine ms_seq (P1 := fun X => X = ⟨S1, T1, [some (rawD a), some (.int 5), some (natD n), some (rawD p), some (.int w), some (natD i), some (natD (i + 1 + q)), some (.bool b)]⟩) (ms_es (es_set hb) rfl) ?_
      rintro _ rfl
      have hW : Wb G.K S T a p sc n (some (.int w)) ps (some (natD i)) (some (natD (i + 1 + q))) (some (.bool b)) ⟨S1, T1, [some (rawD a), some (.int 5), some (natD n), some (rawD p), some (.int w), some (natD i), some (natD (i + 1 + q)), some (.bool b)]⟩ := ⟨S1, T1, vs, g1, g2, g3, g4, g5, g6, g7, g8, rfl⟩
      refine ms_ifT (PB := fun X' _ => Up G.K a sc ⟨S1, T1, [some (rawD a), some (.int 5), some (natD n), some (rawD p), some (.int w), some (natD i), some (natD (i + 1 + q)), some (.bool b)]⟩ X') (mu_or (mu_and (mu_draw g5 (g3.trans hT) (by decide) (by decide) (ee_var rfl)) fun X' hu => mu_et hu.row (tt_test (ee_op (ee_var (d := .int w) (by rw [hu.es]; rfl)) ee_int fun _ => rv_gt)))
        fun X' hu => mu_or (mu_and (mu_et hu.row (tt_B (ee_var (by rw [hu.es]; rfl)))) fun X2 hu2 => mu_et hu2.row (tt_test (ee_op (ee_var (d := .int w) (by rw [hu2.es, hu.es]; rfl)) ee_int fun _ => rv_lt)))
          fun X2 hu2 => mu_and (mu_et hu2.row (tt_test (ee_op (ee_var (d := .int w) (by rw [hu2.es, hu.es]; rfl)) ee_int fun _ => rv_eqI))) fun X3 hu3 => mu_draw hu3.row (hu3.ts.trans (hu2.ts.trans (hu.ts.trans (g3.trans hT)))) (by decide) (by decide) (ee_var (by rw [hu3.es, hu2.es, hu.es]; rfl))) (fun X' hu => ?_) fun X' hu => ?_
      · obtain ⟨S1, T1, vs, g1, g2, g3, g4, g5, g6, g7, g8, rfl⟩ := hW.up pa hu
        refine ms_app (a := p) (vs := vs) (ds := ps.map pairD) (d := pairD (i, i + 1 + q)) (ee_var rfl) (by show p ∈ S1.ad; rw [g1]; exact List.mem_cons_self) g6 g7 (ee_tup (aa_cons (ee_var rfl) (aa_cons (ee_var rfl) aa_nil)) (by simp)) (by have := hps.few; omega) fun v _ => ?_
        refine ⟨ps ++ [(i, i + 1 + q)], _, _, hps.add (by omega) hq', S1.put p (.lst (vs ++ [v])), T1.kn (vs ++ [v]) (ps.map pairD ++ [pairD (i, i + 1 + q)]), vs ++ [v], g1, fun c c1 c2 => ?_, g3, fun r hr => List.mem_cons_of_mem _ (g4 r hr), g5.put pa g6, upd_same, by rw [List.map_append]; exact List.mem_cons_self, by rw [List.length_append, List.length_append, g8]; rfl, rfl⟩
        show upd S1.fz p _ c = _
        rw [upd_ne c2]; exact g2 c c1 c2
      · obtain ⟨S1, T1, vs, g1, g2, g3, g4, g5, g6, g7, g8, rfl⟩ := hW.up pa hu
        exact ms_es es_skip ⟨ps, _, _, hps.more (by omega), S1, T1, vs, g1, g2, g3, g4, g5, g6, g7, g8, rfl⟩
    · rintro X ⟨ps, x6, x7, hps, hW⟩
      rw [hlen] at hps
      exact ⟨ps, _, _, _, hps.next (by omega), hW⟩
  rintro X ⟨ps, x5, x6, x7, hps, S1, T1, vs, g1, g2, g3, g4, g5, g6, g7, g8, rfl⟩
  have am : a ∈ S.ad := hrow.mem
  refine ms_rel (a := p) (vs := vs) (ds := ps.map pairD) (ad := S.ad) (f := fun b => if b = p then none else S1.fz b) (i := 3) g1 hp1 g6 g7 (fun b o e => ?_) rfl ?_
  · have e : (if b = p then none else S1.fz b) = some o := e
    by_cases z : b = p
    · rw [if_pos z] at e; cases e
    · rw [if_neg z] at e; exact .inl e
  refine ms_rt (d := webD n ps) (es_ret (ee_tup (aa_cons (ee_var (d := natD n) rfl) (aa_cons (ee_cb (aa_cons (ee_var (d := .list (ps.map pairD)) rfl) aa_nil) fun _ => rc_tupL) aa_nil)) (by simp))) ?_
  refine hPost _ _ n ps rfl (fun b hb => ?_) g3 g4 ?_ ⟨n1, n5, fun q hq => by obtain ⟨a, b, _⟩ := hps.pr q hq; exact ⟨a, b⟩, hps.so, by have := hps.few; omega⟩
  · show (if b = p then none else S1.fz b) = _
    by_cases z : b = p
    · rw [if_pos z, z]; exact hp2.symm
    · rw [if_neg z]; exact g2 b hb z
  · obtain ⟨b, ws, k, seed, rest, r1, r2, r3, r4, r0, r5⟩ := g5
    refine ⟨b, ws, k, seed, rest, am, ?_, r3, r4, r0.mono (fun c o xs e => ?_) fun q hq => hq, r5⟩
    · show (if a = p then none else S1.fz a) = _
      rw [if_neg (fun z => pa z.symm)]; exact r2
    · show (if c = p then none else S1.fz c) = _
      rw [if_neg (fun z => by rw [z, g6] at e; cases e)]; exact e
end
end KV
set_option Elab.async false
set_option linter.all false
set_option maxRecDepth 100000
set_option maxHeartbeats 4000000
/-! Evaluation: the law's costs; its calls. -/
namespace KV
open PySem PySem.Spec PyProof.Rows L2 GxR KO Smx
section
variable {G : Gd} {S S' : Hs} {T T' Ts : Ks} {es : Es} {te to ta tb tc tl tx tj tk : TE} {t : TA} {tt tu : TT} {u t1 t2 : TS} {d x y z : PyData} {n i j k : Nat} {ds : List PyData} {X X1 X2 : Sta} {P : Sta → Prop} {P1 P2 : Sta → PyData → Prop} {R : Sta → PyData → Prop} {K : PySem.W.Frag} {a : Addr} {sc : List Int} {m : Int} {ps : List (Nat × Nat)} {cs l : List Nat} {qs : List Rat}
/-- [taken(row, 12) for person in range(n)] -/
theorem me_draws (hr : RowAt G.K X.S X.T a sc) (hT : X.T.ts = G.ps) (h1 : X.es[1]? = some (some (rawD a))) (hn : EA X.S X.T t X.es [natD n]) (hn5 : n ≤ 100) : ME (tLc (iRng1 t) (gName 19) tYes (tCall (sp_w_taken G) [] C8.E0 (tCons (tVar 1) (tCons (tC (.int 12)) tNil))) [19]) X fun X' d => Up G.K a sc X X' ∧ ∃ cs : List Nat, d = .list (cs.map natD) ∧ cs.length = n ∧ ∀ c ∈ cs, c ≤ 1000 := fun σ H k Q q =>
  ei2_nat (f0 := fun _ => none) hn (by omega) σ _ k.inn H k.ext _ fun J H1 g1 w' D hD => by
    have k1 := k.go g1
    have fD : X.S.fz D = none := k1.fz.back hD
    have nD : D ∉ X.S.ad := fun z => k1.trk D z hD
    have Da : D ≠ a := fun z => nD (by rw [z]; exact hr.mem)
    have k0 := own_ok (X := X) (σ := σ) (H := H1) (H2 := upd H1 D (.lst [])) (a := D) (o := .lst []) (i := X.es.length) (T' := X.T.kn [] []) (es' := X.es.set X.es.length (some (rawD D))) k1 (.new hD) hD upd_same rfl (fun p hp => by
      rcases List.mem_cons.mp hp with z | z
      · rw [z]; exact .nil
      · exact (k1.inn.tbs.ow p z).mono (gr_own (.new hD) hD)) rfl
    have I0 := k1.inn.mono (gr_own (f := upd X.S.fz D (.lst [])) (S := X.S) (Gr.new (o := .lst []) hD) hD)
    refine ⟨fun m c H' => c = n - m ∧ m ≤ n ∧ ∃ (Y : Sta) (cs : List Nat) (acc : List V), Up G.K a sc X Y ∧ cs.length = m ∧ (∀ c ∈ cs, c ≤ 1000) ∧ acc.length = m ∧ Fr X.S H1 (Y.S.own D (.lst acc)) H' ∧ StOk ⟨Y.S.own D (.lst acc), Y.T.kn acc (cs.map natD), X.es⟩ σ H', ⟨n, rfl, Nat.zero_le _, X, [], [], Up.refl hr, rfl, by simp, rfl, fr_own (.new hD) hD, ⟨I0.len, I0.get, k0.inn.tbs⟩, k0.trk, k0.fz⟩, ?_⟩
    rintro m c H' ⟨rfl, hm, Y, cs, acc, hu, hcl, hc, hal, fr, kY⟩
    have fYD : Y.S.fz D = none := by rw [hu.fz D Da]; exact fD
    have nYD : D ∉ Y.S.ad := by rw [hu.ad]; exact nD
    have w := w' (Y.S.own D (.lst acc)) (fun b o e => by cases e)
    have ex : Ext (Y.S.own D (.lst acc)) (hid X.S H1) H' := ⟨fr.keep, kY.fz, kY.trk⟩
    by_cases hlt : m < n
    · have hlt' : m < ((List.range n).map natD).length := by simpa using hlt
      refine .inr ⟨w.go m H' ex hlt', fun H'' => m + 1 ≤ n ∧ ∃ (Y : Sta) (cs : List Nat) (acc : List V), Up G.K a sc X Y ∧ cs.length = m + 1 ∧ (∀ c ∈ cs, c ≤ 1000) ∧ acc.length = m + 1 ∧ Fr X.S H1 (Y.S.own D (.lst acc)) H'' ∧ StOk ⟨Y.S.own D (.lst acc), Y.T.kn acc (cs.map natD), X.es⟩ σ H'', fun H'' n' => ⟨n - (m + 1), by omega, rfl, n'⟩, fun x H2 y => ?_⟩
      obtain ⟨d', e0, g3, r3⟩ := w.yld m H' x H2 ex hlt' y
      have kY2 := kY.go g3
      have kW : StOk ⟨Y.S.own D (.lst acc), Y.T.kn acc (cs.map natD), (wipeE X.es [19]).set 19 (some d')⟩ ((L2.wipe σ [19]).set 19 (some x)) H2 := ⟨(kY2.inn.wipe [19]).set r3 19, kY2.trk, kY2.fz⟩
      refine ⟨by rw [wipe_set _ _ (by simp), wipe_idem], ?_⟩
      unfold tYes
      dsimp only
      rw [if_pos rfl]
      have hv1 : ((wipeE X.es [19]).set 19 (some d'))[1]? = some (some (rawD a)) := by
        show ((X.es.set 19 none).set 19 (some d'))[1]? = _
        rw [List.getElem?_set_ne (by decide), List.getElem?_set_ne (by decide)]; exact h1
      refine me_taken (X := ⟨Y.S.own D (.lst acc), Y.T.kn acc (cs.map natD), (wipeE X.es [19]).set 19 (some d')⟩) (m := 12) (hu.row.own Da fYD) (hu.ts.trans hT) (by decide) (by decide) (ee_var hv1) ee_int _ H2 kW _ ?_
      rintro X' d v H3 ⟨hu2, r, rfl, r0, r1⟩ f2 k2 rp
      have e3 : X'.S.fz D = some (.lst acc) := (hu2.fz D Da).trans upd_same
      have m3 : D ∈ X'.S.ad := by rw [hu2.ad]; exact List.mem_cons_self
      cases rp
      have hadd : ∀ p ∈ (X'.T.kn (acc ++ [V.int r]) ((cs ++ [r.toNat]).map natD)).ow, Rps (hid X'.S H3) p.1 p.2 := fun p hp => by
        rcases List.mem_cons.mp hp with z | z
        · rw [z, List.map_append]
          have : natD r.toNat = .int r := congrArg PyData.int (by omega)
          refine (k2.inn.tbs.ow _ (hu2.ow _ List.mem_cons_self)).app (.one ?_)
          rw [this]; exact .int r
        · exact k2.inn.tbs.ow p z
      have k4 := put_ok (T' := X'.T.kn (acc ++ [V.int r]) ((cs ++ [r.toNat]).map natD)) (o := .lst (acc ++ [V.int r])) k2 m3 rfl hadd
      have f4 : Fr X.S H1 (X'.S.put D (.lst (acc ++ [V.int r]))) (upd H3 D (.lst (acc ++ [V.int r]))) := (fr.trans (Fr.of g3)).trans (f2.trans (fr_put m3))
      have eS : (⟨⟨Y.S.ad, fun b => if b = D then none else X'.S.fz b⟩, X'.T, X.es⟩ : Sta).S.own D (.lst (acc ++ [V.int r])) = X'.S.put D (.lst (acc ++ [V.int r])) := by
        show (⟨D :: Y.S.ad, upd (fun b => if b = D then none else X'.S.fz b) D _⟩ : Hs) = ⟨X'.S.ad, upd X'.S.fz D _⟩
        congr 1
        · exact hu2.ad.symm
        · funext b
          by_cases z : b = D
          · rw [z, upd_same, upd_same]
          · rw [upd_ne z, upd_ne z, if_neg z]
      refine ⟨acc, k2.fz.lst e3, Nat.lt_of_lt_of_le (show acc.length < 100001 by omega) (by decide), hlt, ⟨⟨Y.S.ad, fun b => if b = D then none else X'.S.fz b⟩, X'.T, X.es⟩, cs ++ [r.toNat], acc ++ [V.int r], ⟨rfl, hu.ad, fun b hb => ?_, hu2.ts.trans hu.ts, fun q hq => hu2.ow q (List.mem_cons_of_mem _ (hu.ow q hq)), ?_⟩, by rw [List.length_append, hcl]; rfl, fun c hc' => ?_, by rw [List.length_append, hal]; rfl, by rw [eS]; exact f4, ?_⟩
      · show (if b = D then none else X'.S.fz b) = _
        by_cases z : b = D
        · rw [if_pos z, z]; exact fD.symm
        · rw [if_neg z, hu2.fz b hb]
          show upd Y.S.fz D _ b = _
          rw [upd_ne z]; exact hu.fz b hb
      · obtain ⟨b, ws, k, seed, rest, r1, r2, r3, r4, r0, r5⟩ := hu2.row
        refine ⟨b, ws, k, seed, rest, by show a ∈ Y.S.ad; rw [hu.ad]; exact hr.mem, ?_, r3, r4, r0.mono (fun c o xs e => ?_) fun q hq => hq, r5⟩
        · show (if a = D then none else X'.S.fz a) = _
          rw [if_neg (fun z => Da z.symm)]; exact r2
        · show (if c = D then none else X'.S.fz c) = _
          rw [if_neg (fun z => by rw [z, e3] at e; cases e)]; exact e
      · rcases List.mem_append.mp hc' with z | z
        · exact hc c z
        · rw [List.mem_singleton.mp z]; omega
      · rw [eS]
        have I' := k1.inn.mono f4.keep
        exact ⟨⟨I'.len, I'.get, k4.inn.tbs⟩, k4.trk, k4.fz⟩
    · have em : m = n := by omega
      subst em
      have hst := w.stop H' ex
      have hst' : J.stop m H' := by simpa using hst
      refine .inl ⟨hst', ?_⟩
      have sub : Gr (hid (Y.S.own D (.lst acc)) H') (hid Y.S H') := hid_sub fun b hb => List.mem_cons_of_mem _ hb
      refine q Y (.list (cs.map natD)) (.ref D) H' ⟨hu, cs, rfl, hcl, hc⟩ ((Fr.of g1).trans ⟨fr.gr, fun b hb => fr.new b (List.mem_cons_of_mem _ hb)⟩) ⟨?_, fun b hb => kY.trk b (List.mem_cons_of_mem _ hb), (gr_put fYD).trans kY.fz⟩ (.lst ?_ ((kY.inn.tbs.ow _ List.mem_cons_self).mono sub))
      · have I' := kY.inn.mono sub
        rw [hu.es]
        exact ⟨I'.len, I'.get, I'.tbs.ts, fun p hp => I'.tbs.ow p (List.mem_cons_of_mem _ hp)⟩
      · rw [hid_out nYD]; exact kY.fz.lst upd_same
/-- x, y = e, r(e') -/
theorem ms_tup2M {r : List V → Hp → VK → Prop} (h1 : EE X.S X.T ta X.es x) (h2 : ME tl X P1) (hp : ∀ X' d, P1 X' d → ∃ z, (∀ B, RC X'.S r [d] B z) ∧ P ⟨X'.S, X'.T, (X'.es.set i (some x)).set j (some z)⟩) : MS (tAsg (tTup (tCons ta (tCons (tCB r (tCons tl tNil)) tNil))) (gTup K 2 (gCons (gName i) (gCons (gName j) gNil)))) X P R := fun σ H k D kn kr =>
  h1 σ _ k.inn H k.ext _ fun v H1 g1 r1 => h2 σ H1 (k.go g1) _ fun X' d w H2 p' f k' r2 => by
    obtain ⟨z, hr, hP⟩ := hp X' d p'
    refine hr (hid X'.S H2) [w] H2 k'.ext (.cons r2 .nil) _ fun u H3 g3 r3 => ⟨(show 2 ≤ sizeLine by decide), fun p hp' => ?_⟩
    have g4 : Gr H2 (upd H3 p (.tup [v, u])) := g3.trans (.new hp')
    have k4 := k'.go g4
    have r1' : Rp (hid X'.S (upd H3 p (.tup [v, u]))) v x := (r1.mono f.keep).mono (g4.hid _)
    have r3' : Rp (hid X'.S (upd H3 p (.tup [v, u]))) u z := r3.mono ((Gr.new hp').hid _)
    exact ⟨_, _, rfl, .inl (.inl upd_same), rfl, _, _, rfl, _, _, rfl, rfl, kn ⟨X'.S, X'.T, (X'.es.set i (some x)).set j (some z)⟩ _ _ hP ((Fr.of g1).trans (f.trans (Fr.of g4))) ⟨(k4.inn.set r1' i).set r3' j, k4.trk, k4.fz⟩⟩
/-- x, y, z = e, e', e'' -/
theorem eg_tri {a b c : PyData} {i j k : Nat} : EG S Ts (gTup K 3 (gCons (gName i) (gCons (gName j) (gCons (gName k) gNil)))) (.tuple [a, b, c]) es (((es.set i (some a)).set j (some b)).set k (some c)) := fun σ H v I r Q q => by
  cases r with
  | tup ha rs =>
    cases rs with
    | cons r1 rs =>
      cases rs with
      | cons r2 rs =>
        cases rs with
        | cons r3 rs =>
          cases rs
          exact ⟨_, _, rfl, .inl (.inl (hid_some ha).2), rfl, _, _, rfl, _, _, rfl, _, _, rfl, rfl, q _ (((I.set r1 i).set r2 j).set r3 k)⟩
/-! calls -/
theorem c_forget_length (W : Web n ps) (hP : ∀ x ∈ G.ps, x ∈ Ts.ts) (h : EE S Ts ta es (webD n ps)) : EE S Ts (tCall (sp_forget_length G) [] C8.E0 (tCons ta tNil)) es (natD (fewOf n ps)) := ee_call (aa_cons h aa_nil) ⟨n, ps, rfl, W, rfl⟩ hP
theorem c_forget_lots (W : Web n ps) (hP : ∀ x ∈ G.ps, x ∈ Ts.ts) (h : EE S Ts ta es (webD n ps)) : EE S Ts (tCall (sp_forget_lots G) [] C8.E0 (tCons ta tNil)) es (.tuple ((leastL n ps).map lotD)) := ee_call (aa_cons h aa_nil) ⟨n, ps, rfl, W, rfl⟩ hP
theorem c_forget_row (W : Web n ps) (hl : (leastL n ps)[0]? = some l) (hP : ∀ x ∈ G.ps, x ∈ Ts.ts) (h : EE S Ts ta es (webD n ps)) : EE S Ts (tCall (sp_forget_row G) [] C8.E0 (tCons ta tNil)) es (lotD l) := ee_call (aa_cons h aa_nil) ⟨n, ps, l, rfl, W, hl, rfl⟩ hP
theorem c_cheap_forget (W : Web n ps) (Ct : Csts n cs) (hP : ∀ x ∈ G.ps, x ∈ Ts.ts) (h : EE S Ts ta es (webD n ps)) (h1 : EE S Ts tb es (lotD cs)) : EE S Ts (tCall (sp_cheap_forget G) [] C8.E0 (tCons ta (tCons tb tNil))) es (chp n ps cs) := ee_call (aa_cons h (aa_cons h1 aa_nil)) ⟨n, ps, cs, rfl, W, Ct, rfl⟩ hP
theorem c_shows_cheap_forget (W : Web n ps) (Ct : Csts n cs) (hp : y.plain = true) (hf : ∀ a u, y = .tuple [a, u] → Few u) (hf2 : Few y) (hP : ∀ x ∈ G.ps, x ∈ Ts.ts) (h : EE S Ts ta es (webD n ps)) (h1 : EE S Ts tb es (lotD cs)) (h2 : EE S Ts tc es y) : EE S Ts (tCall (sp_shows_cheap_forget G) [] C8.E0 (tCons ta (tCons tb (tCons tc tNil)))) es (.bool (showsC n ps cs y)) := ee_call (aa_cons h (aa_cons h1 (aa_cons h2 aa_nil))) ⟨n, ps, cs, y, rfl, W, Ct, hp, hf, hf2, rfl⟩ hP
theorem c_w_fits (W : Web n ps) (Ct : Csts n cs) (hq : ∀ q ∈ qs, SzR 40 q) (hl : qs.length ≤ 20) (hP : ∀ x ∈ G.ps, x ∈ Ts.ts) (h : EE S Ts ta es (webD n ps)) (h1 : EE S Ts tb es (lotD cs)) (h2 : EE S Ts tc es (papD qs)) : EE S Ts (tCall (sp_w_fits G) [] C8.E0 (tCons ta (tCons tb (tCons tc tNil)))) es (.bool (fitsQ n ps cs qs)) := ee_call (aa_cons h (aa_cons h1 (aa_cons h2 aa_nil))) ⟨n, ps, cs, _, rfl, W, Ct, .inl ⟨qs, rfl, hq, hl, rfl⟩⟩ hP
theorem c_w_fitsN (W : Web n ps) (Ct : Csts n cs) (ht : isTupD y = false) (hp : y.plain = true) (hP : ∀ x ∈ G.ps, x ∈ Ts.ts) (h : EE S Ts ta es (webD n ps)) (h1 : EE S Ts tb es (lotD cs)) (h2 : EE S Ts tc es y) : EE S Ts (tCall (sp_w_fits G) [] C8.E0 (tCons ta (tCons tb (tCons tc tNil)))) es (.bool false) := ee_call (aa_cons h (aa_cons h1 (aa_cons h2 aa_nil))) ⟨n, ps, cs, _, rfl, W, Ct, .inr ⟨ht, hp, rfl⟩⟩ hP
theorem c_shows_paper (W : Web n ps) (Ct : Csts n cs) (hq : ∀ q ∈ qs, SzR 40 q) (hl : qs.length ≤ 20) (hP : ∀ x ∈ G.ps, x ∈ Ts.ts) (h : EE S Ts ta es (webD n ps)) (h1 : EE S Ts tb es (lotD cs)) (h2 : EE S Ts tc es (papD qs)) : EE S Ts (tCall (sp_shows_forget_paper G) [] C8.E0 (tCons ta (tCons tb (tCons tc tNil)))) es (.bool (fitsQ n ps cs qs && decide (qs.sum = (paperQ n ps cs).sum))) := ee_call (aa_cons h (aa_cons h1 (aa_cons h2 aa_nil))) ⟨n, ps, cs, _, rfl, W, Ct, .inl ⟨qs, rfl, hq, hl, rfl⟩⟩ hP
theorem c_shows_paperN (W : Web n ps) (Ct : Csts n cs) (ht : isTupD y = false) (hp : y.plain = true) (hP : ∀ x ∈ G.ps, x ∈ Ts.ts) (h : EE S Ts ta es (webD n ps)) (h1 : EE S Ts tb es (lotD cs)) (h2 : EE S Ts tc es y) : EE S Ts (tCall (sp_shows_forget_paper G) [] C8.E0 (tCons ta (tCons tb (tCons tc tNil)))) es (.bool false) := ee_call (aa_cons h (aa_cons h1 (aa_cons h2 aa_nil))) ⟨n, ps, cs, _, rfl, W, Ct, .inr ⟨ht, hp, rfl⟩⟩ hP
theorem sum_sz (hq : ∀ q ∈ qs, SzR 40 q) (hl : qs.length ≤ 20) : SzR 1000 qs.sum := by
  have h := szr_take hq qs.length
  rw [List.take_length] at h
  exact h.mono (by omega)
/-! prices -/
theorem lay_lots : ∀ ls : List (List Nat), PyData.canLayAll0 (ls.map lotD) = true ∧ PyData.depthAll (ls.map lotD) ≤ 1
  | [] => ⟨rfl, Nat.zero_le _⟩
  | l :: ls => by
    obtain ⟨h1, h2⟩ := lay_lots ls
    have hn : ∀ l : List Nat, PyData.canLayAll0 (l.map natD) = true := fun l => by
      induction l with
      | nil => rfl
      | cons a l ih => rw [List.map_cons, PyData.canLayAll0, ih]; simp [PyData.canLay0]
    rw [List.map_cons, PyData.canLayAll0, PyData.depthAll, h1, depth_lot]
    exact ⟨by unfold lotD; rw [PyData.canLay0, hn]; rfl, by omega⟩
theorem shaped_lot (l : List Nat) : SeqAt.shaped (lotD l) = true := by
  have h := (lay_lots [l]).1
  rw [List.map_cons, PyData.canLayAll0, Bool.and_eq_true] at h
  unfold SeqAt.shaped
  rw [h.1, depth_lot]; rfl
theorem shaped_lots (ls : List (List Nat)) : SeqAt.shaped (.list (ls.map lotD)) = true := by
  obtain ⟨h1, h2⟩ := lay_lots ls
  unfold SeqAt.shaped
  rw [PyData.canLay0, PyData.depth, h1, Bool.true_and]
  exact decide_eq_true (by omega)
theorem first_at {ls : List (List Nat)} (h : l ∈ ls) : ∃ j : Nat, ls[j]? = some l ∧ ∀ m : Nat, m < j → ls[m]? ≠ some l := by
  induction ls with
  | nil => cases h
  | cons a ls ih =>
    by_cases e : a = l
    · exact ⟨0, by rw [e]; rfl, fun m hm => by omega⟩
    · rcases List.mem_cons.mp h with z | z
      · exact absurd z.symm e
      · obtain ⟨j, h1, h2⟩ := ih z
        refine ⟨j + 1, h1, fun m hm => ?_⟩
        cases m with
        | zero => exact fun z => e (Option.some.inj z)
        | succ m => exact h2 m (by omega)
/-- prices[lots.index(lot)] -/
theorem ee_price {ls : List (List Nat)} (h7 : EE S Ts ta es (.list (ls.map fun l => natD (cost cs l)))) (h3 : EE S Ts tb es (.list (ls.map lotD))) (hx : EE S Ts tx es (lotD l)) (hl : l ∈ ls) : EE S Ts (tOp (rIx K) ta (tBM K "list" (rIndexD K) tb (tCons tx tNil))) es (natD (cost cs l)) := by
  obtain ⟨j, e1, e2⟩ := first_at hl
  refine ee_op h7 (ee_index (j := j) (z := lotD l) h3 hx (shaped_lots ls) (shaped_lot l) (by rw [PyData.plain]; exact plain_map plain_lot ls) (plain_lot l) (by rw [List.getElem?_map, e1]; rfl) (by rw [eqv_lot]; simp) fun m z' hm hz => ?_) fun _ => rv_ixL (atI_nat (by rw [List.getElem?_map, e1]; rfl))
  rw [List.getElem?_map] at hz
  cases q : ls[m]? with
  | none => rw [q] at hz; cases hz
  | some l' =>
    rw [q] at hz
    cases hz
    rw [eqv_lot]
    exact decide_eq_false fun z => e2 m hm (by rw [q, z])
theorem any_lots (l : List Nat) (ls : List (List Nat)) : ((ls.map lotD).any fun z => PyData.eqv z (lotD l)) = decide (l ∈ ls) := by
  rw [Bool.eq_iff_iff, List.any_eq_true, decide_eq_true_iff]
  constructor
  · rintro ⟨z, hz, e⟩
    obtain ⟨y, hy, rfl⟩ := List.mem_map.mp hz
    rw [eqv_lot, decide_eq_true_iff] at e
    exact e ▸ hy
  · intro h
    exact ⟨lotD l, List.mem_map_of_mem h, by rw [eqv_lot]; simp⟩
theorem showsC_lot (n : Nat) (ps : List (Nat × Nat)) (cs : List Nat) (b : Int) (l : List Nat) : showsC n ps cs (.tuple [.int b, lotD l]) = (decide (l ∈ lotsC n ps) && (decide (b = (bestC n ps cs : Nat)) && decide (cost cs l = bestC n ps cs))) := by
  show (decide (b = ((bestC n ps cs : Nat) : Int)) && match lotOf n (lotD l) with | some l => cov n ps l && decide (cost cs l = bestC n ps cs) | none => false) = _
  by_cases h : Lot n l
  · rw [lotOf_lot h]
    by_cases hc : cov n ps l = true
    · rw [decide_eq_true (lotsC_mem.mpr ⟨h, hc⟩)]
      show (_ && (cov n ps l && _)) = _
      rw [hc]; simp
    · rw [decide_eq_false (fun z => hc (lotsC_mem.mp z).2)]
      show (_ && (cov n ps l && _)) = _
      rw [Bool.eq_false_iff.mpr hc]; simp
  · rw [decide_eq_false (fun z => h (lotsC_mem.mp z).1)]
    cases e : lotOf n (lotD l) with
    | none => simp
    | some l' =>
      obtain ⟨e1, L⟩ := lotOf_some e
      have : l = l' := by
        have := eqv_lot l l'
        rw [← e1, eqv_lot] at this
        simpa using this.symm
      exact absurd (this ▸ L) h
end
end KV
set_option Elab.async false
set_option linter.all false
set_option maxRecDepth 100000
set_option maxHeartbeats 4000000
/-! Evaluation: the law. -/
namespace KV
open PySem PySem.Spec PyProof.Rows L2 GxR KO Smx
/-- the law's turns: values, papers made, papers looked at -/
def t_lawV (G : Gd) : TS := (tSeq (tAsg (tAndV (tCB (uIsi G.K) (tCons (tVar 12) (tCons (tC (.ty "tuple")) tNil))) (tAndV (tOp (rEqP G.K) (tCB (uLen G.K) (tCons (tVar 12) tNil)) (tC (.int 2))) (tAndV (tCB (uIsi G.K) (tCons (tOp (rIx G.K) (tVar 12) (tC (.int 1))) (tCons (tC (.ty "tuple")) tNil))) (tOp (rInP G.K) (tOp (rIx G.K) (tVar 12) (tC (.int 1))) (tVar 3))))) (gName 13)) (tSeq (tAsg (tAndV (tVar 13) (tAndV (tOp (rEqP G.K) (tOp (rIx G.K) (tVar 12) (tC (.int 0))) (tVar 8)) (tOp (rEqP G.K) (tOp (rIx G.K) (tVar 7) (tBM G.K "list" (rIndexD G.K) (tVar 3) (tCons (tOp (rIx G.K) (tVar 12) (tC (.int 1))) tNil))) (tVar 8)))) (gName 13)) (tIfS (tNot (tB (tCall (sp_w_alike G) [] C8.E0 (tCons (tCall (sp_shows_cheap_forget G) [] C8.E0 (tCons (tVar 2) (tCons (tVar 4) (tCons (tVar 12) tNil)))) (tCons (tVar 13) tNil))))) (tRet (tC (.bl false))) tNext)))
def t_lawA (G : Gd) : TS := (tFor (iSeq G.K (tLst (tCons (tTup (tCons (tC (.int 1)) (tCons (tC (.int 2)) tNil))) (tCons (tTup (tCons (tUn uNeg (tC (.int 1))) (tCons (tC (.int 2)) tNil))) tNil)))) (gName 17) (tDrop (tBM G.K "list" rAppend (tVar 15) (tCons (tOp (uAdd G.K) (tOp (uAdd G.K) (tSl (uSl G.K) (tVar 10) tNoPart (tPart (tVar 16))) (tTup (tCons (tCall (sp_w_plus G) [] C8.E0 (tCons (tOp (rIx G.K) (tVar 10) (tVar 16)) (tCons (tVar 17) tNil))) tNil))) (tSl (uSl G.K) (tVar 10) (tPart (tOp (uAdd G.K) (tVar 16) (tC (.int 1)))) tNoPart)) tNil))))
def t_lawP (G : Gd) : TS := (tSeq (tAsg (tCall (sp_w_fits G) [] C8.E0 (tCons (tVar 2) (tCons (tVar 4) (tCons (tVar 12) tNil)))) (gName 13)) (tSeq (tIfS (tAnd (tB (tVar 13)) (tB (tCall (sp_w_less G) [] C8.E0 (tCons (tVar 14) (tCons (tCall (sp_w_sum G) [] C8.E0 (tCons (tCB (uLst G.K) (tCons (tVar 12) tNil)) tNil)) tNil))))) (tRet (tC (.bl false))) tNext) (tIfS (tNot (tB (tCall (sp_w_alike G) [] C8.E0 (tCons (tCall (sp_shows_forget_paper G) [] C8.E0 (tCons (tVar 2) (tCons (tVar 4) (tCons (tVar 12) tNil)))) (tCons (tAndV (tVar 13) (tOp (rEqP G.K) (tCall (sp_w_sum G) [] C8.E0 (tCons (tCB (uLst G.K) (tCons (tVar 12) tNil)) tNil)) (tVar 14))) tNil))))) (tRet (tC (.bl false))) tNext)))
/-- what is shown to the program as a cheapest lot -/
inductive ValOk : PyData → Prop
  | lot (b : Int) (l : List Nat) (h : l.length ≤ 100) : ValOk (.tuple [.int b, lotD l])
  | lst (b : Int) (l : List Nat) : ValOk (.tuple [.int b, .list (l.map natD)])
  | no (y : PyData) (h : isTupD y = false) (hp : y.plain = true) : ValOk y
/-- .. as a paper -/
inductive PapOk : PyData → Prop
  | pap (qs : List Rat) (h : ∀ q ∈ qs, SzR 40 q) (hl : qs.length ≤ 20) : PapOk (papD qs)
  | no (y : PyData) (h : isTupD y = false) (hp : y.plain = true) : PapOk y
section
variable {G : Gd} {S S' : Hs} {T T' Ts : Ks} {es : Es} {te to ta tb tc tl tx tj tk : TE} {t : TA} {tt tu : TT} {u t1 t2 : TS} {d x y z : PyData} {n i j k : Nat} {ds : List PyData} {X X1 X2 : Sta} {P : Sta → Prop} {P1 P2 : Sta → PyData → Prop} {R : Sta → PyData → Prop} {K : PySem.W.Frag} {a : Addr} {sc : List Int} {m : Int} {ps : List (Nat × Nat)} {cs l : List Nat} {qs : List Rat}
  {x0 x1 x5 x6 x9 x10 x11 x12 x13 x14 x15 x16 x17 x18 x19 : Option PyData}
abbrev valEs (n : Nat) (ps : List (Nat × Nat)) (cs : List Nat) (x0 x1 x5 x6 x9 x10 x11 x12 x13 x14 x15 x16 x17 x18 x19 : Option PyData) : Es := [x0, x1, some (webD n ps), some (.list ((lotsC n ps).map lotD)), some (lotD cs), x5, x6, some (.list ((lotsC n ps).map fun l => natD (cost cs l))), some (natD (bestC n ps cs)), x9, x10, x11, x12, x13, x14, x15, x16, x17, x18, x19]
theorem showsC_no (h : isTupD y = false) : showsC n ps cs y = false := by cases y <;> first | rfl | cases h
theorem e_val (W : Web n ps) (Ct : Csts n cs) (hP : ∀ x ∈ G.ps, x ∈ Ts.ts) (hy : ValOk y) : ES S Ts (t_lawV G) (valEs n ps cs x0 x1 x5 x6 x9 x10 x11 (some y) x13 x14 x15 x16 x17 x18 x19) (.nx (valEs n ps cs x0 x1 x5 x6 x9 x10 x11 (some y) (some (.bool (showsC n ps cs y))) x14 x15 x16 x17 x18 x19)) := by
  cases hy with
  | lot b l hl =>
    have hpl : (PyData.tuple [.int b, lotD l]).plain = true := by rw [PyData.plain, PyData.plainAll, PyData.plainAll, PyData.plainAll, plain_lot]; rfl
    refine es_seq (es_set (ee_is (ee_and (ee_isTup (ee_var rfl) hpl) fun _ => ee_and (ee_op (ee_cb (aa_cons (ee_var (d := .tuple [.int b, lotD l]) rfl) aa_nil) fun _ => rc_lenT) ee_int fun _ => rv_eqI) fun _ => ee_and (ee_isTup (ee_op (ee_var (d := .tuple [.int b, lotD l]) rfl) ee_int fun _ => rv_ixT (z := lotD l) rfl) (plain_lot l)) fun _ => ee_op (ee_op (ee_var (d := .tuple [.int b, lotD l]) rfl) ee_int fun _ => rv_ixT (z := lotD l) rfl) (ee_var (d := .list ((lotsC n ps).map lotD)) rfl) fun _ => rv_inL (plain_lot l) (plain_map plain_lot _) (by rw [depth_lot]; omega)) (show _ = PyData.bool (decide (l ∈ lotsC n ps)) by rw [any_lots]; rfl))) ?_
    refine es_seq (es_set (d := .bool (showsC n ps cs (.tuple [.int b, lotD l]))) (ee_is (ee_and (a := decide (l ∈ lotsC n ps)) (ee_var rfl) fun hm => ee_and (ee_op (ee_op (ee_var (d := .tuple [.int b, lotD l]) rfl) ee_int fun _ => rv_ixT (z := .int b) rfl) (ee_var (d := natD (bestC n ps cs)) rfl) fun _ => rv_eqI) fun _ => ee_op (ee_price (l := l) (cs := cs) (ls := lotsC n ps) (ee_var rfl) (ee_var rfl) (ee_op (ee_var (d := .tuple [.int b, lotD l]) rfl) ee_int fun _ => rv_ixT rfl) (of_decide_eq_true hm)) (ee_var (d := natD (bestC n ps cs)) rfl) fun _ => rv_eqI) ?_)) ?_
    · rw [showsC_lot]
      have : decide ((cost cs l : Int) = (bestC n ps cs : Int)) = decide (cost cs l = bestC n ps cs) := by rw [Bool.eq_iff_iff, decide_eq_true_iff, decide_eq_true_iff]; omega
      rw [this]
    · exact es_if (b := false) (et_is' (tt_not (tt_B (c_w_alike (x := .bool (showsC n ps cs (.tuple [.int b, lotD l]))) trivial hP (c_shows_cheap_forget W Ct hpl (fun a u e => by
        injection e with e
        injection e with _ e
        injection e with e _
        subst e
        intro xs hx
        injection hx with hx
        rw [← hx, List.length_map]; omega) (fun xs hx => by injection hx with hx; rw [← hx]; simp) hP (ee_var rfl) (ee_var rfl) (ee_var rfl)) (ee_var rfl)))) rfl) (fun z => nomatch z) fun _ => es_skip
  | lst b l =>
    have hpu : (PyData.list (l.map natD)).plain = true := by rw [PyData.plain]; exact plain_nats l
    have hpl : (PyData.tuple [.int b, .list (l.map natD)]).plain = true := by rw [PyData.plain, PyData.plainAll, PyData.plainAll, PyData.plainAll, hpu]; rfl
    have hsh : showsC n ps cs (.tuple [.int b, .list (l.map natD)]) = false := by
      show (_ && match lotOf n (.list (l.map natD)) with | some l => cov n ps l && decide (cost cs l = bestC n ps cs) | none => false) = false
      simp [lotOf]
    rw [hsh]
    refine es_seq (es_set (d := .bool false) (ee_is (ee_and (ee_isTup (ee_var rfl) hpl) fun _ => ee_and (ee_op (ee_cb (aa_cons (ee_var (d := .tuple [.int b, .list (l.map natD)]) rfl) aa_nil) fun _ => rc_lenT) ee_int fun _ => rv_eqI) fun _ => ee_and (b := false) (ee_isTup (ee_op (ee_var (d := .tuple [.int b, .list (l.map natD)]) rfl) ee_int fun _ => rv_ixT (z := .list (l.map natD)) rfl) hpu) fun z => nomatch z) rfl)) ?_
    refine es_seq (es_set (d := .bool false) (ee_is (ee_and (a := false) (b := false) (ee_var rfl) fun z => nomatch z) rfl)) ?_
    exact es_if (b := false) (et_is' (tt_not (tt_B (c_w_alike (x := .bool false) trivial hP (ee_is (c_shows_cheap_forget W Ct hpl (fun a u e => by
        injection e with e
        injection e with _ e
        injection e with e _
        subst e
        intro xs hx
        cases hx) (fun xs hx => by injection hx with hx; rw [← hx]; simp) hP (ee_var rfl) (ee_var rfl) (ee_var rfl)) (congrArg PyData.bool hsh)) (ee_var rfl)))) rfl) (fun z => nomatch z) fun _ => es_skip
  | no y ht hp =>
    have hsh : showsC n ps cs y = false := showsC_no ht
    rw [hsh]
    refine es_seq (es_set (d := .bool false) (ee_is (ee_and (b := false) (ee_is (ee_isTup (ee_var rfl) hp) (congrArg PyData.bool ht)) fun z => nomatch z) rfl)) ?_
    refine es_seq (es_set (d := .bool false) (ee_is (ee_and (a := false) (b := false) (ee_var rfl) fun z => nomatch z) rfl)) ?_
    exact es_if (b := false) (et_is' (tt_not (tt_B (c_w_alike (x := .bool false) trivial hP (ee_is (c_shows_cheap_forget W Ct hp (fun a u e => by rw [e] at ht; cases ht) (fun xs hx => by rw [hx] at ht; cases ht) hP (ee_var rfl) (ee_var rfl) (ee_var rfl)) (congrArg PyData.bool hsh)) (ee_var rfl)))) rfl) (fun z => nomatch z) fun _ => es_skip
noncomputable abbrev papEs (n : Nat) (ps : List (Nat × Nat)) (cs : List Nat) (x0 x1 x3 x5 x6 x7 x8 x9 x11 x12 x13 x15 x16 x17 x18 x19 : Option PyData) : Es := [x0, x1, some (webD n ps), x3, some (lotD cs), x5, x6, x7, x8, x9, some (papD (paperQ n ps cs)), x11, x12, x13, some (ratD (paperQ n ps cs).sum), x15, x16, x17, x18, x19]
theorem e_pap {x3 x7 x8 : Option PyData} (W : Web n ps) (Ct : Csts n cs) (hP : ∀ x ∈ G.ps, x ∈ Ts.ts) (hy : PapOk y) : ∃ b, ES S Ts (t_lawP G) (papEs n ps cs x0 x1 x3 x5 x6 x7 x8 x9 x11 (some y) x13 x15 x16 x17 x18 x19) (.nx (papEs n ps cs x0 x1 x3 x5 x6 x7 x8 x9 x11 (some y) (some (.bool b)) x15 x16 x17 x18 x19)) := by
  have q0 : ∀ q ∈ paperQ n ps cs, SzR 40 q := fun q hq => (paper_sz W Ct q hq).mono (by omega)
  have l0 : (paperQ n ps cs).length ≤ 20 := by rw [paper_len W Ct]; have := W.le; omega
  cases hy with
  | pap qs hq hl =>
    refine ⟨fitsQ n ps cs qs, ?_⟩
    have hsum : ∀ {S : Hs} {es : Es}, es[12]? = some (some (papD qs)) → EE S Ts (tCall (sp_w_sum G) [] C8.E0 (tCons (tCB (uLst G.K) (tCons (tVar 12) tNil)) tNil)) es (ratD qs.sum) := fun h => c_w_sum hq hl hP (ee_cb (aa_cons (ee_var (d := .tuple (qs.map ratD)) h) aa_nil) fun _ => rc_lstT)
    refine es_seq (es_set (c_w_fits W Ct hq hl hP (ee_var rfl) (ee_var rfl) (ee_var rfl))) ?_
    refine es_seq (es_if (b := false) (et_is' (tt_and (b := false) (tt_B (b := fitsQ n ps cs qs) (ee_var rfl)) fun hf => et_is' (tt_B (c_w_less (sum_sz q0 l0) (sum_sz hq hl) hP (ee_var rfl) (hsum rfl))) ?_) (by simp)) (fun z => nomatch z) fun _ => es_skip) ?_
    · rw [lt_le]; exact (paper_best W Ct).2 qs hf
    · refine es_if (b := false) (et_is' (tt_not (tt_B (c_w_alike (x := .bool (fitsQ n ps cs qs && decide (qs.sum = (paperQ n ps cs).sum))) trivial hP (c_shows_paper W Ct hq hl hP (ee_var rfl) (ee_var rfl) (ee_var rfl)) (ee_and (ee_var rfl) fun _ => ee_is (ee_op (hsum rfl) (ee_var (d := ratD (paperQ n ps cs).sum) rfl) fun _ => rv_eq rfl rfl (by simp [ratD, PyData.depth, PyData.depthAll])) (by rw [eqv_rat]))))) rfl) (fun z => nomatch z) fun _ => es_skip
  | no y ht hp =>
    refine ⟨false, ?_⟩
    refine es_seq (es_set (c_w_fitsN W Ct ht hp hP (ee_var rfl) (ee_var rfl) (ee_var rfl))) ?_
    refine es_seq (es_if (b := false) (et_is' (tt_and (a := false) (b := false) (tt_B (ee_var rfl)) fun z => nomatch z) rfl) (fun z => nomatch z) fun _ => es_skip) ?_
    exact es_if (b := false) (et_is' (tt_not (tt_B (c_w_alike (x := .bool false) trivial hP (c_shows_paperN W Ct ht hp hP (ee_var rfl) (ee_var rfl) (ee_var rfl)) (ee_is (ee_and (a := false) (b := false) (ee_var rfl) fun z => nomatch z) rfl)))) rfl) (fun z => nomatch z) fun _ => es_skip
end
end KV
set_option Elab.async false
set_option linter.all false
set_option maxRecDepth 100000
set_option maxHeartbeats 4000000
/-! Evaluation: the law, whole. -/
namespace KV
open PySem PySem.Spec PyProof.Rows L2 GxR KO Smx
section
variable {G : Gd} {S S' : Hs} {T T' Ts : Ks} {es : Es} {te to ta tb tc tl tx tj tk : TE} {t : TA} {tt tu : TT} {u t1 t2 : TS} {d x y z : PyData} {n i j k : Nat} {ds : List PyData} {X X1 X2 : Sta} {P : Sta → Prop} {P1 P2 : Sta → PyData → Prop} {R : Sta → PyData → Prop} {K : PySem.W.Frag} {a : Addr} {sc : List Int} {m : Int} {ps : List (Nat × Nat)} {cs l : List Nat} {qs : List Rat}
theorem alk_lot (h : l.length ≤ 1000) (k : Nat) : Alk (k + 1) (lotD l) := ⟨by rw [List.length_map]; exact h, fun x hx => by
  obtain ⟨i, _, rfl⟩ := List.mem_map.mp hx
  cases k <;> trivial⟩
theorem alk_lots {ls : List (List Nat)} (h : ls.length ≤ 1000) (hl : ∀ l ∈ ls, l.length ≤ 1000) : Alk 2 (.tuple (ls.map lotD)) := ⟨by rw [List.length_map]; exact h, fun x hx => by
  obtain ⟨l, hl', rfl⟩ := List.mem_map.mp hx
  exact alk_lot (hl l hl') 0⟩
theorem cost_int (cs : List Nat) : ∀ l : List Nat, (l.map fun i => ((cs.getD i 0 : Nat) : Int)).sum = ((cost cs l : Nat) : Int)
  | [] => rfl
  | a :: l => by
    have ih := cost_int cs l
    unfold cost at ih ⊢
    rw [List.map_cons, List.sum_cons, List.map_cons, List.sum_cons, ih]
    omega
theorem cut_fromG {α : Type} {f : α → PyData} {l : List α} {k : Nat} (h : k ≤ l.length) : cutD (l.map f) (some (k : Int)) none = (l.drop k).map f := by
  unfold cutD
  rw [HT.sIx_nat, HT.sIx_none, List.length_map, Nat.min_eq_left h, List.map_drop]
  exact List.take_of_length_le (by rw [List.length_drop, List.length_map]; omega)
theorem cut_toG {α : Type} {f : α → PyData} {l : List α} {k : Nat} : cutD (l.map f) none (some (k : Int)) = (l.take (min k l.length)).map f := by
  unfold cutD
  rw [HT.sIx_nat, HT.sIx_none, List.length_map, List.drop_zero, Nat.sub_zero, List.map_take]
theorem lotsC_small (hn : n ≤ 5) (h : l ∈ lotsC n ps) : l.length ≤ 5 := Nat.le_trans (lotsC_mem.mp h).1.len hn
theorem least_sub (h : l ∈ leastL n ps) : l ∈ lotsC n ps := (List.mem_filter.mp h).1
theorem rep_flat (z : PyData) : ∀ n, (List.replicate n [z]).flatten = List.replicate n z
  | 0 => rfl
  | n + 1 => by rw [List.replicate_succ, List.replicate_succ, List.flatten_cons, rep_flat z n]; rfl
def half : Rat := ⟨1, 2, by decide, by decide⟩
def mhalf : Rat := ⟨-1, 2, by decide, by decide⟩
theorem half_sz : SzR 3 half := ⟨by decide, by decide⟩
theorem mhalf_sz : SzR 3 mhalf := ⟨by decide, by decide⟩
theorem plain_pap (qs : List Rat) : (papD qs).plain = true := by unfold papD; rw [PyData.plain]; exact plain_map plain_rat qs
theorem e_law {Post : Hs → Ks → PyData → Prop} (hT : T.ts = G.ps) (h : W_law G.K S T ds Post) : MS (t_law G) ⟨S, T, ds.map some ++ List.replicate (20 - ds.length) none⟩ (fun X => Post X.S X.T .none) (fun X d => Post X.S X.T d) := by
  obtain ⟨b, sc, rfl, hsc, hPost⟩ := h
  -- the row of draws
  refine ms_seq (P1 := fun X => ∃ S1 T1 a, RowAt G.K S1 T1 a sc ∧ T1.ts = G.ps ∧ X = ⟨S1, T1, [some (rawD b), some (rawD a), none, none, none, none, none, none, none, none, none, none, none, none, none, none, none, none, none, none]⟩) (ms_own (ds := [rawD b, .int 0, .int 13508, .int 0]) (en_lst (aa_cons (ee_var rfl) (aa_cons ee_int (aa_cons ee_int (aa_cons ee_int aa_nil)))) (by simp)) fun a vs h1 h2 h3 => ⟨S.own a (.lst vs), T.kn vs [rawD b, .int 0, .int 13508, .int 0], a, ⟨b, vs, 0, 13508, 0, List.mem_cons_self, upd_same, h3, List.mem_cons_self, hsc.mono (fun c o xs e => ?_) (fun q hq => List.mem_cons_of_mem _ hq), by decide, by decide, by decide⟩, hT, rfl⟩) ?_
  · show upd S.fz a _ c = _
    rw [upd_ne (fun z => by rw [z, show S.fz a = none from h2] at e; cases e)]; exact e
  rintro _ ⟨S1, T1, a, hrow, hT1, rfl⟩
  -- the web
  refine ms_seq (P1 := fun X => ∃ S2 T2 n ps, RowAt G.K S2 T2 a sc ∧ T2.ts = G.ps ∧ Web n ps ∧ X = ⟨S2, T2, [some (rawD b), some (rawD a), some (webD n ps), none, none, none, none, none, none, none, none, none, none, none, none, none, none, none, none, none]⟩)
    (ms_setM (P1 := fun X' d => ∃ n ps, d = webD n ps ∧ Web n ps ∧ RowAt G.K X'.S X'.T a sc ∧ X'.T.ts = G.ps ∧ X'.es = [some (rawD b), some (rawD a), none, none, none, none, none, none, none, none, none, none, none, none, none, none, none, none, none, none]) (me_call (ds := [rawD a, .int 5]) (aa_cons (ee_var rfl) (aa_cons ee_int aa_nil)) hT1 ⟨a, sc, rfl, hrow, fun S' T' n ps g1 g2 g3 g4 g5 W => ⟨n, ps, rfl, W, g5, g3.trans hT1, rfl⟩⟩) fun X' d hd => ?_) ?_
  · obtain ⟨n, ps, rfl, W, h1, h2, h3⟩ := hd
    exact ⟨X'.S, X'.T, n, ps, h1, h2, W, by rw [h3]; rfl⟩
  rintro _ ⟨S2, T2, n, ps, hrow2, hT2, W, rfl⟩
  have hn := W.le
  have hn1 := W.pos
  have hP2 : ∀ x ∈ G.ps, x ∈ T2.ts := fun x hx => hT2 ▸ hx
  have hL : (lots n).length ≤ 100000 := by rw [lots_len]; have := pow5 hn; omega
  have hC : (lotsC n ps).length ≤ 32 := lotsC_len hn
  -- lots, costs
  refine ms_seq (P1 := fun X => ∃ S3 T3 cs, T3.ts = G.ps ∧ Csts n cs ∧ X = ⟨S3, T3, [some (rawD b), some (rawD a), some (webD n ps), some (.list ((lotsC n ps).map lotD)), some (lotD cs), none, none, none, none, none, none, none, none, none, none, none, none, none, none, none]⟩)
    (ms_tup2M (x := .list ((lotsC n ps).map lotD)) (ee_lcV (l := lots n) (F := lotD) (f := lotD) (p := cov n ps) (ei_seqL (c_w_lots W hP2 (ee_var rfl))) (by simp) hL fun l hl S' hz => ⟨tt_B (c_w_covers W (lots_mem'.mp hl) hP2 (ee_var rfl) (ee_var rfl)), fun _ => ee_var rfl⟩) (me_draws hrow2 hT2 rfl (aa_cons (ee_web0 (ee_var rfl)) aa_nil) (by omega)) fun X' d hd => ?_) ?_
  · obtain ⟨hu, cs, rfl, hcl, hc⟩ := hd
    exact ⟨lotD cs, fun _ => rc_tupL, X'.S, X'.T, cs, hu.ts.trans hT2, ⟨hcl, hc⟩, by rw [hu.es]; rfl⟩
  rintro _ ⟨S3, T3, cs, hT3, Ct, rfl⟩
  have hP : ∀ x ∈ G.ps, x ∈ T3.ts := fun x hx => hT3 ▸ hx
  obtain ⟨m, hm, hchp, hcm⟩ := chp_is n ps cs
  obtain ⟨l0, r0, el0⟩ := List.exists_cons_of_ne_nil (least_ne (n := n) (ps := ps))
  have hl0 : l0 ∈ leastL n ps := by rw [el0]; exact List.mem_cons_self
  have hm5 := lotsC_small hn hm
  have hLe : (leastL n ps).length ≤ 32 := Nat.le_trans (List.length_filter_le _ _) hC
  -- few
  refine ms_seq (P1 := fun X => X = ⟨S3, T3, [some (rawD b), some (rawD a), some (webD n ps), some (.list ((lotsC n ps).map lotD)), some (lotD cs), some (natD (fewOf n ps)), none, none, none, none, none, none, none, none, none, none, none, none, none, none]⟩)
    (ms_es (es_set (ee_cb (aa_cons (ee_is (ee_lcV (l := lotsC n ps) (F := lotD) (f := fun l => natD l.length) (p := fun _ => true) (ei_seqL (ee_var rfl)) (by simp) (by omega) fun l hl S' hz => ⟨tt_yes, fun _ => ee_is (ee_cb (aa_cons (ee_var (d := .tuple (l.map natD)) rfl) aa_nil) fun _ => rc_lenT) (by rw [List.length_map])⟩) (show _ = PyData.list (((lotsC n ps).map List.length).map natD) by rw [filter_yes, List.map_map]; rfl)) aa_nil) fun _ => rc_minN (by simpa using lotsC_ne))) rfl) ?_
  rintro _ rfl
  -- least
  refine ms_seq (P1 := fun X => X = ⟨S3, T3, [some (rawD b), some (rawD a), some (webD n ps), some (.list ((lotsC n ps).map lotD)), some (lotD cs), some (natD (fewOf n ps)), some (.list ((leastL n ps).map lotD)), none, none, none, none, none, none, none, none, none, none, none, none, none]⟩)
    (ms_es (es_set (ee_is (ee_lcV (l := lotsC n ps) (F := lotD) (f := lotD) (p := fun l => decide (l.length = fewOf n ps)) (ei_seqL (ee_var rfl)) (by simp) (by omega) fun l hl S' hz => ⟨et_is' (tt_test (ee_op (ee_cb (aa_cons (ee_var (d := .tuple (l.map natD)) rfl) aa_nil) fun _ => rc_lenT) (ee_var rfl) fun _ => rv_eqI)) ?_, fun _ => ee_var rfl⟩) rfl)) rfl) ?_
  · rw [List.length_map]
    show decide ((l.length : Int) = ((fewOf n ps : Nat) : Int)) = _
    rw [Bool.eq_iff_iff, decide_eq_true_iff, decide_eq_true_iff]
    omega
  rintro _ rfl
  -- alike
  refine ms_seq (P1 := fun X => X = ⟨S3, T3, [some (rawD b), some (rawD a), some (webD n ps), some (.list ((lotsC n ps).map lotD)), some (lotD cs), some (natD (fewOf n ps)), some (.list ((leastL n ps).map lotD)), none, none, none, none, none, none, none, none, none, none, none, none, none]⟩)
    (ms_if (b := false) (et_is' (tt_or (tt_not (tt_B (c_w_alike (x := natD (fewOf n ps)) trivial hP (c_forget_length W hP (ee_var rfl)) (ee_var rfl)))) fun _ => tt_or (tt_not (tt_B (c_w_alike (x := .tuple ((leastL n ps).map lotD)) (alk_lots (by omega) fun l hl => by have := lotsC_small hn (least_sub hl); omega) hP (c_forget_lots W hP (ee_var rfl)) (ee_cb (aa_cons (ee_var rfl) aa_nil) fun _ => rc_tupL)))) fun _ => tt_not (tt_B (c_w_alike (x := lotD l0) (alk_lot (by have := lotsC_small hn (least_sub hl0); omega) 1) hP (c_forget_row W (by rw [el0]; rfl) hP (ee_var rfl)) (ee_op (ee_var (d := .list ((leastL n ps).map lotD)) rfl) ee_int fun _ => rv_ixL (i := ((0 : Nat) : Int)) (atI_nat (by rw [List.getElem?_map, el0]; rfl)))))) rfl) (fun z => nomatch z) fun _ => ms_es es_skip rfl) ?_
  rintro _ rfl
  -- prices
  refine ms_seq (P1 := fun X => X = ⟨S3, T3, [some (rawD b), some (rawD a), some (webD n ps), some (.list ((lotsC n ps).map lotD)), some (lotD cs), some (natD (fewOf n ps)), some (.list ((leastL n ps).map lotD)), some (.list ((lotsC n ps).map fun l => natD (cost cs l))), none, none, none, none, none, none, none, none, none, none, none, none]⟩)
    (ms_es (es_set (ee_is (ee_lcV (l := lotsC n ps) (F := lotD) (f := fun l => natD (cost cs l)) (p := fun _ => true) (ei_seqL (ee_var rfl)) (by simp) (by omega) fun l hl S' hz => ⟨tt_yes, fun _ => ee_is (ee_cb (aa_cons (ee_is (ee_lcV (l := l) (F := natD) (f := fun i => natD (cs.getD i 0)) (p := fun _ => true) (ei_seqT (ee_var (d := .tuple (l.map natD)) rfl)) (by simp) (by have := lotsC_small hn hl; omega) fun i hi S'' hz' => ⟨tt_yes, fun _ => ?_⟩) (show _ = PyData.list ((l.map fun i => ((cs.getD i 0 : Nat) : Int)).map PyData.int) by rw [filter_yes, List.map_map]; rfl)) aa_nil) fun _ => rc_sumI) (congrArg PyData.int (cost_int cs l))⟩) (by rw [filter_yes]))) rfl) ?_
  · have hi' : i < cs.length := by rw [Ct.len]; exact (lotsC_mem.mp hl).1.lt i hi
    exact ee_op (ee_var (d := .tuple (cs.map natD)) rfl) (ee_var rfl) fun _ => rv_ixT (atI_nat (by rw [getL_map hi', getD_of (List.getElem?_eq_getElem hi')]))
  rintro _ rfl
  -- best, found, paper
  let bD : PyData := natD (bestC n ps cs)
  let fD : PyData := .tuple [natD (bestC n ps cs), lotD m]
  let qD : PyData := papD (paperQ n ps cs)
  have q17 := paper_sz W Ct
  have q0 : ∀ q ∈ paperQ n ps cs, SzR 40 q := fun q hq => (q17 q hq).mono (by omega)
  have ql := paper_len W Ct
  refine ms_seq (P1 := fun X => X = ⟨S3, T3, [some (rawD b), some (rawD a), some (webD n ps), some (.list ((lotsC n ps).map lotD)), some (lotD cs), some (natD (fewOf n ps)), some (.list ((leastL n ps).map lotD)), some (.list ((lotsC n ps).map fun l => natD (cost cs l))), some bD, some fD, some qD, none, none, none, none, none, none, none, none, none]⟩)
    (ms_es (es_asg (ee_tup (aa_cons (d := bD) (ee_cb (aa_cons (ee_is (ee_var (d := .list ((lotsC n ps).map fun l => natD (cost cs l))) rfl) (show _ = PyData.list (((lotsC n ps).map (cost cs)).map natD) by rw [List.map_map]; rfl)) aa_nil) fun _ => rc_minN (by simpa using lotsC_ne)) (aa_cons (d := fD) (ee_is (c_cheap_forget W Ct hP (ee_var rfl) (ee_var rfl)) (by rw [hchp]; show prc cs m = _; unfold prc; rw [hcm])) (aa_cons (d := qD) (c_forget_paper W Ct hP (ee_var rfl) (ee_var rfl)) aa_nil))) (by simp)) eg_tri) rfl) ?_
  rintro _ rfl
  have pf : fD.plain = true := by show (PyData.tuple [_, _]).plain = true; rw [PyData.plain, PyData.plainAll, PyData.plainAll, PyData.plainAll, plain_lot]; rfl
  have f0 : ∀ {S : Hs} {es : Es}, es[9]? = some (some fD) → EE S T3 (tOp (rIx G.K) (tVar 9) (tC (.int 0))) es bD := fun h => ee_op (ee_var h) ee_int fun _ => rv_ixT rfl
  have f1 : ∀ {S : Hs} {es : Es}, es[9]? = some (some fD) → EE S T3 (tOp (rIx G.K) (tVar 9) (tC (.int 1))) es (lotD m) := fun h => ee_op (ee_var h) ee_int fun _ => rv_ixT rfl
  -- found is right
  refine ms_seq (P1 := fun X => X = ⟨S3, T3, [some (rawD b), some (rawD a), some (webD n ps), some (.list ((lotsC n ps).map lotD)), some (lotD cs), some (natD (fewOf n ps)), some (.list ((leastL n ps).map lotD)), some (.list ((lotsC n ps).map fun l => natD (cost cs l))), some bD, some fD, some qD, none, none, none, none, none, none, none, none, none]⟩)
    (ms_if (b := false) (et_is' (tt_or (tt_not (tt_B (ee_isTup (ee_var (d := fD) rfl) pf))) fun _ => tt_or (tt_test (ee_op (ee_cb (aa_cons (ee_var (d := fD) rfl) aa_nil) fun _ => rc_lenT) ee_int fun _ => rv_neI)) fun _ => tt_or (tt_test (ee_op (f0 rfl) (ee_var (d := bD) rfl) fun _ => rv_neI)) fun _ => tt_or (tt_test (ee_op (f1 rfl) (ee_var (d := .list ((lotsC n ps).map lotD)) rfl) fun _ => rv_niL (plain_lot m) (plain_map plain_lot _) (by rw [depth_lot]; omega))) fun _ => tt_test (ee_op (ee_price (l := m) (cs := cs) (ls := lotsC n ps) (ee_var rfl) (ee_var rfl) (f1 rfl) hm) (ee_var (d := bD) rfl) fun _ => rv_neI)) ?_) (fun z => nomatch z) fun _ => ms_es es_skip rfl) ?_
  · rw [any_lots, decide_eq_true hm, hcm]
    simp [isTupD, fD, bD]
  rintro _ rfl
  -- values
  let vsD : List PyData := [fD, .list [natD (bestC n ps cs), lotD m], .tuple [natD (bestC n ps cs), .list (m.map natD)], .tuple [.int ((bestC n ps cs : Int) + 1), lotD m], .tuple [natD (bestC n ps cs), lotD m.reverse], .tuple [natD (bestC n ps cs), lotD []], .none, .int 3, .tuple [natD (bestC n ps cs), lotD [n]]]
  have hvs : ∀ y ∈ vsD, ValOk y := fun y hy => by
    simp only [vsD, List.mem_cons, List.not_mem_nil, or_false] at hy
    rcases hy with rfl | rfl | rfl | rfl | rfl | rfl | rfl | rfl | rfl
    · exact .lot _ _ (by omega)
    · exact .no _ rfl (by rw [PyData.plain, PyData.plainAll, PyData.plainAll, PyData.plainAll, plain_lot]; rfl)
    · exact .lst _ _
    · exact .lot _ _ (by omega)
    · exact .lot _ _ (by rw [List.length_reverse]; omega)
    · exact .lot _ _ (by simp)
    · exact .no _ rfl rfl
    · exact .no _ rfl rfl
    · exact .lot _ _ (by simp)
  refine ms_seq (P1 := fun X => X = ⟨S3, T3, valEs n ps cs (some (rawD b)) (some (rawD a)) (some (natD (fewOf n ps))) (some (.list ((leastL n ps).map lotD))) (some fD) (some qD) (some (.list vsD)) none none none none none none none none⟩)
    (ms_es (es_set (ee_lst (aa_cons (ee_var rfl) (aa_cons (ee_cb (aa_cons (ee_var (d := fD) rfl) aa_nil) fun _ => rc_lstT) (aa_cons (ee_tup (aa_cons (ee_var rfl) (aa_cons (ee_cb (aa_cons (f1 rfl) aa_nil) fun _ => rc_lstT) aa_nil)) (by simp)) (aa_cons (ee_tup (aa_cons (ee_op (ee_var (d := bD) rfl) ee_int fun _ => rv_addI) (aa_cons (f1 rfl) aa_nil)) (by simp)) (aa_cons (ee_tup (aa_cons (ee_var rfl) (aa_cons (d := lotD m.reverse) (ee_is (ee_revT (f1 rfl)) (by unfold lotD; rw [List.map_reverse])) aa_nil)) (by simp)) (aa_cons (ee_tup (aa_cons (ee_var rfl) (aa_cons (ee_tup aa_nil (by simp)) aa_nil)) (by simp)) (aa_cons ee_non (aa_cons ee_int (aa_cons (ee_tup (aa_cons (ee_var rfl) (aa_cons (ee_tup (aa_cons (ee_web0 (ee_var rfl)) aa_nil) (by simp)) aa_nil)) (by simp)) aa_nil))))))))) (by simp))) rfl) ?_
  rintro _ rfl
  -- each value
  have hval := forO_all (ys := vsD ++ ((lots n).take (min 20 (lots n).length)).map fun l => PyData.tuple [natD (bestC n ps cs), lotD l]) (es := valEs n ps cs (some (rawD b)) (some (rawD a)) (some (natD (fewOf n ps))) (some (.list ((leastL n ps).map lotD))) (some fD) (some qD) (some (.list vsD)) none none none none none none none none) (Pe := fun es => ∃ x12 x13, es = valEs n ps cs (some (rawD b)) (some (rawD a)) (some (natD (fewOf n ps))) (some (.list ((leastL n ps).map lotD))) (some fD) (some qD) (some (.list vsD)) x12 x13 none none none none none none)
    (step := fun es y o => ∃ es1, EG S3 T3 (gName 12) y es es1 ∧ ES S3 T3 (t_lawV G) es1 o) (by
      rintro y hy _ ⟨x12, x13, rfl⟩
      have hv : ValOk y := by
        rcases List.mem_append.mp hy with q | q
        · exact hvs y q
        · obtain ⟨l, hl, rfl⟩ := List.mem_map.mp q
          exact .lot _ _ (by have := (lots_mem'.mp (List.mem_of_mem_take hl)).len; omega)
      exact ⟨_, ⟨_, eg_name' rfl, e_val W Ct hP hv⟩, _, _, rfl⟩) ⟨none, none, rfl⟩
  obtain ⟨es2, hfor, x12, x13, rfl⟩ := hval
  refine ms_seq (P1 := fun X => X = ⟨S3, T3, valEs n ps cs (some (rawD b)) (some (rawD a)) (some (natD (fewOf n ps))) (some (.list ((leastL n ps).map lotD))) (some fD) (some qD) (some (.list vsD)) x12 x13 none none none none none none⟩)
    (ms_es (es_for (ei_seqL (ee_op (ee_var (d := .list vsD) rfl) (ee_is (ee_lcV (l := (lots n).take (min 20 (lots n).length)) (F := lotD) (f := fun l => PyData.tuple [natD (bestC n ps cs), lotD l]) (p := fun _ => true) (ei_seqL (ee_is (ee_slL (c_w_lots W hP (ee_var rfl)) oo_none (oo_some (i := ((20 : Nat) : Int)) ee_int)) (by rw [cut_toG]))) (by simp) (by rw [List.length_take]; omega) fun l hl S' hz => ⟨tt_yes, fun _ => ee_tup (aa_cons (ee_var rfl) (aa_cons (ee_var rfl) aa_nil)) (by simp)⟩) (by rw [filter_yes])) fun _ => rv_addL ?_)) hfor) rfl) ?_
  · rw [List.length_map, List.length_take]
    simp only [vsD, List.length_cons, List.length_nil]
    omega
  rintro _ rfl
  -- the paper
  have hsum : ∀ {S : Hs} {es : Es}, es[10]? = some (some qD) → EE S T3 (tCall (sp_w_sum G) [] C8.E0 (tCons (tCB (uLst G.K) (tCons (tVar 10) tNil)) tNil)) es (ratD (paperQ n ps cs).sum) := fun h => c_w_sum q0 (by omega) hP (ee_cb (aa_cons (ee_var (d := .tuple ((paperQ n ps cs).map ratD)) h) aa_nil) fun _ => rc_lstT)
  have hb12 : bestC n ps cs < 2 ^ 20 := by
    have h1 : ∀ l : List Nat, (∀ i ∈ l, i < n) → cost cs l ≤ 1000 * l.length := fun l => by
      induction l with
      | nil => intro _; exact Nat.le_refl _
      | cons c l ih =>
        intro h
        have h2 := ih fun i hi => h i (List.mem_cons_of_mem _ hi)
        have hi' : c < cs.length := by rw [Ct.len]; exact h c List.mem_cons_self
        have h3 := Ct.le _ (List.getElem_mem hi')
        unfold cost at h2 ⊢
        rw [List.map_cons, List.sum_cons, getD_of (List.getElem?_eq_getElem hi'), List.length_cons]
        omega
    have := h1 m (lotsC_mem.mp hm).1.lt
    rw [hcm] at this
    have e : (2 : Nat) ^ 20 = 1048576 := by decide
    omega
  refine ms_seq (P1 := fun X => X = ⟨S3, T3, valEs n ps cs (some (rawD b)) (some (rawD a)) (some (natD (fewOf n ps))) (some (.list ((leastL n ps).map lotD))) (some fD) (some qD) (some (.list vsD)) x12 x13 none none none none none none⟩)
    (ms_if (b := false) (et_is' (tt_or (tt_not (tt_B (c_w_fits W Ct q0 (by omega) hP (ee_var rfl) (ee_var rfl) (ee_var (d := qD) rfl)))) fun _ => tt_B (c_w_less (q := ((bestC n ps cs : Nat) : Rat)) ((szr_nat hb12 (by omega)).mono (by omega)) (sum_sz q0 (by omega)) hP (ee_is (ee_tup (aa_cons (ee_var (d := bD) rfl) (aa_cons ee_int aa_nil)) (by simp)) (ratD_nat _).symm) (hsum rfl))) ?_) (fun z => nomatch z) fun _ => ms_es es_skip rfl) ?_
  · rw [(paper_best W Ct).1, (lt_le _ _).mpr (paper_under W Ct)]; rfl
  rintro _ rfl
  -- its sum
  refine ms_seq (P1 := fun X => X = ⟨S3, T3, papEs n ps cs (some (rawD b)) (some (rawD a)) (some (.list ((lotsC n ps).map lotD))) (some (natD (fewOf n ps))) (some (.list ((leastL n ps).map lotD))) (some (.list ((lotsC n ps).map fun l => natD (cost cs l)))) (some bD) (some fD) (some (.list vsD)) x12 x13 none none none none none⟩) (ms_es (es_set (hsum rfl)) rfl) ?_
  rintro _ rfl
  -- the papers
  let pE : Option PyData → Option PyData → Option PyData → Es := fun x15 x16 x17 => papEs n ps cs (some (rawD b)) (some (rawD a)) (some (.list ((lotsC n ps).map lotD))) (some (natD (fewOf n ps))) (some (.list ((leastL n ps).map lotD))) (some (.list ((lotsC n ps).map fun l => natD (cost cs l)))) (some bD) (some fD) (some (.list vsD)) x12 x13 x15 x16 x17 none none
  let J : Nat → Sta → Prop := fun k X => ∃ p vs ys ow x16 x17, p ∉ S3.ad ∧ S3.fz p = none ∧ (∀ y ∈ ys, PapOk y) ∧ vs.length = ys.length ∧ ys.length ≤ 8 + 2 * k ∧ X = ⟨S3.own p (.lst vs), ⟨T3.ts, (vs, ys) :: ow⟩, pE (some (rawD p)) x16 x17⟩
  have hq10 : (papD (paperQ n ps cs)) = .tuple ((paperQ n ps cs).map ratD) := rfl
  refine ms_seq (P1 := J 0) (ms_own (ds := [qD, .list ((paperQ n ps cs).map ratD), papD ((paperQ n ps cs).drop 1), papD (paperQ n ps cs).reverse, papD (paperQ n ps cs ++ [0]), papD (List.replicate n 0), .none, .int 3])
    (en_lst (aa_cons (ee_var rfl) (aa_cons (ee_cb (aa_cons (ee_var (d := .tuple ((paperQ n ps cs).map ratD)) rfl) aa_nil) fun _ => rc_lstT) (aa_cons (ee_is (ee_slT (xs := (paperQ n ps cs).map ratD) (ee_var rfl) (oo_some (i := ((1 : Nat) : Int)) ee_int) oo_none) (by rw [cut_fromG (by omega)]; rfl)) (aa_cons (ee_is (ee_revT (xs := (paperQ n ps cs).map ratD) (ee_var rfl)) (by unfold papD; rw [List.map_reverse])) (aa_cons (ee_is (ee_op (ee_var (d := .tuple ((paperQ n ps cs).map ratD)) rfl) (ee_tup (aa_cons (d := ratD 0) (ee_tup (aa_cons ee_int (aa_cons ee_int aa_nil)) (by simp)) aa_nil) (by simp)) fun _ => rv_addT (by rw [List.length_map]; simp; omega)) (by unfold papD; rw [List.map_append]; rfl)) (aa_cons (ee_is (ee_op (ee_tup (aa_cons (d := ratD 0) (ee_tup (aa_cons ee_int (aa_cons ee_int aa_nil)) (by simp)) aa_nil) (by simp)) (ee_web0 (ee_var rfl)) fun _ => rv_mulT (by omega) (by omega) (by simp) (by simp)) (by
      unfold papD
      rw [Int.toNat_natCast, List.map_replicate, rep_flat])) (aa_cons ee_non (aa_cons ee_int aa_nil)))))))) (by simp)) fun p vs h1 h2 h3 => ⟨p, vs, _, T3.ow, none, none, h1, h2, fun y hy => ?_, h3, by simp, rfl⟩) ?_
  · simp only [List.mem_cons, List.not_mem_nil, or_false] at hy
    rcases hy with rfl | rfl | rfl | rfl | rfl | rfl | rfl | rfl
    · exact .pap _ q0 (by omega)
    · exact .no _ rfl (by rw [PyData.plain]; exact plain_map plain_rat _)
    · exact .pap _ (fun q hq => q0 q (List.mem_of_mem_drop hq)) (by rw [List.length_drop]; omega)
    · exact .pap _ (fun q hq => q0 q (List.mem_reverse.mp hq)) (by rw [List.length_reverse]; omega)
    · refine .pap _ (fun q hq => ?_) (by simp; omega)
      rcases List.mem_append.mp hq with z | z
      · exact q0 q z
      · rw [List.mem_singleton.mp z]; exact szr_zero.mono (by omega)
    · exact .pap _ (fun q hq => by rw [(List.mem_replicate.mp hq).2]; exact szr_zero.mono (by omega)) (by rw [List.length_replicate]; omega)
    · exact .no _ rfl rfl
    · exact .no _ rfl rfl
  intro X hJ0
  refine ms_seq (P1 := J n) ?_ ?_
  · have hE : EI2 X.S (fun _ => none) X.T (iRng1 (tCons (tOp (rIx G.K) (tVar 2) (tC (.int 0))) tNil)) X.es ((List.range n).map natD) := by
      obtain ⟨p, vs, ys, ow, x16, x17, g1, g2, g3, g4, g5, rfl⟩ := hJ0
      exact ei2_nat (aa_cons (ee_web0 (ee_var rfl)) aa_nil) (by omega)
    refine ms_for (f0 := fun _ => none) (ys := (List.range n).map natD) J hE hJ0 (fun i X h b o z => by cases z) ?_ (fun X h => by simpa using h)
    rintro i hi X ⟨p, vs, ys, ow, x16, x17, g1, g2, g3, g4, g5, rfl⟩
    have hi' : i < n := by simpa using hi
    have hiq : i < (paperQ n ps cs).length := by omega
    have e : ((List.range n).map natD)[i] = natD i := by simp
    rw [e]
    refine ⟨_, eg_name' rfl, ?_⟩
    let J2 : Nat → Sta → Prop := fun k X => ∃ vs ys ow x17, (∀ y ∈ ys, PapOk y) ∧ vs.length = ys.length ∧ ys.length ≤ 8 + 2 * i + k ∧ X = ⟨S3.own p (.lst vs), ⟨T3.ts, (vs, ys) :: ow⟩, pE (some (rawD p)) (some (natD i)) x17⟩
    refine ms_for (f0 := fun _ => none) (ys := [ratD half, ratD mhalf]) J2 (ei2_seqL (ee_lst (aa_cons (ee_tup (aa_cons ee_int (aa_cons ee_int aa_nil)) (by simp)) (aa_cons (ee_tup (aa_cons (ee_un ee_int fun _ => ru_neg) (aa_cons ee_int aa_nil)) (by simp)) aa_nil)) (by simp))) ⟨vs, ys, ow, x17, g3, g4, by omega, rfl⟩ (fun i X h b o z => by cases z) ?_ ?_
    · rintro k hk X ⟨vs, ys, ow, x17, g3, g4, g5, rfl⟩
      have hk2 : k < 2 := hk
      obtain ⟨st, hst, est⟩ : ∃ st, SzR 3 st ∧ [ratD half, ratD mhalf][k] = ratD st := by
        match k, hk2 with
        | 0, _ => exact ⟨half, half_sz, rfl⟩
        | 1, _ => exact ⟨mhalf, mhalf_sz, rfl⟩
      rw [est]
      have hqi := q17 _ (List.getElem_mem hiq)
      have hadd : SzR 40 ((paperQ n ps cs)[i] + st) := (szr_add hqi hst).mono (by omega)
      refine ⟨_, eg_name' rfl, ms_app (a := p) (vs := vs) (ds := ys) (d := papD ((paperQ n ps cs).take i ++ [(paperQ n ps cs)[i] + st] ++ (paperQ n ps cs).drop (i + 1))) (ee_var rfl) List.mem_cons_self upd_same List.mem_cons_self (ee_is (ee_op (ee_op (ee_is (ee_slT (xs := (paperQ n ps cs).map ratD) (ee_var rfl) oo_none (oo_some (i := (i : Int)) (ee_var rfl))) (congrArg PyData.tuple (cut_to (by omega)))) (ee_tup (aa_cons (d := ratD ((paperQ n ps cs)[i] + st)) (c_w_plus (hqi.mono (by omega)) (hst.mono (by omega)) hP (ee_op (ee_var (d := .tuple ((paperQ n ps cs).map ratD)) rfl) (ee_var (d := natD i) rfl) fun _ => rv_ixT (atI_nat (getL_map hiq))) (ee_var rfl)) aa_nil) (by simp)) fun _ => rv_addT (by simp; omega)) (ee_is (ee_slT (xs := (paperQ n ps cs).map ratD) (ee_var rfl) (oo_some (i := ((i + 1 : Nat) : Int)) (ee_is (ee_op (ee_var (d := natD i) rfl) ee_int fun _ => rv_addI) (congrArg PyData.int (by omega)))) oo_none) (congrArg PyData.tuple (cut_fromG (by omega)))) fun _ => rv_addT (by simp; omega)) (by unfold papD; rw [List.map_append, List.map_append]; rfl)) (by omega) fun v _ => ?_⟩
      refine ⟨vs ++ [v], ys ++ [papD ((paperQ n ps cs).take i ++ [(paperQ n ps cs)[i] + st] ++ (paperQ n ps cs).drop (i + 1))], (vs, ys) :: ow, some (ratD st), fun y hy => ?_, by rw [List.length_append, List.length_append, g4]; rfl, by rw [List.length_append, List.length_singleton]; omega, by rw [put_own]; rfl⟩
      rcases List.mem_append.mp hy with z | z
      · exact g3 y z
      · rw [List.mem_singleton.mp z]
        refine .pap _ (fun q hq => ?_) (by simp; omega)
        rcases List.mem_append.mp hq with z | z
        · rcases List.mem_append.mp z with z | z
          · exact q0 q (List.mem_of_mem_take z)
          · rw [List.mem_singleton.mp z]; exact hadd
        · exact q0 q (List.mem_of_mem_drop z)
    · rintro X ⟨vs, ys, ow, x17, g3, g4, g5, rfl⟩
      have g5' : ys.length ≤ 8 + 2 * i + 2 := g5
      exact ⟨p, vs, ys, ow, _, _, g1, g2, g3, g4, by omega, rfl⟩
  rintro X ⟨p, vs, ys, ow, x16, x17, g1, g2, g3, g4, g5, rfl⟩
  refine ms_rel (a := p) (vs := vs) (ds := ys) (ad := S3.ad) (f := S3.fz) (i := 15) rfl g1 upd_same List.mem_cons_self (gr_put g2) rfl ?_
  -- each paper
  have hpap := forO_all (ys := ys) (es := pE (some (.list ys)) x16 x17) (Pe := fun es => ∃ y12 y13, es = papEs n ps cs (some (rawD b)) (some (rawD a)) (some (.list ((lotsC n ps).map lotD))) (some (natD (fewOf n ps))) (some (.list ((leastL n ps).map lotD))) (some (.list ((lotsC n ps).map fun l => natD (cost cs l)))) (some bD) (some fD) (some (.list vsD)) y12 y13 (some (.list ys)) x16 x17 none none)
    (step := fun es y o => ∃ es1, EG ⟨S3.ad, S3.fz⟩ ⟨T3.ts, (vs, ys) :: ow⟩ (gName 12) y es es1 ∧ ES ⟨S3.ad, S3.fz⟩ ⟨T3.ts, (vs, ys) :: ow⟩ (t_lawP G) es1 o) (by
      rintro y hy _ ⟨y12, y13, rfl⟩
      obtain ⟨bb, hb⟩ := e_pap (G := G) (S := ⟨S3.ad, S3.fz⟩) (Ts := ⟨T3.ts, (vs, ys) :: ow⟩) (n := n) (ps := ps) (cs := cs) (x0 := some (rawD b)) (x1 := some (rawD a)) (x3 := some (.list ((lotsC n ps).map lotD))) (x5 := some (natD (fewOf n ps))) (x6 := some (.list ((leastL n ps).map lotD))) (x7 := some (.list ((lotsC n ps).map fun l => natD (cost cs l)))) (x8 := some bD) (x9 := some fD) (x11 := some (.list vsD)) (x13 := y13) (x15 := some (.list ys)) (x16 := x16) (x17 := x17) (x18 := none) (x19 := none) W Ct hP (g3 y hy)
      exact ⟨_, ⟨_, eg_name' rfl, hb⟩, _, _, rfl⟩) ⟨x12, x13, rfl⟩
  obtain ⟨es4, hfor4, y12, y13, rfl⟩ := hpap
  refine ms_seq (P1 := fun X => X = ⟨⟨S3.ad, S3.fz⟩, ⟨T3.ts, (vs, ys) :: ow⟩, papEs n ps cs (some (rawD b)) (some (rawD a)) (some (.list ((lotsC n ps).map lotD))) (some (natD (fewOf n ps))) (some (.list ((leastL n ps).map lotD))) (some (.list ((lotsC n ps).map fun l => natD (cost cs l)))) (some bD) (some fD) (some (.list vsD)) y12 y13 (some (.list ys)) x16 x17 none none⟩) (ms_es (es_for (ei_seqL (ee_var (d := .list ys) rfl)) hfor4) rfl) ?_
  rintro _ rfl
  exact ms_rt (es_ret ee_bl) (hPost _ _)
end
end KV
set_option Elab.async false
set_option linter.all false
set_option maxRecDepth 100000
set_option maxHeartbeats 4000000
/-! Every def keeps its promise (written by genok.py). -/
namespace KV
open PySem PySem.Spec PyProof.Rows L2 GxR KO GX C8
theorem spF_len {P : List Addr} {R : Hs → Ks → List PyData → PyData → Prop} {n : Nat} (h : ∀ S T ds d, R S T ds d → ds.length = n) {vs : List V} {H : Hp} {Q : VK} {E : XK} (hs : spF P R vs H Q E) : vs.length = n := by
  obtain ⟨S, T, ds, d, r, _, _, _, _, hR, _⟩ := hs
  rw [r.len, h S T ds d hR]
theorem spW_len {P : List Addr} {R : Hs → Ks → List PyData → (Hs → Ks → PyData → Prop) → Prop} {n : Nat} (h : ∀ S T ds Post, R S T ds Post → ds.length = n) {vs : List V} {H : Hp} {Q : VK} {E : XK} (hs : spW P R vs H Q E) : vs.length = n := by
  obtain ⟨S, T, ds, Post, r, _, _, _, _, hR, _⟩ := hs
  rw [r.len, h S T ds Post hR]
section
variable {P : Program} {w : World} {K : PySem.W.Frag} {mg : Str → Option Value} {base : Heap}
abbrev Body (P : Program) (w : World) (K : PySem.W.Frag) (mg : Str → Option Value) (base : Heap) (N : List Str) (q : Str) (st : Stmt) (f : Addr) (k : Nat) (sp : Sp) (cdv : Value) : Prop := ∀ (A : Around) (outer : List Env) (s : Shared) (H : Hp) (vs : List V) (Q : VK) (E : XK), Room k (A.deeper (envOfC q (fnScope st) s.heap.objs.size f cdv)) → sp vs H Q E →
  ∃ t, PSs (cxOf C8.CX0 P w K mg base N q (fnScope st) f cdv A outer s H E).nox (fnBody st) t ∧ t { nx := fun _ H' => Q .non H', rt := Q } (start N vs) H
abbrev Bnd (x q : Str) (st : Stmt) (ps : List Str) : Prop := ∀ (kV doc pm : Value) (an : Option Addr) (cdv ct : Value) (us : List Value), us.length = ps.length → bindArgs (PySem.W.fnOf x q (fnArgs st) (fnBody st) (fnScope st) .none kV doc pm an cdv ct) ⟨us, []⟩ = pure (ps.zip us)
theorem fn1 {x q : Str} {st : Stmt} {f : Addr} {fd : FuncData} {N ps : List Str} {k : Nat} {sp : Sp} (F : FunD K x q (fnArgs st) (fnBody st) (fnScope st) [] [] f fd) (S : FnScope N ps (fnScope st)) (len : ∀ vs H Q E, sp vs H Q E → vs.length = ps.length) (hb : ∀ cdv, Body P w K mg base N q st f k sp cdv) : FnOk P w K mg base C8.CX0 (k + 1) f fd ps sp :=
  F.ok S len fun cdv A outer s H vs Q E hr h => by
    obtain ⟨t, h1, h2⟩ := hb cdv A outer s H vs Q E hr h
    exact ⟨t, h1.nox, h2⟩
theorem fnT {x q : Str} {st : Stmt} {p : Str × Option Str} {fd : FuncData} {N ps : List Str} {k : Nat} {sp : Sp} (F : FunD K x q (fnArgs st) (fnBody st) (fnScope st) [] [] (He.fAd K p) fd) (S : FnScope N ps (fnScope st)) (len : ∀ vs H Q E, sp vs H Q E → vs.length = ps.length) (hb : Body P w K mg base N q st (He.fAd K p) k sp (.ref (He.codeOf K p))) : FnOk P w K mg base C8.CX0 (k + 1) (He.fAd K p) fd ps sp := by
  obtain ⟨oc, od, dV, kV, doc, pm, an, cdv, ct, osl, rfl, lk, hcd, hD, hK⟩ := F.ex
  obtain ⟨c, rfl⟩ := He.codeIn_ref hcd
  have e := He.codeOf_eq lk rfl
  rw [e] at hb
  refine fn_of lk hcd S len fun A outer s H vs Q E hr h => ?_
  obtain ⟨t, h1, h2⟩ := hb A outer s H vs Q E hr h
  exact ⟨t, h1.nox, h2⟩
theorem cal1 {x : Str} {st : Stmt} {N ps : List Str} {k : Nat} {sp : Sp} (F : ∃ fd, FunD K x x (fnArgs st) (fnBody st) (fnScope st) [] [] (He.fAd K (x, none)) fd) (hm : mg x = some (.ref (He.ga K x))) (b : Bnd x x st ps) (S : FnScope N ps (fnScope st)) (len : ∀ vs H Q E, sp vs H Q E → vs.length = ps.length) (hb : ∀ cdv, Body P w K mg base N x st (He.fAd K (x, none)) k sp cdv) : Cal P w K mg base (k + 1) x sp [] := by
  obtain ⟨fd, F⟩ := F
  exact ⟨_, fd, ps, [], fn1 F S len hb, hm, F.kp, F.bindsN b, .nil⟩
theorem calT {x : Str} {st : Stmt} {N ps : List Str} {k : Nat} {sp : Sp} (F : ∃ fd, FunD K x x (fnArgs st) (fnBody st) (fnScope st) [] [] (He.fAd K (x, none)) fd) (hm : mg x = some (.ref (He.ga K x))) (b : Bnd x x st ps) (S : FnScope N ps (fnScope st)) (len : ∀ vs H Q E, sp vs H Q E → vs.length = ps.length) (hb : Body P w K mg base N x st (He.fAd K (x, none)) k sp (.ref (He.codeOf K (x, none)))) : Cal P w K mg base (k + 1) x sp [] := by
  obtain ⟨fd, F⟩ := F
  exact ⟨_, fd, ps, [], fnT F S len hb, hm, F.kp, F.bindsN b, .nil⟩
theorem met1 {x q : Str} {st : Stmt} {N ps : List Str} {k : Nat} {sp : Sp} (c : Cls K (He.ga K "Program")) (me : Meth K (He.ga K "Program") x (He.ma K (He.ga K "Program") x)) (F : ∃ fd, FunD K x q (fnArgs st) (fnBody st) (fnScope st) [] [] (He.fAd K ("Program", some x)) fd) (b : Bnd x q st ps) (S : FnScope N ps (fnScope st)) (len : ∀ vs H Q E, sp vs H Q E → vs.length = ps.length) (hb : ∀ cdv, Body P w K mg base N q st (He.fAd K ("Program", some x)) k sp cdv) : Met P w K mg base (k + 1) (He.ga K "Program") x sp [] := by
  obtain ⟨fd, F⟩ := F
  exact ⟨_, fd, ps, [], c, me, fn1 F S len hb, F.bindsN b, .nil⟩
theorem mak1 {q : Str} {st : Stmt} {N ps : List Str} {k : Nat} {sp : Sp} (M : Mk K (He.ga K "Program") (He.ma K (He.ga K "Program") "__init__")) (hm : mg "Program" = some (.ref (He.ga K "Program"))) (F : ∃ fd, FunD K "__init__" q (fnArgs st) (fnBody st) (fnScope st) [] [] (He.fAd K ("Program", some "__init__")) fd) (b : Bnd "__init__" q st ps) (S : FnScope N ps (fnScope st)) (len : ∀ vs H Q E, sp vs H Q E → vs.length = ps.length) (hb : ∀ cdv, Body P w K mg base N q st (He.fAd K ("Program", some "__init__")) k sp cdv) : Mak P w K mg base (k + 1) "Program" (He.ga K "Program") sp [] := by
  obtain ⟨fd, F⟩ := F
  exact ⟨_, fd, ps, [], M, fn1 F S len hb, hm, F.bindsN b, .nil⟩
end
theorem amounts_mono {G : Gd} {S S' : Hs} {T : Ks} {ds : List PyData} {d : PyData} (g : Gr S.fz S'.fz) (h : R_amounts G S T ds d) : R_amounts G S' T ds d := by
  obtain ⟨p, dx, sg, rl, bl, vs, n, s, rfl, h, r⟩ := h
  exact ⟨p, dx, sg, rl, bl, vs, n, s, rfl, ⟨g.keep h.at_ (fun _ z => by cases z), g.lst h.rows, h.rk, g.lst h.basis, h.bk, h.sk, h.pr, h.pb, h.rb, h.vl⟩, r⟩
/-- the promises' letters -/
def GG (w : World) (K : PySem.W.Frag) : Gd where
  K := K
  w := w
  C := He.ga K "Program"
  ps := tf.map fun p => (He.cT K p).2
  p_need_web := (He.cT K ("need_web", none)).2
  p_is_lot := (He.cT K ("is_lot", none)).2
  p_is_ratio := (He.cT K ("is_ratio", none)).2
  p_need_costs := (He.cT K ("need_costs", none)).2
  p_cost_of := (He.cT K ("cost_of", none)).2
  p_shows_forget_paper := (He.cT K ("shows_forget_paper", none)).2
structure EnvK (w : World) (K : PySem.W.Frag) (mg : Str → Option Value) (base : Heap) : Prop where
  X : K.In base
  NS : base.Ns mainGlobals mg
  c : He.SaysD fa fn K
  gcd : ex K = true
  TB : ∀ p ∈ tf, TabB base mg (He.cT K p).1 (He.cT K p).2
section
variable {P : Program} {w : World} {K : PySem.W.Frag} {mg : Str → Option Value} {base : Heap}
theorem EnvK.txt (E : EnvK w K mg base) : Txt mg where
  MOST_PEOPLE := He.int_ok E.X E.NS (E.c.fact 0 (f := .int "MOST_PEOPLE" 7) rfl)
  MOST_COST := He.int_ok E.X E.NS (E.c.fact 1 (f := .int "MOST_COST" 1000) rfl)
  gcd_ := PySem.W.mg_of E.X E.NS (He.eqO_ok E.gcd)
  len_ := He.free_ok E.X E.NS (E.c.fact 2 (f := .free "len") rfl)
  isinstance_ := He.free_ok E.X E.NS (E.c.fact 3 (f := .free "isinstance") rfl)
  min_ := He.free_ok E.X E.NS (E.c.fact 4 (f := .free "min") rfl)
  max_ := He.free_ok E.X E.NS (E.c.fact 5 (f := .free "max") rfl)
  sorted_ := He.free_ok E.X E.NS (E.c.fact 6 (f := .free "sorted") rfl)
  abs_ := He.free_ok E.X E.NS (E.c.fact 7 (f := .free "abs") rfl)
  sum_ := He.free_ok E.X E.NS (E.c.fact 8 (f := .free "sum") rfl)
  any_ := He.free_ok E.X E.NS (E.c.fact 9 (f := .free "any") rfl)
  all_ := He.free_ok E.X E.NS (E.c.fact 10 (f := .free "all") rfl)
  range_ := He.free_ok E.X E.NS (E.c.fact 11 (f := .free "range") rfl)
  enumerate_ := He.free_ok E.X E.NS (E.c.fact 12 (f := .free "enumerate") rfl)
  zip_ := He.free_ok E.X E.NS (E.c.fact 13 (f := .free "zip") rfl)
  tuple_ := He.free_ok E.X E.NS (E.c.fact 14 (f := .free "tuple") rfl)
  list_ := He.free_ok E.X E.NS (E.c.fact 15 (f := .free "list") rfl)
  int_ := He.free_ok E.X E.NS (E.c.fact 16 (f := .free "int") rfl)
  set_ := He.free_ok E.X E.NS (E.c.fact 17 (f := .free "set") rfl)
  bool_ := He.free_ok E.X E.NS (E.c.fact 18 (f := .free "bool") rfl)
  str_ := He.free_ok E.X E.NS (E.c.fact 19 (f := .free "str") rfl)
theorem EnvK.ok (E : EnvK w K mg base) : GOk (GG w K) where
  cls := He.cls_ok (E.c.fact 20 (f := .cls "Program") rfl)
  nM := He.noat_ok (E.c.fact 21 (f := .noat "Program" "many") rfl)
  nS := He.noat_ok (E.c.fact 22 (f := .noat "Program" "signs") rfl)
  nR := He.noat_ok (E.c.fact 23 (f := .noat "Program" "rows") rfl)
  nB := He.noat_ok (E.c.fact 24 (f := .noat "Program" "basis") rfl)
  web := List.mem_map.mpr ⟨("need_web", none), List.mem_of_getElem? (i := 0) rfl, rfl⟩
  lot := List.mem_map.mpr ⟨("is_lot", none), List.mem_of_getElem? (i := 1) rfl, rfl⟩
  rat := List.mem_map.mpr ⟨("is_ratio", none), List.mem_of_getElem? (i := 2) rfl, rfl⟩
  cst := List.mem_map.mpr ⟨("need_costs", none), List.mem_of_getElem? (i := 3) rfl, rfl⟩
  cof := List.mem_map.mpr ⟨("cost_of", none), List.mem_of_getElem? (i := 4) rfl, rfl⟩
  shw := List.mem_map.mpr ⟨("shows_forget_paper", none), List.mem_of_getElem? (i := 5) rfl, rfl⟩
theorem ok_is_in (E : EnvK w K mg base) : Cal P w K mg base 1 "is_in" (sp_is_in (GG w K)) [] := cal1 (st := st_is_in) (E.c.def_ 0 (d := D_is_in) rfl) (He.glo_ok E.X E.NS (E.c.fact 34 (f := .glo "is_in") rfl)) (fun _ _ _ _ _ _ us hl => match us, hl with | [_, _, _], _ => rfl) sc_is_in (fun _ _ _ _ h => spR_len (fun ds d h => by obtain ⟨_, _, _, rfl, _⟩ := h; rfl) h) fun cdv A outer s H vs Q _ hr h => ⟨t_is_in (GG w K), d_is_in (GG w K) E.txt  hr, pure_ok (N := ["value", "least", "most"]) (fun S ds d h => e_is_in h) h⟩
theorem ok_need_web (E : EnvK w K mg base) : Cal P w K mg base 2 "need_web" (sp_need_web (GG w K)) [] := calT (st := st_need_web) (E.c.def_ 1 (d := D_need_web) rfl) (He.glo_ok E.X E.NS (E.c.fact 35 (f := .glo "need_web") rfl)) (fun _ _ _ _ _ _ us hl => match us, hl with | [_], _ => rfl) sc_need_web (fun _ _ _ _ h => spR_len (fun ds d h => by obtain ⟨_, _, rfl, _⟩ := h; rfl) h) fun A outer s H vs Q _ hr h => ⟨t_need_web (GG w K), d_need_web (GG w K) E.txt (ok_is_in E) (E.TB ("need_web", none) (List.mem_of_getElem? (i := 0) rfl)) hr, pure_ok (N := ["web", "pair"]) (fun S ds d h => e_need_web E.ok h) h⟩
theorem ok_are_foes (E : EnvK w K mg base) : Cal P w K mg base 1 "are_foes" (sp_are_foes (GG w K)) [] := cal1 (st := st_are_foes) (E.c.def_ 2 (d := D_are_foes) rfl) (He.glo_ok E.X E.NS (E.c.fact 36 (f := .glo "are_foes") rfl)) (fun _ _ _ _ _ _ us hl => match us, hl with | [_, _, _], _ => rfl) sc_are_foes (fun _ _ _ _ h => spR_len (fun ds d h => by obtain ⟨_, _, _, _, rfl, _⟩ := h; rfl) h) fun cdv A outer s H vs Q _ hr h => ⟨t_are_foes (GG w K), d_are_foes (GG w K) E.txt  hr, pure_ok (N := ["web", "one", "other"]) (fun S ds d h => e_are_foes h) h⟩
theorem ok_foes (E : EnvK w K mg base) : Cal P w K mg base 2 "foes" (sp_foes (GG w K)) [] := cal1 (st := st_foes) (E.c.def_ 3 (d := D_foes) rfl) (He.glo_ok E.X E.NS (E.c.fact 37 (f := .glo "foes") rfl)) (fun _ _ _ _ _ _ us hl => match us, hl with | [_, _], _ => rfl) sc_foes (fun _ _ _ _ h => spR_len (fun ds d h => by obtain ⟨_, _, _, rfl, _⟩ := h; rfl) h) fun cdv A outer s H vs Q _ hr h => ⟨t_foes (GG w K), d_foes (GG w K) E.txt (ok_are_foes E) hr, pure_ok (N := ["web", "person", "other"]) (fun S ds d h => e_foes h) h⟩
theorem ok_is_lot (E : EnvK w K mg base) : Cal P w K mg base 3 "is_lot" (sp_is_lot (GG w K)) [] := calT (st := st_is_lot) (E.c.def_ 4 (d := D_is_lot) rfl) (He.glo_ok E.X E.NS (E.c.fact 38 (f := .glo "is_lot") rfl)) (fun _ _ _ _ _ _ us hl => match us, hl with | [_, _], _ => rfl) sc_is_lot (fun _ _ _ _ h => spR_len (fun ds d h => by obtain ⟨_, _, _, rfl, _⟩ := h; rfl) h) fun A outer s H vs Q _ hr h => ⟨t_is_lot (GG w K), d_is_lot (GG w K) E.txt (ok_is_in E) (E.TB ("is_lot", none) (List.mem_of_getElem? (i := 1) rfl)) hr, pure_ok (N := ["web", "value"]) (fun S ds d h => e_is_lot E.ok h) h⟩
theorem ok_all_lots (E : EnvK w K mg base) : Cal P w K mg base 1 "all_lots" (sp_all_lots (GG w K)) [] := cal1 (st := st_all_lots) (E.c.def_ 5 (d := D_all_lots) rfl) (He.glo_ok E.X E.NS (E.c.fact 39 (f := .glo "all_lots") rfl)) (fun _ _ _ _ _ _ us hl => match us, hl with | [_], _ => rfl) sc_all_lots (fun _ _ _ _ h => spR_len (fun ds d h => by obtain ⟨_, _, rfl, _⟩ := h; rfl) h) fun cdv A outer s H vs Q _ hr h => ⟨t_all_lots (GG w K), d_all_lots (GG w K) E.txt  hr, pure_ok (N := ["web", "found", "person", "one"]) (fun S ds d h => e_all_lots h) h⟩
theorem ok_with_foes (E : EnvK w K mg base) : Cal P w K mg base 3 "with_foes" (sp_with_foes (GG w K)) [] := cal1 (st := st_with_foes) (E.c.def_ 6 (d := D_with_foes) rfl) (He.glo_ok E.X E.NS (E.c.fact 40 (f := .glo "with_foes") rfl)) (fun _ _ _ _ _ _ us hl => match us, hl with | [_, _], _ => rfl) sc_with_foes (fun _ _ _ _ h => spR_len (fun ds d h => by obtain ⟨_, _, _, rfl, _⟩ := h; rfl) h) fun cdv A outer s H vs Q _ hr h => ⟨t_with_foes (GG w K), d_with_foes (GG w K) E.txt (ok_foes E) hr, pure_ms (N := ["web", "people", "found", "person", "other"]) (fun S ds d h => e_with_foes h) h⟩
theorem ok_ratio (E : EnvK w K mg base) : Cal P w K mg base 1 "ratio" (sp_ratio (GG w K)) [] := cal1 (st := st_ratio) (E.c.def_ 7 (d := D_ratio) rfl) (He.glo_ok E.X E.NS (E.c.fact 41 (f := .glo "ratio") rfl)) (fun _ _ _ _ _ _ us hl => match us, hl with | [_, _], _ => rfl) sc_ratio (fun _ _ _ _ h => spR_len (fun ds d h => by obtain ⟨_, _, rfl, _⟩ := h; rfl) h) fun cdv A outer s H vs Q _ hr h => ⟨t_ratio (GG w K), d_ratio (GG w K) E.txt  hr, pure_ok (N := ["top", "bottom", "common"]) (fun S ds d h => e_ratio h) h⟩
theorem ok_plus (E : EnvK w K mg base) : Cal P w K mg base 2 "plus" (sp_plus (GG w K)) [] := cal1 (st := st_plus) (E.c.def_ 8 (d := D_plus) rfl) (He.glo_ok E.X E.NS (E.c.fact 42 (f := .glo "plus") rfl)) (fun _ _ _ _ _ _ us hl => match us, hl with | [_, _], _ => rfl) sc_plus (fun _ _ _ _ h => spR_len (fun ds d h => by obtain ⟨_, _, rfl, _⟩ := h; rfl) h) fun cdv A outer s H vs Q _ hr h => ⟨t_plus (GG w K), d_plus (GG w K) E.txt (ok_ratio E) hr, pure_ok (N := ["one", "other"]) (fun S ds d h => e_plus h) h⟩
theorem ok_minus (E : EnvK w K mg base) : Cal P w K mg base 2 "minus" (sp_minus (GG w K)) [] := cal1 (st := st_minus) (E.c.def_ 9 (d := D_minus) rfl) (He.glo_ok E.X E.NS (E.c.fact 43 (f := .glo "minus") rfl)) (fun _ _ _ _ _ _ us hl => match us, hl with | [_, _], _ => rfl) sc_minus (fun _ _ _ _ h => spR_len (fun ds d h => by obtain ⟨_, _, rfl, _⟩ := h; rfl) h) fun cdv A outer s H vs Q _ hr h => ⟨t_minus (GG w K), d_minus (GG w K) E.txt (ok_ratio E) hr, pure_ok (N := ["one", "other"]) (fun S ds d h => e_minus h) h⟩
theorem ok_by (E : EnvK w K mg base) : Cal P w K mg base 2 "by" (sp_by (GG w K)) [] := cal1 (st := st_by) (E.c.def_ 10 (d := D_by) rfl) (He.glo_ok E.X E.NS (E.c.fact 44 (f := .glo "by") rfl)) (fun _ _ _ _ _ _ us hl => match us, hl with | [_, _], _ => rfl) sc_by (fun _ _ _ _ h => spR_len (fun ds d h => by obtain ⟨_, _, rfl, _⟩ := h; rfl) h) fun cdv A outer s H vs Q _ hr h => ⟨t_by (GG w K), d_by (GG w K) E.txt (ok_ratio E) hr, pure_ok (N := ["one", "other"]) (fun S ds d h => e_by h) h⟩
theorem ok_over (E : EnvK w K mg base) : Cal P w K mg base 2 "over" (sp_over (GG w K)) [] := cal1 (st := st_over) (E.c.def_ 11 (d := D_over) rfl) (He.glo_ok E.X E.NS (E.c.fact 45 (f := .glo "over") rfl)) (fun _ _ _ _ _ _ us hl => match us, hl with | [_, _], _ => rfl) sc_over (fun _ _ _ _ h => spR_len (fun ds d h => by obtain ⟨_, _, rfl, _⟩ := h; rfl) h) fun cdv A outer s H vs Q _ hr h => ⟨t_over (GG w K), d_over (GG w K) E.txt (ok_ratio E) hr, pure_ok (N := ["one", "other"]) (fun S ds d h => e_over h) h⟩
theorem ok_less (E : EnvK w K mg base) : Cal P w K mg base 1 "less" (sp_less (GG w K)) [] := cal1 (st := st_less) (E.c.def_ 12 (d := D_less) rfl) (He.glo_ok E.X E.NS (E.c.fact 46 (f := .glo "less") rfl)) (fun _ _ _ _ _ _ us hl => match us, hl with | [_, _], _ => rfl) sc_less (fun _ _ _ _ h => spR_len (fun ds d h => by obtain ⟨_, _, rfl, _⟩ := h; rfl) h) fun cdv A outer s H vs Q _ hr h => ⟨t_less (GG w K), d_less (GG w K) E.txt  hr, pure_ok (N := ["one", "other"]) (fun S ds d h => e_less h) h⟩
theorem ok_sum_of (E : EnvK w K mg base) : Cal P w K mg base 3 "sum_of" (sp_sum_of (GG w K)) [] := cal1 (st := st_sum_of) (E.c.def_ 13 (d := D_sum_of) rfl) (He.glo_ok E.X E.NS (E.c.fact 47 (f := .glo "sum_of") rfl)) (fun _ _ _ _ _ _ us hl => match us, hl with | [_], _ => rfl) sc_sum_of (fun _ _ _ _ h => spR_len (fun ds d h => by obtain ⟨_, rfl, _⟩ := h; rfl) h) fun cdv A outer s H vs Q _ hr h => ⟨t_sum_of (GG w K), d_sum_of (GG w K) E.txt (ok_plus E) hr, pure_ok (N := ["some", "found", "one"]) (fun S ds d h => e_sum_of h) h⟩
theorem ok_is_ratio (E : EnvK w K mg base) : Cal P w K mg base 2 "is_ratio" (sp_is_ratio (GG w K)) [] := calT (st := st_is_ratio) (E.c.def_ 14 (d := D_is_ratio) rfl) (He.glo_ok E.X E.NS (E.c.fact 48 (f := .glo "is_ratio") rfl)) (fun _ _ _ _ _ _ us hl => match us, hl with | [_], _ => rfl) sc_is_ratio (fun _ _ _ _ h => spR_len (fun ds d h => by obtain ⟨_, rfl, _⟩ := h; rfl) h) fun A outer s H vs Q _ hr h => ⟨t_is_ratio (GG w K), d_is_ratio (GG w K) E.txt  (E.TB ("is_ratio", none) (List.mem_of_getElem? (i := 2) rfl)) hr, pure_ok (N := ["value"]) (fun S ds d h => e_is_ratio E.ok h) h⟩
theorem ok_mk (E : EnvK w K mg base) : Mak P w K mg base 3 "Program" (He.ga K "Program") (sp_mk (GG w K)) [] := mak1 (st := st_mk) (He.mkr_ok (E.c.fact 32 (f := .mkr "Program") rfl)) (He.glo_ok E.X E.NS (E.c.fact 33 (f := .glo "Program") rfl)) (E.c.def_ 15 (d := D_mk) rfl) (fun _ _ _ _ _ _ us hl => match us, hl with | [_, _, _], _ => rfl) sc_mk (fun _ _ _ _ h => spW_len (fun S T ds Post h => by obtain ⟨_, _, _, _, _, rfl, _⟩ := h; rfl) h) fun cdv A outer s H vs Q _ hr h => ⟨t_mk (GG w K), d_mk (GG w K) E.txt (ok_by E) hr, spW_ok (N := ["self", "rows", "goals", "j", "row", "helping", "goal", "k", "one"]) (fun S T ds Post hT h => e_mk E.ok hT h) h⟩
theorem ok_m_turn (E : EnvK w K mg base) : Met P w K mg base 3 (He.ga K "Program") "turn" (sp_m_turn (GG w K)) [] := met1 (st := st_m_turn) (He.cls_ok (E.c.fact 20 (f := .cls "Program") rfl)) (He.meth_ok (E.c.fact 25 (f := .meth "Program" "turn") rfl)) (E.c.def_ 16 (d := D_m_turn) rfl) (fun _ _ _ _ _ _ us hl => match us, hl with | [_, _, _], _ => rfl) sc_m_turn (fun _ _ _ _ h => spW_len (fun S T ds Post h => by obtain ⟨_, _, _, _, _, _, _, _, _, _, rfl, _⟩ := h; rfl) h) fun cdv A outer s H vs Q _ hr h => ⟨t_m_turn (GG w K), d_m_turn (GG w K) E.txt (ok_over E) (ok_by E) (ok_minus E) hr, spW_ok (N := ["self", "j", "k", "pivot", "i", "factor", "one", "a", "b"]) (fun S T ds Post hT h => e_turn E.ok hT h) h⟩
theorem ok_m_multiplier (E : EnvK w K mg base) : Met P w K mg base 4 (He.ga K "Program") "multiplier" (sp_m_multiplier (GG w K)) [] := met1 (st := st_m_multiplier) (He.cls_ok (E.c.fact 20 (f := .cls "Program") rfl)) (He.meth_ok (E.c.fact 26 (f := .meth "Program" "multiplier") rfl)) (E.c.def_ 17 (d := D_m_multiplier) rfl) (fun _ _ _ _ _ _ us hl => match us, hl with | [_, _, _], _ => rfl) sc_m_multiplier (fun _ _ _ _ h => spF_len (fun S T ds d h => by obtain ⟨_, _, _, _, _, _, _, _, _, _, rfl, _⟩ := h; rfl) h) fun cdv A outer s H vs Q _ hr h => ⟨t_m_multiplier (GG w K), d_m_multiplier (GG w K) E.txt (ok_by E) (ok_sum_of E) hr, spF_ok (N := ["self", "costs", "k", "some", "j", "row"]) (fun S T ds d hT h => e_multiplier E.ok hT h) h⟩
theorem ok_m_rising (E : EnvK w K mg base) : Met P w K mg base 5 (He.ga K "Program") "rising" (sp_m_rising (GG w K)) [] := met1 (st := st_m_rising) (He.cls_ok (E.c.fact 20 (f := .cls "Program") rfl)) (He.meth_ok (E.c.fact 27 (f := .meth "Program" "rising") rfl)) (E.c.def_ 18 (d := D_m_rising) rfl) (fun _ _ _ _ _ _ us hl => match us, hl with | [_, _, _], _ => rfl) sc_m_rising (fun _ _ _ _ h => spF_len (fun S T ds d h => by obtain ⟨_, _, _, _, _, _, _, _, _, _, rfl, _⟩ := h; rfl) h) fun cdv A outer s H vs Q _ hr h => ⟨t_m_rising (GG w K), d_m_rising (GG w K) E.txt (ok_m_multiplier E) (ok_less E) hr, spF_ok (N := ["self", "costs", "columns", "k"]) (fun S T ds d hT h => e_rising E.ok hT h) h⟩
theorem ok_m_climb (E : EnvK w K mg base) : Met P w K mg base 6 (He.ga K "Program") "climb" (sp_m_climb (GG w K)) [] := met1 (st := st_m_climb) (He.cls_ok (E.c.fact 20 (f := .cls "Program") rfl)) (He.meth_ok (E.c.fact 28 (f := .meth "Program" "climb") rfl)) (E.c.def_ 19 (d := D_m_climb) rfl) (fun _ _ _ _ _ _ us hl => match us, hl with | [_, _, _], _ => rfl) sc_m_climb (fun _ _ _ _ h => spW_len (fun S T ds Post h => by obtain ⟨_, _, _, _, _, _, _, _, _, _, _, _, rfl, _⟩ := h; rfl) h) fun cdv A outer s H vs Q _ hr h => ⟨t_m_climb (GG w K), d_m_climb (GG w K) E.txt (ok_m_rising E) (ok_over E) (ok_less E) (ok_m_turn E) hr, spW_ok (N := ["self", "costs", "columns", "k", "best", "j", "row", "here"]) (fun S T ds Post hT h => e_climb E.ok hT h) h⟩
theorem ok_m_leave_help (E : EnvK w K mg base) : Met P w K mg base 4 (He.ga K "Program") "leave_help" (sp_m_leave_help (GG w K)) [] := met1 (st := st_m_leave_help) (He.cls_ok (E.c.fact 20 (f := .cls "Program") rfl)) (He.meth_ok (E.c.fact 29 (f := .meth "Program" "leave_help") rfl)) (E.c.def_ 20 (d := D_m_leave_help) rfl) (fun _ _ _ _ _ _ us hl => match us, hl with | [_], _ => rfl) sc_m_leave_help (fun _ _ _ _ h => spW_len (fun S T ds Post h => by obtain ⟨_, _, _, _, _, _, _, _, _, rfl, _⟩ := h; rfl) h) fun cdv A outer s H vs Q _ hr h => ⟨t_m_leave_help (GG w K), d_m_leave_help (GG w K) E.txt (ok_m_turn E) hr, spW_ok (N := ["self", "j", "some", "k"]) (fun S T ds Post hT h => e_leave_help E.ok hT h) h⟩
theorem ok_m_amounts (E : EnvK w K mg base) : Met P w K mg base 1 (He.ga K "Program") "amounts" (sp_m_amounts (GG w K)) [] := met1 (st := st_m_amounts) (He.cls_ok (E.c.fact 20 (f := .cls "Program") rfl)) (He.meth_ok (E.c.fact 30 (f := .meth "Program" "amounts") rfl)) (E.c.def_ 21 (d := D_m_amounts) rfl) (fun _ _ _ _ _ _ us hl => match us, hl with | [_], _ => rfl) sc_m_amounts (fun _ _ _ _ h => spF_len (fun S T ds d h => by obtain ⟨_, _, _, _, _, _, _, _, rfl, _⟩ := h; rfl) h) fun cdv A outer s H vs Q _ hr h => ⟨t_m_amounts (GG w K), d_m_amounts (GG w K) E.txt  hr, spF_ms (N := ["self", "found", "j", "row", "k"]) (fun S T ds d hT h => e_amounts E.ok hT h) (fun S S' T ds d g h => amounts_mono g h) h⟩
theorem ok_m_prices (E : EnvK w K mg base) : Met P w K mg base 5 (He.ga K "Program") "prices" (sp_m_prices (GG w K)) [] := met1 (st := st_m_prices) (He.cls_ok (E.c.fact 20 (f := .cls "Program") rfl)) (He.meth_ok (E.c.fact 31 (f := .meth "Program" "prices") rfl)) (E.c.def_ 22 (d := D_m_prices) rfl) (fun _ _ _ _ _ _ us hl => match us, hl with | [_, _], _ => rfl) sc_m_prices (fun _ _ _ _ h => spF_len (fun S T ds d h => by obtain ⟨_, _, _, _, _, _, _, _, _, rfl, _⟩ := h; rfl) h) fun cdv A outer s H vs Q _ hr h => ⟨t_m_prices (GG w K), d_m_prices (GG w K) E.txt (ok_m_multiplier E) (ok_by E) hr, spF_ok (N := ["self", "costs", "j", "sign"]) (fun S T ds d hT h => e_prices E.ok hT h) h⟩
theorem ok_solved (E : EnvK w K mg base) : Cal P w K mg base 7 "solved" (sp_solved (GG w K)) [] := cal1 (st := st_solved) (E.c.def_ 23 (d := D_solved) rfl) (He.glo_ok E.X E.NS (E.c.fact 49 (f := .glo "solved") rfl)) (fun _ _ _ _ _ _ us hl => match us, hl with | [_, _, _], _ => rfl) sc_solved (fun _ _ _ _ h => spR_len (fun ds d h => by obtain ⟨_, _, _, _, rfl, _⟩ := h; rfl) h) fun cdv A outer s H vs Q _ hr h => ⟨t_solved (GG w K), d_solved (GG w K) E.txt (ok_mk E) (ok_m_climb E) (ok_m_multiplier E) (ok_m_leave_help E) (ok_m_prices E) (ok_m_amounts E) hr, pure_ms (N := ["rows", "goals", "costs", "program", "helping", "all_costs", "k", "row"]) (fun S ds d h => e_solved E.ok S h) h⟩
theorem ok_covers (E : EnvK w K mg base) : Cal P w K mg base 4 "covers" (sp_covers (GG w K)) [] := cal1 (st := st_covers) (E.c.def_ 24 (d := D_covers) rfl) (He.glo_ok E.X E.NS (E.c.fact 50 (f := .glo "covers") rfl)) (fun _ _ _ _ _ _ us hl => match us, hl with | [_, _], _ => rfl) sc_covers (fun _ _ _ _ h => spR_len (fun ds d h => by obtain ⟨_, _, _, rfl, _⟩ := h; rfl) h) fun cdv A outer s H vs Q _ hr h => ⟨t_covers (GG w K), d_covers (GG w K) E.txt (ok_with_foes E) hr, pure_ok (N := ["web", "lot"]) (fun S ds d h => e_covers h) h⟩
theorem ok_least_lots (E : EnvK w K mg base) : Cal P w K mg base 5 "least_lots" (sp_least_lots (GG w K)) [] := cal1 (st := st_least_lots) (E.c.def_ 25 (d := D_least_lots) rfl) (He.glo_ok E.X E.NS (E.c.fact 51 (f := .glo "least_lots") rfl)) (fun _ _ _ _ _ _ us hl => match us, hl with | [_], _ => rfl) sc_least_lots (fun _ _ _ _ h => spR_len (fun ds d h => by obtain ⟨_, _, rfl, _⟩ := h; rfl) h) fun cdv A outer s H vs Q _ hr h => ⟨t_least_lots (GG w K), d_least_lots (GG w K) E.txt (ok_all_lots E) (ok_covers E) hr, pure_ok (N := ["web", "some", "few", "lot"]) (fun S ds d h => e_least_lots h) h⟩
theorem ok_forget_row (E : EnvK w K mg base) : Cal P w K mg base 6 "forget_row" (sp_forget_row (GG w K)) [] := cal1 (st := st_forget_row) (E.c.def_ 26 (d := D_forget_row) rfl) (He.glo_ok E.X E.NS (E.c.fact 52 (f := .glo "forget_row") rfl)) (fun _ _ _ _ _ _ us hl => match us, hl with | [_], _ => rfl) sc_forget_row (fun _ _ _ _ h => spR_len (fun ds d h => by obtain ⟨_, _, _, rfl, _⟩ := h; rfl) h) fun cdv A outer s H vs Q _ hr h => ⟨t_forget_row (GG w K), d_forget_row (GG w K) E.txt (ok_need_web E) (ok_least_lots E) hr, pure_ok (N := ["web"]) (fun S ds d h => e_forget_row h) h⟩
theorem ok_forget_length (E : EnvK w K mg base) : Cal P w K mg base 6 "forget_length" (sp_forget_length (GG w K)) [] := cal1 (st := st_forget_length) (E.c.def_ 27 (d := D_forget_length) rfl) (He.glo_ok E.X E.NS (E.c.fact 53 (f := .glo "forget_length") rfl)) (fun _ _ _ _ _ _ us hl => match us, hl with | [_], _ => rfl) sc_forget_length (fun _ _ _ _ h => spR_len (fun ds d h => by obtain ⟨_, _, rfl, _⟩ := h; rfl) h) fun cdv A outer s H vs Q _ hr h => ⟨t_forget_length (GG w K), d_forget_length (GG w K) E.txt (ok_need_web E) (ok_least_lots E) hr, pure_ok (N := ["web"]) (fun S ds d h => e_forget_length h) h⟩
theorem ok_forget_lots (E : EnvK w K mg base) : Cal P w K mg base 6 "forget_lots" (sp_forget_lots (GG w K)) [] := cal1 (st := st_forget_lots) (E.c.def_ 28 (d := D_forget_lots) rfl) (He.glo_ok E.X E.NS (E.c.fact 54 (f := .glo "forget_lots") rfl)) (fun _ _ _ _ _ _ us hl => match us, hl with | [_], _ => rfl) sc_forget_lots (fun _ _ _ _ h => spR_len (fun ds d h => by obtain ⟨_, _, rfl, _⟩ := h; rfl) h) fun cdv A outer s H vs Q _ hr h => ⟨t_forget_lots (GG w K), d_forget_lots (GG w K) E.txt (ok_need_web E) (ok_least_lots E) hr, pure_ok (N := ["web"]) (fun S ds d h => e_forget_lots h) h⟩
theorem ok_need_costs (E : EnvK w K mg base) : Cal P w K mg base 3 "need_costs" (sp_need_costs (GG w K)) [] := calT (st := st_need_costs) (E.c.def_ 29 (d := D_need_costs) rfl) (He.glo_ok E.X E.NS (E.c.fact 55 (f := .glo "need_costs") rfl)) (fun _ _ _ _ _ _ us hl => match us, hl with | [_, _], _ => rfl) sc_need_costs (fun _ _ _ _ h => spR_len (fun ds d h => by obtain ⟨_, _, _, rfl, _⟩ := h; rfl) h) fun A outer s H vs Q _ hr h => ⟨t_need_costs (GG w K), d_need_costs (GG w K) E.txt (ok_need_web E) (ok_is_in E) (E.TB ("need_costs", none) (List.mem_of_getElem? (i := 3) rfl)) hr, pure_ok (N := ["web", "costs"]) (fun S ds d h => e_need_costs E.ok h) h⟩
theorem ok_cost_of (E : EnvK w K mg base) : Cal P w K mg base 2 "cost_of" (sp_cost_of (GG w K)) [] := calT (st := st_cost_of) (E.c.def_ 30 (d := D_cost_of) rfl) (He.glo_ok E.X E.NS (E.c.fact 56 (f := .glo "cost_of") rfl)) (fun _ _ _ _ _ _ us hl => match us, hl with | [_, _], _ => rfl) sc_cost_of (fun _ _ _ _ h => spR_len (fun ds d h => by obtain ⟨_, _, _, rfl, _⟩ := h; rfl) h) fun A outer s H vs Q _ hr h => ⟨t_cost_of (GG w K), d_cost_of (GG w K) E.txt  (E.TB ("cost_of", none) (List.mem_of_getElem? (i := 4) rfl)) hr, pure_ok (N := ["costs", "lot"]) (fun S ds d h => e_cost_of E.ok h) h⟩
theorem ok_cheapest (E : EnvK w K mg base) : Cal P w K mg base 5 "cheapest" (sp_cheapest (GG w K)) [] := cal1 (st := st_cheapest) (E.c.def_ 31 (d := D_cheapest) rfl) (He.glo_ok E.X E.NS (E.c.fact 57 (f := .glo "cheapest") rfl)) (fun _ _ _ _ _ _ us hl => match us, hl with | [_, _], _ => rfl) sc_cheapest (fun _ _ _ _ h => spR_len (fun ds d h => by obtain ⟨_, _, _, rfl, _⟩ := h; rfl) h) fun cdv A outer s H vs Q _ hr h => ⟨t_cheapest (GG w K), d_cheapest (GG w K) E.txt (ok_all_lots E) (ok_covers E) (ok_cost_of E) hr, pure_ok (N := ["web", "costs", "lot"]) (fun S ds d h => e_cheapest h) h⟩
theorem ok_cheap_forget (E : EnvK w K mg base) : Cal P w K mg base 6 "cheap_forget" (sp_cheap_forget (GG w K)) [] := cal1 (st := st_cheap_forget) (E.c.def_ 32 (d := D_cheap_forget) rfl) (He.glo_ok E.X E.NS (E.c.fact 58 (f := .glo "cheap_forget") rfl)) (fun _ _ _ _ _ _ us hl => match us, hl with | [_, _], _ => rfl) sc_cheap_forget (fun _ _ _ _ h => spR_len (fun ds d h => by obtain ⟨_, _, _, rfl, _⟩ := h; rfl) h) fun cdv A outer s H vs Q _ hr h => ⟨t_cheap_forget (GG w K), d_cheap_forget (GG w K) E.txt (ok_need_costs E) (ok_cheapest E) hr, pure_ok (N := ["web", "costs"]) (fun S ds d h => e_cheap_forget h) h⟩
theorem ok_shows_cheap_forget (E : EnvK w K mg base) : Cal P w K mg base 6 "shows_cheap_forget" (sp_shows_cheap_forget (GG w K)) [] := cal1 (st := st_shows_cheap_forget) (E.c.def_ 33 (d := D_shows_cheap_forget) rfl) (He.glo_ok E.X E.NS (E.c.fact 59 (f := .glo "shows_cheap_forget") rfl)) (fun _ _ _ _ _ _ us hl => match us, hl with | [_, _, _], _ => rfl) sc_shows_cheap_forget (fun _ _ _ _ h => spR_len (fun ds d h => by obtain ⟨_, _, _, _, rfl, _⟩ := h; rfl) h) fun cdv A outer s H vs Q _ hr h => ⟨t_shows_cheap_forget (GG w K), d_shows_cheap_forget (GG w K) E.txt (ok_need_costs E) (ok_cheapest E) (ok_is_in E) (ok_is_lot E) (ok_covers E) (ok_cost_of E) hr, pure_ok (N := ["web", "costs", "value", "best"]) (fun S ds d h => e_shows_cheap_forget h) h⟩
theorem ok_paper_of (E : EnvK w K mg base) : Cal P w K mg base 8 "paper_of" (sp_paper_of (GG w K)) [] := cal1 (st := st_paper_of) (E.c.def_ 34 (d := D_paper_of) rfl) (He.glo_ok E.X E.NS (E.c.fact 60 (f := .glo "paper_of") rfl)) (fun _ _ _ _ _ _ us hl => match us, hl with | [_, _], _ => rfl) sc_paper_of (fun _ _ _ _ h => spR_len (fun ds d h => by obtain ⟨_, _, _, rfl, _⟩ := h; rfl) h) fun cdv A outer s H vs Q _ hr h => ⟨t_paper_of (GG w K), d_paper_of (GG w K) E.txt (ok_foes E) (ok_solved E) hr, pure_ms (N := ["web", "costs", "size", "rows", "person", "near", "slack", "aims", "k", "cost"]) (fun S ds d h => e_paper_of E.ok S h) h⟩
theorem ok_forget_paper (E : EnvK w K mg base) : Cal P w K mg base 9 "forget_paper" (sp_forget_paper (GG w K)) [] := cal1 (st := st_forget_paper) (E.c.def_ 35 (d := D_forget_paper) rfl) (He.glo_ok E.X E.NS (E.c.fact 61 (f := .glo "forget_paper") rfl)) (fun _ _ _ _ _ _ us hl => match us, hl with | [_, _], _ => rfl) sc_forget_paper (fun _ _ _ _ h => spR_len (fun ds d h => by obtain ⟨_, _, _, rfl, _⟩ := h; rfl) h) fun cdv A outer s H vs Q _ hr h => ⟨t_forget_paper (GG w K), d_forget_paper (GG w K) E.txt (ok_need_costs E) (ok_paper_of E) hr, pure_ok (N := ["web", "costs"]) (fun S ds d h => e_forget_paper h) h⟩
theorem ok_shows_forget_paper (E : EnvK w K mg base) : Cal P w K mg base 9 "shows_forget_paper" (sp_shows_forget_paper (GG w K)) [] := calT (st := st_shows_forget_paper) (E.c.def_ 36 (d := D_shows_forget_paper) rfl) (He.glo_ok E.X E.NS (E.c.fact 62 (f := .glo "shows_forget_paper") rfl)) (fun _ _ _ _ _ _ us hl => match us, hl with | [_, _, _], _ => rfl) sc_shows_forget_paper (fun _ _ _ _ h => spR_len (fun ds d h => by obtain ⟨_, _, _, _, rfl, _⟩ := h; rfl) h) fun A outer s H vs Q _ hr h => ⟨t_shows_forget_paper (GG w K), d_shows_forget_paper (GG w K) E.txt (ok_need_costs E) (ok_is_ratio E) (ok_foes E) (ok_sum_of E) (ok_less E) (ok_paper_of E) (E.TB ("shows_forget_paper", none) (List.mem_of_getElem? (i := 5) rfl)) hr, pure_ok (N := ["web", "costs", "value", "person", "near", "other"]) (fun S ds d h => e_shows_forget_paper E.ok h) h⟩
theorem ok_w_taken (E : EnvK w K mg base) : Cal P w K mg base 1 "_law_taken" (sp_w_taken (GG w K)) [] := cal1 (st := st_w_taken) (E.c.def_ 37 (d := D_w_taken) rfl) (He.glo_ok E.X E.NS (E.c.fact 63 (f := .glo "_law_taken") rfl)) (fun _ _ _ _ _ _ us hl => match us, hl with | [_, _], _ => rfl) sc_w_taken (fun _ _ _ _ h => spW_len (fun S T ds Post h => by obtain ⟨_, _, _, rfl, _⟩ := h; rfl) h) fun cdv A outer s H vs Q _ hr h => ⟨t_w_taken (GG w K), d_w_taken (GG w K) E.txt  hr, spW_ok (N := ["_law_row_here", "_law_many", "_law_found", "_law_cell"]) (fun S T ds Post hT h => e_w_taken hT h) h⟩
theorem ok_alike0 (E : EnvK w K mg base) : Cal P w K mg base 1 "_law_alike" (spR (GG w K).ps (R_alike 0)) [] := cal1 (st := st_w_alike) (E.c.def_ 38 (d := D_w_alike) rfl) (He.glo_ok E.X E.NS (E.c.fact 64 (f := .glo "_law_alike") rfl)) (fun _ _ _ _ _ _ us hl => match us, hl with | [_, _], _ => rfl) sc_w_alike (fun _ _ _ _ h => spR_len (fun ds d h => by obtain ⟨_, rfl, _⟩ := h; rfl) h) fun cdv A outer s H vs Q _ hr h => ⟨t_w_alike0 (GG w K), d_w_alike0 (GG w K) E.txt hr, pure_ok (N := ["_law_found", "_law_due", "_law_k"]) (fun S ds d h => e_w_alike0 h) h⟩
theorem ok_alikeS (E : EnvK w K mg base) {k n : Nat} (C : Cal P w K mg base n "_law_alike" (spR (GG w K).ps (R_alike k)) []) : Cal P w K mg base (n + 1) "_law_alike" (spR (GG w K).ps (R_alike (k + 1))) [] := cal1 (st := st_w_alike) (E.c.def_ 38 (d := D_w_alike) rfl) (He.glo_ok E.X E.NS (E.c.fact 64 (f := .glo "_law_alike") rfl)) (fun _ _ _ _ _ _ us hl => match us, hl with | [_, _], _ => rfl) sc_w_alike (fun _ _ _ _ h => spR_len (fun ds d h => by obtain ⟨_, rfl, _⟩ := h; rfl) h) fun cdv A outer s H vs Q _ hr h => ⟨t_w_alike (GG w K) (spR (GG w K).ps (R_alike k)), d_w_alike (GG w K) E.txt C hr, pure_ok (N := ["_law_found", "_law_due", "_law_k"]) (fun S ds d h => e_w_alike h) h⟩
theorem ok_w_alike (E : EnvK w K mg base) : Cal P w K mg base 3 "_law_alike" (sp_w_alike (GG w K)) [] := ok_alikeS E (ok_alikeS E (ok_alike0 E))
theorem ok_w_ratio (E : EnvK w K mg base) : Cal P w K mg base 1 "_law_ratio" (sp_w_ratio (GG w K)) [] := cal1 (st := st_w_ratio) (E.c.def_ 39 (d := D_w_ratio) rfl) (He.glo_ok E.X E.NS (E.c.fact 65 (f := .glo "_law_ratio") rfl)) (fun _ _ _ _ _ _ us hl => match us, hl with | [_, _], _ => rfl) sc_w_ratio (fun _ _ _ _ h => spR_len (fun ds d h => by obtain ⟨_, _, rfl, _⟩ := h; rfl) h) fun cdv A outer s H vs Q _ hr h => ⟨t_w_ratio (GG w K), d_w_ratio (GG w K) E.txt  hr, pure_ok (N := ["_law_top", "_law_bottom", "_law_one", "_law_other"]) (fun S ds d h => e_w_ratio h) h⟩
theorem ok_w_plus (E : EnvK w K mg base) : Cal P w K mg base 2 "_law_plus" (sp_w_plus (GG w K)) [] := cal1 (st := st_w_plus) (E.c.def_ 40 (d := D_w_plus) rfl) (He.glo_ok E.X E.NS (E.c.fact 66 (f := .glo "_law_plus") rfl)) (fun _ _ _ _ _ _ us hl => match us, hl with | [_, _], _ => rfl) sc_w_plus (fun _ _ _ _ h => spR_len (fun ds d h => by obtain ⟨_, _, rfl, _⟩ := h; rfl) h) fun cdv A outer s H vs Q _ hr h => ⟨t_w_plus (GG w K), d_w_plus (GG w K) E.txt (ok_w_ratio E) hr, pure_ok (N := ["_law_one", "_law_other"]) (fun S ds d h => e_w_plus h) h⟩
theorem ok_w_sum (E : EnvK w K mg base) : Cal P w K mg base 3 "_law_sum" (sp_w_sum (GG w K)) [] := cal1 (st := st_w_sum) (E.c.def_ 41 (d := D_w_sum) rfl) (He.glo_ok E.X E.NS (E.c.fact 67 (f := .glo "_law_sum") rfl)) (fun _ _ _ _ _ _ us hl => match us, hl with | [_], _ => rfl) sc_w_sum (fun _ _ _ _ h => spR_len (fun ds d h => by obtain ⟨_, rfl, _⟩ := h; rfl) h) fun cdv A outer s H vs Q _ hr h => ⟨t_w_sum (GG w K), d_w_sum (GG w K) E.txt (ok_w_plus E) hr, pure_ok (N := ["_law_some", "_law_found", "_law_one"]) (fun S ds d h => e_w_sum h) h⟩
theorem ok_w_less (E : EnvK w K mg base) : Cal P w K mg base 1 "_law_less" (sp_w_less (GG w K)) [] := cal1 (st := st_w_less) (E.c.def_ 42 (d := D_w_less) rfl) (He.glo_ok E.X E.NS (E.c.fact 68 (f := .glo "_law_less") rfl)) (fun _ _ _ _ _ _ us hl => match us, hl with | [_, _], _ => rfl) sc_w_less (fun _ _ _ _ h => spR_len (fun ds d h => by obtain ⟨_, _, rfl, _⟩ := h; rfl) h) fun cdv A outer s H vs Q _ hr h => ⟨t_w_less (GG w K), d_w_less (GG w K) E.txt  hr, pure_ok (N := ["_law_one", "_law_other"]) (fun S ds d h => e_w_less h) h⟩
theorem ok_w_is_ratio (E : EnvK w K mg base) : Cal P w K mg base 2 "_law_is_ratio" (sp_w_is_ratio (GG w K)) [] := cal1 (st := st_w_is_ratio) (E.c.def_ 43 (d := D_w_is_ratio) rfl) (He.glo_ok E.X E.NS (E.c.fact 69 (f := .glo "_law_is_ratio") rfl)) (fun _ _ _ _ _ _ us hl => match us, hl with | [_], _ => rfl) sc_w_is_ratio (fun _ _ _ _ h => spR_len (fun ds d h => by obtain ⟨_, rfl, _⟩ := h; rfl) h) fun cdv A outer s H vs Q _ hr h => ⟨t_w_is_ratio (GG w K), d_w_is_ratio (GG w K) E.txt (ok_w_ratio E) hr, pure_ok (N := ["_law_value", "_law_one"]) (fun S ds d h => e_w_is_ratio h) h⟩
theorem ok_w_web (E : EnvK w K mg base) : Cal P w K mg base 2 "_law_web" (sp_w_web (GG w K)) [] := cal1 (st := st_w_web) (E.c.def_ 44 (d := D_w_web) rfl) (He.glo_ok E.X E.NS (E.c.fact 70 (f := .glo "_law_web") rfl)) (fun _ _ _ _ _ _ us hl => match us, hl with | [_, _], _ => rfl) sc_w_web (fun _ _ _ _ h => spW_len (fun S T ds Post h => by obtain ⟨_, _, rfl, _⟩ := h; rfl) h) fun cdv A outer s H vs Q _ hr h => ⟨t_w_web (GG w K), d_w_web (GG w K) E.txt (ok_w_taken E) hr, spW_ok (N := ["_law_row_here", "_law_most", "_law_size", "_law_pairs", "_law_way", "_law_one", "_law_other", "_law_near"]) (fun S T ds Post hT h => e_w_web hT h) h⟩
theorem ok_w_foes (E : EnvK w K mg base) : Cal P w K mg base 1 "_law_foes" (sp_w_foes (GG w K)) [] := cal1 (st := st_w_foes) (E.c.def_ 45 (d := D_w_foes) rfl) (He.glo_ok E.X E.NS (E.c.fact 71 (f := .glo "_law_foes") rfl)) (fun _ _ _ _ _ _ us hl => match us, hl with | [_, _], _ => rfl) sc_w_foes (fun _ _ _ _ h => spR_len (fun ds d h => by obtain ⟨_, _, _, rfl, _⟩ := h; rfl) h) fun cdv A outer s H vs Q _ hr h => ⟨t_w_foes (GG w K), d_w_foes (GG w K) E.txt  hr, pure_ok (N := ["_law_web_here", "_law_person", "_law_found", "_law_one", "_law_other"]) (fun S ds d h => e_w_foes h) h⟩
theorem ok_w_lots (E : EnvK w K mg base) : Cal P w K mg base 1 "_law_lots" (sp_w_lots (GG w K)) [] := cal1 (st := st_w_lots) (E.c.def_ 46 (d := D_w_lots) rfl) (He.glo_ok E.X E.NS (E.c.fact 72 (f := .glo "_law_lots") rfl)) (fun _ _ _ _ _ _ us hl => match us, hl with | [_], _ => rfl) sc_w_lots (fun _ _ _ _ h => spR_len (fun ds d h => by obtain ⟨_, _, rfl, _⟩ := h; rfl) h) fun cdv A outer s H vs Q _ hr h => ⟨t_w_lots (GG w K), d_w_lots (GG w K) E.txt  hr, pure_ok (N := ["_law_web_here", "_law_found", "_law_person", "_law_one"]) (fun S ds d h => e_w_lots h) h⟩
theorem ok_w_deed (E : EnvK w K mg base) : Cal P w K mg base 2 "_law_deed" (sp_w_deed (GG w K)) [] := cal1 (st := st_w_deed) (E.c.def_ 47 (d := D_w_deed) rfl) (He.glo_ok E.X E.NS (E.c.fact 73 (f := .glo "_law_deed") rfl)) (fun _ _ _ _ _ _ us hl => match us, hl with | [_, _], _ => rfl) sc_w_deed (fun _ _ _ _ h => spR_len (fun ds d h => by obtain ⟨_, _, _, rfl, _⟩ := h; rfl) h) fun cdv A outer s H vs Q _ hr h => ⟨t_w_deed (GG w K), d_w_deed (GG w K) E.txt (ok_w_foes E) hr, pure_ms (N := ["_law_web_here", "_law_comers", "_law_stays", "_law_gone", "_law_k", "_law_later", "_law_bad", "_law_one"]) (fun S ds d h => e_w_deed h) h⟩
theorem ok_w_covers (E : EnvK w K mg base) : Cal P w K mg base 3 "_law_covers" (sp_w_covers (GG w K)) [] := cal1 (st := st_w_covers) (E.c.def_ 48 (d := D_w_covers) rfl) (He.glo_ok E.X E.NS (E.c.fact 74 (f := .glo "_law_covers") rfl)) (fun _ _ _ _ _ _ us hl => match us, hl with | [_, _], _ => rfl) sc_w_covers (fun _ _ _ _ h => spR_len (fun ds d h => by obtain ⟨_, _, _, rfl, _⟩ := h; rfl) h) fun cdv A outer s H vs Q _ hr h => ⟨t_w_covers (GG w K), d_w_covers (GG w K) E.txt (ok_w_deed E) hr, pure_ok (N := ["_law_web_here", "_law_lot"]) (fun S ds d h => e_w_covers h) h⟩
theorem ok_w_fits (E : EnvK w K mg base) : Cal P w K mg base 4 "_law_fits" (sp_w_fits (GG w K)) [] := cal1 (st := st_w_fits) (E.c.def_ 49 (d := D_w_fits) rfl) (He.glo_ok E.X E.NS (E.c.fact 75 (f := .glo "_law_fits") rfl)) (fun _ _ _ _ _ _ us hl => match us, hl with | [_, _, _], _ => rfl) sc_w_fits (fun _ _ _ _ h => spR_len (fun ds d h => by obtain ⟨_, _, _, _, rfl, _⟩ := h; rfl) h) fun cdv A outer s H vs Q _ hr h => ⟨t_w_fits (GG w K), d_w_fits (GG w K) E.txt (ok_w_is_ratio E) (ok_w_foes E) (ok_w_sum E) (ok_w_less E) hr, pure_ok (N := ["_law_web_here", "_law_costs", "_law_value", "_law_one", "_law_person", "_law_near", "_law_other"]) (fun S ds d h => e_w_fits h) h⟩
theorem ok_law (E : EnvK w K mg base) {fd : FuncData} (F : FunD K "law" "law" (fnArgs st_law) (fnBody st_law) (fnScope st_law) [] [] (He.ga K "law") fd) : FnOk P w K mg base C8.CX0 10 (He.ga K "law") fd ["_law_script"] (sp_law (GG w K)) := fn1 (st := st_law) F sc_law (fun _ _ _ _ h => spW_len (fun S T ds Post h => by obtain ⟨_, _, rfl, _⟩ := h; rfl) h) fun cdv A outer s H vs Q _ hr h => ⟨t_law (GG w K), d_law (GG w K) E.txt (ok_w_web E) (ok_w_taken E) (ok_w_lots E) (ok_w_covers E) (ok_forget_length E) (ok_w_alike E) (ok_forget_lots E) (ok_forget_row E) (ok_forget_paper E) (ok_cheap_forget E) (ok_shows_cheap_forget E) (ok_w_fits E) (ok_w_sum E) (ok_w_less E) (ok_w_plus E) (ok_shows_forget_paper E) hr, spW_ok (N := ["_law_script", "_law_row_here", "_law_web_here", "_law_lots_here", "_law_costs", "_law_few", "_law_least", "_law_prices", "_law_best", "_law_found", "_law_paper", "_law_values", "_law_value", "_law_due", "_law_top", "_law_papers", "_law_k", "_law_step", "_law_lot", "_law_person"]) (fun S T ds Post hT h => e_law hT h) h⟩
def lawLev : Nat := 10
end
end KV
set_option Elab.async false
set_option linter.all false
set_option maxRecDepth 100000
set_option maxHeartbeats 4000000
/-! The end: the law holds. -/
namespace KV
open PySem PySem.Spec PyProof.Rows L2 GxR KO GX C8
theorem law_sp {w : World} {K : PySem.W.Frag} {H : Hp} {a : Addr} {ns : List Int} (hH : ∀ p ∈ tf.map (He.cT K), H p.2 = some (.tbl #[])) (hS : SqL K H a (ns.map V.int)) : sp_law (GG w K) [.ref a] H (fun v _ => v = .bl true) fun _ _ _ => False := by
  have eh : hid ⟨[], H⟩ H = H := hid_nil
  have tb : Tbs (GG w K).ps H := fun P hP => by
    obtain ⟨p, hp, rfl⟩ := List.mem_map.mp hP
    exact ⟨#[], hH _ (List.mem_map.mpr ⟨p, hp, rfl⟩), trivial⟩
  have go : ∀ ow : List (List V × List PyData), (∀ p ∈ ow, Rps H p.1 p.2) → ScrAt K ⟨[], H⟩ ⟨(GG w K).ps, ow⟩ a ns → sp_law (GG w K) [.ref a] H (fun v _ => v = .bl true) fun _ _ _ => False := fun ow how hs => by
    refine ⟨⟨[], H⟩, ⟨(GG w K).ps, ow⟩, [rawD a], fun _ _ d => d = .bool true, .cons (.raw a) .nil, (fun b hb => nomatch hb), Gr.refl _, (by rw [eh]; exact ⟨tb, how⟩), rfl, ⟨a, ns, rfl, hs, fun _ _ => rfl⟩, ?_⟩
    rintro S' T' d v H' rfl _ r
    have rp := r.rp
    cases rp
    rfl
  rcases hS with (h | ⟨o, h⟩) | h
  · exact go [([V.ref a], [PyData.list (ns.map .int)])] (fun p hp => by
      rw [List.mem_singleton.mp hp]
      exact .cons (.lst h (Rps.ints H ns)) .nil) (.inr (.inl (List.mem_singleton.mpr rfl)))
  · exact go [] (fun p hp => by cases hp) (.inl ⟨o, h⟩)
  · exact go [] (fun p hp => by cases hp) (.inr (.inr h))
theorem law_at {l : PySem.W.OpenLaw} {w : World} {mg : Str → Option Value} {fa0 : Addr} {h : Heap} {K : PySem.W.Frag} (KX : K.In h) (NS : h.Ns mainGlobals mg) (hmg : mg ("law" : Str) = some (.ref fa0)) (c : He.SaysX fa fn [] tf ex w h K) : LamX.LawAtS l w K C8.CX0 lawLev 63 "_law_script" mg fa0 h := by
  have cd := He.SaysT.d c.t
  obtain ⟨fd, F⟩ := He.SaysD.def_ cd 50 (d := D_law) rfl
  have z := hmg.symm.trans (He.glo_ok KX NS (He.SaysD.fact cd 76 (f := .glo "law") rfl))
  cases z
  refine ⟨fd, tf.map (He.cT K), sp_law (GG w K), fun p hp => ?_, fun p hp => ?_, fun p hp => ?_, fun s v => ?_, fun H a ns _ _ hH hS => law_sp hH hS, fun base hK hN hT => ok_law ⟨hK, hN, cd, c.more, fun p hp => ?_⟩ F⟩
  · obtain ⟨q, hq, rfl⟩ := List.mem_map.mp hp
    exact c.empty q hq
  · obtain ⟨q, hq, rfl⟩ := List.mem_map.mp hp
    exact c.out q hq
  · obtain ⟨q, hq, rfl⟩ := List.mem_map.mp hp
    exact PySem.W.codeHd_of_K KX (c.hd q hq)
  · exact L2.FunD.bindsA (ps := ["_law_script"]) F (fun _ _ _ _ _ _ us hl => match us, hl with | [_], _ => rfl) s [v] rfl
  · have t := hT _ (List.mem_map.mpr ⟨p, hp, rfl⟩)
    exact ⟨t.code, t.bm, t.gP⟩
theorem law_name : (HandSHeadRun.topDef RR.prog 64).name = ("law" : Str) := by kernel_rfl
end KV
open PySem PySem.W PySem.Calls PyProof.Rows
set_option Elab.async false
set_option maxRecDepth 100000 in
set_option maxHeartbeats 8000000 in
theorem PySem.Challenge.cw_foescome_k08_whole_forgetting_holds : PySem.Challenge.rw_foescome_k08_whole_forgetting.Holds := by
  w_on; o_law
  refine HandSHeadRun.head_imp (r := OpenLaw.row PySem.Challenge.rw_foescome_k08_whole_forgetting) (q := KV.qv) (H := KV.hk) (ob := KV.ob) (M := 4000) (loose := KV.names) (d := HandSHeadRun.topDef (OpenLaw.row PySem.Challenge.rw_foescome_k08_whole_forgetting).prog 64) (kwd := []) KV.ob_eq
    KV.run (by kernel_rfl) (by kernel_rfl) (by kernel_rfl) (by rfl) (by first | assumption | decide +kernel) (by decide +kernel) ⟨rfl, rfl, rfl, rfl, rfl, by decide +kernel⟩ ?hw ?hc
  case hw => w_witness2
  case hc =>
    refine LamX.walk_ofTsE (l := PySem.Challenge.rw_foescome_k08_whole_forgetting) (n := 63) (k := KV.lawLev) (x := "_law_script") (CX := fun _ => C8.CX0) rfl (by decide) (by kernel_rfl) ⟨rfl, by decide, by decide⟩ ?F (fun _ _ _ _ _ z => z)
    intro w mg fa h Y G hmg0
    obtain ⟨K, KX, c⟩ := Y
    exact ⟨K, KX, KV.law_at KX G (by rw [← KV.law_name]; exact hmg0) c⟩
