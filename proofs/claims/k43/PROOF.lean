import PyProof.Rows.All
import Wide.All
import OpenK.AllK
import Wide.FinOn
import HandS.ForMost
import HandS.IsInst
import HandS.Gcd
import HandS.Wide
import HandS.TupAny
import HandS.TupMul
import HandS.Walk
import HandS.Zip
import HandS.Flow
import HandS.Style
import HandS.Conv
import HandS.AnyAll
import HandS.Defaults
import HandS.Head3
import HandS.HeadHook4
import HandS.HeadWalk
import PySem.Challenge.RW_pinchworks_k43_whole_load_papers_judged
import HandS.GenList
import KE.GoesZip
import KE.GoesEnum
import HandS.Evl
import HandS.Dict
import HandS.Small
import HandS.Head2
import HandS.HeadEnd
import HandS.HeadHook1
import HandS.HeadHook2
import HandS.HeadHook3
import KE.KStateDown
set_option Elab.async false
set_option linter.all false
set_option maxRecDepth 100000
set_option maxHeartbeats 8000000
set_option exponentiation.threshold 20000
/-! The head: what the top leaves, by one run. -/
namespace Pw
open PySem PySem.Spec PyProof.Rows L2
def top (i : Nat) : Stmt := PySem.Challenge.pw_pinchworks_k43_whole_load_papers_judged.main.body.getD i (.Pass ⟨0, 0, 0, 0⟩)
def met (j : Nat) : Stmt := inClass (top 31) j
abbrev dT (x : Str) (i : Nat) : He.DefD := ⟨(x, none), x, x, defArgs (top i), defBody (top i), defScope (top i), [], []⟩
abbrev dM (x q : Str) (j : Nat) : He.DefD := ⟨("Program", some x), x, q, defArgs (met j), defBody (met j), defScope (met j), [], []⟩
def hfn : List He.DefD := [dT "is_in" 16, dT "is_stream" 17, dT "is_box" 18, dT "need_problem" 19, dT "is_giver" 20, dT "ratio" 22, dT "plus" 23, dT "minus" 24, dT "by" 25, dT "over" 26, dT "less" 27, dT "total" 28, dT "is_ratio" 29, dT "solved" 32, dT "is_pair" 35, dT "need_structure" 36, dT "heats_of" 37, dT "conditions_of" 38, dT "program_of" 39, dT "outside_of" 40, dT "best_of" 41, dT "best_loads" 42, dT "load_paper" 43, dT "weights_of" 44, dT "are_weights" 45, dT "shows_paper" 46, dT "_law_taken" 48, dT "_law_pick" 49, dT "_law_alike" 50, dT "_law_problem" 51, dT "_law_plain" 58, dT "_law_ratio" 59, dT "_law_plus" 60, dT "_law_by" 61, dT "_law_sum" 62, dT "_law_are_ratios" 63, dT "_law_structure" 64, dT "_law_conditions" 65, dT "_law_bound" 67, dT "law" 68, dM "__init__" "Program.__init__" 0, dM "turn" "Program.turn" 1, dM "multiplier" "Program.multiplier" 2, dM "climb" "Program.climb" 3, dM "leave_help" "Program.leave_help" 4, dM "amounts" "Program.amounts" 5, dM "prices" "Program.prices" 6]
def hfa : List He.Fa := [.glo "is_in", .glo "is_stream", .glo "is_box", .glo "need_problem", .glo "is_giver", .glo "ratio", .glo "plus", .glo "minus", .glo "by", .glo "over", .glo "less", .glo "total", .glo "is_ratio", .glo "solved", .glo "is_pair", .glo "need_structure", .glo "heats_of", .glo "conditions_of", .glo "program_of", .glo "outside_of", .glo "best_of", .glo "best_loads", .glo "load_paper", .glo "weights_of", .glo "are_weights", .glo "shows_paper", .glo "_law_taken", .glo "_law_pick", .glo "_law_alike", .glo "_law_problem", .glo "_law_plain", .glo "_law_ratio", .glo "_law_plus", .glo "_law_by", .glo "_law_sum", .glo "_law_are_ratios", .glo "_law_structure", .glo "_law_conditions", .glo "_law_bound", .glo "law", .glo "Program", .free "len", .free "isinstance", .free "int", .free "bool", .free "tuple", .free "list", .free "abs", .free "range", .free "enumerate", .free "zip", .free "all", .free "str", .int "MOST_TEMPERATURE" 1000, .int "MOST_RATE" 100, .int "MOST_HEAT" 10000, .int "MOST_STREAMS" 6, .int "MOST_BOXES" 4, .int "MOST_GAP" 100, .int "MOST_PAIRS" 10, .cls "Program", .mkr "Program", .meth "Program" "turn", .meth "Program" "multiplier", .meth "Program" "climb", .meth "Program" "leave_help", .meth "Program" "amounts", .meth "Program" "prices", .noat "Program" "many", .noat "Program" "signs", .noat "Program" "rows", .noat "Program" "basis"]
def htf : List (Str × Option Str) := [("is_stream", none), ("is_pair", none), ("is_ratio", none), ("are_weights", none), ("shows_paper", none)]
def hex (K : PySem.W.Frag) : Bool := He.eqO (PySem.W.nsIn K mainGlobals "gcd") (some (some (.builtin "math.gcd")))
abbrev R0 : PySem.W.OpenRow := PySem.W.OpenLaw.row PySem.Challenge.rw_pinchworks_k43_whole_load_papers_judged
abbrev hk : PySem.W.Hook := He.hookX 5 hfa hfn [] htf hex
def hob (s : PySem.W.SharedT) : He.AlX := He.obsX 5 hfa hfn [] htf hex (HandSHeadRun.getT s)
theorem hob_eq (s : PySem.W.SharedT) : hob s = hk.obs s.abs := He.obsX_eq (HandSHeadRun.getT_eq s)
def hnames1 : List Str := ["HeatError", "BadProblem", "BadStreams", "BadBoxes", "BadGap", "HasBoxes", "BadStructure", "MOST_TEMPERATURE", "MOST_RATE", "MOST_HEAT", "MOST_STREAMS", "MOST_BOXES", "MOST_GAP", "MOST_PAIRS", "Program"]
def hnames2 : List Str := ["is_in", "is_stream", "is_box", "need_problem", "is_giver", "ratio", "plus", "minus", "by", "over", "less", "total", "is_ratio", "solved", "is_pair", "need_structure", "heats_of", "conditions_of", "program_of", "outside_of", "best_of", "best_loads", "load_paper", "weights_of", "are_weights", "shows_paper"]
def hnames3 : List Str := ["_law_taken", "_law_pick", "_law_alike", "_law_problem", "_law_span", "_law_heat", "_law_need", "_law_levels", "_law_heating", "_law_network", "_law_plain", "_law_ratio", "_law_plus", "_law_by", "_law_sum", "_law_are_ratios", "_law_structure", "_law_conditions", "_law_outside", "_law_bound"]
set_option maxHeartbeats 0 in
theorem hrun (w : World) : HandSHeadRun.RunEqI R0 (PySem.W.view R0.prog [0, 68]) hk hob 30000 (hnames1 ++ hnames2 ++ hnames3) w := by
  unfold HandSHeadRun.RunEqI
  kernel_rfl
end Pw
/-! Plain mathematics 1: sums, pigeonhole, Siegel's lemma. Core Lean only. -/
namespace Pw
/-! ### sums of rationals -/
def S : Nat → (Nat → Rat) → Rat
  | 0, _ => 0
  | n + 1, f => S n f + f n
theorem S_congr {n : Nat} {f g : Nat → Rat} (h : ∀ i, i < n → f i = g i) : S n f = S n g := by
  induction n with
  | zero => rfl
  | succ n ih =>
    unfold S
    rw [ih fun i hi => h i (Nat.lt_succ_of_lt hi), h n (Nat.lt_succ_self n)]
theorem S_zero {n : Nat} {f : Nat → Rat} (h : ∀ i, i < n → f i = 0) : S n f = 0 := by
  induction n with
  | zero => rfl
  | succ n ih =>
    unfold S
    rw [ih fun i hi => h i (Nat.lt_succ_of_lt hi), h n (Nat.lt_succ_self n)]
    grind
theorem S_add (n : Nat) (f g : Nat → Rat) : S n (fun i => f i + g i) = S n f + S n g := by
  induction n with
  | zero => simp only [S]; grind
  | succ n ih => simp only [S]; rw [ih]; grind
theorem S_sub (n : Nat) (f g : Nat → Rat) : S n (fun i => f i - g i) = S n f - S n g := by
  induction n with
  | zero => simp only [S]; grind
  | succ n ih => simp only [S]; rw [ih]; grind
theorem S_mul (n : Nat) (c : Rat) (f : Nat → Rat) : S n (fun i => c * f i) = c * S n f := by
  induction n with
  | zero => simp only [S]; grind
  | succ n ih => simp only [S]; rw [ih]; grind
theorem S_mulr (n : Nat) (c : Rat) (f : Nat → Rat) : S n (fun i => f i * c) = S n f * c := by
  induction n with
  | zero => simp only [S]; grind
  | succ n ih => simp only [S]; rw [ih]; grind
/-- only one place counts -/
theorem S_one {n : Nat} {f : Nat → Rat} {k : Nat} (hk : k < n) (h : ∀ i, i < n → i ≠ k → f i = 0) : S n f = f k := by
  induction n with
  | zero => omega
  | succ n ih =>
    unfold S
    by_cases e : k = n
    · subst e
      rw [S_zero fun i hi => h i (by omega) (by omega)]
      grind
    · rw [ih (by omega) fun i hi hn => h i (by omega) hn, h n (Nat.lt_succ_self n) (fun z => e z.symm)]
      grind
theorem S_comm (n m : Nat) (f : Nat → Nat → Rat) : S n (fun i => S m (fun j => f i j)) = S m (fun j => S n (fun i => f i j)) := by
  induction n with
  | zero =>
    simp only [S]
    exact (S_zero fun _ _ => rfl).symm
  | succ n ih =>
    simp only [S]
    rw [ih, ← S_add]
theorem S_nonneg {n : Nat} {f : Nat → Rat} (h : ∀ i, i < n → 0 ≤ f i) : 0 ≤ S n f := by
  induction n with
  | zero => simp only [S]; grind
  | succ n ih =>
    unfold S
    have h1 := ih fun i hi => h i (Nat.lt_succ_of_lt hi)
    have h2 := h n (Nat.lt_succ_self n)
    grind
/-- a sum below 0 has a term below 0 -/
theorem S_neg {n : Nat} {f : Nat → Rat} (h : S n f < 0) : ∃ i, i < n ∧ f i < 0 := by
  induction n with
  | zero => simp only [S] at h; grind
  | succ n ih =>
    unfold S at h
    by_cases h2 : f n < 0
    · exact ⟨n, Nat.lt_succ_self n, h2⟩
    · obtain ⟨i, hi, q⟩ := ih (by grind)
      exact ⟨i, Nat.lt_succ_of_lt hi, q⟩
theorem S_split (n : Nat) (f : Nat → Rat) {k : Nat} (hk : k < n) : S n f = f k + S n (fun i => if i = k then 0 else f i) := by
  have e : S n f = S n (fun i => (if i = k then f k else 0) + (if i = k then 0 else f i)) := S_congr fun i _ => by
    by_cases e : i = k
    · subst e
      rw [if_pos rfl, if_pos rfl]
      grind
    · rw [if_neg e, if_neg e]
      grind
  rw [e, S_add, S_one hk (fun i _ hn => if_neg hn), if_pos rfl]
theorem S_nonneg_zero {n : Nat} {f : Nat → Rat} (h : ∀ i, i < n → 0 ≤ f i) (e : S n f ≤ 0) : ∀ i, i < n → f i = 0 := by
  induction n with
  | zero => intro i hi; omega
  | succ n ih =>
    unfold S at e
    have h0 := S_nonneg fun i (hi : i < n) => h i (Nat.lt_succ_of_lt hi)
    have h2 := h n (Nat.lt_succ_self n)
    intro i hi
    by_cases e2 : i = n
    · subst e2; grind
    · exact ih (fun i hi => h i (Nat.lt_succ_of_lt hi)) (by grind) i (by omega)
/-! ### sums of integers -/
def SI : Nat → (Nat → Int) → Int
  | 0, _ => 0
  | n + 1, f => SI n f + f n
theorem SI_congr {n : Nat} {f g : Nat → Int} (h : ∀ i, i < n → f i = g i) : SI n f = SI n g := by
  induction n with
  | zero => rfl
  | succ n ih =>
    unfold SI
    rw [ih fun i hi => h i (Nat.lt_succ_of_lt hi), h n (Nat.lt_succ_self n)]
theorem SI_sub (n : Nat) (f g : Nat → Int) : SI n (fun i => f i - g i) = SI n f - SI n g := by
  induction n with
  | zero => rfl
  | succ n ih => simp only [SI]; rw [ih]; omega
theorem SI_cast (n : Nat) (f : Nat → Int) : ((SI n f : Int) : Rat) = S n (fun i => (f i : Rat)) := by
  induction n with
  | zero => rfl
  | succ n ih => simp only [SI, S]; rw [Rat.intCast_add, ih]
theorem SI_abs {n : Nat} {f : Nat → Int} {b : Nat} (h : ∀ i, i < n → (f i).natAbs ≤ b) : (SI n f).natAbs ≤ n * b := by
  induction n with
  | zero => simp [SI]
  | succ n ih =>
    unfold SI
    have h1 := ih fun i hi => h i (Nat.lt_succ_of_lt hi)
    have h2 := h n (Nat.lt_succ_self n)
    have h3 := Int.natAbs_add_le (SI n f) (f n)
    rw [Nat.succ_mul]
    omega
/-! ### the pigeonhole -/
theorem pigeon : ∀ (b a : Nat) (f : Nat → Nat), (∀ i, i < a → f i < b) → b < a → ∃ i j, i < j ∧ j < a ∧ f i = f j := by
  intro b
  induction b with
  | zero =>
    intro a f h hab
    have := h 0 hab
    omega
  | succ b ih =>
    intro a f h hab
    -- where is the value b taken?
    by_cases e : ∃ i, i < a ∧ f i = b
    · obtain ⟨i, hi, e⟩ := e
      by_cases e2 : ∃ j, j < a ∧ j ≠ i ∧ f j = b
      · obtain ⟨j, hj, hn, e2⟩ := e2
        rcases Nat.lt_or_gt_of_ne hn with q | q
        · exact ⟨j, i, q, hi, by omega⟩
        · exact ⟨i, j, q, hj, by omega⟩
      · -- leave i out
        obtain ⟨x, y, hxy, hy, q⟩ := ih (a - 1) (fun k => if k < i then f k else f (k + 1)) (fun k hk => by
          by_cases c : k < i
          · rw [if_pos c]
            have h1 := h k (by omega)
            have h2 : f k ≠ b := fun z => e2 ⟨k, by omega, by omega, z⟩
            omega
          · rw [if_neg c]
            have h1 := h (k + 1) (by omega)
            have h2 : f (k + 1) ≠ b := fun z => e2 ⟨k + 1, by omega, by omega, z⟩
            omega) (by omega)
        by_cases c : x < i
        · rw [if_pos c] at q
          by_cases d : y < i
          · rw [if_pos d] at q
            exact ⟨x, y, hxy, by omega, q⟩
          · rw [if_neg d] at q
            exact ⟨x, y + 1, by omega, by omega, q⟩
        · rw [if_neg c, if_neg (by omega)] at q
          exact ⟨x + 1, y + 1, by omega, by omega, q⟩
    · obtain ⟨x, y, hxy, hy, q⟩ := ih a f (fun k hk => by
        have h1 := h k hk
        have h2 : f k ≠ b := fun z => e ⟨k, hk, z⟩
        omega) (by omega)
      exact ⟨x, y, hxy, hy, q⟩
/-! ### numbers by their digits -/
def enc (b : Nat) : Nat → (Nat → Nat) → Nat
  | 0, _ => 0
  | n + 1, u => enc b n u + u n * b ^ n
theorem enc_lt {b n : Nat} {u : Nat → Nat} (h : ∀ i, i < n → u i < b) : enc b n u < b ^ n := by
  induction n with
  | zero => simp [enc]
  | succ n ih =>
    have h1 := ih fun i hi => h i (Nat.lt_succ_of_lt hi)
    have h2 := h n (Nat.lt_succ_self n)
    have h3 : (u n + 1) * b ^ n ≤ b * b ^ n := Nat.mul_le_mul_right _ h2
    rw [Nat.succ_mul] at h3
    rw [Nat.pow_succ, Nat.mul_comm (b ^ n) b]
    unfold enc
    omega
theorem enc_inj {b n : Nat} {u v : Nat → Nat} (hu : ∀ i, i < n → u i < b) (hv : ∀ i, i < n → v i < b) (e : enc b n u = enc b n v) : ∀ i, i < n → u i = v i := by
  induction n with
  | zero => intro i hi; omega
  | succ n ih =>
    unfold enc at e
    have h1 := enc_lt fun i (hi : i < n) => hu i (Nat.lt_succ_of_lt hi)
    have h2 := enc_lt fun i (hi : i < n) => hv i (Nat.lt_succ_of_lt hi)
    have hb : 0 < b ^ n := by omega
    have q : u n = v n := by
      have a1 : (enc b n u + u n * b ^ n) / b ^ n = u n := by
        rw [Nat.add_mul_div_right _ _ hb, Nat.div_eq_of_lt h1]
        omega
      have a2 : (enc b n v + v n * b ^ n) / b ^ n = v n := by
        rw [Nat.add_mul_div_right _ _ hb, Nat.div_eq_of_lt h2]
        omega
      rw [← a1, ← a2, e]
    rw [q] at e
    intro i hi
    by_cases z : i = n
    · rw [z]; exact q
    · exact ih (fun i hi => hu i (Nat.lt_succ_of_lt hi)) (fun i hi => hv i (Nat.lt_succ_of_lt hi)) (by omega) i (by omega)
def dig (b c j : Nat) : Nat := c / b ^ j % b
theorem dig_inj {b : Nat} (hb : 0 < b) : ∀ (n c d : Nat), c < b ^ n → d < b ^ n → (∀ j, j < n → dig b c j = dig b d j) → c = d := by
  intro n
  induction n with
  | zero => intro c d hc hd _; simp at hc hd; omega
  | succ n ih =>
    intro c d hc hd h
    have q : c / b = d / b := by
      refine ih _ _ (Nat.div_lt_of_lt_mul (by rw [Nat.mul_comm]; simpa [Nat.pow_succ] using hc)) (Nat.div_lt_of_lt_mul (by rw [Nat.mul_comm]; simpa [Nat.pow_succ] using hd)) fun j hj => ?_
      have := h (j + 1) (by omega)
      unfold dig at this ⊢
      rw [Nat.div_div_eq_div_mul, Nat.div_div_eq_div_mul, ← Nat.pow_succ', ]
      exact this
    have r : c % b = d % b := by
      have := h 0 (by omega)
      simpa [dig] using this
    rw [← Nat.div_add_mod c b, ← Nat.div_add_mod d b, q, r]
/-! ### Siegel: m equations, m + 1 unknowns, a solution that is small and not 0 -/
theorem siegel (m : Nat) (A : Nat → Nat → Int) (M : Nat) (hM1 : 1 ≤ M) (hM : ∀ i j, i < m → j < m + 1 → (A i j).natAbs ≤ M) :
    ∃ y : Nat → Int, (∃ j, j < m + 1 ∧ y j ≠ 0) ∧ (∀ j, (y j).natAbs ≤ (2 * (m + 1) * M) ^ m) ∧ ∀ i, i < m → SI (m + 1) (fun j => A i j * y j) = 0 := by
  generalize hK : 2 * (m + 1) * M = K
  generalize hX : K ^ m = X
  have hK1 : 1 ≤ K := by
    rw [← hK]
    exact Nat.mul_pos (by omega) hM1
  have hdig : ∀ c j, dig (X + 1) c j ≤ X := fun c j => by
    have : dig (X + 1) c j < X + 1 := Nat.mod_lt _ (Nat.succ_pos X)
    omega
  -- the values
  let val : Nat → Nat → Int := fun c i => SI (m + 1) (fun j => A i j * (dig (X + 1) c j : Int))
  have hval : ∀ c i, i < m → (val c i).natAbs ≤ (m + 1) * (M * X) := fun c i hi => SI_abs fun j hj => by
    rw [Int.natAbs_mul, Int.natAbs_natCast]
    exact Nat.mul_le_mul (hM i j hi hj) (hdig c j)
  generalize hO : (m + 1) * (M * X) = O at hval
  let u : Nat → Nat → Nat := fun c i => (val c i + O).toNat
  have hu : ∀ c i, i < m → u c i < 2 * O + 1 := fun c i hi => by
    have := hval c i hi
    show (val c i + O).toNat < _
    omega
  have hW : 2 * O + 1 ≤ K * (X + 1) := by
    rw [← hO, ← hK, Nat.mul_succ]
    have e : 2 * ((m + 1) * (M * X)) = 2 * (m + 1) * M * X := by
      simp only [Nat.mul_assoc]
    rw [e]
    have : 1 ≤ 2 * (m + 1) * M := by rw [hK]; exact hK1
    omega
  have hcount : (2 * O + 1) ^ m < (X + 1) ^ (m + 1) := by
    have h1 : (2 * O + 1) ^ m ≤ (K * (X + 1)) ^ m := Nat.pow_le_pow_left hW m
    rw [Nat.mul_pow, hX] at h1
    have h2 : 0 < (X + 1) ^ m := Nat.pow_pos (Nat.succ_pos X)
    have h3 : (X + 1) ^ (m + 1) = X * (X + 1) ^ m + (X + 1) ^ m := by
      rw [Nat.pow_succ, Nat.mul_comm ((X + 1) ^ m) (X + 1), Nat.succ_mul X]
    omega
  obtain ⟨c, d, hcd, hd, e⟩ := pigeon ((2 * O + 1) ^ m) ((X + 1) ^ (m + 1)) (fun c => enc (2 * O + 1) m (u c)) (fun c _ => enc_lt fun i hi => hu c i hi) hcount
  have e2 := enc_inj (fun i hi => hu c i hi) (fun i hi => hu d i hi) e
  have e3 : ∀ i, i < m → val c i = val d i := fun i hi => by
    have a1 := hval c i hi
    have a2 := hval d i hi
    have a3 : (val c i + O).toNat = (val d i + O).toNat := e2 i hi
    omega
  refine ⟨fun j => (dig (X + 1) c j : Int) - (dig (X + 1) d j : Int), ?_, fun j => ?_, fun i hi => ?_⟩
  · apply Classical.byContradiction
    intro hn
    have : c = d := dig_inj (b := X + 1) (Nat.succ_pos X) (m + 1) c d (Nat.lt_trans hcd hd) hd fun j hj => by
      apply Classical.byContradiction
      intro hne
      refine hn ⟨j, hj, fun z => hne ?_⟩
      have z2 : (dig (X + 1) c j : Int) - (dig (X + 1) d j : Int) = 0 := z
      omega
    omega
  · have h1 := hdig c j
    have h2 := hdig d j
    dsimp only
    omega
  · have q := e3 i hi
    have e4 : SI (m + 1) (fun j => A i j * ((dig (X + 1) c j : Int) - (dig (X + 1) d j : Int))) = val c i - val d i := by
      rw [← SI_sub]
      exact SI_congr fun j _ => Int.mul_sub _ _ _
    rw [e4, q]
    omega
end Pw

/-! Plain mathematics 2: tables in basic form, pivots, Bland's rule never comes back. Core Lean only. -/
namespace Pw
structure Basic (m N : Nat) (T : Nat → Nat → Rat) (B : Nat → Nat) : Prop where
  lt : ∀ j, j < m → B j < N
  unit : ∀ i j, i < m → j < m → T i (B j) = if i = j then 1 else 0
def Sol (m N : Nat) (T : Nat → Nat → Rat) (z : Nat → Rat) : Prop := ∀ i, i < m → S (N + 1) (fun k => T i k * z k) = 0
def piv (T : Nat → Nat → Rat) (r s : Nat) : Nat → Nat → Rat := fun i k => if i = r then T r k / T r s else T i k - T i s * (T r k / T r s)
def pivB (B : Nat → Nat) (r s : Nat) : Nat → Nat := fun j => if j = r then s else B j
def mult (m : Nat) (c : Nat → Rat) (T : Nat → Nat → Rat) (B : Nat → Nat) (k : Nat) : Rat := S m fun j => c (B j) * T j k
def redc (m : Nat) (c : Nat → Rat) (T : Nat → Nat → Rat) (B : Nat → Nat) (k : Nat) : Rat := c k - mult m c T B k
theorem Basic.inj {m N : Nat} {T : Nat → Nat → Rat} {B : Nat → Nat} (h : Basic m N T B) {i j : Nat} (hi : i < m) (hj : j < m) (e : B i = B j) : i = j := by
  apply Classical.byContradiction
  intro hn
  have h1 := h.unit i i hi hi
  have h2 := h.unit i j hi hj
  rw [if_pos rfl, e] at h1
  rw [if_neg hn, h1] at h2
  grind
theorem piv_basic {m N : Nat} {T : Nat → Nat → Rat} {B : Nat → Nat} {r s : Nat} (h : Basic m N T B) (hr : r < m) (hs : s < N) (hp : T r s ≠ 0) : Basic m N (piv T r s) (pivB B r s) where
  lt := fun j hj => by
    unfold pivB
    by_cases e : j = r
    · rw [if_pos e]; exact hs
    · rw [if_neg e]; exact h.lt j hj
  unit := fun i j hi hj => by
    unfold piv pivB
    by_cases e : j = r
    · rw [if_pos e]
      by_cases e2 : i = r
      · rw [if_pos e2, if_pos (e2.trans e.symm)]
        grind
      · rw [if_neg e2, if_neg (fun z => e2 (z.trans e))]
        grind
    · rw [if_neg e]
      have h1 := h.unit r j hr hj
      rw [if_neg (fun z => e z.symm)] at h1
      by_cases e2 : i = r
      · rw [if_pos e2, h1, if_neg (fun z => e (z.symm.trans e2))]
        grind
      · rw [if_neg e2, h1, h.unit i j hi hj]
        grind
theorem piv_sol {m N : Nat} {T : Nat → Nat → Rat} {r s : Nat} (hr : r < m) (hp : T r s ≠ 0) (z : Nat → Rat) : Sol m N (piv T r s) z ↔ Sol m N T z := by
  have e1 : S (N + 1) (fun k => piv T r s r k * z k) = (1 / T r s) * S (N + 1) (fun k => T r k * z k) := by
    rw [← S_mul]
    refine S_congr fun k _ => ?_
    unfold piv
    rw [if_pos rfl]
    grind
  have e2 : ∀ i, i ≠ r → S (N + 1) (fun k => piv T r s i k * z k) = S (N + 1) (fun k => T i k * z k) - (T i s * (1 / T r s)) * S (N + 1) (fun k => T r k * z k) := fun i hi => by
    rw [← S_mul, ← S_sub]
    refine S_congr fun k _ => ?_
    unfold piv
    rw [if_neg hi]
    grind
  constructor
  · intro h i hi
    have hr0 : S (N + 1) (fun k => T r k * z k) = 0 := by
      have := h r hr
      rw [e1] at this
      grind
    by_cases e : i = r
    · rw [e]; exact hr0
    · have := h i hi
      rw [e2 i e, hr0] at this
      grind
  · intro h i hi
    by_cases e : i = r
    · rw [e, e1, h r hr]; grind
    · rw [e2 i e, h i hi, h r hr]; grind
/-- the direction of a column -/
def dirv (m : Nat) (T : Nat → Nat → Rat) (B : Nat → Nat) (s : Nat) : Nat → Rat := fun k => (if k = s then 1 else 0) - S m (fun j => if k = B j then T j s else 0)
theorem lin_dir {m N : Nat} {T : Nat → Nat → Rat} {B : Nat → Nat} {s : Nat} (hB : ∀ j, j < m → B j < N) (hs : s < N + 1) (f : Nat → Rat) : S (N + 1) (fun k => f k * dirv m T B s k) = f s - S m (fun j => f (B j) * T j s) := by
  have e : S (N + 1) (fun k => f k * dirv m T B s k) = S (N + 1) (fun k => (if k = s then f s else 0) - S m (fun j => if k = B j then f (B j) * T j s else 0)) := S_congr fun k _ => by
    unfold dirv
    have e2 : S m (fun j => if k = B j then f (B j) * T j s else 0) = f k * S m (fun j => if k = B j then T j s else 0) := by
      rw [← S_mul]
      refine S_congr fun j _ => ?_
      by_cases q : k = B j
      · rw [if_pos q, if_pos q, q]
      · rw [if_neg q, if_neg q]; grind
    rw [e2]
    by_cases q : k = s
    · rw [if_pos q, if_pos q, q]; grind
    · rw [if_neg q, if_neg q]; grind
  rw [e, S_sub, S_one hs (fun i _ hn => if_neg hn), if_pos rfl, S_comm]
  have e3 : S m (fun j => S (N + 1) (fun i => if i = B j then f (B j) * T j s else 0)) = S m (fun j => f (B j) * T j s) := S_congr fun j hj => by
    rw [S_one (k := B j) (Nat.lt_succ_of_lt (hB j hj)) (fun i _ hn => if_neg hn), if_pos rfl]
  rw [e3]
theorem dirv_sol {m N : Nat} {T : Nat → Nat → Rat} {B : Nat → Nat} {s : Nat} (h : Basic m N T B) (hs : s < N + 1) : Sol m N T (dirv m T B s) := fun i hi => by
  rw [lin_dir h.lt hs]
  rw [S_one (k := i) hi fun j hj hn => by rw [h.unit i j hi hj, if_neg (fun z => hn z.symm)]; grind]
  rw [h.unit i i hi hi, if_pos rfl]
  grind
/-- in the same equations with the same basis stands the same table -/
theorem basic_uniq {m N : Nat} {T T' : Nat → Nat → Rat} {B B' : Nat → Nat} (h : Basic m N T B) (h' : Basic m N T' B') (e : ∀ j, j < m → B j = B' j) (hs : ∀ z, Sol m N T z → Sol m N T' z) : ∀ j k, j < m → k < N + 1 → T j k = T' j k := by
  intro j k hj hk
  have q := hs _ (dirv_sol h hk) j hj
  rw [lin_dir h.lt hk] at q
  rw [S_one (k := j) hj fun i hi hn => by rw [e i hi, h'.unit j i hj hi, if_neg (fun z => hn z.symm)]; grind] at q
  rw [e j hj, h'.unit j j hj hj, if_pos rfl] at q
  grind
theorem mult_sol {m N : Nat} {c : Nat → Rat} {T : Nat → Nat → Rat} {B : Nat → Nat} {z : Nat → Rat} (h : Sol m N T z) : S (N + 1) (fun k => mult m c T B k * z k) = 0 := by
  have e : S (N + 1) (fun k => mult m c T B k * z k) = S (N + 1) (fun k => S m fun j => c (B j) * (T j k * z k)) := S_congr fun k _ => by
    unfold mult
    rw [← S_mulr]
    exact S_congr fun j _ => by grind
  rw [e, S_comm]
  refine S_zero fun j hj => ?_
  rw [S_mul, h j hj]
  grind
theorem redc_basic {m N : Nat} {c : Nat → Rat} {T : Nat → Nat → Rat} {B : Nat → Nat} (h : Basic m N T B) {j : Nat} (hj : j < m) : redc m c T B (B j) = 0 := by
  unfold redc mult
  rw [S_one (k := j) hj fun i hi hn => by rw [h.unit i j hi hj, if_neg hn]; grind]
  rw [h.unit j j hj hj, if_pos rfl]
  grind
/-- a column's gain in one table by the gains in another one -/
theorem redc_other {m N : Nat} {c : Nat → Rat} {T T' : Nat → Nat → Rat} {B B' : Nat → Nat} (h : Basic m N T B) (hs : ∀ z, Sol m N T z → Sol m N T' z) {s : Nat} (hk : s < N + 1) :
    redc m c T B s = redc m c T' B' s - S m (fun j => redc m c T' B' (B j) * T j s) := by
  have q := mult_sol (c := c) (B := B') (hs _ (dirv_sol h hk))
  rw [lin_dir h.lt hk] at q
  have e : S m (fun j => redc m c T' B' (B j) * T j s) = mult m c T B s - S m (fun j => mult m c T' B' (B j) * T j s) := by
    unfold redc
    rw [show mult m c T B s = S m (fun j => c (B j) * T j s) from rfl, ← S_sub]
    exact S_congr fun j _ => by grind
  rw [e]
  unfold redc
  grind
/-- a turn by Bland's rule -/
structure BStep (n m N : Nat) (c : Nat → Rat) (T : Nat → Nat → Rat) (B : Nat → Nat) (r s : Nat) : Prop where
  hr : r < m
  hs : s < n
  up : 0 < redc m c T B s
  low : ∀ k, k < s → redc m c T B k ≤ 0
  pos : 0 < T r s
  best : ∀ j, j < m → 0 < T j s → T r N / T r s < T j N / T j s ∨ (T r N / T r s = T j N / T j s ∧ B r ≤ B j)
def Feas (m N : Nat) (T : Nat → Nat → Rat) : Prop := ∀ j, j < m → 0 ≤ T j N
theorem div_nonneg' {a b : Rat} (ha : 0 ≤ a) (hb : 0 < b) : 0 ≤ a / b := by
  rw [Rat.div_def]
  exact Rat.mul_nonneg ha (Rat.le_of_lt (Rat.inv_pos.mpr hb))
theorem div_pos_iff {a b : Rat} (h : 0 < b) : a / b * b = a := by grind
theorem BStep.feas {n m N : Nat} {c : Nat → Rat} {T : Nat → Nat → Rat} {B : Nat → Nat} {r s : Nat} (b : BStep n m N c T B r s) (f : Feas m N T) : Feas m N (piv T r s) := fun j hj => by
  have hq : 0 ≤ T r N / T r s := div_nonneg' (f r b.hr) b.pos
  unfold piv
  by_cases e : j = r
  · rw [if_pos e]; exact hq
  · rw [if_neg e]
    by_cases p : 0 < T j s
    · have h1 : T r N / T r s ≤ T j N / T j s := by
        rcases b.best j hj p with z | ⟨z, _⟩
        · exact Rat.le_of_lt z
        · rw [z]; exact Rat.le_refl
      have h2 := Rat.mul_le_mul_of_nonneg_right h1 (Rat.le_of_lt p)
      rw [div_pos_iff p] at h2
      grind
    · have h0 : 0 ≤ - T j s := by grind
      have h2 := Rat.mul_nonneg h0 hq
      have h3 := f j hj
      grind
/-- the objective behind a turn -/
theorem mult_turn {m N : Nat} {c : Nat → Rat} {T : Nat → Nat → Rat} {B : Nat → Nat} {r s : Nat} (h : Basic m N T B) (hr : r < m) (hs : s < N) (hp : T r s ≠ 0) :
    mult m c (piv T r s) (pivB B r s) N = mult m c T B N + redc m c T B s * (T r N / T r s) := by
  have h' := piv_basic h hr hs hp
  have q := mult_sol (c := c) (B := B) ((piv_sol hr hp _).mp (dirv_sol h' (Nat.lt_succ_self N)))
  rw [lin_dir h'.lt (Nat.lt_succ_self N)] at q
  have e : S m (fun j => redc m c T B (pivB B r s j) * piv T r s j N) = redc m c T B s * (T r N / T r s) := by
    rw [S_one (k := r) hr fun j hj hn => by
      have : pivB B r s j = B j := if_neg hn
      rw [this, redc_basic h hj]; grind]
    unfold pivB piv
    rw [if_pos rfl, if_pos rfl]
  have e2 : S m (fun j => redc m c T B (pivB B r s j) * piv T r s j N) = mult m c (piv T r s) (pivB B r s) N - S m (fun j => mult m c T B (pivB B r s j) * piv T r s j N) := by
    unfold redc
    rw [show mult m c (piv T r s) (pivB B r s) N = S m (fun j => c (pivB B r s j) * piv T r s j N) from rfl, ← S_sub]
    exact S_congr fun j _ => by grind
  grind
/-- Bland 1977: no way back -/
theorem bland {n m N p : Nat} {c : Nat → Rat} {T : Nat → Nat → Nat → Rat} {B : Nat → Nat → Nat} {r s : Nat → Nat} (hn : n ≤ N) (h0 : Basic m N (T 0) (B 0)) (f0 : Feas m N (T 0))
    (st : ∀ t, t < p → BStep n m N c (T t) (B t) (r t) (s t)) (eT : ∀ t, t < p → T (t + 1) = piv (T t) (r t) (s t)) (eB : ∀ t, t < p → B (t + 1) = pivB (B t) (r t) (s t))
    (hp : 0 < p) (hback : ∀ j, j < m → B p j = B 0 j) : False := by
  have pnz : ∀ t, t < p → T t (r t) (s t) ≠ 0 := fun t ht z => by
    have := (st t ht).pos
    rw [z] at this
    exact Rat.lt_irrefl this
  have all : ∀ t, t ≤ p → Basic m N (T t) (B t) ∧ Feas m N (T t) ∧ ∀ z, Sol m N (T t) z ↔ Sol m N (T 0) z := by
    intro t
    induction t with
    | zero => intro _; exact ⟨h0, f0, fun z => Iff.rfl⟩
    | succ t ih =>
      intro ht
      have ht' : t < p := ht
      obtain ⟨a1, a2, a3⟩ := ih (Nat.le_of_lt ht')
      have b := st t ht'
      rw [eT t ht', eB t ht']
      exact ⟨piv_basic a1 b.hr (Nat.lt_of_lt_of_le b.hs hn) (pnz t ht'), b.feas a2, fun z => (piv_sol b.hr (pnz t ht') z).trans (a3 z)⟩
  have sols : ∀ t u, t ≤ p → u ≤ p → ∀ z, Sol m N (T t) z → Sol m N (T u) z := fun t u ht hu z q => ((all u hu).2.2 z).mpr (((all t ht).2.2 z).mp q)
  -- the objective stands still
  have up : ∀ t, t < p → mult m c (T (t + 1)) (B (t + 1)) N = mult m c (T t) (B t) N + redc m c (T t) (B t) (s t) * (T t (r t) N / T t (r t) (s t)) := fun t ht => by
    have b := st t ht
    rw [eT t ht, eB t ht]
    exact mult_turn (all t (Nat.le_of_lt ht)).1 b.hr (Nat.lt_of_lt_of_le b.hs hn) (pnz t ht)
  have th0 : ∀ t, t < p → 0 ≤ T t (r t) N / T t (r t) (s t) := fun t ht => div_nonneg' ((all t (Nat.le_of_lt ht)).2.1 _ (st t ht).hr) (st t ht).pos
  have rise : ∀ t, t < p → mult m c (T t) (B t) N ≤ mult m c (T (t + 1)) (B (t + 1)) N := fun t ht => by
    have h1 := Rat.mul_nonneg (Rat.le_of_lt (st t ht).up) (th0 t ht)
    rw [up t ht]
    grind
  have mono : ∀ k t, t + k ≤ p → mult m c (T t) (B t) N ≤ mult m c (T (t + k)) (B (t + k)) N := by
    intro k
    induction k with
    | zero => intro t _; exact Rat.le_refl
    | succ k ih =>
      intro t ht
      exact Rat.le_trans (ih t (by omega)) (rise (t + k) (by omega))
  have ends : mult m c (T p) (B p) N = mult m c (T 0) (B 0) N := S_congr fun j hj => by
    rw [hback j hj, basic_uniq (all p (Nat.le_refl _)).1 h0 hback (sols p 0 (Nat.le_refl _) (Nat.zero_le _)) j N hj (Nat.lt_succ_self N)]
  have zero : ∀ t, t < p → T t (r t) N / T t (r t) (s t) = 0 := fun t ht => by
    have h1 := mono t 0 (by omega)
    have h2 := mono (p - (t + 1)) (t + 1) (by omega)
    rw [Nat.zero_add] at h1
    rw [show t + 1 + (p - (t + 1)) = p by omega, ends] at h2
    have h3 := up t ht
    have h4 := (st t ht).up
    have h5 := th0 t ht
    have h6 := Rat.mul_nonneg (Rat.le_of_lt h4) h5
    have h7 : redc m c (T t) (B t) (s t) * (T t (r t) N / T t (r t) (s t)) = 0 := by grind
    rcases Rat.mul_eq_zero.mp h7 with z | z
    · rw [z] at h4; exact absurd h4 Rat.lt_irrefl
    · exact z
  have zero' : ∀ t, t < p → T t (r t) N = 0 := fun t ht => by
    have h1 := zero t ht
    have h2 := div_pos_iff (a := T t (r t) N) (st t ht).pos
    rw [h1] at h2
    grind
  -- a column's amount stands still at 0
  have zt : ∀ t x, t < p → ((∀ j, j < m → B t j = x → T t j N = 0) ↔ (∀ j, j < m → B (t + 1) j = x → T (t + 1) j N = 0)) := fun t x ht => by
    rw [eT t ht, eB t ht]
    constructor
    · intro h j hj e
      unfold pivB at e
      unfold piv
      by_cases q : j = r t
      · rw [if_pos q]; exact zero t ht
      · rw [if_neg q] at e ⊢
        rw [h j hj e, zero t ht]
        grind
    · intro h j hj e
      by_cases q : j = r t
      · rw [q]; exact zero' t ht
      · have := h j hj (by unfold pivB; rw [if_neg q]; exact e)
        unfold piv at this
        rw [if_neg q, zero t ht] at this
        grind
  have za : ∀ x t, t ≤ p → ((∀ j, j < m → B t j = x → T t j N = 0) ↔ (∀ j, j < m → B 0 j = x → T 0 j N = 0)) := fun x t => by
    induction t with
    | zero => intro _; exact Iff.rfl
    | succ t ih => intro ht; exact (zt t x ht).symm.trans (ih (Nat.le_of_lt ht))
  -- what comes in, what goes out
  have enter : ∀ x a k, a + k ≤ p → (¬ ∃ j, j < m ∧ B a j = x) → (∃ j, j < m ∧ B (a + k) j = x) → ∃ u, u < p ∧ s u = x := by
    intro x a k
    induction k with
    | zero => intro _ h1 h2; exact absurd h2 h1
    | succ k ih =>
      intro hk h1 h2
      by_cases q : ∃ j, j < m ∧ B (a + k) j = x
      · exact ih (by omega) h1 q
      · obtain ⟨j, hj, e⟩ := h2
        have ht : a + k < p := by omega
        rw [show a + (k + 1) = (a + k) + 1 by omega, eB _ ht] at e
        unfold pivB at e
        by_cases q2 : j = r (a + k)
        · rw [if_pos q2] at e
          exact ⟨a + k, ht, e⟩
        · rw [if_neg q2] at e
          exact absurd ⟨j, hj, e⟩ q
  have leave : ∀ x a k, a + k ≤ p → (∃ j, j < m ∧ B a j = x) → (¬ ∃ j, j < m ∧ B (a + k) j = x) → ∃ u, u < p ∧ B u (r u) = x := by
    intro x a k
    induction k with
    | zero => intro _ h1 h2; exact absurd h1 h2
    | succ k ih =>
      intro hk h1 h2
      by_cases q : ∃ j, j < m ∧ B (a + k) j = x
      · obtain ⟨j, hj, e⟩ := q
        have ht : a + k < p := by omega
        by_cases q2 : j = r (a + k)
        · exact ⟨a + k, ht, by rw [← q2]; exact e⟩
        · refine absurd ⟨j, hj, ?_⟩ h2
          rw [show a + (k + 1) = (a + k) + 1 by omega, eB _ ht]
          unfold pivB
          rw [if_neg q2]
          exact e
      · exact ih (by omega) h1 q
  have back : ∀ x, (∃ j, j < m ∧ B p j = x) ↔ (∃ j, j < m ∧ B 0 j = x) := fun x =>
    ⟨fun ⟨j, hj, e⟩ => ⟨j, hj, by rw [← hback j hj]; exact e⟩, fun ⟨j, hj, e⟩ => ⟨j, hj, by rw [hback j hj]; exact e⟩⟩
  -- a column that is in at one time and out at another one comes in some time
  have fick : ∀ x a b, a ≤ p → b ≤ p → (¬ ∃ j, j < m ∧ B a j = x) → (∃ j, j < m ∧ B b j = x) → ∃ u, u < p ∧ s u = x := fun x a b ha hb h1 h2 => by
    by_cases q : ∃ j, j < m ∧ B 0 j = x
    · refine enter x a (p - a) (by omega) h1 ?_
      rw [show a + (p - a) = p by omega]
      exact (back x).mpr q
    · refine enter x 0 b (by omega) q ?_
      rw [Nat.zero_add]
      exact h2
  -- the greatest column that comes in
  have hmax : ∀ k, 0 < k → k ≤ p → ∃ t, t < k ∧ ∀ u, u < k → s u ≤ s t := by
    intro k
    induction k with
    | zero => intro h; omega
    | succ k ih =>
      intro _ hk
      by_cases q : k = 0
      · exact ⟨0, by omega, fun u hu => by rw [show u = 0 by omega]; exact Nat.le_refl _⟩
      · obtain ⟨t, ht, h⟩ := ih (by omega) (by omega)
        by_cases q2 : s t ≤ s k
        · refine ⟨k, by omega, fun u hu => ?_⟩
          by_cases q3 : u = k
          · rw [q3]; exact Nat.le_refl _
          · exact Nat.le_trans (h u (by omega)) q2
        · refine ⟨t, by omega, fun u hu => ?_⟩
          by_cases q3 : u = k
          · rw [q3]; omega
          · exact h u (by omega)
  obtain ⟨a, ha, hq⟩ := hmax p hp (Nat.le_refl _)
  have ba := all a (Nat.le_of_lt ha)
  -- it is out at a
  have qout : ¬ ∃ j, j < m ∧ B a j = s a := fun ⟨j, hj, e⟩ => by
    have h1 := (st a ha).up
    rw [← e, redc_basic ba.1 hj] at h1
    exact Rat.lt_irrefl h1
  have qin : ∃ j, j < m ∧ B (a + 1) j = s a := ⟨r a, (st a ha).hr, by rw [eB a ha]; unfold pivB; rw [if_pos rfl]⟩
  -- so it goes out some time
  obtain ⟨b, hb, eb⟩ : ∃ u, u < p ∧ B u (r u) = s a := by
    by_cases q : ∃ j, j < m ∧ B 0 j = s a
    · exact leave (s a) 0 a (by omega) q (by rw [Nat.zero_add]; exact qout)
    · refine leave (s a) (a + 1) (p - (a + 1)) (by omega) qin ?_
      rw [show a + 1 + (p - (a + 1)) = p by omega]
      exact fun z => q ((back _).mp z)
  have bb := all b (Nat.le_of_lt hb)
  have sb : s b < s a := by
    have h1 := hq b hb
    have h2 : s b ≠ s a := fun e => by
      have h3 := (st b hb).up
      rw [e, ← eb, redc_basic bb.1 (st b hb).hr] at h3
      exact Rat.lt_irrefl h3
    omega
  have key := redc_other (c := c) (T' := T a) (B' := B a) bb.1 (sols b a (Nat.le_of_lt hb) (Nat.le_of_lt ha)) (s := s b) (by have := (st b hb).hs; omega)
  have k1 := (st b hb).up
  have k2 := (st a ha).low (s b) sb
  obtain ⟨j, hj, hneg⟩ := S_neg (n := m) (f := fun j => redc m c (T a) (B a) (B b j) * T b j (s b)) (by grind)
  have hjr : j ≠ r b := fun e => by
    have h1 := (st a ha).up
    have h2 := (st b hb).pos
    have h3 := Rat.mul_pos h1 h2
    rw [e, eb] at hneg
    grind
  -- the column of this row is out at a, so it comes in some time: it is below the greatest one
  have xout : ¬ ∃ i, i < m ∧ B a i = B b j := fun ⟨i, hi, e⟩ => by
    rw [← e, redc_basic ba.1 hi] at hneg
    grind
  obtain ⟨u, hu, eu⟩ := fick (B b j) a b (Nat.le_of_lt ha) (Nat.le_of_lt hb) xout ⟨j, hj, rfl⟩
  have xlt : B b j < s a := by
    have h1 := hq u hu
    have h2 : B b j ≠ s a := fun e => hjr (bb.1.inj hj (st b hb).hr (e.trans eb.symm))
    omega
  have h1 := (st a ha).low _ xlt
  have hpos : 0 < T b j (s b) := by
    apply Classical.byContradiction
    intro hn2
    have h2 : 0 ≤ - redc m c (T a) (B a) (B b j) := by grind
    have h3 : 0 ≤ - T b j (s b) := by grind
    have h4 := Rat.mul_nonneg h2 h3
    grind
  -- its amount is 0
  have x0 : T b j N = 0 := by
    refine ((za (B b j) b (Nat.le_of_lt hb)).mpr ((za (B b j) a (Nat.le_of_lt ha)).mp fun i hi e => absurd ⟨i, hi, e⟩ xout)) j hj rfl
  have hbest := (st b hb).best j hj hpos
  have e0 : T b j N / T b j (s b) = 0 := by rw [x0]; grind
  rw [zero b hb, e0, eb] at hbest
  rcases hbest with z | ⟨_, z⟩
  · exact Rat.lt_irrefl z
  · omega
end Pw

/-! Plain mathematics 3: Bland's climb as a function; it ends. -/
namespace Pw
abbrev Tab := Nat → Nat → Rat
/-- the row that leaves, of the first j rows -/
def bestTo (N : Nat) (T : Tab) (B : Nat → Nat) (k : Nat) : Nat → Option Nat
  | 0 => none
  | j + 1 => if 0 < T j k then (match bestTo N T B k j with
    | none => some j
    | some b => if T j N / T j k < T b N / T b k ∨ (T j N / T j k = T b N / T b k ∧ B j < B b) then some j else some b) else bestTo N T B k j
theorem bestTo_some {N : Nat} {T : Tab} {B : Nat → Nat} {k : Nat} : ∀ {j b : Nat}, bestTo N T B k j = some b → b < j ∧ 0 < T b k ∧ ∀ i, i < j → 0 < T i k → T b N / T b k < T i N / T i k ∨ (T b N / T b k = T i N / T i k ∧ B b ≤ B i)
  | 0, b, h => by cases h
  | j + 1, b, h => by
    rw [bestTo] at h
    by_cases hp : 0 < T j k
    · rw [if_pos hp] at h
      cases hq : bestTo N T B k j with
      | none =>
        rw [hq] at h
        cases h
        refine ⟨Nat.lt_succ_self _, hp, fun i hi hpi => ?_⟩
        by_cases e : i = j
        · subst e
          exact .inr ⟨rfl, Nat.le_refl _⟩
        · exfalso
          have none_of : ∀ {j : Nat}, bestTo N T B k j = none → ∀ i, i < j → ¬ 0 < T i k := fun {j} => by
            induction j with
            | zero => intro _ i hi; omega
            | succ j ih =>
              intro h i hi hp
              rw [bestTo] at h
              by_cases hj : 0 < T j k
              · rw [if_pos hj] at h
                cases hb : bestTo N T B k j with
                | none => rw [hb] at h; cases h
                | some b =>
                  rw [hb] at h
                  simp only at h
                  split at h <;> cases h
              · rw [if_neg hj] at h
                by_cases e : i = j
                · rw [e] at hp; exact hj hp
                · exact ih h i (by omega) hp
          exact none_of hq i (by omega) hpi
      | some b0 =>
        rw [hq] at h
        obtain ⟨h1, h2, h3⟩ := bestTo_some hq
        simp only at h
        by_cases hc : T j N / T j k < T b0 N / T b0 k ∨ (T j N / T j k = T b0 N / T b0 k ∧ B j < B b0)
        · rw [if_pos hc] at h
          cases h
          refine ⟨Nat.lt_succ_self _, hp, fun i hi hpi => ?_⟩
          by_cases e : i = j
          · subst e
            exact .inr ⟨rfl, Nat.le_refl _⟩
          · have h4 := h3 i (by omega) hpi
            rcases hc with hc | ⟨hc, hc2⟩
            · rcases h4 with h4 | ⟨h4, _⟩
              · exact .inl (by grind)
              · exact .inl (by rw [← h4]; exact hc)
            · rcases h4 with h4 | ⟨h4, h5⟩
              · exact .inl (by rw [hc]; exact h4)
              · exact .inr ⟨hc.trans h4, by omega⟩
        · rw [if_neg hc] at h
          cases h
          refine ⟨by omega, h2, fun i hi hpi => ?_⟩
          by_cases e : i = j
          · subst e
            rcases Classical.em (T b N / T b k < T i N / T i k) with q | q
            · exact .inl q
            · refine .inr ?_
              have hn1 : ¬ T i N / T i k < T b N / T b k := fun z => hc (.inl z)
              have he : T b N / T b k = T i N / T i k := by grind
              exact ⟨he, Nat.le_of_not_lt fun z => hc (.inr ⟨he.symm, z⟩)⟩
          · exact h3 i (by omega) hpi
    · rw [if_neg hp] at h
      obtain ⟨h1, h2, h3⟩ := bestTo_some h
      refine ⟨by omega, h2, fun i hi hpi => ?_⟩
      by_cases e : i = j
      · rw [e] at hpi; exact absurd hpi hp
      · exact h3 i (by omega) hpi
theorem bestTo_none {N : Nat} {T : Tab} {B : Nat → Nat} {k : Nat} : ∀ {j : Nat}, bestTo N T B k j = none → ∀ i, i < j → ¬ 0 < T i k
  | 0, _, i, hi => by omega
  | j + 1, h, i, hi => fun hp => by
    rw [bestTo] at h
    by_cases hj : 0 < T j k
    · rw [if_pos hj] at h
      cases hb : bestTo N T B k j with
      | none => rw [hb] at h; cases h
      | some b =>
        rw [hb] at h
        simp only at h
        split at h <;> cases h
    · rw [if_neg hj] at h
      by_cases e : i = j
      · rw [e] at hp; exact hj hp
      · exact bestTo_none h i (by omega) hp
/-- the columns that would raise -/
def ups (n m : Nat) (c : Nat → Rat) (T : Tab) (B : Nat → Nat) : List Nat := (List.range n).filter fun k => decide (mult m c T B k < c k)
/-- what a turn of the loop does: stops (with this answer), or turns at (r, s) -/
inductive Act where
  | stop (b : Bool) | turn (r s : Nat)
def act (n m N : Nat) (c : Nat → Rat) (T : Tab) (B : Nat → Nat) : Act := match ups n m c T B with
  | [] => .stop true
  | k :: _ => match bestTo N T B k m with
    | none => .stop false
    | some r => .turn r k
def next (n m N : Nat) (c : Nat → Rat) (s : Tab × (Nat → Nat)) : Tab × (Nat → Nat) := match act n m N c s.1 s.2 with
  | .stop _ => s
  | .turn r k => (piv s.1 r k, pivB s.2 r k)
def iter (n m N : Nat) (c : Nat → Rat) (s : Tab × (Nat → Nat)) : Nat → Tab × (Nat → Nat)
  | 0 => s
  | t + 1 => next n m N c (iter n m N c s t)
def Stops (n m N : Nat) (c : Nat → Rat) (s : Tab × (Nat → Nat)) : Prop := ∃ b, act n m N c s.1 s.2 = .stop b
theorem filter_head {p : Nat → Bool} : ∀ {n k : Nat} {l : List Nat}, (List.range n).filter p = k :: l → k < n ∧ p k = true ∧ ∀ i, i < k → p i = false
  | 0, k, l, h => by cases h
  | n + 1, k, l, h => by
    rw [List.range_succ, List.filter_append] at h
    cases hq : (List.range n).filter p with
    | nil =>
      rw [hq, List.nil_append] at h
      by_cases hp : p n = true
      · rw [List.filter_cons, if_pos hp] at h
        injection h with h1 h2
        subst h1
        refine ⟨Nat.lt_succ_self _, hp, fun i hi => ?_⟩
        have := List.filter_eq_nil_iff.mp hq i (List.mem_range.mpr hi)
        exact Bool.eq_false_iff.mpr this
      · rw [List.filter_cons, if_neg hp] at h
        cases h
    | cons x r =>
      rw [hq] at h
      injection h with h1 h2
      subst h1
      obtain ⟨a, b, c⟩ := filter_head hq
      exact ⟨by omega, b, c⟩
theorem act_turn {n m N : Nat} {c : Nat → Rat} {T : Tab} {B : Nat → Nat} {r s : Nat} (h : act n m N c T B = .turn r s) : BStep n m N c T B r s := by
  unfold act at h
  cases hu : ups n m c T B with
  | nil => rw [hu] at h; cases h
  | cons k l =>
    rw [hu] at h
    simp only at h
    cases hb : bestTo N T B k m with
    | none => rw [hb] at h; cases h
    | some r' =>
      rw [hb] at h
      cases h
      obtain ⟨a1, a2, a3⟩ := filter_head hu
      obtain ⟨b1, b2, b3⟩ := bestTo_some hb
      refine ⟨b1, a1, ?_, fun k hk => ?_, b2, b3⟩
      · have := of_decide_eq_true a2
        unfold redc
        grind
      · have := of_decide_eq_false (a3 k hk)
        unfold redc
        grind
theorem iter_basic {n m N : Nat} {c : Nat → Rat} {T : Tab} {B : Nat → Nat} (hn : n ≤ N) (h : Basic m N T B) (f : Feas m N T) : ∀ t, Basic m N (iter n m N c (T, B) t).1 (iter n m N c (T, B) t).2 ∧ Feas m N (iter n m N c (T, B) t).1
  | 0 => ⟨h, f⟩
  | t + 1 => by
    obtain ⟨h1, h2⟩ := iter_basic (c := c) hn h f t
    show Basic m N (next n m N c _).1 (next n m N c _).2 ∧ Feas m N (next n m N c _).1
    unfold next
    cases ha : act n m N c (iter n m N c (T, B) t).1 (iter n m N c (T, B) t).2 with
    | stop b => exact ⟨h1, h2⟩
    | turn r s =>
      have b := act_turn ha
      exact ⟨piv_basic h1 b.hr (by have := b.hs; omega) (by have := b.pos; grind), b.feas h2⟩
/-- Bland: it ends -/
theorem ends {n m N : Nat} {c : Nat → Rat} {T : Tab} {B : Nat → Nat} (hn : n ≤ N) (h : Basic m N T B) (f : Feas m N T) : ∃ t, Stops n m N c (iter n m N c (T, B) t) := by
  apply Classical.byContradiction
  intro hno
  have ht : ∀ t, ∃ q : Nat × Nat, act n m N c (iter n m N c (T, B) t).1 (iter n m N c (T, B) t).2 = .turn q.1 q.2 := fun t => by
    cases ha : act n m N c (iter n m N c (T, B) t).1 (iter n m N c (T, B) t).2 with
    | stop b => exact absurd ⟨t, b, ha⟩ hno
    | turn r s => exact ⟨(r, s), rfl⟩
  obtain ⟨g, hg⟩ : ∃ g : Nat → Nat × Nat, ∀ t, act n m N c (iter n m N c (T, B) t).1 (iter n m N c (T, B) t).2 = .turn (g t).1 (g t).2 := ⟨fun t => Classical.choose (ht t), fun t => Classical.choose_spec (ht t)⟩
  have eT : ∀ t, (iter n m N c (T, B) (t + 1)).1 = piv (iter n m N c (T, B) t).1 (g t).1 (g t).2 := fun t => by
    show (next n m N c _).1 = _
    unfold next
    rw [hg t]
  have eB : ∀ t, (iter n m N c (T, B) (t + 1)).2 = pivB (iter n m N c (T, B) t).2 (g t).1 (g t).2 := fun t => by
    show (next n m N c _).2 = _
    unfold next
    rw [hg t]
  have hlt : ∀ t j, j < m → (iter n m N c (T, B) t).2 j < N := fun t j hj => (iter_basic hn h f t).1.lt j hj
  obtain ⟨i, j, hij, _, hc⟩ := pigeon (N ^ m) (N ^ m + 1) (fun t => enc N m (iter n m N c (T, B) t).2) (fun t _ => enc_lt fun j hj => hlt t j hj) (Nat.lt_succ_self _)
  have hback := enc_inj (fun l hl => hlt i l hl) (fun l hl => hlt j l hl) hc
  refine bland (p := j - i) (T := fun t => (iter n m N c (T, B) (i + t)).1) (B := fun t => (iter n m N c (T, B) (i + t)).2) (r := fun t => (g (i + t)).1) (s := fun t => (g (i + t)).2) hn (iter_basic hn h f i).1 (iter_basic hn h f i).2 (fun t _ => act_turn (hg (i + t))) (fun t _ => eT (i + t)) (fun t _ => eB (i + t)) (by omega) fun l hl => ?_
  show (iter n m N c (T, B) (i + (j - i))).2 l = (iter n m N c (T, B) (i + 0)).2 l
  rw [show i + (j - i) = j by omega]
  exact (hback l hl).symm
theorem iter_stays {n m N : Nat} {c : Nat → Rat} {s : Tab × (Nat → Nat)} {t : Nat} (h : Stops n m N c (iter n m N c s t)) : ∀ k, iter n m N c s (t + k) = iter n m N c s t
  | 0 => rfl
  | k + 1 => by
    have ih := iter_stays h k
    show next n m N c (iter n m N c s (t + k)) = _
    rw [ih]
    obtain ⟨b, hb⟩ := h
    unfold next
    rw [hb]
/-- how many turns it takes -/
noncomputable def endAt (n m N : Nat) (c : Nat → Rat) (s : Tab × (Nat → Nat)) : Nat := by
  classical exact if h : ∃ t, Stops n m N c (iter n m N c s t) then Classical.choose h else 0
theorem endAt_stops {n m N : Nat} {c : Nat → Rat} {s : Tab × (Nat → Nat)} (h : ∃ t, Stops n m N c (iter n m N c s t)) : Stops n m N c (iter n m N c s (endAt n m N c s)) := by
  unfold endAt
  rw [dif_pos h]
  exact Classical.choose_spec h
/-- where the climb ends -/
noncomputable def climbed (n m N : Nat) (c : Nat → Rat) (s : Tab × (Nat → Nat)) : Tab × (Nat → Nat) := iter n m N c s (endAt n m N c s)
theorem climbed_at {n m N : Nat} {c : Nat → Rat} {s : Tab × (Nat → Nat)} {t : Nat} (h : Stops n m N c (iter n m N c s t)) : iter n m N c s t = climbed n m N c s := by
  have h2 := endAt_stops ⟨t, h⟩
  unfold climbed
  rcases Nat.le_total t (endAt n m N c s) with e | e
  · have := iter_stays h (endAt n m N c s - t)
    rw [show t + (endAt n m N c s - t) = endAt n m N c s by omega] at this
    exact this.symm
  · have := iter_stays h2 (t - endAt n m N c s)
    rw [show endAt n m N c s + (t - endAt n m N c s) = t by omega] at this
    exact this
/-- what it answers -/
def ansOf : Act → Bool
  | .stop b => b
  | .turn _ _ => true
noncomputable def climbAns (n m N : Nat) (c : Nat → Rat) (s : Tab × (Nat → Nat)) : Bool := ansOf (act n m N c (climbed n m N c s).1 (climbed n m N c s).2)
end Pw

/-! Plain mathematics 4: the helping columns leave the basis, row by row from the last. -/
namespace Pw
/-- rows alive, the table, the basis -/
abbrev Lv := Nat × Tab × (Nat → Nat)
def nzs (many : Nat) (T : Tab) (j : Nat) : List Nat := (List.range many).filter fun k => !decide ((T j k).num = 0)
def dropT {α : Type} (T : Nat → α) (j : Nat) : Nat → α := fun i => if i < j then T i else T (i + 1)
def lstep (many j : Nat) (s : Lv) : Lv := if many ≤ s.2.2 j then (match nzs many s.2.1 j with
  | [] => (s.1 - 1, dropT s.2.1 j, dropT s.2.2 j)
  | k :: _ => (s.1, piv s.2.1 j k, pivB s.2.2 j k)) else s
def leaveTo (many m0 : Nat) (s : Lv) : Nat → Lv
  | 0 => s
  | i + 1 => lstep many (m0 - 1 - i) (leaveTo many m0 s i)
def left (many : Nat) (s : Lv) : Lv := leaveTo many s.1 s s.1
theorem lstep_le {many j : Nat} {s : Lv} : (lstep many j s).1 ≤ s.1 ∧ s.1 ≤ (lstep many j s).1 + 1 := by
  unfold lstep
  split
  · cases nzs many s.2.1 j with
    | nil => exact ⟨Nat.sub_le _ _, by show s.1 ≤ s.1 - 1 + 1; omega⟩
    | cons k l => exact ⟨Nat.le_refl _, Nat.le_succ _⟩
  · exact ⟨Nat.le_refl _, Nat.le_succ _⟩
theorem leaveTo_le {many m0 : Nat} {s : Lv} (h : s.1 = m0) : ∀ i, i ≤ m0 → m0 - i ≤ (leaveTo many m0 s i).1 ∧ (leaveTo many m0 s i).1 ≤ m0
  | 0, _ => by
    show m0 - 0 ≤ s.1 ∧ s.1 ≤ m0
    omega
  | i + 1, hi => by
    have h1 := leaveTo_le (many := many) h i (by omega)
    have h2 := lstep_le (many := many) (j := m0 - 1 - i) (s := leaveTo many m0 s i)
    show m0 - (i + 1) ≤ (lstep many (m0 - 1 - i) (leaveTo many m0 s i)).1 ∧ (lstep many (m0 - 1 - i) (leaveTo many m0 s i)).1 ≤ m0
    omega
end Pw

/-! Plain mathematics 5: every table that the two climbs and the leaving meet has small entries. -/
namespace Pw
/-- a rational of small numerator over a small denominator is small -/
theorem frac_small {r : Rat} {y q : Int} {X Y : Nat} (hq : q ≠ 0) (h1 : q.natAbs ≤ X) (h2 : y.natAbs ≤ Y) (e : r * (q : Rat) = (y : Rat)) : r.num.natAbs ≤ Y ∧ r.den ≤ X := by
  have hi : r.num * q = y * (r.den : Int) := by
    have a : (r.num : Rat) = r * (r.den : Rat) := by
      have : (r.num : Rat) / ((r.den : Int) : Rat) = r := by rw [← Rat.divInt_eq_div, Rat.num_divInt_den]
      have hc : ((r.den : Int) : Rat) = ((r.den : Nat) : Rat) := rfl
      rw [hc] at this
      have hd : ((r.den : Nat) : Rat) ≠ 0 := by
        have := r.den_pos
        intro z
        have z2 : r.den = 0 := by exact_mod_cast z
        omega
      grind
    have b : ((r.num * q : Int) : Rat) = ((y * (r.den : Int) : Int) : Rat) := by
      rw [Rat.intCast_mul, Rat.intCast_mul, a, ← e]
      have : (((r.den : Int)) : Rat) = ((r.den : Nat) : Rat) := by rfl
      rw [this]
      grind
    exact_mod_cast b
  have hn : r.num.natAbs * q.natAbs = y.natAbs * r.den := by
    have := congrArg Int.natAbs hi
    rw [Int.natAbs_mul, Int.natAbs_mul, Int.natAbs_natCast] at this
    exact this
  have hq0 : 0 < q.natAbs := Int.natAbs_pos.mpr hq
  have hd : r.den ∣ q.natAbs := by
    have h3 : r.den ∣ r.num.natAbs * q.natAbs := ⟨y.natAbs, by rw [hn, Nat.mul_comm]⟩
    exact Nat.Coprime.dvd_of_dvd_mul_left (Nat.Coprime.symm r.reduced) h3
  have hdq : r.den ≤ q.natAbs := Nat.le_of_dvd hq0 hd
  refine ⟨?_, Nat.le_trans hdq h1⟩
  have h4 : r.num.natAbs * q.natAbs ≤ y.natAbs * q.natAbs := by
    rw [hn]
    exact Nat.mul_le_mul_left _ hdq
  exact Nat.le_trans (Nat.le_of_mul_le_mul_right h4 hq0) h2
/-- a vector that lies on the given columns -/
def spread (m : Nat) (col : Nat → Nat) (y : Nat → Rat) (k : Nat) : Rat := S (m + 1) fun j => if k = col j then y j else 0
theorem spread_sum {m N : Nat} {col : Nat → Nat} {y : Nat → Rat} (h : ∀ j, j < m + 1 → col j < N + 1) (f : Nat → Rat) : S (N + 1) (fun k => f k * spread m col y k) = S (m + 1) fun j => f (col j) * y j := by
  have e1 : S (N + 1) (fun k => f k * spread m col y k) = S (N + 1) fun k => S (m + 1) fun j => f k * (if k = col j then y j else 0) := S_congr fun k _ => (S_mul _ _ _).symm
  rw [e1, S_comm]
  refine S_congr fun j hj => ?_
  rw [S_one (h j hj) (fun i _ hne => by rw [if_neg hne]; grind), if_pos rfl]
/-- a column of a table in basic form: one small denominator for all -/
theorem col_small {m N M : Nat} {A : Nat → Nat → Int} {F : Nat → Nat → Rat} {G : Nat → Nat} (hM1 : 1 ≤ M) (hM : ∀ i k, i < m → k ≤ N → (A i k).natAbs ≤ M) (hb : Basic m N F G)
    (hs : ∀ z, Sol m N (fun i k => (A i k : Rat)) z → Sol m N F z) {k : Nat} (hk : k ≤ N) :
    ∃ (q : Int) (y : Nat → Int), q ≠ 0 ∧ q.natAbs ≤ (2 * (m + 1) * M) ^ m ∧ (∀ i, (y i).natAbs ≤ (2 * (m + 1) * M) ^ m) ∧ ∀ i, i < m → F i k * (q : Rat) = (y i : Rat) := by
  let col : Nat → Nat := fun j => if j < m then G j else k
  have hc : ∀ j, j < m + 1 → col j < N + 1 := fun j _ => by
    show (if j < m then G j else k) < N + 1
    split
    · rename_i h
      have := hb.lt j h
      omega
    · omega
  obtain ⟨y, ⟨j0, hj0, hne⟩, hy, hA⟩ := siegel m (fun i j => A i (col j)) M hM1 fun i j hi hj => hM i _ hi (by have := hc j hj; omega)
  have hsol : Sol m N (fun i k => (A i k : Rat)) (spread m col fun j => (y j : Rat)) := fun i hi => by
    rw [spread_sum hc]
    have e := SI_cast (m + 1) fun j => A i (col j) * y j
    rw [hA i hi] at e
    have e2 : S (m + 1) (fun j => (A i (col j) : Rat) * (y j : Rat)) = S (m + 1) fun j => ((A i (col j) * y j : Int) : Rat) := S_congr fun j _ => (Rat.intCast_mul _ _).symm
    rw [e2, ← e]
    rfl
  have hF : ∀ i, i < m → (y i : Rat) + F i k * (y m : Rat) = 0 := fun i hi => by
    have h1 := hs _ hsol i hi
    rw [spread_sum hc] at h1
    have e1 : S m (fun j => F i (col j) * (y j : Rat)) = (y i : Rat) := by
      rw [S_one hi (fun j hj hne => by
        show F i (if j < m then G j else k) * _ = 0
        rw [if_pos hj, hb.unit i j hi hj, if_neg (fun z => hne z.symm)]
        grind)]
      show F i (if i < m then G i else k) * _ = _
      rw [if_pos hi, hb.unit i i hi hi, if_pos rfl]
      grind
    have e2 : S (m + 1) (fun j => F i (col j) * (y j : Rat)) = S m (fun j => F i (col j) * (y j : Rat)) + F i (col m) * (y m : Rat) := rfl
    rw [e2, e1] at h1
    have e3 : col m = k := if_neg (Nat.lt_irrefl m)
    rw [e3] at h1
    exact h1
  have hq : y m ≠ 0 := fun z => by
    by_cases h : j0 < m
    · have := hF j0 h
      rw [z] at this
      apply hne
      have h3 : (y j0 : Rat) = 0 := by grind
      exact_mod_cast h3
    · have : j0 = m := by omega
      rw [this] at hne
      exact hne z
  refine ⟨y m, fun i => - y i, hq, hy m, fun i => by rw [Int.natAbs_neg]; exact hy i, fun i hi => ?_⟩
  have := hF i hi
  rw [Rat.intCast_neg]
  grind
/-! ### a table whose rows are some of a whole table's -/
structure Virt (m0 N n : Nat) (A : Tab) (m : Nat) (T : Tab) (B : Nat → Nat) (F : Tab) (G : Nat → Nat) (p : Nat → Nat) : Prop where
  basic : Basic m0 N F G
  sol : ∀ z, Sol m0 N A z → Sol m0 N F z
  lt : ∀ i, i < m → p i < m0
  inj : ∀ i j, i < m → j < m → p i = p j → i = j
  row : ∀ i k, i < m → T i k = F (p i) k
  bas : ∀ i, i < m → B i = G (p i)
  out : ∀ j, j < m0 → (∀ i, i < m → p i ≠ j) → ∀ k, k < n → F j k = 0
def Vir (m0 N n : Nat) (A : Tab) (m : Nat) (T : Tab) (B : Nat → Nat) : Prop := ∃ F G p, Virt m0 N n A m T B F G p
theorem vir_start {m N n : Nat} {A : Tab} {B : Nat → Nat} (h : Basic m N A B) : Vir m N n A m A B :=
  ⟨A, B, fun i => i, ⟨h, fun _ e => e, fun _ h => h, fun _ _ _ _ e => e, fun _ _ _ => rfl, fun _ _ => rfl, fun j hj hn => absurd rfl (hn j hj)⟩⟩
theorem Vir.basic {m0 N n m : Nat} {A T : Tab} {B : Nat → Nat} (h : Vir m0 N n A m T B) : Basic m N T B := by
  obtain ⟨F, G, p, v⟩ := h
  refine ⟨fun j hj => by rw [v.bas j hj]; exact v.basic.lt _ (v.lt j hj), fun i j hi hj => ?_⟩
  rw [v.row i _ hi, v.bas j hj, v.basic.unit _ _ (v.lt i hi) (v.lt j hj)]
  by_cases e : i = j
  · rw [if_pos e, if_pos (by rw [e])]
  · rw [if_neg e, if_neg (fun z => e (v.inj i j hi hj z))]
theorem Vir.piv {m0 N n m r s : Nat} {A T : Tab} {B : Nat → Nat} (h : Vir m0 N n A m T B) (hn : n ≤ N) (hr : r < m) (hs : s < n) (hp : T r s ≠ 0) : Vir m0 N n A m (piv T r s) (pivB B r s) := by
  obtain ⟨F, G, p, v⟩ := h
  have hpF : F (p r) s ≠ 0 := by rw [← v.row r s hr]; exact hp
  refine ⟨Pw.piv F (p r) s, pivB G (p r) s, p, piv_basic v.basic (v.lt r hr) (by omega) hpF, fun z e => (piv_sol (v.lt r hr) hpF z).mpr (v.sol z e), v.lt, v.inj, fun i k hi => ?_, fun i hi => ?_, fun j hj hne k hk => ?_⟩
  · unfold Pw.piv
    by_cases e : i = r
    · rw [if_pos e, if_pos (by rw [e]), v.row r k hr, v.row r s hr]
    · rw [if_neg e, if_neg (fun z => e (v.inj i r hi hr z)), v.row i k hi, v.row i s hi, v.row r k hr, v.row r s hr]
  · unfold pivB
    by_cases e : i = r
    · rw [if_pos e, if_pos (by rw [e])]
    · rw [if_neg e, if_neg (fun z => e (v.inj i r hi hr z)), v.bas i hi]
  · unfold Pw.piv
    rw [if_neg (fun z => hne r hr z.symm), v.out j hj hne k hk, v.out j hj hne s hs]
    grind
theorem dropT_at {α : Type} (T : Nat → α) (j i : Nat) : ∃ i', dropT T j i = T i' ∧ i' = (if i < j then i else i + 1) := by
  unfold dropT
  by_cases h : i < j
  · exact ⟨i, by rw [if_pos h], by rw [if_pos h]⟩
  · exact ⟨i + 1, by rw [if_neg h], by rw [if_neg h]⟩
theorem dropT_eq {α : Type} (T : Nat → α) (j i : Nat) : dropT T j i = T (if i < j then i else i + 1) := by
  unfold dropT
  split <;> rfl
theorem Vir.drop {m0 N n m j : Nat} {A T : Tab} {B : Nat → Nat} (h : Vir m0 N n A m T B) (hj : j < m) (hz : ∀ k, k < n → T j k = 0) : Vir m0 N n A (m - 1) (dropT T j) (dropT B j) := by
  obtain ⟨F, G, p, v⟩ := h
  have hlt : ∀ i, i < m - 1 → (if i < j then i else i + 1) < m := fun i hi => by split <;> omega
  refine ⟨F, G, dropT p j, v.basic, v.sol, fun i hi => ?_, fun i i' hi hi' e => ?_, fun i k hi => ?_, fun i hi => ?_, fun l hl hne k hk => ?_⟩
  · rw [dropT_eq]; exact v.lt _ (hlt i hi)
  · rw [dropT_eq, dropT_eq] at e
    have := v.inj _ _ (hlt i hi) (hlt i' hi') e
    split at this <;> split at this <;> omega
  · rw [dropT_eq, dropT_eq]; exact v.row _ k (hlt i hi)
  · rw [dropT_eq, dropT_eq]; exact v.bas _ (hlt i hi)
  · by_cases e : p j = l
    · rw [← e, ← v.row j k hj]
      exact hz k hk
    · refine v.out l hl (fun i hi z => ?_) k hk
      rcases Nat.lt_trichotomy i j with h1 | h1 | h1
      · refine hne i (by omega) ?_
        rw [dropT_eq, if_pos h1]
        exact z
      · rw [h1] at z
        exact e z
      · refine hne (i - 1) (by omega) ?_
        rw [dropT_eq, if_neg (by omega), show i - 1 + 1 = i by omega]
        exact z
/-- the bound -/
def XX (m M : Nat) : Nat := (2 * (m + 1) * M) ^ m
theorem Vir.col {m0 N n m M : Nat} {A T : Tab} {AI : Nat → Nat → Int} {B : Nat → Nat} (h : Vir m0 N n A m T B) (hA : ∀ i k, i < m0 → k ≤ N → A i k = (AI i k : Rat)) (hM1 : 1 ≤ M) (hM : ∀ i k, i < m0 → k ≤ N → (AI i k).natAbs ≤ M) {k : Nat} (hk : k ≤ N) :
    ∃ (q : Int) (y : Nat → Int), q ≠ 0 ∧ q.natAbs ≤ XX m0 M ∧ (∀ i, (y i).natAbs ≤ XX m0 M) ∧ ∀ i, i < m → T i k * (q : Rat) = (y i : Rat) := by
  obtain ⟨F, G, p, v⟩ := h
  obtain ⟨q, y, h1, h2, h3, h4⟩ := col_small (A := AI) hM1 hM v.basic (fun z e => v.sol z fun i hi => by
    have := e i hi
    rw [← this]
    exact S_congr fun k hk => by rw [hA i k hi (by omega)]) hk
  exact ⟨q, fun i => y (p i), h1, h2, fun i => h3 _, fun i hi => by rw [v.row i k hi]; exact h4 _ (v.lt i hi)⟩
theorem Vir.ent {m0 N n m M : Nat} {A T : Tab} {AI : Nat → Nat → Int} {B : Nat → Nat} (h : Vir m0 N n A m T B) (hA : ∀ i k, i < m0 → k ≤ N → A i k = (AI i k : Rat)) (hM1 : 1 ≤ M) (hM : ∀ i k, i < m0 → k ≤ N → (AI i k).natAbs ≤ M) {i k : Nat} (hi : i < m) (hk : k ≤ N) :
    (T i k).num.natAbs ≤ XX m0 M ∧ (T i k).den ≤ XX m0 M := by
  obtain ⟨q, y, h1, h2, h3, h4⟩ := h.col hA hM1 hM hk
  exact frac_small h1 h2 (h3 i) (h4 i hi)
theorem Vir.mul {m0 N n m M m' : Nat} {A T : Tab} {AI : Nat → Nat → Int} {B : Nat → Nat} (h : Vir m0 N n A m T B) (hm' : m' ≤ m) (hA : ∀ i k, i < m0 → k ≤ N → A i k = (AI i k : Rat)) (hM1 : 1 ≤ M) (hM : ∀ i k, i < m0 → k ≤ N → (AI i k).natAbs ≤ M) {k : Nat} (hk : k ≤ N)
    {c : Nat → Rat} (hc : ∀ j, c j = 0 ∨ c j = -1) : (mult m' c T B k).num.natAbs ≤ m' * XX m0 M ∧ (mult m' c T B k).den ≤ XX m0 M := by
  obtain ⟨q, y, h1, h2, h3, h4⟩ := h.col hA hM1 hM hk
  refine frac_small (y := SI m' fun j => if c (B j) = 0 then 0 else - y j) h1 h2 (SI_abs fun j hj => ?_) ?_
  · split
    · exact Nat.zero_le _
    · rw [Int.natAbs_neg]; exact h3 j
  · unfold mult
    rw [← S_mulr, SI_cast]
    refine S_congr fun j hj => ?_
    have := h4 j (Nat.lt_of_lt_of_le hj hm')
    rcases hc (B j) with e | e
    · rw [e, if_pos rfl]
      grind
    · rw [e, if_neg (by decide), Rat.intCast_neg]
      grind
/-! ### the climbs and the leaving -/
theorem iter_vir {m0 n m N : Nat} {c : Nat → Rat} {A T : Tab} {B : Nat → Nat} (hn : n ≤ N) (v : Vir m0 N n A m T B) (f : Feas m N T) : ∀ t, Vir m0 N n A m (iter n m N c (T, B) t).1 (iter n m N c (T, B) t).2 ∧ Feas m N (iter n m N c (T, B) t).1
  | 0 => ⟨v, f⟩
  | t + 1 => by
    obtain ⟨h1, h2⟩ := iter_vir (c := c) hn v f t
    show Vir m0 N n A m (next n m N c _).1 (next n m N c _).2 ∧ Feas m N (next n m N c _).1
    unfold next
    cases ha : act n m N c (iter n m N c (T, B) t).1 (iter n m N c (T, B) t).2 with
    | stop b => exact ⟨h1, h2⟩
    | turn r s =>
      have b := act_turn ha
      exact ⟨h1.piv hn b.hr b.hs (by have := b.pos; grind), b.feas h2⟩
/-- what stands while the helping columns leave -/
structure Lvs (m0 N n : Nat) (A : Tab) (s : Lv) : Prop where
  vir : Vir m0 N n A s.1 s.2.1 s.2.2
  feas : Feas s.1 N s.2.1
  zero : ∀ j, j < s.1 → n ≤ s.2.2 j → s.2.1 j N = 0
theorem lstep_ok {m0 N n j : Nat} {A : Tab} {s : Lv} (hn : n ≤ N) (h : Lvs m0 N n A s) (hj : j < s.1) : Lvs m0 N n A (lstep n j s) := by
  unfold lstep
  by_cases hb : n ≤ s.2.2 j
  · rw [if_pos hb]
    have hz := h.zero j hj hb
    cases hq : nzs n s.2.1 j with
    | nil =>
      have h0 : ∀ k, k < n → s.2.1 j k = 0 := fun k hk => by
        have := List.filter_eq_nil_iff.mp hq k (List.mem_range.mpr hk)
        have h2 : (s.2.1 j k).num = 0 := by simpa using this
        exact Rat.num_eq_zero.mp h2
      refine ⟨h.vir.drop hj h0, fun i hi => ?_, fun i hi hb2 => ?_⟩
      · show 0 ≤ dropT s.2.1 j i N
        rw [dropT_eq]
        have hi : i < s.1 - 1 := hi
        exact h.feas _ (by split <;> omega)
      · show dropT s.2.1 j i N = 0
        have hi : i < s.1 - 1 := hi
        have hb2 : n ≤ dropT s.2.2 j i := hb2
        rw [dropT_eq] at hb2 ⊢
        exact h.zero _ (by split <;> omega) hb2
    | cons k l =>
      obtain ⟨a1, a2, _⟩ := filter_head hq
      have hp : s.2.1 j k ≠ 0 := fun z => by
        rw [z] at a2
        exact absurd a2 (by decide)
      have hN : ∀ i, piv s.2.1 j k i N = s.2.1 i N := fun i => by
        unfold piv
        rw [hz]
        by_cases e : i = j
        · rw [if_pos e, e, hz]
          grind
        · rw [if_neg e]
          grind
      refine ⟨h.vir.piv hn hj a1 hp, fun i hi => ?_, fun i hi hb2 => ?_⟩
      · show 0 ≤ piv s.2.1 j k i N
        rw [hN]
        exact h.feas i hi
      · show piv s.2.1 j k i N = 0
        rw [hN]
        have hb2 : n ≤ pivB s.2.2 j k i := hb2
        unfold pivB at hb2
        by_cases e : i = j
        · rw [e]; exact hz
        · rw [if_neg e] at hb2
          exact h.zero i hi hb2
  · rw [if_neg hb]
    exact h
theorem leaveTo_ok {m0 m1 N n : Nat} {A : Tab} {s : Lv} (hn : n ≤ N) (h : Lvs m0 N n A s) (hm : s.1 = m1) : ∀ i, i ≤ m1 → Lvs m0 N n A (leaveTo n m1 s i)
  | 0, _ => h
  | i + 1, hi => by
    have h1 := leaveTo_ok hn h hm i (by omega)
    have h2 := leaveTo_le (many := n) hm i (by omega)
    exact lstep_ok hn h1 (by omega)
/-- costs that are never above 0: the climb is never free -/
theorem act_never {n m N : Nat} {c : Nat → Rat} {T : Tab} {B : Nat → Nat} (hc : ∀ k, c k ≤ 0) : act n m N c T B ≠ .stop false := fun h => by
  unfold act at h
  cases hu : ups n m c T B with
  | nil => rw [hu] at h; cases h
  | cons k l =>
    rw [hu] at h
    simp only at h
    cases hb : bestTo N T B k m with
    | some r => rw [hb] at h; cases h
    | none =>
      obtain ⟨_, a2, _⟩ := filter_head hu
      have hlt : mult m c T B k < c k := of_decide_eq_true a2
      have hno := bestTo_none hb
      have : 0 ≤ mult m c T B k := S_nonneg fun j hj => by
        have h1 := hc (B j)
        have h2 : T j k ≤ 0 := Rat.not_lt.mp (hno j hj)
        have h3 := Rat.mul_nonneg (a := - c (B j)) (b := - T j k) (by grind) (by grind)
        grind
      have := hc k
      grind
/-- the first climb ends at 0: the helping rows are empty -/
theorem zero_rows {n m N : Nat} {c : Nat → Rat} {T : Tab} {B : Nat → Nat} (hf : Feas m N T) (hc : ∀ k, c k = if k < n then 0 else -1) (h : ¬ mult m c T B N < 0) : ∀ j, j < m → n ≤ B j → T j N = 0 := fun j hj hb => by
  have h1 : ∀ i, i < m → 0 ≤ - (c (B i) * T i N) := fun i hi => by
    rw [hc]
    have := hf i hi
    split <;> grind
  have e : S m (fun i => - (c (B i) * T i N)) = - mult m c T B N := by
    have := S_mul m (-1) fun i => c (B i) * T i N
    unfold mult
    have e2 : S m (fun i => - (c (B i) * T i N)) = S m (fun i => -1 * (c (B i) * T i N)) := S_congr fun i _ => by grind
    rw [e2, this]
    grind
  have := S_nonneg_zero h1 (by rw [e]; grind) j hj
  have h3 : - (c (B j) * T j N) = 0 := this
  rw [hc, if_neg (by omega)] at h3
  grind
end Pw

/-! The evaluation layer: data D, contexts, what an expression evaluates to (EvG), what a statement goes to (Go). -/
namespace Pw
open PySem L2

/-- data -/
inductive D where
  | non | bl (b : Bool) | int (i : Int) | str (s : Str) | tup (ds : List D) | lst (ds : List D) | dic

mutual
/-- the datum stands in the heap as the value -/
def At (H : Hp) : D → V → Prop
  | .non, v => v = .non
  | .bl b, v => v = .bl b
  | .int i, v => v = .int i
  | .str s, v => v = .str s
  | .tup ds, v => ∃ a xs, v = .ref a ∧ H a = some (.tup xs) ∧ Ats H ds xs
  | .lst ds, v => ∃ a xs, v = .ref a ∧ H a = some (.lst xs) ∧ Ats H ds xs
  | .dic, v => ∃ a, v = .ref a ∧ H a = some (.dK [])
def Ats (H : Hp) : List D → List V → Prop
  | [], xs => xs = []
  | d :: ds, xs => ∃ x r, xs = x :: r ∧ At H d x ∧ Ats H ds r
end

/-! ### heaps that grow; hidden addresses -/
def nt (u : HO) : Prop := ∀ ps, u ≠ .tbl ps
structure Gr (H H' : Hp) : Prop where
  o : ∀ a u, H a = some u → nt u → H' a = some u
  t : ∀ P, GxR.TabG H P → GxR.TabG H' P
  n : ∀ a, H' a = none → H a = none
theorem Gr.refl (H : Hp) : Gr H H := ⟨fun _ _ h _ => h, fun _ h => h, fun _ h => h⟩
theorem Gr.trans {H H1 H2 : Hp} (a : Gr H H1) (b : Gr H1 H2) : Gr H H2 := ⟨fun x u h n => b.o x u (a.o x u h n) n, fun P h => b.t P (a.t P h), fun x h => a.n x (b.n x h)⟩
theorem TabG_upd {H : Hp} {P p : Addr} {o : HO} (h : GxR.TabG H P) (hp : P ≠ p) : GxR.TabG (upd H p o) P := by
  obtain ⟨ps, e, q⟩ := h
  exact ⟨ps, by rw [upd_ne hp]; exact e, q⟩
theorem Gr.new {H : Hp} {p : Addr} {o : HO} (h : H p = none) : Gr H (upd H p o) :=
  ⟨fun a u e _ => by rw [upd_ne (ne_of_none e h)]; exact e, fun P q => TabG_upd q (by obtain ⟨ps, e, _⟩ := q; exact ne_of_none e h), fun a e => by
    by_cases z : a = p
    · rw [z]; exact h
    · rw [upd_ne z] at e; exact e⟩
def hide (H : Hp) (T : List Addr) : Hp := fun a => if a ∈ T then none else H a
theorem hide_in {H : Hp} {T : List Addr} {a : Addr} (h : a ∈ T) : hide H T a = none := if_pos h
theorem hide_out {H : Hp} {T : List Addr} {a : Addr} (h : a ∉ T) : hide H T a = H a := if_neg h
theorem hide_some {H : Hp} {T : List Addr} {a : Addr} {u : HO} (h : hide H T a = some u) : a ∉ T ∧ H a = some u := by
  by_cases e : a ∈ T
  · rw [hide_in e] at h; cases h
  · exact ⟨e, by rw [← hide_out (H := H) e]; exact h⟩
theorem hide_nil {H : Hp} : hide H [] = H := by
  funext a
  exact hide_out (by simp)
theorem TabG_hide {H : Hp} {T : List Addr} {P : Addr} : GxR.TabG (hide H T) P ↔ P ∉ T ∧ GxR.TabG H P := by
  constructor
  · rintro ⟨ps, e, q⟩
    obtain ⟨h1, h2⟩ := hide_some e
    exact ⟨h1, ps, h2, q⟩
  · rintro ⟨h1, ps, e, q⟩
    exact ⟨ps, by rw [hide_out h1]; exact e, q⟩
theorem Gr.hide {H H' : Hp} {T : List Addr} (g : Gr H H') : Gr (hide H T) (hide H' T) where
  o := fun a u e n => by
    obtain ⟨h1, h2⟩ := hide_some e
    rw [hide_out h1]
    exact g.o a u h2 n
  t := fun P q => by
    obtain ⟨h1, h2⟩ := TabG_hide.mp q
    exact TabG_hide.mpr ⟨h1, g.t P h2⟩
  n := fun a e => by
    by_cases z : a ∈ T
    · exact hide_in z
    · rw [hide_out z] at e ⊢
      exact g.n a e
/-- less hidden -/
theorem Gr.show {H : Hp} {S T : List Addr} (h : ∀ a ∈ S, a ∈ T) : Gr (Pw.hide H T) (Pw.hide H S) where
  o := fun a u e n => by
    obtain ⟨h1, h2⟩ := hide_some e
    rw [hide_out fun z => h1 (h a z)]
    exact h2
  t := fun P q => by
    obtain ⟨h1, h2⟩ := TabG_hide.mp q
    exact TabG_hide.mpr ⟨fun z => h1 (h P z), h2⟩
  n := fun a e => by
    by_cases z : a ∈ T
    · exact hide_in z
    · rw [hide_out z]
      rw [hide_out fun y => z (h a y)] at e
      exact e
/-- a hidden object may change -/
theorem hide_upd {H : Hp} {T : List Addr} {p : Addr} {o : HO} (h : p ∈ T) : hide (upd H p o) T = hide H T := by
  funext a
  by_cases e : a ∈ T
  · rw [hide_in e, hide_in e]
  · rw [hide_out e, hide_out e, upd_ne (fun z => e (by rw [z]; exact h))]
theorem hide_new {H : Hp} {T : List Addr} {p : Addr} {o : HO} (h : p ∉ T) : hide (upd H p o) T = upd (hide H T) p o := by
  funext a
  by_cases e : a = p
  · subst e
    rw [hide_out h, upd_same, upd_same]
  · rw [upd_ne e]
    by_cases q : a ∈ T
    · rw [hide_in q, hide_in q]
    · rw [hide_out q, hide_out q, upd_ne e]

theorem nt_lst {xs : List V} : nt (.lst xs) := fun _ h => nomatch h
theorem nt_tup {xs : List V} : nt (.tup xs) := fun _ h => nomatch h
theorem nt_dK {xs} : nt (.dK xs) := fun _ h => nomatch h
mutual
theorem At.gr {H H' : Hp} (g : Gr H H') : ∀ (d : D) (v : V), At H d v → At H' d v
  | .non, _, h => by unfold At at h ⊢; exact h
  | .bl _, _, h => by unfold At at h ⊢; exact h
  | .int _, _, h => by unfold At at h ⊢; exact h
  | .str _, _, h => by unfold At at h ⊢; exact h
  | .tup ds, _, h => by
    unfold At at h ⊢
    obtain ⟨a, xs, e, h1, h2⟩ := h
    exact ⟨a, xs, e, g.o a _ h1 nt_tup, Ats.gr g ds xs h2⟩
  | .lst ds, _, h => by
    unfold At at h ⊢
    obtain ⟨a, xs, e, h1, h2⟩ := h
    exact ⟨a, xs, e, g.o a _ h1 nt_lst, Ats.gr g ds xs h2⟩
  | .dic, _, h => by
    unfold At at h ⊢
    obtain ⟨a, e, h1⟩ := h
    exact ⟨a, e, g.o a _ h1 nt_dK⟩
theorem Ats.gr {H H' : Hp} (g : Gr H H') : ∀ (ds : List D) (xs : List V), Ats H ds xs → Ats H' ds xs
  | [], _, h => by unfold Ats at h ⊢; exact h
  | d :: ds, _, h => by
    unfold Ats at h ⊢
    obtain ⟨x, r, e, h1, h2⟩ := h
    exact ⟨x, r, e, At.gr g d x h1, Ats.gr g ds r h2⟩
end
theorem at_int {H : Hp} {i : Int} {v : V} : At H (.int i) v ↔ v = .int i := by unfold At; exact Iff.rfl
theorem at_bl {H : Hp} {i : Bool} {v : V} : At H (.bl i) v ↔ v = .bl i := by unfold At; exact Iff.rfl
theorem at_non {H : Hp} {v : V} : At H .non v ↔ v = .non := by unfold At; exact Iff.rfl
theorem at_str {H : Hp} {s : Str} {v : V} : At H (.str s) v ↔ v = .str s := by unfold At; exact Iff.rfl
theorem at_tup {H : Hp} {ds : List D} {v : V} : At H (.tup ds) v ↔ ∃ a xs, v = .ref a ∧ H a = some (.tup xs) ∧ Ats H ds xs := by rw [At]
theorem at_lst {H : Hp} {ds : List D} {v : V} : At H (.lst ds) v ↔ ∃ a xs, v = .ref a ∧ H a = some (.lst xs) ∧ Ats H ds xs := by rw [At]
theorem at_dic {H : Hp} {v : V} : At H .dic v ↔ ∃ a, v = .ref a ∧ H a = some (.dK []) := by rw [At]
theorem ats_nil {H : Hp} {xs : List V} : Ats H [] xs ↔ xs = [] := by rw [Ats]
theorem ats_cons {H : Hp} {d : D} {ds : List D} {xs : List V} : Ats H (d :: ds) xs ↔ ∃ x r, xs = x :: r ∧ At H d x ∧ Ats H ds r := by rw [Ats]
theorem ats_cons' {H : Hp} {d : D} {ds : List D} {x : V} {xs : List V} (h : At H d x) (hs : Ats H ds xs) : Ats H (d :: ds) (x :: xs) := ats_cons.mpr ⟨x, xs, rfl, h, hs⟩
theorem Ats.length {H : Hp} : ∀ {ds : List D} {xs : List V}, Ats H ds xs → xs.length = ds.length
  | [], _, h => by
    rw [ats_nil.mp h]
    rfl
  | d :: ds, _, h => by
    obtain ⟨x, r, e, _, h2⟩ := ats_cons.mp h
    rw [e, List.length_cons, List.length_cons, Ats.length h2]
theorem Ats.get {H : Hp} : ∀ {ds : List D} {xs : List V} {i : Nat} {d : D}, Ats H ds xs → ds[i]? = some d → ∃ x, xs[i]? = some x ∧ At H d x
  | [], _, _, _, _, e => by simp at e
  | d :: ds, _, 0, _, h, e => by
    obtain ⟨x, r, e1, h1, _⟩ := ats_cons.mp h
    simp at e
    subst e e1
    exact ⟨x, rfl, h1⟩
  | d :: ds, _, i + 1, _, h, e => by
    obtain ⟨x, r, e1, _, h2⟩ := ats_cons.mp h
    subst e1
    obtain ⟨y, q1, q2⟩ := Ats.get (i := i) h2 (by simpa using e)
    exact ⟨y, by simpa using q1, q2⟩
theorem Ats.get' {H : Hp} : ∀ {ds : List D} {xs : List V} {i : Nat} {x : V}, Ats H ds xs → xs[i]? = some x → ∃ d, ds[i]? = some d ∧ At H d x := fun {ds xs i x} h e => by
  have hl := h.length
  have hi : i < ds.length := by
    rw [← hl]
    exact (List.getElem?_eq_some_iff.mp e).1
  obtain ⟨y, q1, q2⟩ := h.get (i := i) (d := ds[i]) (List.getElem?_eq_getElem hi)
  rw [e] at q1
  cases q1
  exact ⟨_, List.getElem?_eq_getElem hi, q2⟩
theorem Ats.append {H : Hp} : ∀ {ds es : List D} {xs ys : List V}, Ats H ds xs → Ats H es ys → Ats H (ds ++ es) (xs ++ ys)
  | [], _, _, _, h, k => by
    rw [ats_nil.mp h]
    exact k
  | d :: ds, es, _, ys, h, k => by
    obtain ⟨x, r, e, h1, h2⟩ := ats_cons.mp h
    subst e
    exact ats_cons' h1 (Ats.append h2 k)
theorem Ats.drop {H : Hp} : ∀ {ds : List D} {xs : List V} (n : Nat), Ats H ds xs → Ats H (ds.drop n) (xs.drop n)
  | ds, xs, 0, h => h
  | [], _, n + 1, h => by
    rw [ats_nil.mp h]
    exact ats_nil.mpr rfl
  | d :: ds, _, n + 1, h => by
    obtain ⟨x, r, e, _, h2⟩ := ats_cons.mp h
    subst e
    exact Ats.drop n h2
theorem Ats.take {H : Hp} : ∀ {ds : List D} {xs : List V} (n : Nat), Ats H ds xs → Ats H (ds.take n) (xs.take n)
  | ds, xs, 0, h => by
    rw [List.take_zero, List.take_zero]
    exact ats_nil.mpr rfl
  | [], _, n + 1, h => by
    rw [ats_nil.mp h]
    exact ats_nil.mpr rfl
  | d :: ds, _, n + 1, h => by
    obtain ⟨x, r, e, h1, h2⟩ := ats_cons.mp h
    subst e
    exact ats_cons' h1 (Ats.take n h2)
theorem Ats.set {H : Hp} : ∀ {ds : List D} {xs : List V} (i : Nat) {d : D} {x : V}, Ats H ds xs → At H d x → Ats H (ds.set i d) (xs.set i x)
  | [], _, _, _, _, h, _ => by
    rw [ats_nil.mp h]
    exact ats_nil.mpr rfl
  | _ :: ds, _, 0, _, _, h, k => by
    obtain ⟨x, r, e, h1, h2⟩ := ats_cons.mp h
    subst e
    exact ats_cons' k h2
  | _ :: ds, _, i + 1, _, _, h, k => by
    obtain ⟨x, r, e, h1, h2⟩ := ats_cons.mp h
    subst e
    exact ats_cons' h1 (Ats.set i h2 k)
theorem ats_flat {H : Hp} {ds : List D} {xs : List V} (h : Ats H ds xs) : ∀ n, Ats H (List.replicate n ds).flatten (List.replicate n xs).flatten
  | 0 => ats_nil.mpr rfl
  | n + 1 => by
    rw [List.replicate_succ, List.replicate_succ, List.flatten_cons, List.flatten_cons]
    exact h.append (ats_flat h n)
theorem ats_ints {H : Hp} : ∀ {ns : List Int} {xs : List V}, Ats H (ns.map D.int) xs → xs = ns.map V.int
  | [], _, h => ats_nil.mp h
  | n :: ns, _, h => by
    obtain ⟨x, r, e, h1, h2⟩ := ats_cons.mp h
    rw [e, at_int.mp h1, ats_ints h2]
    rfl

/-! ### contexts -/
/-- a Program object's state -/
structure PSt where
  p : Addr
  R : Addr
  B : Addr
  many : Nat
  signs : List D
  rows : List D
  basis : List Nat
inductive Ent where
  | d (x : D) | own (ds : List D) | row | prog (st : PSt)
abbrev Ctx := List (Option Ent)
/-- what the layer knows of the text: the written part, the tables of code objects, the class Program -/
structure Pm where
  K : PySem.W.Frag
  Ps : List Addr
  C : Addr
/-- the script's row: the draws so far -/
def RowOk (K : PySem.W.Frag) (H : Hp) (T : List Addr) (a : Addr) : Prop := ∃ (sa : Addr) (ns : List Int) (i x r : Int), H a = some (.lst [.ref sa, .int i, .int x, .int r]) ∧ SqL K (hide H T) sa (ns.map V.int) ∧ ns.length ≤ 63 ∧
  (∀ z ∈ ns, z.natAbs < 2 ^ 1048576) ∧ 0 ≤ i ∧ 0 ≤ x ∧ x < 2147483648 ∧ 0 ≤ r ∧ r.natAbs < 2 ^ 1048577
def intV (n : Nat) : V := .int (n : Int)
def pFields (m sg R B : V) : List (Str × V) := [("many", m), ("signs", sg), ("rows", R), ("basis", B)]
/-- a Program object at p, its lists at R and B -/
def PObj (L : Pm) (H : Hp) (T : List Addr) (p R B : Addr) (st : PSt) : Prop := ∃ dx sg rv, H p = some (.ins L.C dx (pFields (intV st.many) (.ref sg) (.ref R) (.ref B))) ∧ At (hide H T) (.lst st.signs) (.ref sg) ∧
  H R = some (.lst rv) ∧ Ats (hide H T) st.rows rv ∧ H B = some (.lst (st.basis.map intV)) ∧ p ∈ T ∧ R ∈ T ∧ B ∈ T ∧ R ≠ B ∧ p ≠ R ∧ p ≠ B ∧ st.p = p ∧ st.R = R ∧ st.B = B
/-- where a def stands: what its caller hides (of it M may change at any time, W by what is told), the heap at its entry; lists in the making (X); heaps since which all that was visible stands (A); hidden objects that are held as they are (V) -/
structure Frm where
  S : List Addr
  M : List Addr
  W : List Addr
  H0 : Hp
  X : List Addr := []
  A : List (Hp × List Addr) := []
  V : List (Addr × HO) := []
structure Sh (L : Pm) (G : Ctx) (F : Frm) (T : List Addr) (σ : St) (H : Hp) : Prop where
  len : σ.length = G.length
  inT : ∀ a ∈ T, ∃ u, H a = some u ∧ nt u
  sub : ∀ a ∈ F.S, a ∈ T
  subM : ∀ a ∈ F.M, a ∈ F.S
  one : ∀ a b, a ∈ F.M → b ∈ F.M → a = b
  fresh : ∀ a ∈ T, a ∉ F.S → F.H0 a = none
  keep : ∀ a ∈ F.S, a ∉ F.M → a ∉ F.W → H a = F.H0 a
  rows : ∀ a ∈ F.M, RowOk L.K H T a
  gr : Gr (hide F.H0 F.S) (hide H T)
  anc : ∀ q ∈ F.A, Gr (hide q.1 q.2) (hide H T)
  held : ∀ q ∈ F.V, H q.1 = some q.2 ∧ q.1 ∈ F.S ∧ q.1 ∉ F.M
  xs : ∀ a ∈ F.X, a ∈ T ∧ a ∉ F.S
  tab : ∀ P ∈ L.Ps, GxR.TabG (hide H T) P
  dat : ∀ (i : Nat) d, G[i]? = some (some (.d d)) → ∃ v, σ[i]? = some (some v) ∧ At (hide H T) d v
  own : ∀ (i : Nat) ds, G[i]? = some (some (.own ds)) → ∃ p xs, σ[i]? = some (some (.ref p)) ∧ p ∈ T ∧ (p ∉ F.S ∧ p ∉ F.X) ∧ H p = some (.lst xs) ∧ Ats (hide H T) ds xs
  inj : ∀ (i j : Nat) ds es p, G[i]? = some (some (.own ds)) → G[j]? = some (some (.own es)) → σ[i]? = some (some (.ref p)) → σ[j]? = some (some (.ref p)) → i = j
  row : ∀ (i : Nat), G[i]? = some (some .row) → ∃ a, σ[i]? = some (some (.ref a)) ∧ a ∈ F.M
  prg : ∀ (i : Nat) st, G[i]? = some (some (.prog st)) → ∃ p R B, σ[i]? = some (some (.ref p)) ∧ PObj L H T p R B st ∧ (p ∉ F.M ∧ R ∉ F.M ∧ B ∉ F.M) ∧ (R ∈ F.S ∧ R ∈ F.W) ∧ (B ∈ F.S ∧ B ∈ F.W ∧ p ∈ F.S) ∧ (p ∉ F.X ∧ R ∉ F.X ∧ B ∉ F.X)
  px : ∀ (i j : Nat) st, G[i]? = some (some (.prog st)) → ∀ st', G[j]? = some (some (.prog st')) → j = i
section
variable {L : Pm} {G : Ctx} {F : Frm} {T : List Addr} {σ : St} {H H1 H2 : Hp}
/-- what stands visible grows, what is hidden stays (but for the rows) -/
structure Step (L : Pm) (F : Frm) (T : List Addr) (H H2 : Hp) : Prop where
  gr : Gr (hide H T) (hide H2 T)
  same : ∀ a ∈ T, a ∉ F.M → H2 a = H a
  rows : ∀ a ∈ F.M, RowOk L.K H2 T a ∧ ∃ u, H2 a = some u ∧ nt u
theorem PObj.step {p R B : Addr} {st : PSt} (o : PObj L H T p R B st) (g : Gr (hide H T) (hide H2 T)) (hp : H2 p = H p) (hR : H2 R = H R) (hB : H2 B = H B) : PObj L H2 T p R B st := by
  obtain ⟨dx, sg, rv, h1, h2, h3, h4, h5, h6⟩ := o
  exact ⟨dx, sg, rv, by rw [hp]; exact h1, At.gr g _ _ h2, by rw [hR]; exact h3, Ats.gr g _ _ h4, by rw [hB]; exact h5, h6⟩
theorem Sh.step (s : Sh L G F T σ H) (q : Step L F T H H2) : Sh L G F T σ H2 where
  len := s.len
  inT := fun a ha => by
    by_cases e : a ∈ F.M
    · exact (q.rows a e).2
    · rw [q.same a ha e]
      exact s.inT a ha
  sub := s.sub
  subM := s.subM
  one := s.one
  fresh := s.fresh
  keep := fun a ha hm hw => by
    rw [q.same a (s.sub a ha) hm]
    exact s.keep a ha hm hw
  rows := fun a ha => (q.rows a ha).1
  gr := s.gr.trans q.gr
  anc := fun z hz => (s.anc z hz).trans q.gr
  held := fun z hz => by
    obtain ⟨h1, h2, h3⟩ := s.held z hz
    exact ⟨by rw [q.same z.1 (s.sub _ h2) h3]; exact h1, h2, h3⟩
  xs := s.xs
  tab := fun P hP => q.gr.t P (s.tab P hP)
  dat := fun i d e => by
    obtain ⟨v, h1, h2⟩ := s.dat i d e
    exact ⟨v, h1, At.gr q.gr d v h2⟩
  own := fun i ds e => by
    obtain ⟨p, xs, h1, h2, h3, h4, h5⟩ := s.own i ds e
    exact ⟨p, xs, h1, h2, h3, by rw [q.same p h2 fun z => h3.1 (s.subM p z)]; exact h4, Ats.gr q.gr ds xs h5⟩
  inj := s.inj
  row := s.row
  prg := fun i st e => by
    obtain ⟨p, R, B, h1, h2, h3, h4⟩ := s.prg i st e
    obtain ⟨_, _, _, _, _, _, _, _, t1, t2, t3, _⟩ := id h2
    exact ⟨p, R, B, h1, h2.step q.gr (q.same p t1 h3.1) (q.same R t2 h3.2.1) (q.same B t3 h3.2.2), h3, h4⟩
  px := s.px
theorem RowOk.gr {K : PySem.W.Frag} {T T' : List Addr} {a : Addr} (r : RowOk K H T a) (g : Gr (hide H T) (hide H2 T')) (h : H2 a = H a) : RowOk K H2 T' a := by
  obtain ⟨sa, ns, i, x, r, h1, h2, h3⟩ := r
  refine ⟨sa, ns, i, x, r, by rw [h]; exact h1, ?_, h3⟩
  rcases h2 with (h | ⟨o, h⟩) | h
  · exact .inl (.inl (g.o _ _ h nt_lst))
  · exact .inl (.inr ⟨o, g.o _ _ h (fun _ z => nomatch z)⟩)
  · exact .inr h
theorem Step.of_gr (s : Sh L G F T σ H) (g : Gr H H2) : Step L F T H H2 where
  gr := g.hide
  same := fun a ha _ => by
    obtain ⟨u, e, n⟩ := s.inT a ha
    rw [e, g.o a u e n]
  rows := fun a ha => by
    obtain ⟨u, e, n⟩ := s.inT a (s.sub a (s.subM a ha))
    exact ⟨(s.rows a ha).gr g.hide (by rw [e, g.o a u e n]), u, g.o a u e n, n⟩
theorem Step.refl (s : Sh L G F T σ H) : Step L F T H H := Step.of_gr s (Gr.refl H)
theorem Step.trans (a : Step L F T H H1) (b : Step L F T H1 H2) : Step L F T H H2 :=
  ⟨a.gr.trans b.gr, fun x hx hm => (b.same x hx hm).trans (a.same x hx hm), b.rows⟩
theorem Sh.newT (s : Sh L G F T σ H) {p : Addr} (hp : H p = none) : p ∉ T := fun z => by
  obtain ⟨u, e, _⟩ := s.inT p z
  rw [hp] at e
  cases e
theorem Sh.new0 (s : Sh L G F T σ H) {p : Addr} (hp : H p = none) : F.H0 p = none := by
  have h1 := s.gr.n p (by rw [hide_out (s.newT hp)]; exact hp)
  by_cases e : p ∈ F.S
  · exact absurd (s.sub p e) (s.newT hp)
  · rw [hide_out e] at h1
    exact h1
/-- one slot holds another thing, the rest stands -/
theorem Sh.put (s : Sh L G F T σ H) {i : Nat} {e : Ent} {v : V} (hi : i < G.length)
    (hd : ∀ d, e = .d d → At (hide H T) d v) (ho : ∀ ds, e ≠ .own ds) (hr : e ≠ .row) (hp : ∀ st, e ≠ .prog st) : Sh L (G.set i (some e)) F T (σ.set i (some v)) H := by
  have other : ∀ (j : Nat) x, (G.set i (some e))[j]? = some (some x) → (j = i ∧ x = e) ∨ (i ≠ j ∧ G[j]? = some (some x) ∧ (σ.set i (some v))[j]? = σ[j]?) := fun j x q => by
    by_cases z : i = j
    · subst z
      rw [List.getElem?_set_self hi] at q
      cases q
      exact .inl ⟨rfl, rfl⟩
    · rw [List.getElem?_set_ne z] at q
      exact .inr ⟨z, q, List.getElem?_set_ne z⟩
  refine { s with len := by rw [List.length_set, List.length_set]; exact s.len, dat := fun j d q => ?_, own := fun j ds q => ?_, inj := fun j k ds es p e1 e2 e3 e4 => ?_, row := fun j q => ?_, prg := fun j st q => ?_, px := fun j k st q st' q2 => ?_ }
  · rcases other j _ q with ⟨z, z2⟩ | ⟨z, z2, z3⟩
    · subst z
      exact ⟨v, List.getElem?_set_self (by rw [s.len]; exact hi), hd d z2.symm⟩
    · rw [z3]
      exact s.dat j d z2
  · rcases other j _ q with ⟨z, z2⟩ | ⟨z, z2, z3⟩
    · exact absurd z2.symm (ho ds)
    · rw [z3]
      exact s.own j ds z2
  · rcases other j _ e1 with ⟨z, z2⟩ | ⟨z, z2, z3⟩
    · exact absurd z2.symm (ho ds)
    · rcases other k _ e2 with ⟨y, y2⟩ | ⟨y, y2, y3⟩
      · exact absurd y2.symm (ho es)
      · rw [z3] at e3
        rw [y3] at e4
        exact s.inj j k ds es p z2 y2 e3 e4
  · rcases other j _ q with ⟨z, z2⟩ | ⟨z, z2, z3⟩
    · exact absurd z2.symm hr
    · rw [z3]
      exact s.row j z2
  · rcases other j _ q with ⟨z, z2⟩ | ⟨z, z2, z3⟩
    · exact absurd z2.symm (hp st)
    · rw [z3]
      exact s.prg j st z2
  · rcases other j _ q with ⟨z, z2⟩ | ⟨z, z2, z3⟩
    · exact absurd z2.symm (hp st)
    · rcases other k _ q2 with ⟨y, y2⟩ | ⟨y, y2, y3⟩
      · exact absurd y2.symm (hp st')
      · exact s.px j k st z2 st' y2
/-- a name is stored -/
theorem Sh.set (s : Sh L G F T σ H) {i : Nat} {d : D} {v : V} (hi : i < G.length) (hv : At (hide H T) d v) : Sh L (G.set i (some (.d d))) F T (σ.set i (some v)) H :=
  s.put hi (fun d' e => by cases e; exact hv) (fun _ e => nomatch e) (fun e => nomatch e) fun _ e => nomatch e
/-- what is known of a slot may be forgotten -/
theorem Sh.drop (s : Sh L G F T σ H) {i : Nat} (o : Option V) (hi : i < G.length) : Sh L (G.set i none) F T (σ.set i o) H := by
  have other : ∀ (j : Nat) x, (G.set i none)[j]? = some (some x) → i ≠ j ∧ G[j]? = some (some x) ∧ (σ.set i o)[j]? = σ[j]? := fun j x q => by
    by_cases z : i = j
    · subst z
      rw [List.getElem?_set_self hi] at q
      cases q
    · rw [List.getElem?_set_ne z] at q
      exact ⟨z, q, List.getElem?_set_ne z⟩
  refine { s with len := by rw [List.length_set, List.length_set]; exact s.len, dat := fun j d q => ?_, own := fun j ds q => ?_, inj := fun j k ds es p e1 e2 e3 e4 => ?_, row := fun j q => ?_, prg := fun j st q => ?_, px := fun j k st q st' q2 => ?_ }
  · obtain ⟨_, z2, z3⟩ := other j _ q
    rw [z3]
    exact s.dat j d z2
  · obtain ⟨_, z2, z3⟩ := other j _ q
    rw [z3]
    exact s.own j ds z2
  · obtain ⟨_, z2, z3⟩ := other j _ e1
    obtain ⟨_, y2, y3⟩ := other k _ e2
    rw [z3] at e3
    rw [y3] at e4
    exact s.inj j k ds es p z2 y2 e3 e4
  · obtain ⟨_, z2, z3⟩ := other j _ q
    rw [z3]
    exact s.row j z2
  · obtain ⟨_, z2, z3⟩ := other j _ q
    rw [z3]
    exact s.prg j st z2
  · obtain ⟨_, z2, _⟩ := other j _ q
    exact s.px j k st z2 st' (other k _ q2).2.1
/-- one more address is hidden, one that nothing known leans on: it is new -/
theorem Sh.more (s : Sh L G F T σ H) {p : Addr} {u : HO} (hp : H p = none) (hu : nt u) : Sh L G F (p :: T) σ (upd H p u) := by
  have hT := s.newT hp
  have h0 := s.new0 hp
  have e : hide (upd H p u) (p :: T) = hide H T := by
    funext a
    by_cases z : a = p
    · subst z
      rw [hide_in List.mem_cons_self, hide_out hT, hp]
    · by_cases q : a ∈ T
      · rw [hide_in (List.mem_cons_of_mem _ q), hide_in q]
      · rw [hide_out (fun y => (List.mem_cons.mp y).elim z q), hide_out q, upd_ne z]
  have ne : ∀ a ∈ T, a ≠ p := fun a ha z => hT (z ▸ ha)
  have at_ : ∀ a ∈ T, upd H p u a = H a := fun a ha => upd_ne (ne a ha)
  refine ⟨s.len, fun a ha => ?_, fun a ha => List.mem_cons_of_mem _ (s.sub a ha), s.subM, s.one, fun a ha hn => ?_, fun a ha h1 h2 => ?_, fun a ha => ?_, by rw [e]; exact s.gr, by rw [e]; exact s.anc, fun z hz => by
    obtain ⟨h1, h2, h3⟩ := s.held z hz
    exact ⟨by rw [at_ z.1 (s.sub _ h2)]; exact h1, h2, h3⟩, fun a ha => ⟨List.mem_cons_of_mem _ (s.xs a ha).1, (s.xs a ha).2⟩, by rw [e]; exact s.tab, by rw [e]; exact s.dat, fun i ds q => ?_, s.inj, s.row, fun i st q => ?_, s.px⟩
  · rcases List.mem_cons.mp ha with z | z
    · rw [z, upd_same]
      exact ⟨u, rfl, hu⟩
    · rw [at_ a z]
      exact s.inT a z
  · rcases List.mem_cons.mp ha with z | z
    · rw [z]; exact h0
    · exact s.fresh a z hn
  · rw [at_ a (s.sub a ha)]
    exact s.keep a ha h1 h2
  · exact (s.rows a ha).gr (by rw [e]; exact Gr.refl _) (at_ a (s.sub a (s.subM a ha)))
  · obtain ⟨q1, xs, h1, h2, h3, h4, h5⟩ := s.own i ds q
    exact ⟨q1, xs, h1, List.mem_cons_of_mem _ h2, h3, by rw [at_ q1 h2]; exact h4, by rw [e]; exact h5⟩
  · obtain ⟨q1, R, B, h1, ⟨dx, sg, rv, a1, a2, a3, a4, a5, t1, t2, t3, t4⟩, h3⟩ := s.prg i st q
    exact ⟨q1, R, B, h1, ⟨dx, sg, rv, by rw [at_ q1 t1]; exact a1, by rw [e]; exact a2, by rw [at_ R t2]; exact a3, by rw [e]; exact a4, by rw [at_ B t3]; exact a5, List.mem_cons_of_mem _ t1, List.mem_cons_of_mem _ t2, List.mem_cons_of_mem _ t3, t4⟩, h3⟩
/-- .. and it is a list in the making -/
theorem Sh.make (s : Sh L G F T σ H) {p : Addr} {u : HO} (hp : H p = none) (hu : nt u) : Sh L G { F with X := p :: F.X } (p :: T) σ (upd H p u) := by
  have h := s.more (u := u) hp hu
  have hT := s.newT hp
  refine { h with xs := fun a ha => ?_, own := fun i ds q => ?_, prg := fun i st q => ?_ }
  · rcases List.mem_cons.mp ha with z | z
    · rw [z]
      exact ⟨List.mem_cons_self, fun y => hT (s.sub p y)⟩
    · exact h.xs a z
  · obtain ⟨q1, xs, h1, h2, h3, h4⟩ := h.own i ds q
    refine ⟨q1, xs, h1, h2, ⟨h3.1, fun y => ?_⟩, h4⟩
    rcases List.mem_cons.mp y with z | z
    · obtain ⟨q2, ys, g1, g2, _⟩ := s.own i ds q
      rw [g1] at h1
      cases h1
      exact hT (z ▸ g2)
    · exact h3.2 z
  · obtain ⟨q1, R, B, h1, ⟨dx, sg, rv, a1, a2, a3, a4, a5, t1, t2, t3, t4⟩, h3, h4, h5, h6⟩ := s.prg i st q
    obtain ⟨q1', R', B', h1', h2', h3', h4', h5', h6'⟩ := h.prg i st q
    rw [h1] at h1'
    cases h1'
    obtain ⟨dx', sg', rv', a1', _⟩ := id h2'
    have ne : ∀ a ∈ T, a ≠ p := fun a ha z => hT (z ▸ ha)
    rw [upd_ne (ne q1 t1), a1] at a1'
    have e2 : R = R' ∧ B = B' := by
      unfold pFields at a1'
      simp only [Option.some.injEq, HO.ins.injEq, List.cons.injEq, Prod.mk.injEq, V.ref.injEq] at a1'
      exact ⟨a1'.2.2.2.2.1.2, a1'.2.2.2.2.2.1.2⟩
    obtain ⟨rfl, rfl⟩ := e2
    refine ⟨q1, R, B, h1, h2', h3, h4, h5, fun z => ?_, fun z => ?_, fun z => ?_⟩
    · exact (List.mem_cons.mp z).elim (ne q1 t1) h6.1
    · exact (List.mem_cons.mp z).elim (ne R t2) h6.2.1
    · exact (List.mem_cons.mp z).elim (ne B t3) h6.2.2
/-- a list in the making changes -/
theorem Sh.grow (s : Sh L G F T σ H) {p : Addr} {xs : List V} (hp : p ∈ F.X) : Sh L G F T σ (upd H p (.lst xs)) := by
  have e := hide_upd (H := H) (o := .lst xs) (s.xs p hp).1
  have nS := (s.xs p hp).2
  refine { s with inT := fun a ha => ?_, keep := fun a ha h1 h2 => ?_, rows := fun a ha => ?_, gr := by rw [e]; exact s.gr, anc := by rw [e]; exact s.anc, held := fun z hz => ⟨by rw [upd_ne (fun y => nS (by rw [← y]; exact (s.held z hz).2.1))]; exact (s.held z hz).1, (s.held z hz).2⟩, tab := by rw [e]; exact s.tab, dat := by rw [e]; exact s.dat, own := fun i ds q => ?_, prg := fun i st q => ?_ }
  · by_cases z : a = p
    · rw [z, upd_same]
      exact ⟨_, rfl, nt_lst⟩
    · rw [upd_ne z]
      exact s.inT a ha
  · rw [upd_ne (fun z => nS (by rw [← z]; exact ha))]
    exact s.keep a ha h1 h2
  · exact (s.rows a ha).gr (by rw [e]; exact Gr.refl _) (upd_ne fun z => nS (by rw [← z]; exact s.subM a ha))
  · obtain ⟨q1, ys, h1, h2, h3, h4, h5⟩ := s.own i ds q
    exact ⟨q1, ys, h1, h2, h3, by rw [upd_ne (fun z => h3.2 (by rw [z]; exact hp))]; exact h4, by rw [e]; exact h5⟩
  · obtain ⟨q1, R, B, h1, ⟨dx, sg, rv, a1, a2, a3, a4, a5, t⟩, h3, h4, h5, h6⟩ := s.prg i st q
    refine ⟨q1, R, B, h1, ⟨dx, sg, rv, ?_, by rw [e]; exact a2, ?_, by rw [e]; exact a4, ?_, t⟩, h3, h4, h5, h6⟩
    · rw [upd_ne (fun z => h6.1 (by rw [z]; exact hp))]; exact a1
    · rw [upd_ne (fun z => h6.2.1 (by rw [z]; exact hp))]; exact a3
    · rw [upd_ne (fun z => h6.2.2 (by rw [z]; exact hp))]; exact a5
end
end Pw

/-! What an expression evaluates to. -/
namespace Pw
open PySem L2
def EvG (L : Pm) (te : TE) (G : Ctx) (Φ : D → Prop) : Prop := ∀ (F : Frm) (T : List Addr) (σ : St) (H : Hp), Sh L G F T σ H → ∀ Q : VK, (∀ d v H2, Φ d → Step L F T H H2 → At (hide H2 T) d v → Q v H2) → te σ H Q
abbrev Ev (L : Pm) (te : TE) (G : Ctx) (d : D) : Prop := EvG L te G (fun x => x = d)
def EvAG (L : Pm) (ta : TA) (G : Ctx) (Φ : List D → Prop) : Prop := ∀ (F : Frm) (T : List Addr) (σ : St) (H : Hp), Sh L G F T σ H → ∀ Q : List V → Hp → Prop, (∀ ds vs H2, Φ ds → Step L F T H H2 → Ats (hide H2 T) ds vs → Q vs H2) → ta σ H Q
abbrev EvA (L : Pm) (ta : TA) (G : Ctx) (ds : List D) : Prop := EvAG L ta G (fun x => x = ds)
def EvTG (L : Pm) (tt : TT) (G : Ctx) (Φ : Bool → Prop) : Prop := ∀ (F : Frm) (T : List Addr) (σ : St) (H : Hp), Sh L G F T σ H → ∀ Q : Bool → Hp → Prop, (∀ b H2, Φ b → Step L F T H H2 → Q b H2) → tt σ H Q
abbrev EvT (L : Pm) (tt : TT) (G : Ctx) (b : Bool) : Prop := EvTG L tt G (fun x => x = b)
/-- a two-place operation on data -/
def R2D (L : Pm) (r : R2) (x y : D) (Φ : D → Prop) : Prop := ∀ (F : Frm) (T : List Addr) (G : Ctx) (σ : St) (H : Hp), Sh L G F T σ H → ∀ (v u : V), At (hide H T) x v → At (hide H T) y u → ∀ Q : VK, (∀ d w H2, Φ d → Step L F T H H2 → At (hide H2 T) d w → Q w H2) → r v u H Q
/-- a one-place operation -/
def R1D (L : Pm) (r : V → Hp → VK → Prop) (x : D) (Φ : D → Prop) : Prop := ∀ (F : Frm) (T : List Addr) (G : Ctx) (σ : St) (H : Hp), Sh L G F T σ H → ∀ (v : V), At (hide H T) x v → ∀ Q : VK, (∀ d w H2, Φ d → Step L F T H H2 → At (hide H2 T) d w → Q w H2) → r v H Q
/-- a call on data -/
def RnD (L : Pm) (r : List V → Hp → VK → Prop) (xs : List D) (Φ : D → Prop) : Prop := ∀ (F : Frm) (T : List Addr) (G : Ctx) (σ : St) (H : Hp), Sh L G F T σ H → ∀ (vs : List V), Ats (hide H T) xs vs → ∀ Q : VK, (∀ d w H2, Φ d → Step L F T H H2 → At (hide H2 T) d w → Q w H2) → r vs H Q
section
variable {L : Pm} {G : Ctx} {ta tb tc te : TE} {t u : TT} {Φ Ψ Φa Φb Φc : D → Prop} {x y z d : D} {r : R2}
theorem evg_mono (h : EvG L te G Φ) (k : ∀ d, Φ d → Ψ d) : EvG L te G Ψ := fun F T σ H s Q q => h F T σ H s Q fun d v H2 p => q d v H2 (k d p)
theorem evag_mono {ta : TA} {Φ Ψ : List D → Prop} (h : EvAG L ta G Φ) (k : ∀ d, Φ d → Ψ d) : EvAG L ta G Ψ := fun F T σ H s Q q => h F T σ H s Q fun d v H2 p => q d v H2 (k d p)
theorem evtg_mono {Φ Ψ : Bool → Prop} (h : EvTG L t G Φ) (k : ∀ d, Φ d → Ψ d) : EvTG L t G Ψ := fun F T σ H s Q q => h F T σ H s Q fun d H2 p => q d H2 (k d p)
theorem ev_eq (h : Ev L te G x) (e : x = y) : Ev L te G y := e ▸ h
theorem et_eq {a b : Bool} (h : EvT L t G a) (e : a = b) : EvT L t G b := e ▸ h
theorem ev_var {i : Nat} (h : G[i]? = some (some (.d d))) : Ev L (tVar i) G d := fun F T σ H s Q q => by
  obtain ⟨v, h1, h2⟩ := s.dat i d h
  exact ⟨v, h1, q d v H rfl (Step.refl s) h2⟩
theorem ev_int {i : Int} : Ev L (tC (.int i)) G (.int i) := fun F T σ H s Q q => q _ _ H rfl (Step.refl s) (at_int.mpr rfl)
theorem ev_bl {i : Bool} : Ev L (tC (.bl i)) G (.bl i) := fun F T σ H s Q q => q _ _ H rfl (Step.refl s) (at_bl.mpr rfl)
theorem ev_non : Ev L (tC .non) G .non := fun F T σ H s Q q => q _ _ H rfl (Step.refl s) (at_non.mpr rfl)
theorem ev_str {i : Str} : Ev L (tC (.str i)) G (.str i) := fun F T σ H s Q q => q _ _ H rfl (Step.refl s) (at_str.mpr rfl)
theorem evg_op (ha : EvG L ta G Φa) (hb : EvG L tb G Φb) (hr : ∀ x y, Φa x → Φb y → R2D L r x y Φ) : EvG L (tOp r ta tb) G Φ := fun F T σ H s Q q =>
  ha F T σ H s _ fun x v H1 p1 s1 a1 => hb F T σ H1 (s.step s1) _ fun y w H2 p2 s2 a2 =>
    hr x y p1 p2 F T G σ H2 ((s.step s1).step s2) v w (At.gr s2.gr x v a1) a2 Q fun d z H3 p3 s3 a3 => q d z H3 p3 ((s1.trans s2).trans s3) a3
theorem ev_op (ha : Ev L ta G x) (hb : Ev L tb G y) (hr : R2D L r x y (fun w => w = z)) : Ev L (tOp r ta tb) G z := evg_op ha hb fun _ _ e1 e2 => by rw [e1, e2]; exact hr
theorem evg_un {r : V → Hp → VK → Prop} (ha : EvG L ta G Φa) (hr : ∀ x, Φa x → R1D L r x Φ) : EvG L (tUn r ta) G Φ := fun F T σ H s Q q =>
  ha F T σ H s _ fun x v H1 p1 s1 a1 => hr x p1 F T G σ H1 (s.step s1) v a1 Q fun d z H3 p3 s3 a3 => q d z H3 p3 (s1.trans s3) a3
theorem r2_I {C : Int → Int → Prop} {g : Int → Int → Int} {i j : Int} (hc : C i j) : R2D L (rI C fun i j => .int (g i j)) (.int i) (.int j) (fun w => w = .int (g i j)) := fun F T G σ H s v w a b Q q => by
  rw [at_int.mp a, at_int.mp b]
  exact ⟨i, j, rfl, rfl, hc, q _ _ H rfl (Step.refl s) (at_int.mpr rfl)⟩
theorem r2_I0 {g : Int → Int → Int} {i j : Int} : R2D L (rI0 fun i j => .int (g i j)) (.int i) (.int j) (fun w => w = .int (g i j)) := fun F T G σ H s v w a b Q q => by
  rw [at_int.mp a, at_int.mp b]
  exact ⟨i, j, rfl, rfl, q _ _ H rfl (Step.refl s) (at_int.mpr rfl)⟩
theorem r2_B0 {g : Int → Int → Bool} {i j : Int} : R2D L (rI0 fun i j => .bl (g i j)) (.int i) (.int j) (fun w => w = .bl (g i j)) := fun F T G σ H s v w a b Q q => by
  rw [at_int.mp a, at_int.mp b]
  exact ⟨i, j, rfl, rfl, q _ _ H rfl (Step.refl s) (at_bl.mpr rfl)⟩
theorem ev_I {C : Int → Int → Prop} {g : Int → Int → Int} {i j : Int} (ha : Ev L ta G (.int i)) (hb : Ev L tb G (.int j)) (hc : C i j) : Ev L (tOp (rI C fun i j => .int (g i j)) ta tb) G (.int (g i j)) := ev_op ha hb (r2_I hc)
theorem ev_I0 {g : Int → Int → Int} {i j : Int} (ha : Ev L ta G (.int i)) (hb : Ev L tb G (.int j)) : Ev L (tOp (rI0 fun i j => .int (g i j)) ta tb) G (.int (g i j)) := ev_op ha hb r2_I0
theorem ev_B0 {g : Int → Int → Bool} {i j : Int} (ha : Ev L ta G (.int i)) (hb : Ev L tb G (.int j)) : Ev L (tOp (rI0 fun i j => .bl (g i j)) ta tb) G (.bl (g i j)) := ev_op ha hb r2_B0
theorem ev_neg {i : Int} (ha : Ev L ta G (.int i)) : Ev L (tUn (rU fun i => .int (-i)) ta) G (.int (-i)) := evg_un ha fun x e F T G σ H s v a Q q => by
  subst e
  rw [at_int.mp a]
  exact ⟨i, rfl, q _ _ H rfl (Step.refl s) (at_int.mpr rfl)⟩
/-- scalars -/
def Dsc : D → Option V
  | .non => some .non
  | .bl b => some (.bl b)
  | .int i => some (.int i)
  | .str s => some (.str s)
  | _ => none
theorem at_sc {H : Hp} {d : D} {v w : V} (h : Dsc d = some w) (a : At H d v) : v = w := by
  cases d with
  | non => cases h; exact at_non.mp a
  | bl _ => cases h; exact at_bl.mp a
  | int _ => cases h; exact at_int.mp a
  | str _ => cases h; exact at_str.mp a
  | _ => cases h
theorem r2_eq {v w : V} (hx : Dsc x = some v) (hy : Dsc y = some w) (hs : scal v w = true) : R2D L rEq x y (fun z => z = .bl (decide (v = w))) := fun F T G σ H s v' w' a b Q q => by
  rw [at_sc hx a, at_sc hy b]
  exact ⟨hs, q _ _ H rfl (Step.refl s) (at_bl.mpr rfl)⟩
theorem r2_ne {v w : V} (hx : Dsc x = some v) (hy : Dsc y = some w) (hs : scal v w = true) : R2D L rNe x y (fun z => z = .bl (!decide (v = w))) := fun F T G σ H s v' w' a b Q q => by
  rw [at_sc hx a, at_sc hy b]
  exact ⟨hs, q _ _ H rfl (Step.refl s) (at_bl.mpr rfl)⟩
theorem ev_eqI {i j : Int} (ha : Ev L ta G (.int i)) (hb : Ev L tb G (.int j)) : Ev L (tOp rEq ta tb) G (.bl (decide (i = j))) :=
  ev_eq (ev_op ha hb (r2_eq rfl rfl rfl)) (congrArg D.bl (by rw [dec_int, Bool.beq_eq_decide_eq]))
theorem ev_neI {i j : Int} (ha : Ev L ta G (.int i)) (hb : Ev L tb G (.int j)) : Ev L (tOp rNe ta tb) G (.bl (!decide (i = j))) :=
  ev_eq (ev_op ha hb (r2_ne rfl rfl rfl)) (congrArg D.bl (by rw [dec_int, Bool.beq_eq_decide_eq]))
theorem ev_eqB {i j : Bool} (ha : Ev L ta G (.bl i)) (hb : Ev L tb G (.bl j)) : Ev L (tOp rEq ta tb) G (.bl (i == j)) :=
  ev_eq (ev_op ha hb (r2_eq rfl rfl rfl)) (congrArg D.bl (by rw [dec_bl]))
theorem ev_neB {i j : Bool} (ha : Ev L ta G (.bl i)) (hb : Ev L tb G (.bl j)) : Ev L (tOp rNe ta tb) G (.bl (!(i == j))) :=
  ev_eq (ev_op ha hb (r2_ne rfl rfl rfl)) (congrArg D.bl (by rw [dec_bl]))
theorem ev_eqS {i j : Str} (ha : Ev L ta G (.str i)) (hb : Ev L tb G (.str j)) : Ev L (tOp rEq ta tb) G (.bl (i == j)) :=
  ev_eq (ev_op ha hb (r2_eq rfl rfl rfl)) (congrArg D.bl (by rw [dec_str]))
/-- is None -/
def isNon : D → Bool
  | .non => true
  | _ => false
theorem at_isNon {H : Hp} {d : D} {v : V} (a : At H d v) : decide (v = .non) = isNon d := by
  cases d with
  | non => rw [at_non.mp a]; rfl
  | bl _ => rw [at_bl.mp a]; rfl
  | int _ => rw [at_int.mp a]; rfl
  | str _ => rw [at_str.mp a]; rfl
  | tup ds =>
    obtain ⟨p, xs, e, _⟩ := at_tup.mp a
    rw [e]; rfl
  | lst ds =>
    obtain ⟨p, xs, e, _⟩ := at_lst.mp a
    rw [e]; rfl
  | dic =>
    obtain ⟨p, e, _⟩ := at_dic.mp a
    rw [e]; rfl
theorem ev_isN {r : R2} (hr : ∀ v H Q, r v .non H Q ↔ Q (.bl (decide (v = .non))) H) (ha : Ev L ta G x) : Ev L (tOp r ta (tC .non)) G (.bl (isNon x)) :=
  ev_op ha ev_non fun F T G σ H s v w a b Q q => by
    rw [at_non.mp b]
    exact (hr v H Q).mpr (q _ _ H rfl (Step.refl s) (at_bl.mpr (by rw [at_isNon a])))
theorem ev_notN {r : R2} (hr : ∀ v H Q, r v .non H Q ↔ Q (.bl (!decide (v = .non))) H) (ha : Ev L ta G x) : Ev L (tOp r ta (tC .non)) G (.bl (!isNon x)) :=
  ev_op ha ev_non fun F T G σ H s v w a b Q q => by
    rw [at_non.mp b]
    exact (hr v H Q).mpr (q _ _ H rfl (Step.refl s) (at_bl.mpr (by rw [at_isNon a])))
/-! ### and, or, not, if -/
theorem et_test {b : Bool} (h : Ev L te G (.bl b)) : EvT L (tTest te) G b := fun F T σ H s Q q => h F T σ H s _ fun d v H2 e s2 a => by
  subst e
  exact ⟨b, at_bl.mp a, q b H2 rfl s2⟩
theorem etg_test {Φ : Bool → Prop} (h : EvG L te G (fun d => ∃ b, d = .bl b ∧ Φ b)) : EvTG L (tTest te) G Φ := fun F T σ H s Q q => h F T σ H s _ fun d v H2 e s2 a => by
  obtain ⟨b, e, hb⟩ := e
  subst e
  exact ⟨b, at_bl.mp a, q b H2 hb s2⟩
theorem et_B {b : Bool} (h : Ev L te G (.bl b)) : EvT L (tB te) G b := fun F T σ H s Q q => h F T σ H s _ fun d v H2 e s2 a => by
  subst e
  exact ⟨b, at_bl.mp a, q b H2 rfl s2⟩
theorem et_yes : EvT L tYes G true := fun F T σ H s Q q => q true H rfl (Step.refl s)
theorem et_and {a b : Bool} (h1 : EvT L t G a) (h2 : a = true → EvT L u G b) : EvT L (tAnd t u) G (a && b) := fun F T σ H s Q q => h1 F T σ H s _ fun c H2 e s2 => by
  subst e
  cases c with
  | true => exact h2 rfl F T σ H2 (s.step s2) Q fun d H3 e3 s3 => q d H3 (by rw [e3]; rfl) (s2.trans s3)
  | false => exact q false H2 rfl s2
theorem et_or {a b : Bool} (h1 : EvT L t G a) (h2 : a = false → EvT L u G b) : EvT L (tOr t u) G (a || b) := fun F T σ H s Q q => h1 F T σ H s _ fun c H2 e s2 => by
  subst e
  cases c with
  | true => exact q true H2 rfl s2
  | false => exact h2 rfl F T σ H2 (s.step s2) Q fun d H3 e3 s3 => q d H3 (by rw [e3]; rfl) (s2.trans s3)
theorem et_not {a : Bool} (h : EvT L t G a) : EvT L (tNot t) G (!a) := fun F T σ H s Q q => h F T σ H s _ fun c H2 e s2 => q (!c) H2 (by rw [e]) s2
theorem ev_andV {a b : Bool} (h1 : Ev L ta G (.bl a)) (h2 : a = true → Ev L tb G (.bl b)) : Ev L (tAndV ta tb) G (.bl (a && b)) := fun F T σ H s Q q => h1 F T σ H s _ fun c v H2 e s2 a2 => by
  subst e
  refine ⟨a, at_bl.mp a2, ?_⟩
  cases a with
  | true => exact h2 rfl F T σ H2 (s.step s2) Q fun d w H3 e3 s3 => q d w H3 (by rw [e3]; rfl) (s2.trans s3)
  | false => exact q _ _ H2 rfl s2 (at_bl.mpr rfl)
theorem ev_orV {a b : Bool} (h1 : Ev L ta G (.bl a)) (h2 : a = false → Ev L tb G (.bl b)) : Ev L (tOrV ta tb) G (.bl (a || b)) := fun F T σ H s Q q => h1 F T σ H s _ fun c v H2 e s2 a2 => by
  subst e
  refine ⟨a, at_bl.mp a2, ?_⟩
  cases a with
  | true => exact q _ _ H2 rfl s2 (at_bl.mpr rfl)
  | false => exact h2 rfl F T σ H2 (s.step s2) Q fun d w H3 e3 s3 => q d w H3 (by rw [e3]; rfl) (s2.trans s3)
theorem ev_notV {a : Bool} (h : Ev L ta G (.bl a)) : Ev L (tNotV ta) G (.bl (!a)) := fun F T σ H s Q q => h F T σ H s _ fun c v H2 e s2 a2 => by
  subst e
  exact ⟨a, at_bl.mp a2, q _ _ H2 rfl s2 (at_bl.mpr rfl)⟩
theorem evg_if {Φt : Bool → Prop} (h : EvTG L t G Φt) (h1 : Φt true → EvG L ta G Φ) (h2 : Φt false → EvG L tb G Φ) : EvG L (tIf t ta tb) G Φ := fun F T σ H s Q q => h F T σ H s _ fun c H2 e s2 => by
  cases c with
  | true => exact h1 e F T σ H2 (s.step s2) Q fun d w H3 e3 s3 => q d w H3 e3 (s2.trans s3)
  | false => exact h2 e F T σ H2 (s.step s2) Q fun d w H3 e3 s3 => q d w H3 e3 (s2.trans s3)
theorem ev_if {b : Bool} (h : EvT L t G b) (h1 : b = true → Ev L ta G x) (h2 : b = false → Ev L tb G y) : Ev L (tIf t ta tb) G (if b = true then x else y) :=
  evg_if h (fun e => by rw [← e, if_pos rfl]; exact h1 e.symm) (fun e => by rw [← e, if_neg Bool.false_ne_true]; exact h2 e.symm)
/-! ### lists and tuples made -/
theorem ea_nil : EvA L tNil G [] := fun F T σ H s Q q => q [] [] H rfl (Step.refl s) (ats_nil.mpr rfl)
theorem eag_nil {Φ : List D → Prop} (h : Φ []) : EvAG L tNil G Φ := fun F T σ H s Q q => q [] [] H h (Step.refl s) (ats_nil.mpr rfl)
theorem eag_cons {tr : TA} {Φr Φ : List D → Prop} (h : EvG L ta G Φa) (hr : EvAG L tr G Φr) (k : ∀ x xs, Φa x → Φr xs → Φ (x :: xs)) : EvAG L (tCons ta tr) G Φ := fun F T σ H s Q q =>
  h F T σ H s _ fun x v H1 p1 s1 a1 => hr F T σ H1 (s.step s1) _ fun xs vs H2 p2 s2 a2 => q (x :: xs) (v :: vs) H2 (k x xs p1 p2) (s1.trans s2) (ats_cons' (At.gr s2.gr x v a1) a2)
theorem ea_cons {tr : TA} {ds : List D} (h : Ev L ta G x) (hr : EvA L tr G ds) : EvA L (tCons ta tr) G (x :: ds) := eag_cons h hr fun _ _ e1 e2 => by rw [e1, e2]
/-- something new is laid -/
theorem step_new {F : Frm} {T : List Addr} {σ : St} {H : Hp} {p : Addr} {u : HO} (s : Sh L G F T σ H) (hp : H p = none) : Step L F T H (upd H p u) := Step.of_gr s (Gr.new hp)
theorem at_new_tup {F : Frm} {T : List Addr} {σ : St} {H : Hp} {p : Addr} {ds : List D} {xs : List V} (s : Sh L G F T σ H) (hp : H p = none) (h : Ats (hide H T) ds xs) : At (hide (upd H p (.tup xs)) T) (.tup ds) (.ref p) :=
  at_tup.mpr ⟨p, xs, rfl, by rw [hide_out (s.newT hp), upd_same], Ats.gr (Gr.new hp).hide ds xs h⟩
theorem at_new_lst {F : Frm} {T : List Addr} {σ : St} {H : Hp} {p : Addr} {ds : List D} {xs : List V} (s : Sh L G F T σ H) (hp : H p = none) (h : Ats (hide H T) ds xs) : At (hide (upd H p (.lst xs)) T) (.lst ds) (.ref p) :=
  at_lst.mpr ⟨p, xs, rfl, by rw [hide_out (s.newT hp), upd_same], Ats.gr (Gr.new hp).hide ds xs h⟩
theorem szl {n : Nat} (h : n ≤ 100000) : n ≤ sizeLine := Nat.le_trans h (by decide)
theorem szlt {n : Nat} (h : n < 100000) : n < sizeLine := Nat.lt_of_lt_of_le h (by decide)
theorem evg_tup {ta : TA} {Φ : List D → Prop} (h : EvAG L ta G Φ) (hl : ∀ ds, Φ ds → ds.length ≤ 100000) : EvG L (tTup ta) G (fun d => ∃ ds, d = .tup ds ∧ Φ ds) := fun F T σ H s Q q =>
  h F T σ H s _ fun ds vs H1 p1 s1 a1 => ⟨by rw [a1.length]; exact szl (hl ds p1), fun p hp => q _ _ _ ⟨ds, rfl, p1⟩ (s1.trans (step_new (s.step s1) hp)) (at_new_tup (s.step s1) hp a1)⟩
theorem evg_lst {ta : TA} {Φ : List D → Prop} (h : EvAG L ta G Φ) (hl : ∀ ds, Φ ds → ds.length ≤ 100000) : EvG L (tLst ta) G (fun d => ∃ ds, d = .lst ds ∧ Φ ds) := fun F T σ H s Q q =>
  h F T σ H s _ fun ds vs H1 p1 s1 a1 => ⟨by rw [a1.length]; exact szl (hl ds p1), fun p hp => q _ _ _ ⟨ds, rfl, p1⟩ (s1.trans (step_new (s.step s1) hp)) (at_new_lst (s.step s1) hp a1)⟩
theorem ev_tup {ta : TA} {ds : List D} (h : EvA L ta G ds) (hl : ds.length ≤ 100000) : Ev L (tTup ta) G (.tup ds) := evg_mono (evg_tup h fun _ e => by rw [e]; exact hl) fun _ ⟨_, e, e2⟩ => by rw [e, e2]
theorem ev_lst {ta : TA} {ds : List D} (h : EvA L ta G ds) (hl : ds.length ≤ 100000) : Ev L (tLst ta) G (.lst ds) := evg_mono (evg_lst h fun _ e => by rw [e]; exact hl) fun _ ⟨_, e, e2⟩ => by rw [e, e2]
/-! ### items, lengths, slices -/
theorem see_tup {H : Hp} {T : List Addr} {ds : List D} {v : V} (a : At (hide H T) (.tup ds) v) : ∃ p xs, v = .ref p ∧ H p = some (.tup xs) ∧ Ats (hide H T) ds xs ∧ p ∉ T := by
  obtain ⟨p, xs, e, h1, h2⟩ := at_tup.mp a
  obtain ⟨h3, h4⟩ := hide_some h1
  exact ⟨p, xs, e, h4, h2, h3⟩
theorem see_lst {H : Hp} {T : List Addr} {ds : List D} {v : V} (a : At (hide H T) (.lst ds) v) : ∃ p xs, v = .ref p ∧ H p = some (.lst xs) ∧ Ats (hide H T) ds xs ∧ p ∉ T := by
  obtain ⟨p, xs, e, h1, h2⟩ := at_lst.mp a
  obtain ⟨h3, h4⟩ := hide_some h1
  exact ⟨p, xs, e, h4, h2, h3⟩
theorem atI_ats {H : Hp} {ds : List D} {xs : List V} {i : Int} {d : D} (h : Ats H ds xs) (e : atI ds i = some d) : ∃ v, atI xs i = some v ∧ At H d v := by
  unfold atI at e ⊢
  rw [h.length]
  cases q : ixN ds.length i with
  | none =>
    rw [q] at e
    cases e
  | some j =>
    rw [q] at e
    have e2 : ds[j]? = some d := e
    obtain ⟨v, h1, h2⟩ := h.get e2
    exact ⟨v, h1, h2⟩
theorem r2_ixT {ds : List D} {i : Int} (h : atI ds i = some d) : R2D L (rIxT L.K) (.tup ds) (.int i) (fun w => w = d) := fun F T G σ H s v w a b Q q => by
  obtain ⟨p, xs, e, h1, h2, _⟩ := see_tup a
  obtain ⟨y, h3, h4⟩ := atI_ats h2 h
  exact ⟨p, xs, i, y, e, at_int.mp b, SqT.of h1, h3, q _ _ H rfl (Step.refl s) h4⟩
theorem r2_ixL {ds : List D} {i : Int} (h : atI ds i = some d) : R2D L (rIxL L.K) (.lst ds) (.int i) (fun w => w = d) := fun F T G σ H s v w a b Q q => by
  obtain ⟨p, xs, e, h1, h2, _⟩ := see_lst a
  obtain ⟨y, h3, h4⟩ := atI_ats h2 h
  exact ⟨p, xs, i, y, e, at_int.mp b, SqL.of h1, h3, q _ _ H rfl (Step.refl s) h4⟩
theorem ev_ixT {ds : List D} {i : Int} (ha : Ev L ta G (.tup ds)) (hb : Ev L tb G (.int i)) (h : atI ds i = some d) : Ev L (tOp (rIxT L.K) ta tb) G d := ev_op ha hb (r2_ixT h)
theorem ev_ixL {ds : List D} {i : Int} (ha : Ev L ta G (.lst ds)) (hb : Ev L tb G (.int i)) (h : atI ds i = some d) : Ev L (tOp (rIxL L.K) ta tb) G d := ev_op ha hb (r2_ixL h)
theorem evg_call {r : List V → Hp → VK → Prop} {ta : TA} {Φs : List D → Prop} (ha : EvAG L ta G Φs) (hr : ∀ xs, Φs xs → RnD L r xs Φ) : EvG L (tCB r ta) G Φ := fun F T σ H s Q q =>
  ha F T σ H s _ fun xs vs H1 p1 s1 a1 => hr xs p1 F T G σ H1 (s.step s1) vs a1 Q fun d z H3 p3 s3 a3 => q d z H3 p3 (s1.trans s3) a3
theorem ev_cb {r : List V → Hp → VK → Prop} {ta : TA} {xs : List D} (ha : EvA L ta G xs) (hr : RnD L r xs (fun w => w = z)) : Ev L (tCB r ta) G z := evg_call ha fun _ e => by rw [e]; exact hr
/-- how many things -/
def dlen : D → Option Nat
  | .tup ds => some ds.length
  | .lst ds => some ds.length
  | _ => none
theorem rn_len {n : Nat} (h : dlen x = some n) : RnD L (fun xs H Q => ∃ p ys, xs = [.ref p] ∧ (SqL L.K H p ys ∨ SqT L.K H p ys) ∧ Q (.int ys.length) H) [x] (fun w => w = .int (n : Int)) := fun F T G σ H s vs a Q q => by
  obtain ⟨v, r, e, h1, h2⟩ := ats_cons.mp a
  rw [ats_nil.mp h2] at e
  cases x with
  | tup ds =>
    cases h
    obtain ⟨p, xs, e1, h3, h4, _⟩ := see_tup h1
    exact ⟨p, xs, by rw [e, e1], .inr (SqT.of h3), q _ _ H rfl (Step.refl s) (at_int.mpr (by rw [h4.length]))⟩
  | lst ds =>
    cases h
    obtain ⟨p, xs, e1, h3, h4, _⟩ := see_lst h1
    exact ⟨p, xs, by rw [e, e1], .inl (SqL.of h3), q _ _ H rfl (Step.refl s) (at_int.mpr (by rw [h4.length]))⟩
  | _ => cases h
theorem rn_abs {i : Int} : RnD L (fun xs H Q => ∃ i, xs = [.int i] ∧ Q (.int (if i < 0 then -i else i)) H) [.int i] (fun w => w = .int (if i < 0 then -i else i)) := fun F T G σ H s vs a Q q => by
  obtain ⟨v, r, e, h1, h2⟩ := ats_cons.mp a
  rw [ats_nil.mp h2, at_int.mp h1] at e
  exact ⟨i, e, q _ _ H rfl (Step.refl s) (at_int.mpr rfl)⟩
theorem rn_gcd {i j : Int} : RnD L rGcd [.int i, .int j] (fun w => w = .int ((Nat.gcd i.natAbs j.natAbs : Nat) : Int)) := fun F T G σ H s vs a Q q => by
  obtain ⟨v, r, e, h1, h2⟩ := ats_cons.mp a
  obtain ⟨v2, r2, e2, h3, h4⟩ := ats_cons.mp h2
  rw [at_int.mp h1, e2, at_int.mp h3, ats_nil.mp h4] at e
  exact ⟨i, j, e, q _ _ H rfl (Step.refl s) (at_int.mpr rfl)⟩
/-- int(x) of an int or a bool -/
def dint : D → Option Int
  | .int i => some i
  | .bl b => some (if b then 1 else 0)
  | _ => none
theorem rn_int {i : Int} (h : dint x = some i) : RnD L (fun xs H Q => (∃ i, xs = [.int i] ∧ Q (.int i) H) ∨ ∃ k, xs = [.bl k] ∧ Q (.int (if k then 1 else 0)) H) [x] (fun w => w = .int i) := fun F T G σ H s vs a Q q => by
  obtain ⟨v, r, e, h1, h2⟩ := ats_cons.mp a
  rw [ats_nil.mp h2] at e
  cases x with
  | int j =>
    cases h
    rw [at_int.mp h1] at e
    exact .inl ⟨i, e, q _ _ H rfl (Step.refl s) (at_int.mpr rfl)⟩
  | bl b =>
    cases h
    rw [at_bl.mp h1] at e
    exact .inr ⟨b, e, q _ _ H rfl (Step.refl s) (at_int.mpr rfl)⟩
  | _ => cases h
/-- tuple(list), list(tuple or list) -/
theorem rn_tuple {ds : List D} : RnD L (fun xs H Q => ∃ p ys, xs = [.ref p] ∧ ((SqL L.K H p ys ∧ ∀ l, H l = none → Q (.ref l) (upd H l (.tup ys))) ∨ (SqT L.K H p ys ∧ Q (.ref p) H))) [.lst ds] (fun w => w = .tup ds) := fun F T G σ H s vs a Q q => by
  obtain ⟨v, r, e, h1, h2⟩ := ats_cons.mp a
  rw [ats_nil.mp h2] at e
  obtain ⟨p, xs, e1, h3, h4, _⟩ := see_lst h1
  exact ⟨p, xs, by rw [e, e1], .inl ⟨SqL.of h3, fun l hl => q _ _ _ rfl (step_new s hl) (at_new_tup s hl h4)⟩⟩
theorem rn_list {ds : List D} (h : x = .lst ds ∨ x = .tup ds) : RnD L (fun xs H Q => ∃ p ys, xs = [.ref p] ∧ (SqL L.K H p ys ∨ SqT L.K H p ys) ∧ ∀ l, H l = none → Q (.ref l) (upd H l (.lst ys))) [x] (fun w => w = .lst ds) := fun F T G σ H s vs a Q q => by
  obtain ⟨v, r, e, h1, h2⟩ := ats_cons.mp a
  rw [ats_nil.mp h2] at e
  rcases h with h | h
  · subst h
    obtain ⟨p, xs, e1, h3, h4, _⟩ := see_lst h1
    exact ⟨p, xs, by rw [e, e1], .inl (SqL.of h3), fun l hl => q _ _ _ rfl (step_new s hl) (at_new_lst s hl h4)⟩
  · subst h
    obtain ⟨p, xs, e1, h3, h4, _⟩ := see_tup h1
    exact ⟨p, xs, by rw [e, e1], .inr (SqT.of h3), fun l hl => q _ _ _ rfl (step_new s hl) (at_new_lst s hl h4)⟩
/-! ### slices -/
def EvO (L : Pm) (to : TO) (G : Ctx) (o : Option Int) : Prop := ∀ (F : Frm) (T : List Addr) (σ : St) (H : Hp), Sh L G F T σ H → ∀ Q : Option Int → Hp → Prop, (∀ H2, Step L F T H H2 → Q o H2) → to σ H Q
theorem eo_none : EvO L tNoPart G none := fun F T σ H s Q q => q H (Step.refl s)
theorem eo_some {i : Int} (h : Ev L te G (.int i)) : EvO L (tPart te) G (some i) := fun F T σ H s Q q => h F T σ H s _ fun d v H2 e s2 a => by
  subst e
  exact ⟨i, at_int.mp a, q H2 s2⟩
def cutD (ds : List D) (lo hi : Option Int) : List D := (ds.drop (HT.sIx ds.length 0 lo)).take (HT.sIx ds.length ds.length hi - HT.sIx ds.length 0 lo)
theorem cut_ats {H : Hp} {ds : List D} {xs : List V} {lo hi : Option Int} (h : Ats H ds xs) : Ats H (cutD ds lo hi) (cutV xs lo hi) := by
  unfold cutD cutV
  rw [h.length]
  exact (h.drop _).take _
theorem ev_slL {tl th : TO} {ds : List D} {lo hi : Option Int} (h : Ev L te G (.lst ds)) (h1 : EvO L tl G lo) (h2 : EvO L th G hi) : Ev L (tSl (rSlL L.K) te tl th) G (.lst (cutD ds lo hi)) := fun F T σ H s Q q =>
  h F T σ H s _ fun d v H1 e s1 a1 => h1 F T σ H1 (s.step s1) _ fun H2 s2 => h2 F T σ H2 ((s.step s1).step s2) _ fun H3 s3 => by
    subst e
    have S3 := ((s.step s1).step s2).step s3
    obtain ⟨p, xs, e1, h3, h4, _⟩ := see_lst (At.gr (s2.gr.trans s3.gr) _ _ a1)
    exact ⟨p, xs, e1, SqL.of h3, fun l hl => q _ _ _ rfl (((s1.trans s2).trans s3).trans (step_new S3 hl)) (at_new_lst S3 hl (cut_ats h4))⟩
theorem ev_slT {tl th : TO} {ds : List D} {lo hi : Option Int} (h : Ev L te G (.tup ds)) (h1 : EvO L tl G lo) (h2 : EvO L th G hi) : Ev L (tSl (rSlA L.K) te tl th) G (.tup (cutD ds lo hi)) := fun F T σ H s Q q =>
  h F T σ H s _ fun d v H1 e s1 a1 => h1 F T σ H1 (s.step s1) _ fun H2 s2 => h2 F T σ H2 ((s.step s1).step s2) _ fun H3 s3 => by
    subst e
    have S3 := ((s.step s1).step s2).step s3
    have a3 := At.gr (s2.gr.trans s3.gr) _ _ a1
    obtain ⟨p, xs, e1, h3, h4, _⟩ := see_tup a3
    refine ⟨p, xs, e1, SqT.of h3, fun hw => ?_, fun _ l hl => q _ _ _ rfl (((s1.trans s2).trans s3).trans (step_new S3 hl)) (at_new_tup S3 hl (cut_ats h4))⟩
    have e2 : cutD ds lo hi = ds := by
      unfold cutD
      rw [h4.length] at hw
      rw [hw.1, hw.2, List.drop_zero, Nat.sub_zero, List.take_length]
    rw [e1] at a3
    rw [e2] at q
    exact q _ _ _ rfl ((s1.trans s2).trans s3) a3
/-! ### sums and products of lists and tuples -/
theorem r2_cat {ds es : List D} (hl : ds.length + es.length ≤ 100000) : R2D L rCat (.lst ds) (.lst es) (fun w => w = .lst (ds ++ es)) := fun F T G σ H s v w a b Q q => by
  obtain ⟨p, xs, e1, h1, h2, _⟩ := see_lst a
  obtain ⟨p2, ys, e2, h3, h4, _⟩ := see_lst b
  exact ⟨p, p2, xs, ys, e1, e2, h1, h3, by rw [h2.length, h4.length]; exact szl hl, fun l hl2 => q _ _ _ rfl (step_new s hl2) (at_new_lst s hl2 (h2.append h4))⟩
theorem r2_rep {ds : List D} {k : Int} (hk : -1000 ≤ k ∧ k ≤ 1000) (hl : ds.length ≤ 100) : R2D L rRep (.lst ds) (.int k) (fun w => w = .lst (List.replicate k.toNat ds).flatten) := fun F T G σ H s v w a b Q q => by
  obtain ⟨p, xs, e1, h1, h2, _⟩ := see_lst a
  refine ⟨p, k, xs, e1, at_int.mp b, h1, by omega, by omega, ?_, fun l hl2 => q _ _ _ rfl (step_new s hl2) (at_new_lst s hl2 (ats_flat h2 _))⟩
  rw [h2.length]
  refine szl (Nat.le_trans (Nat.mul_le_mul hl (show k.toNat ≤ 1000 by omega)) (by decide))
theorem r2_catT {ds es : List D} (hl : ds.length + es.length ≤ 100000) : R2D L (rCatA L.K) (.tup ds) (.tup es) (fun w => w = .tup (ds ++ es)) := fun F T G σ H s v w a b Q q => by
  obtain ⟨p, xs, e1, h1, h2, _⟩ := see_tup a
  obtain ⟨p2, ys, e2, h3, h4, _⟩ := see_tup b
  refine ⟨p, p2, xs, ys, e1, e2, SqT.of h1, SqT.of h3, by rw [h2.length, h4.length]; exact szl hl, fun e => ?_, fun _ e => ?_, fun _ _ l hl2 => q _ _ _ rfl (step_new s hl2) (at_new_tup s hl2 (h2.append h4))⟩
  · have z : ds = [] := List.eq_nil_of_length_eq_zero (by rw [← h2.length, e]; rfl)
    rw [z] at q
    rw [e2] at b
    exact q _ _ _ rfl (Step.refl s) b
  · have z : es = [] := List.eq_nil_of_length_eq_zero (by rw [← h4.length, e]; rfl)
    rw [z, List.append_nil] at q
    rw [e1] at a
    exact q _ _ _ rfl (Step.refl s) a
/-! ### in -/
def dflat : D → Bool
  | .non => true
  | .bl _ => true
  | .int _ => true
  | .str _ => true
  | _ => false
theorem r2_inT {ns : List Int} {i : Int} : R2D L (rIn L.K false) (.int i) (.tup (ns.map D.int)) (fun w => w = .bl (decide (i ∈ ns))) := fun F T G σ H s v w a b Q q => by
  obtain ⟨p, xs, e1, h1, h2, _⟩ := see_tup b
  have ex := ats_ints h2
  subst ex
  refine ⟨p, _, e1, .inr (SqT.of h1), by rw [at_int.mp a]; rfl, ?_, ?_⟩
  · rw [List.all_eq_true]
    intro y hy
    obtain ⟨n, _, e⟩ := List.mem_map.mp hy
    rw [← e]
    rfl
  · rw [if_neg Bool.false_ne_true]
    refine q _ _ H rfl (Step.refl s) (at_bl.mpr (congrArg V.bl ?_))
    rw [at_int.mp a]
    have key : ∀ ns : List Int, inV (.int i) (ns.map V.int) = decide (i ∈ ns) := by
      intro ns
      induction ns with
      | nil => rfl
      | cons n ns ih =>
        simp only [inV, List.map_cons, List.any_cons] at ih ⊢
        rw [ih]
        have e2 : (n == i) = decide (i = n) := by
          rw [Bool.beq_eq_decide_eq]
          exact decide_eq_decide.mpr eq_comm
        simp [eqV, e2]
    exact key ns
end
end Pw

/-! Sources, targets, comprehensions, statements. -/
namespace Pw
open PySem L2
/-! ### targets -/
def setAll (σ : St) (us : List (Nat × V)) : St := us.foldl (fun s u => s.set u.1 (some u.2)) σ
def setC (G : Ctx) (us : List (Nat × D)) : Ctx := us.foldl (fun s u => s.set u.1 (some (.d u.2))) G
theorem setAll_nil {σ : St} : setAll σ [] = σ := rfl
theorem setAll_cons {σ : St} {u : Nat × V} {us : List (Nat × V)} : setAll σ (u :: us) = setAll (σ.set u.1 (some u.2)) us := rfl
theorem setAll_append {σ : St} {us ws : List (Nat × V)} : setAll σ (us ++ ws) = setAll (setAll σ us) ws := by
  unfold setAll
  rw [List.foldl_append]
theorem setC_length : ∀ {us : List (Nat × D)} {G : Ctx}, (setC G us).length = G.length
  | [], _ => rfl
  | u :: us, G => by
    have := setC_length (us := us) (G := G.set u.1 (some (.d u.2)))
    rw [List.length_set] at this
    exact this
section
variable {L : Pm} {G : Ctx} {F : Frm} {T : List Addr} {σ : St} {H : Hp}
theorem Sh.setAll : ∀ {js : List Nat} {ds : List D} {vs : List V} {G : Ctx} {σ : St}, Sh L G F T σ H → (∀ j ∈ js, j < G.length) → vs.length = js.length → Ats (hide H T) ds vs → Sh L (setC G (js.zip ds)) F T (setAll σ (js.zip vs)) H
  | [], _, _, _, _, s, _, _, _ => by
    rw [List.zip_nil_left, List.zip_nil_left]
    exact s
  | j :: js, [], vs, G, σ, s, hj, hl, a => by
    rw [ats_nil.mp a] at hl
    cases hl
  | j :: js, d :: ds, vs, G, σ, s, hj, hl, a => by
    obtain ⟨x, r, e, h1, h2⟩ := ats_cons.mp a
    subst e
    have s1 := s.set (i := j) (hj j List.mem_cons_self) h1
    have := Sh.setAll (js := js) (ds := ds) (vs := r) s1 (fun i hi => by rw [List.length_set]; exact hj i (List.mem_cons_of_mem _ hi)) (by simpa using hl) h2
    exact this
/-- the datum goes to these slots in these parts -/
def Tg (g : TG) (d : D) (js : List Nat) (ds : List D) : Prop := ∀ (T : List Addr) (σ : St) (H : Hp) (v : V), At (hide H T) d v → ∀ Q : St → Hp → Prop, (∀ vs : List V, vs.length = js.length → Ats (hide H T) ds vs → Q (Pw.setAll σ (js.zip vs)) H) → g v σ H Q
def Tgs (g : TGs) (es : List D) (js : List Nat) (ds : List D) : Prop := ∀ (T : List Addr) (σ : St) (H : Hp) (ws : List V), Ats (hide H T) es ws → ∀ Q : St → Hp → Prop, (∀ vs : List V, vs.length = js.length → Ats (hide H T) ds vs → Q (Pw.setAll σ (js.zip vs)) H) → g ws σ H Q
theorem tg_name {i : Nat} {d : D} : Tg (gName i) d [i] [d] := fun T σ H v a Q q => q [v] rfl (ats_cons' a (ats_nil.mpr rfl))
theorem tgs_nil : Tgs gNil [] [] [] := fun T σ H ws a Q q => ⟨ats_nil.mp a, q [] rfl (ats_nil.mpr rfl)⟩
theorem tgs_cons {g : TG} {gs : TGs} {e : D} {es ds es' : List D} {js ks : List Nat} (h : Tg g e js ds) (hs : Tgs gs es ks es') (hl : ds.length = js.length) : Tgs (gCons g gs) (e :: es) (js ++ ks) (ds ++ es') := fun T σ H ws a Q q => by
  obtain ⟨x, r, e1, h1, h2⟩ := ats_cons.mp a
  refine ⟨x, r, e1, h T σ H x h1 _ fun vs hv av => hs T _ H r h2 Q fun us hu au => ?_⟩
  have := q (vs ++ us) (by rw [List.length_append, List.length_append, hv, hu]) (av.append au)
  rw [List.zip_append hv.symm, setAll_append] at this
  exact this
theorem tg_tup {K : PySem.W.Frag} {n : Nat} {gs : TGs} {es ds : List D} {js : List Nat} (hs : Tgs gs es js ds) (hn : es.length = n) : Tg (gTup K n gs) (.tup es) js ds := fun T σ H v a Q q => by
  obtain ⟨p, xs, e, h1, h2, _⟩ := see_tup a
  exact ⟨p, xs, e, SqT.of h1, by rw [h2.length, hn], hs T σ H xs h2 Q q⟩
/-! ### the slots forgotten -/
def wipeC (G : Ctx) : List Nat → Ctx
  | [] => G
  | v :: vs => (wipeC G vs).set v none
theorem wipeC_length : ∀ {vs : List Nat}, (wipeC G vs).length = G.length
  | [] => rfl
  | v :: vs => by
    unfold wipeC
    rw [List.length_set, wipeC_length]
theorem Sh.wipe (s : Sh L G F T σ H) : ∀ {vs : List Nat}, (∀ v ∈ vs, v < G.length) → Sh L (wipeC G vs) F T (wipe σ vs) H
  | [], _ => s
  | v :: vs, h => (Sh.wipe s (vs := vs) fun w hw => h w (List.mem_cons_of_mem _ hw)).drop none (by rw [wipeC_length]; exact h v List.mem_cons_self)
theorem wipe_get {vs : List Nat} {i : Nat} : (wipe σ vs)[i]? = if i ∈ vs then (if i < σ.length then some none else none) else σ[i]? := by
  induction vs with
  | nil => rfl
  | cons v vs ih =>
    unfold wipe
    by_cases e : v = i
    · subst e
      rw [if_pos List.mem_cons_self]
      by_cases hl : v < σ.length
      · rw [if_pos hl, List.getElem?_set_self (by rw [wipe_length]; exact hl)]
      · rw [if_neg hl, List.getElem?_eq_none_iff, List.length_set, wipe_length]
        omega
    · rw [List.getElem?_set_ne e, ih]
      by_cases z : i ∈ vs
      · rw [if_pos z, if_pos (List.mem_cons_of_mem _ z)]
      · rw [if_neg z, if_neg fun y => (List.mem_cons.mp y).elim (fun y => e y.symm) z]
theorem setAll_get : ∀ {us : List (Nat × V)} {σ : St} {i : Nat}, i ∉ us.map (·.1) → (Pw.setAll σ us)[i]? = σ[i]?
  | [], _, _, _ => rfl
  | u :: us, σ, i, h => by
    rw [setAll_cons, setAll_get fun z => h (by rw [List.map_cons]; exact List.mem_cons_of_mem _ z), List.getElem?_set_ne fun z => h (by rw [List.map_cons, z]; exact List.mem_cons_self)]
theorem setAll_length : ∀ {us : List (Nat × V)} {σ : St}, (Pw.setAll σ us).length = σ.length
  | [], _ => rfl
  | u :: us, σ => by rw [setAll_cons, setAll_length, List.length_set]
theorem wipe_setAll {vs : List Nat} {js : List Nat} {us : List V} (h : ∀ j ∈ js, j ∈ vs) : wipe (Pw.setAll (wipe σ vs) (js.zip us)) vs = wipe σ vs := by
  refine List.ext_getElem? fun i => ?_
  rw [wipe_get, wipe_get, setAll_length, wipe_length]
  by_cases z : i ∈ vs
  · rw [if_pos z, if_pos z]
  · rw [if_neg z, if_neg z, setAll_get, wipe_get, if_neg z]
    intro y
    obtain ⟨p, hp, e⟩ := List.mem_map.mp y
    exact z (h i (e ▸ (List.of_mem_zip hp).1))
/-! ### sources -/
structure SrcG (L : Pm) (wi : TI) (G : Ctx) (Φ : Nat → (Nat → D) → Prop) : Prop where
  run : ∀ (F : Frm) (T : List Addr) (σ : St) (H : Hp), Sh L G F T σ H → ∀ R : It → Hp → Prop,
    (∀ (J : It) (H1 : Hp) (Gd : Hp → Prop) (Y : Nat → Hp → V → Hp → Prop) (n : Nat) (item : Nat → D), Φ n item → Step L F T H H1 → Walk J n Gd Y → (∀ H2 T2, Gr (hide H1 T) (hide H2 T2) → Gd H2) →
      (∀ i H2 x H3 F2 T2 G2 σ2, i < n → Gr (hide H1 T) (hide H2 T2) → Sh L G2 F2 T2 σ2 H2 → Y i H2 x H3 → Step L F2 T2 H2 H3 ∧ At (hide H3 T2) (item i) x) → R J H1) → wi σ H R
abbrev Src (L : Pm) (wi : TI) (G : Ctx) (n : Nat) (item : Nat → D) : Prop := SrcG L wi G (fun m it => m = n ∧ it = item)
variable {te : TE} {ta : TA}
theorem src_list {ds : List D} (h : Ev L te G (.lst ds)) : Src L (iList L.K te) G ds.length (fun i => ds.getD i .non) := ⟨fun F T σ H s R r => h F T σ H s _ fun d v H1 e s1 a => by
  subst e
  obtain ⟨p, xs, e1, h1, h2, h3⟩ := see_lst a
  refine ⟨p, e1, ⟨xs, SqL.of h1⟩, r _ H1 (fun H2 => SqL L.K H2 p xs) (YAt xs) _ _ ⟨rfl, rfl⟩ s1 (by rw [← h2.length]; exact walk_list) (fun H2 T2 g => ?_) fun i H2 x H3 F2 T2 G2 σ2 hi g s2 y => ?_⟩
  · exact SqL.of (hide_some (g.o p _ (by rw [hide_out h3]; exact h1) nt_lst)).2
  · obtain ⟨rfl, y⟩ := y
    obtain ⟨d, e2, a2⟩ := h2.get' y
    refine ⟨Step.refl s2, ?_⟩
    rw [List.getD_eq_getElem?_getD, e2]
    exact At.gr g d x a2⟩
theorem src_tup {ds : List D} (h : Ev L te G (.tup ds)) : Src L (iTup L.K te) G ds.length (fun i => ds.getD i .non) := ⟨fun F T σ H s R r => h F T σ H s _ fun d v H1 e s1 a => by
  subst e
  obtain ⟨p, xs, e1, h1, h2, h3⟩ := see_tup a
  refine ⟨p, e1, ⟨xs, SqT.of h1⟩, r _ H1 (fun H2 => SqT L.K H2 p xs) (YAt xs) _ _ ⟨rfl, rfl⟩ s1 (by rw [← h2.length]; exact walk_tup) (fun H2 T2 g => ?_) fun i H2 x H3 F2 T2 G2 σ2 hi g s2 y => ?_⟩
  · exact SqT.of (hide_some (g.o p _ (by rw [hide_out h3]; exact h1) nt_tup)).2
  · obtain ⟨rfl, y⟩ := y
    obtain ⟨d, e2, a2⟩ := h2.get' y
    refine ⟨Step.refl s2, ?_⟩
    rw [List.getD_eq_getElem?_getD, e2]
    exact At.gr g d x a2⟩
theorem srcg_rng {Φ : List D → Prop} (h : EvAG L ta G Φ) (hk : ∀ ds, Φ ds → ∃ n : Int, ds = [.int n] ∧ -100000 ≤ n ∧ n ≤ 100000) : SrcG L (iRng1 ta) G (fun m it => ∃ n : Int, Φ [.int n] ∧ m = n.toNat ∧ it = fun i => .int (i : Int)) := ⟨fun F T σ H s R r => h F T σ H s _ fun ds vs H1 p s1 a => by
  obtain ⟨n, rfl, h1, h2⟩ := hk ds p
  obtain ⟨x, xs, e, a1, a2⟩ := ats_cons.mp a
  rw [at_int.mp a1, ats_nil.mp a2] at e
  refine ⟨n, e, by omega, by omega, r _ H1 (fun _ => True) _ n.toNat _ ⟨n, p, rfl, rfl⟩ s1 walk_range (fun _ _ _ => trivial) fun i H2 x H3 F2 T2 G2 σ2 hi g s2 y => ?_⟩
  obtain ⟨rfl, rfl⟩ := y
  exact ⟨Step.refl s2, at_int.mpr (congrArg V.int (Int.zero_add _))⟩⟩
theorem srcg_mono {wi : TI} {Φ Ψ : Nat → (Nat → D) → Prop} (h : SrcG L wi G Φ) (k : ∀ n it, Φ n it → Ψ n it) : SrcG L wi G Ψ := ⟨fun F T σ H s R r => h.run F T σ H s R fun J H1 Gd Y n it p => r J H1 Gd Y n it (k n it p)⟩
theorem src_rng {n : Nat} (h : EvA L ta G [.int (n : Int)]) (hn : n ≤ 100000) : Src L (iRng1 ta) G n (fun i => .int (i : Int)) :=
  srcg_mono (srcg_rng h fun ds e => ⟨n, e, by omega, by omega⟩) fun m it ⟨k, e, e1, e2⟩ => by
    injection e with e3
    injection e3 with e4
    exact ⟨by rw [e1, e4]; exact Int.toNat_natCast n, e2⟩
/-- a pair that an iterator lays -/
theorem pair_at {F2 : Frm} {T2 : List Addr} {G2 : Ctx} {σ2 : St} {H2 H3 : Hp} {x : V} {dx dy : D} {fx fy : Nat → Option V} {i : Nat} (s2 : Sh L G2 F2 T2 σ2 H2) (y : YPair fx fy i H2 x H3) (hx : ∀ v, fx i = some v → At (hide H2 T2) dx v) (hy : ∀ v, fy i = some v → At (hide H2 T2) dy v) :
    Step L F2 T2 H2 H3 ∧ At (hide H3 T2) (.tup [dx, dy]) x := by
  obtain ⟨p, v, w, e, hp, e2, h1, h2⟩ := y
  subst e e2
  exact ⟨step_new s2 hp, at_new_tup s2 hp (ats_cons' (hx v h1) (ats_cons' (hy w h2) (ats_nil.mpr rfl)))⟩
theorem src_enum {ds : List D} (h : EvA L ta G [.lst ds]) : Src L (iEnum L.K ta) G ds.length (fun i => .tup [.int (i : Int), ds.getD i .non]) := ⟨fun F T σ H s R r => h F T σ H s _ fun es vs H1 e s1 a => by
  subst e
  obtain ⟨x, xs0, e, a1, a2⟩ := ats_cons.mp a
  obtain ⟨p, xs, e1, h1, h2, h3⟩ := see_lst a1
  rw [e1, ats_nil.mp a2] at e
  refine ⟨p, xs, e, SqL.of h1, r _ H1 (fun H2 => SqL L.K H2 p xs) _ _ _ ⟨rfl, rfl⟩ s1 (by rw [← h2.length]; exact walk_enum) (fun H2 T2 g => ?_) fun i H2 x H3 F2 T2 G2 σ2 hi g s2 y => ?_⟩
  · exact SqL.of (hide_some (g.o p _ (by rw [hide_out h3]; exact h1) nt_lst)).2
  · refine pair_at s2 y (fun v hv => ?_) (fun v hv => ?_)
    · cases hv
      exact at_int.mpr rfl
    · obtain ⟨d, e2, a2⟩ := h2.get' hv
      rw [List.getD_eq_getElem?_getD, e2]
      exact At.gr g d v a2⟩
theorem src_zipL {ds es : List D} (h : EvA L ta G [.lst ds, .lst es]) : Src L (RZ.iZipA L.K ta) G (min ds.length es.length) (fun i => .tup [ds.getD i .non, es.getD i .non]) := ⟨fun F T σ H s R r => h F T σ H s _ fun zs vs H1 e s1 a => by
  subst e
  obtain ⟨x, xs0, e, a1, a2⟩ := ats_cons.mp a
  obtain ⟨x2, xs1, e', a3, a4⟩ := ats_cons.mp a2
  obtain ⟨p, xs, e1, h1, h2, h3⟩ := see_lst a1
  obtain ⟨p2, ys, e2, g1, g2, g3⟩ := see_lst a3
  rw [e', e1, e2, ats_nil.mp a4] at e
  refine ⟨p, p2, xs, ys, e, .inl ⟨SqL.of h1, SqL.of g1, r _ H1 (fun H2 => SqL L.K H2 p xs ∧ SqL L.K H2 p2 ys) _ _ _ ⟨rfl, rfl⟩ s1 (by rw [← h2.length, ← g2.length]; exact walk_zip rfl) (fun H2 T2 g => ⟨?_, ?_⟩) fun i H2 x H3 F2 T2 G2 σ2 hi g s2 y => ?_⟩⟩
  · exact SqL.of (hide_some (g.o p _ (by rw [hide_out h3]; exact h1) nt_lst)).2
  · exact SqL.of (hide_some (g.o p2 _ (by rw [hide_out g3]; exact g1) nt_lst)).2
  · refine pair_at s2 y (fun v hv => ?_) (fun v hv => ?_)
    · obtain ⟨d, e2, a2⟩ := h2.get' hv
      rw [List.getD_eq_getElem?_getD, e2]
      exact At.gr g d v a2
    · obtain ⟨d, e2, a2⟩ := g2.get' hv
      rw [List.getD_eq_getElem?_getD, e2]
      exact At.gr g d v a2⟩
/-! ### comprehensions -/
def given (n : Nat) (f : Nat → Bool) (out : Nat → D) : List D := ((List.range n).filter f).map out
theorem given_yes {n : Nat} {f : Nat → Bool} {v : Nat → D} (h : f n = true) : given (n + 1) f v = given n f v ++ [v n] := by
  unfold given
  rw [List.range_succ, List.filter_append, List.map_append, List.filter_cons, if_pos h]
  rfl
theorem given_no {n : Nat} {f : Nat → Bool} {v : Nat → D} (h : f n = false) : given (n + 1) f v = given n f v := by
  unfold given
  rw [List.range_succ, List.filter_append, List.map_append, List.filter_cons, if_neg (by rw [h]; decide)]
  show _ ++ [] = _
  rw [List.append_nil]
theorem given_len (n : Nat) (f : Nat → Bool) (v : Nat → D) : (given n f v).length ≤ n := by
  unfold given
  rw [List.length_map]
  have h := List.length_filter_le f (List.range n)
  rw [List.length_range] at h
  exact h
theorem given_all (n : Nat) (v : Nat → D) : given n (fun _ => true) v = (List.range n).map v := by
  unfold given
  rw [List.filter_eq_self.mpr fun _ _ => rfl]
theorem ev_lc {wi : TI} {g : TG} {tt : TT} {te : TE} {vs js : List Nat} {n : Nat} {item : Nat → D} {bd : Nat → List D} {f : Nat → Bool} {out : Nat → D} (hs : Src L wi G n item) (hn : n ≤ 50000) (hv : ∀ j ∈ vs, j < G.length) (hjs : ∀ j ∈ js, j ∈ vs)
    (hg : ∀ i, i < n → Tg g (item i) js (bd i)) (ht : ∀ i, i < n → EvT L tt (setC (wipeC G vs) (js.zip (bd i))) (f i)) (he : ∀ i, i < n → f i = true → Ev L te (setC (wipeC G vs) (js.zip (bd i))) (out i)) :
    Ev L (tLc wi g tt te vs) G (.lst (given n f out)) := fun F T σ H s Q q => hs.run F T σ H s _ fun J H1 Gd Y n' item' p s1 w hG hY Dl hD => by
  obtain ⟨rfl, rfl⟩ := p
  have S1 := s.step s1
  have nT := S1.newT hD
  have M0 := S1.make (u := .lst []) hD nt_lst
  have e0 : hide (upd H1 Dl (.lst [])) (Dl :: T) = hide H1 T := by
    funext a
    by_cases z : a = Dl
    · subst z
      rw [hide_in List.mem_cons_self, hide_out nT, hD]
    · by_cases y : a ∈ T
      · rw [hide_in (List.mem_cons_of_mem _ y), hide_in y]
      · rw [hide_out (fun x => (List.mem_cons.mp x).elim z y), hide_out y, upd_ne z]
  refine lc_it w (fun i H' => Sh L G { F with X := Dl :: F.X } (Dl :: T) σ H' ∧ Gr (hide H1 T) (hide H' (Dl :: T)) ∧ (∀ a ∈ T, a ∉ F.M → H' a = H1 a) ∧ ∃ acc, H' Dl = some (.lst acc) ∧ Ats (hide H' (Dl :: T)) (given i f out) acc)
    ⟨M0, by rw [e0]; exact Gr.refl _, fun a ha _ => upd_ne fun z => nT (by rw [← z]; exact ha), [], upd_same, ats_nil.mpr rfl⟩ (fun i H' _ pv => hG H' _ pv.2.1) ?_ ?_
  · rintro i x H2 H3 hi ⟨p1, p2, p3, acc, p4, p5⟩ y
    obtain ⟨s3, a3⟩ := hY i H2 x H3 _ _ _ _ hi p2 p1 y
    have P3 := p1.step s3
    refine hg i hi _ _ _ _ a3 _ fun us hu au => ⟨wipe_setAll hjs, ?_⟩
    have W3 : Sh L (setC (wipeC G vs) (js.zip (bd i))) _ _ _ H3 := (P3.wipe hv).setAll (fun j hj => by rw [wipeC_length]; exact hv j (hjs j hj)) hu au
    refine ht i hi _ _ _ _ W3 _ fun b H4 eb s4 => ?_
    subst eb
    have W4 := W3.step s4
    have fin : ∀ {H5 : Hp}, Step L { F with X := Dl :: F.X } (Dl :: T) H2 H5 → Sh L G { F with X := Dl :: F.X } (Dl :: T) σ H5 ∧ Gr (hide H1 T) (hide H5 (Dl :: T)) ∧ (∀ a ∈ T, a ∉ F.M → H5 a = H1 a) ∧ H5 Dl = some (.lst acc) ∧ Ats (hide H5 (Dl :: T)) (given i f out) acc := fun {H5} s5 =>
      ⟨p1.step s5, p2.trans s5.gr, fun a ha hm => (s5.same a (List.mem_cons_of_mem _ ha) hm).trans (p3 a ha hm), by
        rw [s5.same Dl List.mem_cons_self fun z => nT (S1.sub _ (S1.subM _ z))]
        exact p4, Ats.gr s5.gr _ _ p5⟩
    by_cases hf : f i = true
    · rw [if_pos hf]
      refine he i hi hf _ _ _ _ W4 _ fun d z H5 ed s5 a5 => ?_
      subst ed
      obtain ⟨f1, f2, f3, f4, f5⟩ := fin ((s3.trans s4).trans s5)
      have e5 := hide_upd (H := H5) (T := Dl :: T) (p := Dl) (o := .lst (acc ++ [z])) List.mem_cons_self
      refine ⟨acc, f4, by rw [f5.length]; exact szlt (Nat.lt_of_le_of_lt (given_len _ _ _) (by omega)), f1.grow List.mem_cons_self, by rw [e5]; exact f2, fun a ha hm => by
        rw [upd_ne (fun z => nT (by rw [← z]; exact ha))]
        exact f3 a ha hm, acc ++ [z], upd_same, ?_⟩
      rw [e5, given_yes hf]
      exact f5.append (ats_cons' a5 (ats_nil.mpr rfl))
    · rw [if_neg hf]
      obtain ⟨f1, f2, f3, f4, f5⟩ := fin (s3.trans s4)
      refine ⟨f1, f2, f3, acc, f4, ?_⟩
      rw [given_no (Bool.eq_false_iff.mpr hf)]
      exact f5
  · rintro H' ⟨p1, p2, p3, acc, p4, p5⟩
    have sh : Gr (hide H' (Dl :: T)) (hide H' T) := Gr.show fun a ha => List.mem_cons_of_mem _ ha
    refine q _ _ _ rfl (s1.trans ⟨p2.trans sh, p3, fun a ha => ⟨(p1.rows a ha).gr sh rfl, p1.inT a (List.mem_cons_of_mem _ (S1.sub a (S1.subM a ha)))⟩⟩) (at_lst.mpr ⟨Dl, acc, rfl, by rw [hide_out nT]; exact p4, Ats.gr sh _ _ p5⟩)
end
end Pw

/-! Statements. -/
namespace Pw
open PySem L2
def Nx (L : Pm) (F : Frm) (N : St → Hp → Prop) (G : Ctx) : Prop := ∀ (T : List Addr) (σ : St) (H : Hp), Sh L G F T σ H → N σ H
def Go (L : Pm) (F : Frm) (E : Ends) (t : TS) (G : Ctx) : Prop := ∀ (T : List Addr) (σ : St) (H : Hp), Sh L G F T σ H → t E σ H
/-- this datum may be handed back -/
def RtOk (L : Pm) (F : Frm) (rt : VK) (d : D) : Prop := ∀ (v : V) (H : Hp), Gr (hide F.H0 F.S) (hide H F.S) → (∀ a ∈ F.S, a ∉ F.M → a ∉ F.W → H a = F.H0 a) → (∀ a ∈ F.M, RowOk L.K H F.S a ∧ ∃ u, H a = some u ∧ nt u) → (∀ q ∈ F.V, H q.1 = some q.2) → At (hide H F.S) d v → rt v H
section
variable {L : Pm} {G : Ctx} {F : Frm} {E : Ends} {N : St → Hp → Prop} {te tb : TE} {t u : TS} {c : TT} {Φ : D → Prop} {d : D} {i : Nat}
theorem Sh.anch {T : List Addr} {σ : St} {H : Hp} (s : Sh L G F T σ H) : Sh L G { F with A := (H, T) :: F.A } T σ H :=
  { s with anc := fun q hq => (List.mem_cons.mp hq).elim (fun e => by rw [e]; exact Gr.refl _) (s.anc q) }
theorem Sh.unanch {T : List Addr} {σ : St} {H : Hp} {A' : List (Hp × List Addr)} (h : ∀ q ∈ F.A, q ∈ A') (s : Sh L G { F with A := A' } T σ H) : Sh L G F T σ H :=
  { s with anc := fun q hq => s.anc q (h q hq) }
theorem go_next (h : Nx L F E.nx G) : Go L F E tNext G := h
theorem go_seq (h : Go L F { E with nx := u E } t G) : Go L F E (tSeq t u) G := h
theorem nx_go (h : Go L F E u G) : Nx L F (u E) G := h
theorem go_asg (h : EvG L te G Φ) (hi : i < G.length) (k : ∀ d, Φ d → Nx L F E.nx (G.set i (some (.d d)))) : Go L F E (tAsg te (gName i)) G := fun T σ H s =>
  h F T σ H s _ fun d v H2 p s2 a => k d p T _ H2 ((s.step s2).set hi a)
/-- x = e; rest -/
theorem go_set (h : Ev L te G d) (hi : i < G.length) (k : Go L F E u (G.set i (some (.d d)))) : Go L F E (tSeq (tAsg te (gName i)) u) G := go_seq (go_asg h hi fun x e => by rw [e]; exact k)
theorem go_setG (h : EvG L te G Φ) (hi : i < G.length) (k : ∀ d, Φ d → Go L F E u (G.set i (some (.d d)))) : Go L F E (tSeq (tAsg te (gName i)) u) G := go_seq (go_asg h hi k)
theorem go_asgT {g : TG} {js : List Nat} {ds : List D} (h : Ev L te G d) (hg : Tg g d js ds) (hj : ∀ j ∈ js, j < G.length) (k : Nx L F E.nx (setC G (js.zip ds))) : Go L F E (tAsg te g) G := fun T σ H s =>
  h F T σ H s _ fun x v H2 p s2 a => by
    subst p
    exact hg T σ H2 v a _ fun us hu au => k T _ H2 ((s.step s2).setAll hj hu au)
theorem go_par {ta : TA} {j : Nat} {x y : D} (h : EvA L ta G [x, y]) (hi : i < G.length) (hj : j < G.length) (k : Nx L F E.nx ((G.set i (some (.d x))).set j (some (.d y)))) : Go L F E (tPar i j ta) G := fun T σ H s =>
  h F T σ H s _ fun ds vs H2 p s2 a => by
    subst p
    obtain ⟨v, r, e, a1, a2⟩ := ats_cons.mp a
    obtain ⟨w, r2, e2, a3, a4⟩ := ats_cons.mp a2
    rw [e2, ats_nil.mp a4] at e
    exact ⟨v, w, e, k T _ H2 (((s.step s2).set hi a1).set (by rw [List.length_set]; exact hj) a3)⟩
theorem go_drop (h : EvG L te G Φ) (k : Nx L F E.nx G) : Go L F E (tDrop te) G := fun T σ H s =>
  h F T σ H s _ fun d v H2 p s2 a => k T _ H2 (s.step s2)
theorem go_ifG {Φt : Bool → Prop} (h : EvTG L c G Φt) (h1 : Φt true → Go L F E t G) (h2 : Φt false → Go L F E u G) : Go L F E (tIfS c t u) G := fun T σ H s =>
  h F T σ H s _ fun b H2 p s2 => by
    cases b with
    | true => exact h1 p T σ H2 (s.step s2)
    | false => exact h2 p T σ H2 (s.step s2)
theorem go_if {b : Bool} (h : EvT L c G b) (h1 : b = true → Go L F E t G) (h2 : b = false → Go L F E u G) : Go L F E (tIfS c t u) G := go_ifG h (fun e => h1 e.symm) fun e => h2 e.symm
theorem Sh.rtok {T : List Addr} {σ : St} {H : Hp} {rt : VK} {v : V} (s : Sh L G F T σ H) (a : At (hide H T) d v) (k : RtOk L F rt d) : rt v H := by
  have sh : Gr (hide H T) (hide H F.S) := Gr.show fun x hx => s.sub x hx
  exact k v H (s.gr.trans sh) s.keep (fun x hx => ⟨(s.rows x hx).gr sh rfl, s.inT x (s.sub x (s.subM x hx))⟩) (fun q hq => (s.held q hq).1) (At.gr sh d v a)
theorem go_ret (h : EvG L te G Φ) (k : ∀ d, Φ d → RtOk L F E.rt d) : Go L F E (tRet te) G := fun T σ H s => h F T σ H s _ fun d v H2 p s2 a => (s.step s2).rtok a (k d p)
theorem go_retE (h : Ev L te G d) (k : RtOk L F E.rt d) : Go L F E (tRet te) G := go_ret h fun x e => by rw [e]; exact k
/-! ### loops -/
theorem go_for {wi : TI} {g : TG} {Φi : Nat → (Nat → D) → Prop} (hs : SrcG L wi G Φi)
    (h : ∀ n item, Φi n item → ∃ (js : List Nat) (bd : Nat → List D) (C : Nat → Ctx → Prop), C 0 G ∧ (∀ i, i < n → Tg g (item i) js (bd i)) ∧ (∀ i G', C i G' → ∀ j ∈ js, j < G'.length) ∧
      (∀ i G' A' N, i < n → C i G' → (∀ G'', C (i + 1) G'' → Nx L { F with A := A' } N G'') → Go L { F with A := A' } { E with nx := N, ct := N, bk := E.nx } t (setC G' (js.zip (bd i)))) ∧ ∀ G', C n G' → Nx L F E.nx G') :
    Go L F E (tFor wi g t) G := fun T σ H s => hs.run F T σ H s _ fun J H1 Gd Y n item p s1 w hG hY => by
  obtain ⟨js, bd, C, c0, hg, hj, body, done⟩ := h n item p
  have S1 := (s.step s1).anch
  refine for_it w (fun i σ' H' => ∃ G' T', C i G' ∧ Sh L G' { F with A := (H1, T) :: F.A } T' σ' H') ⟨G, T, c0, S1⟩ (fun i σ' H' _ ⟨G', T', _, s'⟩ => hG H' T' (s'.anc (H1, T) List.mem_cons_self)) ?_ ?_
  · rintro i x σ' H2 H3 hi ⟨G', T', cc, s'⟩ y
    obtain ⟨s3, a3⟩ := hY i H2 x H3 _ _ _ _ hi (s'.anc (H1, T) List.mem_cons_self) s' y
    refine hg i hi T' σ' H3 x a3 _ fun us hu au => ?_
    exact body i G' _ _ hi cc (fun G'' c2 T2 σ2 H4 s4 => ⟨G'', T2, c2, s4⟩) T' _ H3 ((s'.step s3).setAll (hj i G' cc) hu au)
  · rintro σ' H' ⟨G', T', cc, s'⟩
    exact done G' cc T' σ' H' (s'.unanch fun q hq => List.mem_cons_of_mem _ hq)
/-- the plain case: what is walked is known -/
theorem go_forE {wi : TI} {g : TG} {n : Nat} {item : Nat → D} (js : List Nat) (bd : Nat → List D) (C : Nat → Ctx → Prop) (hs : Src L wi G n item) (c0 : C 0 G) (hg : ∀ i, i < n → Tg g (item i) js (bd i)) (hj : ∀ i G', C i G' → ∀ j ∈ js, j < G'.length)
    (body : ∀ i G' A' N, i < n → C i G' → (∀ G'', C (i + 1) G'' → Nx L { F with A := A' } N G'') → Go L { F with A := A' } { E with nx := N, ct := N, bk := E.nx } t (setC G' (js.zip (bd i)))) (done : ∀ G', C n G' → Nx L F E.nx G') :
    Go L F E (tFor wi g t) G := go_for hs fun m it ⟨e1, e2⟩ => by
  subst e1 e2
  exact ⟨js, bd, C, c0, hg, hj, body, done⟩
theorem go_while (W : Nat → Ctx → Prop) (m0 : Nat) (w0 : W m0 G) (h : ∀ m G', W m G' → ∃ Φt : Bool → Prop, EvTG L c G' Φt ∧
    (Φt true → ∀ N, (∀ m' G'', m' < m → W m' G'' → Nx L F N G'') → Go L F { E with nx := N, ct := N, bk := E.nx } t G') ∧ (Φt false → Nx L F E.nx G')) : Go L F E (tWhile c t) G := fun T σ H s => by
  refine ⟨fun m σ' H' => ∃ G' T', W m G' ∧ Sh L G' F T' σ' H', ⟨m0, G, T, w0, s⟩, ?_⟩
  rintro m σ' H' ⟨G', T', w, s'⟩
  obtain ⟨Φt, hc, h1, h2⟩ := h m G' w
  refine hc F T' σ' H' s' _ fun b H2 p s2 => ?_
  cases b with
  | true =>
    rw [if_pos rfl]
    exact ⟨fun σ2 H3 => ∃ m', m' < m ∧ ∃ G'' T'', W m' G'' ∧ Sh L G'' F T'' σ2 H3, fun σ2 H3 q => q, h1 p _ (fun m' G'' hm w' T2 σ2 H3 s3 => ⟨m', hm, G'', T2, w', s3⟩) T' σ' H2 (s'.step s2)⟩
  | false =>
    rw [if_neg Bool.false_ne_true]
    exact h2 p T' σ' H2 (s'.step s2)
/-! ### own lists -/
/-- a list in the making is one's own from now on, at slot i -/
theorem Sh.adopt {T : List Addr} {σ : St} {H : Hp} {i : Nat} {p : Addr} {ds : List D} {xs : List V} (h : Sh L G { F with X := p :: F.X } T σ H) (hi : i < G.length) (hp : p ∈ T) (hX : p ∉ F.X) (hS : p ∉ F.S) (e0 : H p = some (.lst xs)) (a : Ats (hide H T) ds xs) :
    Sh L (G.set i (some (.own ds))) F T (σ.set i (some (.ref p))) H := by
  have other : ∀ (j : Nat) x, (G.set i (some (Ent.own ds)))[j]? = some (some x) → (j = i ∧ x = .own ds) ∨ (i ≠ j ∧ G[j]? = some (some x) ∧ (σ.set i (some (V.ref p)))[j]? = σ[j]?) := fun j x q => by
    by_cases z : i = j
    · subst z
      rw [List.getElem?_set_self hi] at q
      cases q
      exact .inl ⟨rfl, rfl⟩
    · rw [List.getElem?_set_ne z] at q
      exact .inr ⟨z, q, List.getElem?_set_ne z⟩
  have ownP : ∀ (j : Nat) fs q, G[j]? = some (some (.own fs)) → σ[j]? = some (some (.ref q)) → q ≠ p := fun j fs q e1 e2 z => by
    obtain ⟨q1, xs, g1, g2, g3, _⟩ := h.own j fs e1
    rw [g1] at e2
    cases e2
    exact g3.2 (by rw [z]; exact List.mem_cons_self)
  have hlen : i < σ.length := by rw [h.len]; exact hi
  refine ⟨by rw [List.length_set, List.length_set]; exact h.len, h.inT, h.sub, h.subM, h.one, h.fresh, h.keep, h.rows, h.gr, h.anc, h.held, fun b hb => h.xs b (List.mem_cons_of_mem _ hb), h.tab, fun j d q => ?_, fun j fs q => ?_, fun j j2 fs gs p' e1 e2 e3 e4 => ?_, fun j q => ?_, fun j st q => ?_, fun j j2 st q st' q2 => ?_⟩
  · rcases other j _ q with ⟨z, z2⟩ | ⟨z, z2, z3⟩
    · cases z2
    · rw [z3]
      exact h.dat j d z2
  · rcases other j _ q with ⟨z, z2⟩ | ⟨z, z2, z3⟩
    · cases z2
      subst z
      exact ⟨p, xs, List.getElem?_set_self hlen, hp, ⟨hS, hX⟩, e0, a⟩
    · rw [z3]
      obtain ⟨q1, ys, g1, g2, g3, g4⟩ := h.own j fs z2
      exact ⟨q1, ys, g1, g2, ⟨g3.1, fun y => g3.2 (List.mem_cons_of_mem _ y)⟩, g4⟩
  · rcases other j _ e1 with ⟨z, z2⟩ | ⟨z, z2, z3⟩
    · rcases other j2 _ e2 with ⟨y, y2⟩ | ⟨y, y2, y3⟩
      · rw [z, y]
      · rw [y3] at e4
        subst z
        rw [List.getElem?_set_self hlen] at e3
        cases e3
        exact absurd rfl (ownP j2 gs p y2 e4)
    · rw [z3] at e3
      rcases other j2 _ e2 with ⟨y, y2⟩ | ⟨y, y2, y3⟩
      · subst y
        rw [List.getElem?_set_self hlen] at e4
        cases e4
        exact absurd rfl (ownP j fs p z2 e3)
      · rw [y3] at e4
        exact h.inj j j2 fs gs p' z2 y2 e3 e4
  · rcases other j _ q with ⟨z, z2⟩ | ⟨z, z2, z3⟩
    · cases z2
    · rw [z3]
      exact h.row j z2
  · rcases other j _ q with ⟨z, z2⟩ | ⟨z, z2, z3⟩
    · cases z2
    · rw [z3]
      obtain ⟨p1, R, B, k1, k2, k3, k4, k5, k6, k7, k8⟩ := h.prg j st z2
      exact ⟨p1, R, B, k1, k2, k3, k4, k5, fun y => k6 (List.mem_cons_of_mem _ y), fun y => k7 (List.mem_cons_of_mem _ y), fun y => k8 (List.mem_cons_of_mem _ y)⟩
  · rcases other j _ q with ⟨z, z2⟩ | ⟨z, z2, z3⟩
    · cases z2
    · rcases other j2 _ q2 with ⟨y, y2⟩ | ⟨y, y2, y3⟩
      · cases y2
      · exact h.px j j2 st z2 st' y2
theorem go_new {i : Nat} (hi : i < G.length) (k : Nx L F E.nx (G.set i (some (.own [])))) : Go L F E (tAsg (tLst tNil) (gName i)) G := fun T σ H s =>
  ⟨Nat.zero_le _, fun p hp => k (p :: T) _ _ ((s.make (u := .lst []) hp nt_lst).adopt hi List.mem_cons_self (fun y => s.newT hp (s.xs p y).1) (fun y => s.newT hp (s.sub p y)) upd_same (ats_nil.mpr rfl))⟩
/-- an own list changes -/
theorem Sh.upOwn {T : List Addr} {σ : St} {H : Hp} {ds es : List D} {p : Addr} {ys : List V} (s : Sh L G F T σ H) (h : G[i]? = some (some (.own ds))) (hp : σ[i]? = some (some (.ref p))) (a : Ats (hide H T) es ys) : Sh L (G.set i (some (.own es))) F T σ (upd H p (.lst ys)) := by
  have hi : i < G.length := (List.getElem?_eq_some_iff.mp h).1
  obtain ⟨p', xs, g1, g2, g3, g4, g5⟩ := s.own i ds h
  rw [hp] at g1
  cases g1
  have e := hide_upd (H := H) (o := .lst ys) g2
  have other : ∀ (j : Nat) x, (G.set i (some (Ent.own es)))[j]? = some (some x) → (j = i ∧ x = .own es) ∨ (i ≠ j ∧ G[j]? = some (some x)) := fun j x q => by
    by_cases z : i = j
    · subst z
      rw [List.getElem?_set_self hi] at q
      cases q
      exact .inl ⟨rfl, rfl⟩
    · rw [List.getElem?_set_ne z] at q
      exact .inr ⟨z, q⟩
  refine ⟨by rw [List.length_set]; exact s.len, fun b hb => ?_, s.sub, s.subM, s.one, s.fresh, fun b hb h1 h2 => ?_, fun b hb => ?_, by rw [e]; exact s.gr, by rw [e]; exact s.anc, fun z hz => by
    obtain ⟨h1, h2, h3⟩ := s.held z hz
    exact ⟨by rw [upd_ne (fun y => g3.1 (by rw [← y]; exact h2))]; exact h1, h2, h3⟩, s.xs, by rw [e]; exact s.tab, fun j d q => ?_, fun j fs q => ?_, fun j k fs gs q e1 e2 e3 e4 => ?_, fun j q => ?_, fun j st q => ?_, fun j k st q st' q2 => ?_⟩
  · by_cases z : b = p
    · rw [z, upd_same]
      exact ⟨_, rfl, nt_lst⟩
    · rw [upd_ne z]
      exact s.inT b hb
  · rw [upd_ne (fun z => g3.1 (by rw [← z]; exact hb))]
    exact s.keep b hb h1 h2
  · exact (s.rows b hb).gr (by rw [e]; exact Gr.refl _) (upd_ne fun z => g3.1 (by rw [← z]; exact s.subM b hb))
  · rcases other j _ q with ⟨z, z2⟩ | ⟨z, z2⟩
    · cases z2
    · rw [e]
      exact s.dat j d z2
  · rcases other j _ q with ⟨z, z2⟩ | ⟨z, z2⟩
    · cases z2
      subst z
      exact ⟨p, ys, hp, g2, g3, upd_same, by rw [e]; exact a⟩
    · obtain ⟨q1, zs, k1, k2, k3, k4, k5⟩ := s.own j fs z2
      refine ⟨q1, zs, k1, k2, k3, ?_, by rw [e]; exact k5⟩
      rw [upd_ne fun y => z (s.inj i j ds fs p h z2 hp (by rw [← y]; exact k1))]
      exact k4
  · have get : ∀ (j : Nat) fs, (G.set i (some (Ent.own es)))[j]? = some (some (.own fs)) → ∃ fs', G[j]? = some (some (.own fs')) := fun j fs q => by
      rcases other j _ q with ⟨z, z2⟩ | ⟨z, z2⟩
      · exact ⟨ds, by rw [z]; exact h⟩
      · exact ⟨fs, z2⟩
    obtain ⟨f1, q1⟩ := get j fs e1
    obtain ⟨f2, q2⟩ := get k gs e2
    exact s.inj j k f1 f2 q q1 q2 e3 e4
  · rcases other j _ q with ⟨z, z2⟩ | ⟨z, z2⟩
    · cases z2
    · exact s.row j z2
  · rcases other j _ q with ⟨z, z2⟩ | ⟨z, z2⟩
    · cases z2
    · obtain ⟨q1, R, B, h1, ⟨dx, sg, rv, a1, a2, a3, a4, a5, t⟩, h3, h4, h5, h6⟩ := s.prg j st z2
      refine ⟨q1, R, B, h1, ⟨dx, sg, rv, ?_, by rw [e]; exact a2, ?_, by rw [e]; exact a4, ?_, t⟩, h3, h4, h5, h6⟩
      · rw [upd_ne (fun z => g3.1 (by rw [← z]; exact h5.2.2))]; exact a1
      · rw [upd_ne (fun z => g3.1 (by rw [← z]; exact h4.1))]; exact a3
      · rw [upd_ne (fun z => g3.1 (by rw [← z]; exact h5.1))]; exact a5
  · rcases other j _ q with ⟨z, z2⟩ | ⟨z, z2⟩
    · cases z2
    · rcases other k _ q2 with ⟨y, y2⟩ | ⟨y, y2⟩
      · cases y2
      · exact s.px j k st z2 st' y2
/-- xs.append(e) -/
theorem go_app {ds : List D} (h : G[i]? = some (some (.own ds))) (he : EvG L te G Φ) (hl : ds.length < 100000) (k : ∀ d, Φ d → Nx L F E.nx (G.set i (some (.own (ds ++ [d]))))) : Go L F E (tDrop (tBM L.K "list" rAppend (tVar i) (tCons te tNil))) G := fun T σ H s => by
  obtain ⟨p, xs, g1, g2, g3, g4, g5⟩ := s.own i ds h
  refine ⟨.ref p, g1, .inl ⟨rfl, _, SqL.of g4⟩, he F T σ H s _ fun d v H2 pd s2 a => ?_⟩
  have S2 := s.step s2
  obtain ⟨p', xs', g1', g2', g3', g4', g5'⟩ := S2.own i ds h
  rw [g1] at g1'
  cases g1'
  refine ⟨p, xs', v, rfl, rfl, g4', by rw [g5'.length]; exact szlt hl, k d pd T σ _ (S2.upOwn h g1 (g5'.append (ats_cons' a (ats_nil.mpr rfl))))⟩
/-- xs[j] = e -/
theorem go_setI {ds : List D} {ti : TE} {j : Nat} (h : G[i]? = some (some (.own ds))) (he : EvG L te G Φ) (hi : Ev L ti G (.int (j : Int))) (hj : j < ds.length) (k : ∀ d, Φ d → Nx L F E.nx (G.set i (some (.own (ds.set j d))))) : Go L F E (tAsg te (gSub (tVar i) ti rSetL)) G := fun T σ H s => by
  refine he F T σ H s _ fun d v H2 pd s2 a => ?_
  have S2 := s.step s2
  obtain ⟨p, xs, g1, g2, g3, g4, g5⟩ := S2.own i ds h
  refine ⟨.ref p, g1, hi F T σ H2 S2 _ fun z w H3 pz s3 a3 => ?_⟩
  subst pz
  have S3 := S2.step s3
  obtain ⟨p', xs', g1', g2', g3', g4', g5'⟩ := S3.own i ds h
  rw [g1] at g1'
  cases g1'
  refine ⟨p, xs', j, j, rfl, at_int.mp a3, g4', ?_, k d pd T σ _ (S3.upOwn h g1 (g5'.set j (At.gr s3.gr _ _ a)))⟩
  unfold ixN
  rw [g5'.length, if_pos (by omega), if_pos (by omega)]
  rfl
/-- an own list is let be: data from now on -/
theorem Sh.freeze {T : List Addr} {σ : St} {H : Hp} {ds : List D} (s : Sh L G F T σ H) (h : G[i]? = some (some (.own ds))) : ∃ T', Sh L (G.set i (some (.d (.lst ds)))) F T' σ H := by
  have hi : i < G.length := (List.getElem?_eq_some_iff.mp h).1
  obtain ⟨p, xs, g1, g2, g3, g4, g5⟩ := s.own i ds h
  have memT : ∀ a, a ∈ T.filter (fun a => decide (a ≠ p)) ↔ a ∈ T ∧ a ≠ p := fun a => by rw [List.mem_filter, decide_eq_true_iff]
  generalize T.filter (fun a => decide (a ≠ p)) = T' at memT
  have g : Gr (hide H T) (hide H T') := Gr.show fun a ha => ((memT a).mp ha).1
  have other : ∀ (j : Nat) x, (G.set i (some (Ent.d (.lst ds))))[j]? = some (some x) → (j = i ∧ x = .d (.lst ds)) ∨ (i ≠ j ∧ G[j]? = some (some x)) := fun j x q => by
    by_cases z : i = j
    · subst z
      rw [List.getElem?_set_self hi] at q
      cases q
      exact .inl ⟨rfl, rfl⟩
    · rw [List.getElem?_set_ne z] at q
      exact .inr ⟨z, q⟩
  refine ⟨T', by rw [List.length_set]; exact s.len, fun b hb => s.inT b ((memT b).mp hb).1, fun b hb => (memT b).mpr ⟨s.sub b hb, fun z => g3.1 (by rw [← z]; exact hb)⟩, s.subM, s.one, fun b hb hn => s.fresh b ((memT b).mp hb).1 hn, s.keep, fun b hb => (s.rows b hb).gr g rfl, s.gr.trans g, fun q hq => (s.anc q hq).trans g, s.held,
    fun b hb => ⟨(memT b).mpr ⟨(s.xs b hb).1, fun z => g3.2 (by rw [← z]; exact hb)⟩, (s.xs b hb).2⟩, fun P hP => g.t P (s.tab P hP), fun j d q => ?_, fun j fs q => ?_, fun j k fs gs q e1 e2 e3 e4 => ?_, fun j q => ?_, fun j st q => ?_, fun j k st q st' q2 => ?_⟩
  · rcases other j _ q with ⟨z, z2⟩ | ⟨z, z2⟩
    · cases z2
      subst z
      exact ⟨.ref p, g1, at_lst.mpr ⟨p, xs, rfl, by rw [hide_out fun y => ((memT p).mp y).2 rfl]; exact g4, Ats.gr g _ _ g5⟩⟩
    · obtain ⟨v, k1, k2⟩ := s.dat j d z2
      exact ⟨v, k1, At.gr g _ _ k2⟩
  · rcases other j _ q with ⟨z, z2⟩ | ⟨z, z2⟩
    · cases z2
    · obtain ⟨q1, zs, k1, k2, k3, k4, k5⟩ := s.own j fs z2
      exact ⟨q1, zs, k1, (memT q1).mpr ⟨k2, fun y => z (s.inj i j ds fs p h z2 g1 (by rw [← y]; exact k1))⟩, k3, k4, Ats.gr g _ _ k5⟩
  · rcases other j _ e1 with ⟨z, z2⟩ | ⟨z, z2⟩
    · cases z2
    · rcases other k _ e2 with ⟨y, y2⟩ | ⟨y, y2⟩
      · cases y2
      · exact s.inj j k fs gs q z2 y2 e3 e4
  · rcases other j _ q with ⟨z, z2⟩ | ⟨z, z2⟩
    · cases z2
    · exact s.row j z2
  · rcases other j _ q with ⟨z, z2⟩ | ⟨z, z2⟩
    · cases z2
    · obtain ⟨q1, R, B, h1, ⟨dx, sg, rv, a1, a2, a3, a4, a5, t1, t2, t3, t⟩, h3, h4, h5, h6⟩ := s.prg j st z2
      exact ⟨q1, R, B, h1, ⟨dx, sg, rv, a1, At.gr g _ _ a2, a3, Ats.gr g _ _ a4, a5, (memT q1).mpr ⟨t1, fun z => g3.1 (by rw [← z]; exact h5.2.2)⟩, (memT R).mpr ⟨t2, fun z => g3.1 (by rw [← z]; exact h4.1)⟩, (memT B).mpr ⟨t3, fun z => g3.1 (by rw [← z]; exact h5.1)⟩, t⟩, h3, h4, h5, h6⟩
  · rcases other j _ q with ⟨z, z2⟩ | ⟨z, z2⟩
    · cases z2
    · rcases other k _ q2 with ⟨y, y2⟩ | ⟨y, y2⟩
      · cases y2
      · exact s.px j k st z2 st' y2
theorem go_freeze {ds : List D} (h : G[i]? = some (some (.own ds))) (k : Go L F E t (G.set i (some (.d (.lst ds))))) : Go L F E t G := fun T σ H s => by
  obtain ⟨T', s'⟩ := s.freeze h
  exact k T' σ H s'
theorem nx_freeze {ds : List D} (h : G[i]? = some (some (.own ds))) (k : Nx L F N (G.set i (some (.d (.lst ds))))) : Nx L F N G := fun T σ H s => by
  obtain ⟨T', s'⟩ := s.freeze h
  exact k T' σ H s'
/-- what is known of a slot is forgotten -/
theorem nx_drop {i : Nat} (hi : i < G.length) (k : Nx L F N (G.set i none)) : Nx L F N G := fun T σ H s => by
  obtain ⟨v, hv⟩ : ∃ v, σ[i]? = some v := ⟨σ[i]'(by rw [s.len]; exact hi), List.getElem?_eq_getElem _⟩
  have e : σ.set i v = σ := by
    refine List.ext_getElem? fun j => ?_
    by_cases z : i = j
    · subst z
      rw [List.getElem?_set_self (by rw [s.len]; exact hi), hv]
    · rw [List.getElem?_set_ne z]
  have := s.drop v hi
  rw [e] at this
  exact k T σ H this
end
end Pw

/-! Promises, calls, the text. -/
namespace Pw
open PySem L2 PyProof.Rows
/-- a def that reads its arguments alone: with the arguments args a, where pre a, it hands back a datum in R a -/
def spP (L : Pm) {α : Type} (pre : α → Prop) (args : α → List D) (R : α → D → Prop) : Sp := fun vs H Q _ => ∃ (S : List Addr) (a : α), (∀ a ∈ S, ∃ u, H a = some u ∧ nt u) ∧ (∀ Pt ∈ L.Ps, GxR.TabG (hide H S) Pt) ∧ Ats (hide H S) (args a) vs ∧ pre a ∧
  ∀ d v H2, R a d → Gr (hide H S) (hide H2 S) → (∀ a ∈ S, H2 a = H a) → At (hide H2 S) d v → Q v H2
/-- a def that turns the script's row, its first argument -/
def spR (L : Pm) {α : Type} (pre : α → Prop) (args : α → List D) (R : α → D → Prop) : Sp := fun vs H Q _ => ∃ (S : List Addr) (p : Addr) (ws : List V) (a : α), vs = .ref p :: ws ∧ p ∈ S ∧ RowOk L.K H S p ∧ (∀ a ∈ S, ∃ u, H a = some u ∧ nt u) ∧ (∀ Pt ∈ L.Ps, GxR.TabG (hide H S) Pt) ∧ Ats (hide H S) (args a) ws ∧ pre a ∧
  ∀ d v H2, R a d → Gr (hide H S) (hide H2 S) → (∀ b ∈ S, b ≠ p → H2 b = H b) → RowOk L.K H2 S p → (∃ u, H2 p = some u ∧ nt u) → At (hide H2 S) d v → Q v H2
section
variable {L : Pm} {G : Ctx} {te : TE} {ta : TA} {Φ : D → Prop} {Φs : List D → Prop} {α : Type} {pre : α → Prop} {args : α → List D} {R : α → D → Prop} {E : XK} {ds : List D} {d : D} {i : Nat}
theorem evg_own (ha : EvAG L ta G Φs) (hP : ∀ ds, Φs ds → ∃ a, ds = args a ∧ pre a ∧ ∀ d, R a d → Φ d) : EvG L (tCall (spP L pre args R) [] E ta) G Φ := fun F T σ H s Q q =>
  ha F T σ H s _ fun ds vs H1 p s1 a => by
    have S1 := s.step s1
    obtain ⟨x, rfl, hx, hR⟩ := hP ds p
    refine ⟨T, x, S1.inT, S1.tab, by rw [List.append_nil]; exact a, hx, fun d v H2 r g same a2 => q d v H2 (hR d r) (s1.trans ⟨g, fun b hb _ => same b hb, fun b hb => ?_⟩) a2⟩
    obtain ⟨u, e, n⟩ := S1.inT b (S1.sub b (S1.subM b hb))
    have e2 := same b (S1.sub b (S1.subM b hb))
    exact ⟨(S1.rows b hb).gr g e2, u, by rw [e2]; exact e, n⟩
theorem ev_own (a : α) (ha : EvA L ta G (args a)) (hP : pre a) (hR : ∀ x, R a x → x = d) : Ev L (tCall (spP L pre args R) [] E ta) G d := evg_own ha fun _ e => ⟨a, e, hP, hR⟩
/-- a call that turns the row -/
theorem evg_rowcall {ta : TA} (hi : G[i]? = some (some .row)) (ha : EvAG L ta G Φs) (hP : ∀ ds, Φs ds → ∃ a, ds = args a ∧ pre a ∧ ∀ d, R a d → Φ d) : EvG L (tCall (spR L pre args R) [] E (tCons (tVar i) ta)) G Φ := fun F T σ H s Q q => by
  obtain ⟨a, e1, hM1⟩ := s.row i hi
  refine ⟨.ref a, e1, ha F T σ H s _ fun ds vs H1 p s1 a1 => ?_⟩
  have S1 := s.step s1
  obtain ⟨x, rfl, hx, hR⟩ := hP ds p
  refine ⟨T, a, vs, x, by rw [List.append_nil], S1.sub a (S1.subM a hM1), S1.rows a hM1, S1.inT, S1.tab, a1, hx, fun d v H2 r g same ro ru a2 => q d v H2 (hR d r) (s1.trans ⟨g, fun b hb hn => same b hb fun z => hn (by rw [z]; exact hM1), fun b hb => ?_⟩) a2⟩
  rw [s.one b a hb hM1]
  exact ⟨ro, ru⟩
/-! ### the start of a def -/
def ctx0 (n : Nat) (ds : List D) : Ctx := ds.map (fun d => some (.d d)) ++ List.replicate (n - ds.length) none
theorem sh_start {S : List Addr} {H : Hp} {N : List Str} {vs : List V} (hS : ∀ a ∈ S, ∃ u, H a = some u ∧ nt u) (hT : ∀ Pt ∈ L.Ps, GxR.TabG (hide H S) Pt) (ha : Ats (hide H S) ds vs) :
    Sh L (ctx0 N.length ds) { S := S, M := [], W := [], H0 := H } S (L2.start N vs) H := by
  have hl := ha.length
  have no : ∀ (i : Nat) x, (ctx0 N.length ds)[i]? = some (some x) → ∃ d, x = .d d ∧ ds[i]? = some d := fun i x q => by
    unfold ctx0 at q
    by_cases z : i < ds.length
    · rw [List.getElem?_append_left (by simpa using z), List.getElem?_map, List.getElem?_eq_getElem z] at q
      cases q
      exact ⟨_, rfl, List.getElem?_eq_getElem z⟩
    · rw [List.getElem?_append_right (by simpa using z), List.getElem?_replicate] at q
      split at q <;> cases q
  refine ⟨?_, hS, fun a h => h, fun a h => absurd h List.not_mem_nil, fun a b h => absurd h List.not_mem_nil, fun a h hn => absurd h hn, fun a _ _ _ => rfl, fun a h => absurd h List.not_mem_nil, Gr.refl _, fun q h => absurd h List.not_mem_nil, fun q h => absurd h List.not_mem_nil, fun a h => absurd h List.not_mem_nil, hT, fun i d q => ?_, fun i es q => ?_, fun i j es fs p q => ?_, fun i q => ?_, fun i st q => ?_, fun i j st q st' q2 => ?_⟩
  · unfold L2.start ctx0
    rw [List.length_append, List.length_append, List.length_map, List.length_map, List.length_replicate, List.length_replicate, hl]
  · obtain ⟨d', e, e2⟩ := no i _ q
    cases e
    obtain ⟨v, h1, h2⟩ := ha.get e2
    refine ⟨v, ?_, h2⟩
    unfold L2.start
    have hi : i < vs.length := (List.getElem?_eq_some_iff.mp h1).1
    rw [List.getElem?_append_left (by simpa using hi), List.getElem?_map, h1]
    rfl
  · obtain ⟨d', e, _⟩ := no i _ q
    cases e
  · obtain ⟨d', e, _⟩ := no i _ q
    cases e
  · obtain ⟨d', e, _⟩ := no i _ q
    cases e
  · obtain ⟨d', e, _⟩ := no i _ q
    cases e
  · obtain ⟨d', e, _⟩ := no i _ q
    cases e
/-- a def's body, read: from its arguments on -/
theorem start_P {N : List Str} {vs : List V} {H : Hp} {Q : VK} {t : TS} (h : spP L pre args R vs H Q E)
    (k : ∀ a F rt, pre a → F.M = [] → F.W = [] → (∀ d, R a d → RtOk L F rt d) → Go L F { nx := fun _ H' => rt .non H', rt := rt } t (ctx0 N.length (args a))) : t { nx := fun _ H' => Q .non H', rt := Q } (L2.start N vs) H := by
  obtain ⟨S, a, hS, hT, ha, hP, hQ⟩ := h
  exact k a { S := S, M := [], W := [], H0 := H } Q hP rfl rfl (fun d r v H2 g same _ _ a => hQ d v H2 r g (fun b hb => same b hb List.not_mem_nil List.not_mem_nil) a) S _ H (sh_start hS hT ha)
theorem len_P {n : Nat} (h : ∀ a, (args a).length = n) {vs : List V} {H : Hp} {Q : VK} (hs : spP L pre args R vs H Q E) : vs.length = n := by
  obtain ⟨S, a, hS, hT, ha, _⟩ := hs
  rw [ha.length, h a]
/-- the end of a body without a return -/
theorem nx_end {F : Frm} {rt : VK} (k : RtOk L F rt .non) : Nx L F (fun _ H' => rt .non H') G := fun T σ H s => s.rtok (at_non.mpr rfl) k
end
/-! ### the text -/
/-- a def of the text, as the top leaves it -/
structure Df (K : PySem.W.Frag) (mg : Str → Option Value) (x : Str) (st : Stmt) : Prop where
  ex : ∃ f fd, FunD K x x (defArgs st) (defBody st) (defScope st) [] [] f fd ∧ mg x = some (.ref f)
/-- a def keeps its promise -/
structure Pr (P : Program) (w : World) (K : PySem.W.Frag) (mg : Str → Option Value) (base : Heap) (x : Str) (k : Nat) (ps : List Str) (sp : Sp) : Prop where
  ex : ∃ f fd, FnOk P w K mg base CX0 k f fd ps sp ∧ mg x = some (.ref f) ∧ PySem.W.keepIn K (.ref f) = true ∧ Binds K fd ps []
section
variable {P : Program} {w : World} {K : PySem.W.Frag} {mg : Str → Option Value} {base : Heap} {x : Str} {st : Stmt} {N ps : List Str} {k : Nat} {sp : Sp}
theorem pr_of (F : Df K mg x st) (S : FnScope N ps (defScope st)) (hb : ∀ (kV doc pm : Value) (an : Option Addr) (cdv ct : Value) (us : List Value), us.length = ps.length → bindArgs (PySem.W.fnOf x x (defArgs st) (defBody st) (defScope st) .none kV doc pm an cdv ct) ⟨us, []⟩ = pure (ps.zip us))
    (len : ∀ vs H Q E, sp vs H Q E → vs.length = ps.length)
    (hbody : ∀ (f : Addr) (cdv : Value) (A : Around) (outer : List Env) (s : Shared) (H : Hp) (vs : List V) (Q : VK) (E : XK), Room k (A.deeper (envOfC x (defScope st) s.heap.objs.size f cdv)) → sp vs H Q E →
      ∃ t, PSs (cxOf CX0 P w K mg base N x (defScope st) f cdv A outer s H E).nox (defBody st) t ∧ t { nx := fun _ H' => Q .non H', rt := Q } (L2.start N vs) H) : Pr P w K mg base x (k + 1) ps sp := by
  obtain ⟨f, fd, F1, m⟩ := F.ex
  refine ⟨f, fd, F1.ok S len fun cdv A outer s H vs Q E hr h => ?_, m, F1.kp, F1.bindsN hb⟩
  obtain ⟨t, h1, h2⟩ := hbody f cdv A outer s H vs Q E hr h
  exact ⟨t, h1.nox, h2⟩
end
section
variable {X : Cx} {x : Str} {k j : Nat} {ps : List Str} {sp : Sp} {p pos : Pos} {e : Expr} {es : List Expr} {t : TA}
/-- f(e, ..) of a def of the text -/
theorem pe_own (G : Pr X.prog X.w X.K X.mg X.base x k ps sp) (hr : Room j X.A) (hk : k ≤ j) (hg : Gl X x) (ha : PA X (e :: es) t) (hdb : (x == ("__debug__" : Str)) = false := by decide)
    (he : starEach (e :: es) X.env = (false, eval e X.env) :: starEach es X.env := by rfl) (hpl : (backTo pos (starEach es X.env)).any (·.1) = false := by rfl) : PE X (.Call (.Name x p) (e :: es) [] pos) (tCall sp [] E0 t) := by
  obtain ⟨f, fd, F, m, kp, b⟩ := G.ex
  exact pe_call F (hr.mono hk) hg m kp b .nil pass0 ha hdb he hpl
end
end Pw

/-! all(elt for x in e): the generator's turns run in a context of their own. -/
namespace Pw
open PySem PySem.Spec PyProof.Rows L2
/-- the generator's own context -/
def gcx (X : Cx) (A : Around) (N : List Str) (s4 : Shared) (H4 : Hp) (cenv : Env) (fp : List Addr) : Cx :=
  { X with A := A, N := N, s_0 := s4, H_0 := H4, env := cenv, outer := X.stack, stack := cenv :: X.stack, ex := fp, fn := fun _ => false, calm := true, pn := [], xe := fun _ _ => False }
theorem Inv.regen {X : Cx} {pins : List (Addr × Obj)} {σ : L2.St} {H : Hp} {s : Shared} (I : Inv X pins σ H s) {g : Array GenState} (hg : AllBare g) : Inv X pins σ H { s with gens := g } :=
  ⟨I.ok, I.os, hg, I.base, I.loc, I.cell, I.free, I.freeC, I.pin, I.hok, I.len⟩
theorem bare_set {s : Shared} {g : Nat} {x : GenState} (h : AllBare s.gens) (hx : x.bare = true) : AllBare (s.setGen g x).gens := fun y hy => by
  obtain ⟨i, hi, e⟩ := Array.mem_iff_getElem.mp hy
  have hi' : i < s.gens.size := by
    have q : (s.setGen g x).gens.size = s.gens.size := by simp [Shared.setGen]
    rw [q] at hi; exact hi
  by_cases z : i = g
  · subst z
    have q2 : (s.setGen i x).gens[i]? = some y := by rw [Array.getElem?_eq_getElem hi, e]
    have q : (s.setGen i x).gens[i]? = some x := by simp [Shared.setGen, hi']
    rw [q] at q2; cases q2; exact hx
  · have q : (s.setGen g x).gens[i]? = s.gens[i]? := by simp [Shared.setGen, Ne.symm z]
    have q2 : s.gens[i]? = some y := by rw [← q, Array.getElem?_eq_getElem hi, e]
    exact h y (Array.mem_of_getElem? q2)
section
variable {X : Cx} {σ : L2.St} {H : Hp} {s : Shared}
/-- what the code within reaches and how its state lies at turn i -/
def GIn (Xg : Cx) (pn : List (Addr × Obj)) (fp : List Addr) (tn : Nat → Heap → Prop) (cv : List (Option V)) (i : Nat) (H : Hp) (s : Shared) : Prop :=
  ∃ o, Inv Xg pn (o :: cv) H s ∧ tn i s.heap ∧ ∀ b ∈ fp, FpOk Xg pn H b
theorem GIn.regen {Xg : Cx} {pn : List (Addr × Obj)} {fp : List Addr} {tn : Nat → Heap → Prop} {cv : List (Option V)} {i : Nat} (h : GIn Xg pn fp tn cv i H s) {g : Array GenState} (hg : AllBare g) : GIn Xg pn fp tn cv i H { s with gens := g } := by
  obtain ⟨o, I, t, f⟩ := h
  exact ⟨o, Inv.regen I hg, t, f⟩
def gY (Xg : Cx) (pn : List (Addr × Obj)) (fp : List Addr) (tn : Nat → Heap → Prop) (cv : List (Option V)) (n : Nat) (Iv : Nat → Hp → Prop) (Qf : Hp → Prop) : Protocol := fun m s₀ v s kap =>
  ∃ i H b, i < n ∧ m = n - (i + 1) ∧ v = .bool b ∧ GIn Xg pn fp tn cv (i + 1) H s ∧ (b = true → Iv (i + 1) H ∧ ∀ g, AllBare g → kap (.send .none) { s with gens := g }) ∧ (b = false → Qf H)
def gR (Xg : Cx) (pn : List (Addr × Obj)) (fp : List Addr) (tn : Nat → Heap → Prop) (cv : List (Option V)) (n : Nat) (Iv : Nat → Hp → Prop) : Nat → Shared → Shared → Prop := fun _ s₀ s =>
  ∃ H o, Inv Xg pn (o :: cv) H s ∧ Iv n H
/-- the turns -/
theorem seg_turns {elt iter : Expr} {x : Str} {px : Pos} {scope : Scope} {pos : Pos} {A0 : Around} {N : List Str} {s4 : Shared} {H4 : Hp} {cenv : Env} {fp : List Addr} {it : Addr} {tn : Nat → Heap → Prop} {J : It} {cv : List (Option V)} {pn : List (Addr × Obj)} {n : Nat} {Iv : Nat → Hp → Prop} {Qf : Hp → Prop} {te : TE}
    (T : Turn X.prog X.w X.K (.Name x px) J fp it tn) (hN : (x :: N).Nodup) (hx : cenv.scope.names.lookup x = some .local) (hco : cenv.scope.isCoroutine = false)
    (he : PE (gcx X (A0.over (.compLoop (.GeneratorExp elt [⟨.Name x px, iter, [], 0⟩] scope pos) 0 (.ref it) .none cenv) []) (x :: N) s4 H4 cenv fp) elt te)
    (hgo : ∀ i H, i < n → Iv i H → J.go i H) (hst : ∀ H, Iv n H → J.stop n H)
    (hs : ∀ i y H H', i < n → Iv i H → J.yld i H y H' → te (some y :: cv) H' fun v H2 => ∃ b, v = .bl b ∧ (b = true → Iv (i + 1) H2) ∧ (b = false → Qf H2)) :
    ∀ (k i : Nat) (s₀ s : Shared) (H : Hp), n - i = k → i ≤ n → GIn (gcx X (A0.over (.compLoop (.GeneratorExp elt [⟨.Name x px, iter, [], 0⟩] scope pos) 0 (.ref it) .none cenv) []) (x :: N) s4 H4 cenv fp) pn fp tn cv i H s → Iv i H →
      Seg (model X.prog X.w) A0 (fun n' s₀ r s₁ => r = .ok .next ∧ gR (gcx X (A0.over (.compLoop (.GeneratorExp elt [⟨.Name x px, iter, [], 0⟩] scope pos) 0 (.ref it) .none cenv) []) (x :: N) s4 H4 cenv fp) pn fp tn cv n Iv n' s₀ s₁)
        (gY (gcx X (A0.over (.compLoop (.GeneratorExp elt [⟨.Name x px, iter, [], 0⟩] scope pos) 0 (.ref it) .none cenv) []) (x :: N) s4 H4 cenv fp) pn fp tn cv n Iv Qf) k s₀
        (.compLoop (.GeneratorExp elt [⟨.Name x px, iter, [], 0⟩] scope pos) 0 (.ref it) .none cenv)
        ((model X.prog X.w).den (.compLoop (.GeneratorExp elt [⟨.Name x px, iter, [], 0⟩] scope pos) 0 (.ref it) .none cenv)) [] s := by
  generalize hXg : gcx X (A0.over (.compLoop (.GeneratorExp elt [⟨.Name x px, iter, [], 0⟩] scope pos) 0 (.ref it) .none cenv) []) (x :: N) s4 H4 cenv fp = Xg at he ⊢
  have eA : A0.over (.compLoop (.GeneratorExp elt [⟨.Name x px, iter, [], 0⟩] scope pos) 0 (.ref it) .none cenv) [] = Xg.A := by rw [← hXg]; rfl
  have eP : X.prog = Xg.prog := by rw [← hXg]; rfl
  have eW : X.w = Xg.w := by rw [← hXg]; rfl
  have eK : X.K = Xg.K := by rw [← hXg]; rfl
  have eE : cenv = Xg.env := by rw [← hXg]; rfl
  have eX : Xg.xe = fun _ _ => False := by rw [← hXg]; rfl
  have eC : Xg.calm = true := by rw [← hXg]; rfl
  have eN : Xg.N = x :: N := by rw [← hXg]; rfl
  clear hXg
  rw [eP, eW, eK] at T
  rw [eP, eW]
  intro k
  induction k with
  | zero =>
    intro i s₀ s H hk hi hG hv
    have hin : i = n := by omega
    subst hin
    obtain ⟨o, I, t, f⟩ := hG
    show Seg _ A0 _ _ _ s₀ _ ((compTurn (.GeneratorExp elt [⟨.Name x px, iter, [], 0⟩] scope pos) 0 (.ref it) .none cenv).onRaise (leaving cenv)) [] s
    rw [compTurn_gen, Sem.onRaise_eq_wrap]
    refine seg_bind_wrap (wpAny_standAt ?_)
    refine seg_bind_wrap ?_
    rw [eA]
    refine wpAny_mono (T.done Xg rfl rfl rfl eC i pn s _ H (fun _ _ => False) I f t (hst H hv)) (fun r s1 h1 => ?_) fun _ _ e => e.elim
    obtain ⟨hr, I1⟩ := h1
    subst hr
    exact seg_end (.ok .next) ⟨rfl, H, o, I1, hv⟩
  | succ k ih =>
    intro i s₀ s H hk hi hG hv
    have hlt : i < n := by omega
    obtain ⟨o, I, t, f⟩ := hG
    show Seg _ A0 _ _ _ s₀ _ ((compTurn (.GeneratorExp elt [⟨.Name x px, iter, [], 0⟩] scope pos) 0 (.ref it) .none cenv).onRaise (leaving cenv)) [] s
    rw [compTurn_gen, Sem.onRaise_eq_wrap]
    refine seg_bind_wrap (wpAny_standAt ?_)
    refine seg_bind_wrap ?_
    rw [eA]
    refine wpAny_mono (T.item Xg rfl rfl rfl eC i pn s _ H (fun _ _ => False) I f t (hgo i H hlt hv)) (fun r s1 h1 => ?_) fun _ _ e => e.elim
    obtain ⟨u, hr, h4⟩ := h1
    subst hr
    refine seg_bind_wrap ?_
    rw [eA]
    refine wpAny_mono h4 (fun _ s2 h2 => ?_) fun _ _ e => e.elim
    obtain ⟨y, H5, I5, r5, y5, t5, fr5⟩ := h2
    have f5 : ∀ b ∈ fp, FpOk Xg pn H5 b := fun b hb => ⟨fr5 b hb, (f b hb).2⟩
    have I5' := I5.pinned f5 (T.obj _ _ t5)
    refine seg_bind_wrap ?_
    rw [eA, eE]
    refine wpAny_assign_Name (store_ok (i := 0) (v := y) I5' (by rw [eN]; exact hN) (by rw [eN]; rfl) (.inl (by rw [← eE]; exact hx)) r5 (fun s6 I6 => ?_) (.inr (by rw [← eE]; exact hx)))
    rw [← eE]
    refine seg_bind_wrap (wpAny_pure ?_)
    simp only [if_true]
    have hy : ∀ v, yieldOut cenv v = yieldValue v := fun v => by simp only [yieldOut, hco, Bool.false_eq_true, if_false]
    simp only [hy]
    rw [Sem.bind_eq_wrap', Sem.bind_eq_wrap', Sem.wrap_wrap, Sem.wrap_wrap]
    refine seg_wrap ?_
    rw [eA, eE]
    refine wpAny_mono (he.run _ s6 _ H5 _ I6 (hs i y H H5 hlt hv y5)) (fun v s7 h7 => ?_) fun e s7 h7 => by
      rw [eX] at h7
      exact h7.elim
    obtain ⟨v', H7, I7, r7, b, hb, q1, q2⟩ := h7
    subst hb
    obtain rfl : v = Value.bool b := r7
    have t7 : tn (i + 1) s7.heap := T.keep _ _ _ t5 fun b hb o e => (I7.pin (b, o) (List.mem_append_right _ (List.mem_append_right _ (mem_pinsAt hb e)))).1
    have n7 : ∀ b ∈ fp, H7 b = none := fun b hb => by
      obtain ⟨ob, e, d⟩ := T.obj _ _ t5 b hb
      exact (I7.pin (b, ob) (List.mem_append_right _ (List.mem_append_right _ (mem_pinsAt hb e)))).2.1
    have G7 : GIn Xg pn fp tn cv (i + 1) H7 s7 := ⟨some y, I7.unpinned, t7, fun b hb => ⟨n7 b hb, (f b hb).2⟩⟩
    rw [← eE]
    refine seg_at (seg_yield rfl rfl rfl ⟨i, H7, b, hlt, by omega, rfl, G7, fun hb => ⟨q1 hb, fun g hg => ?_⟩, q2⟩)
    exact seg_again rfl (ih (i + 1) _ _ H7 (by omega) hlt (G7.regen hg) (q1 hb))

/-- .. from the start -/
theorem seg_first {elt iter : Expr} {x : Str} {px : Pos} {scope : Scope} {pos : Pos} {A0 : Around} {N : List Str} {s4 : Shared} {H4 : Hp} {cenv : Env} {fp : List Addr} {it : Addr} {tn : Nat → Heap → Prop} {J : It} {cv : List (Option V)} {pn : List (Addr × Obj)} {n : Nat} {Iv : Nat → Hp → Prop} {Qf : Hp → Prop} {te : TE}
    (T : Turn X.prog X.w X.K (.Name x px) J fp it tn) (hN : (x :: N).Nodup) (hx : cenv.scope.names.lookup x = some .local) (hco : cenv.scope.isCoroutine = false)
    (he : PE (gcx X (A0.over (.compLoop (.GeneratorExp elt [⟨.Name x px, iter, [], 0⟩] scope pos) 0 (.ref it) .none cenv) []) (x :: N) s4 H4 cenv fp) elt te)
    (hgo : ∀ i H, i < n → Iv i H → J.go i H) (hst : ∀ H, Iv n H → J.stop n H)
    (hs : ∀ i y H H', i < n → Iv i H → J.yld i H y H' → te (some y :: cv) H' fun v H2 => ∃ b, v = .bl b ∧ (b = true → Iv (i + 1) H2) ∧ (b = false → Qf H2))
    (s₀ s : Shared) (H : Hp) (hG : GIn (gcx X (A0.over (.compLoop (.GeneratorExp elt [⟨.Name x px, iter, [], 0⟩] scope pos) 0 (.ref it) .none cenv) []) (x :: N) s4 H4 cenv fp) pn fp tn cv 0 H s) (hv : Iv 0 H) :
      Seg (model X.prog X.w) A0 (fun n' s₀ r s₁ => r = .ok .next ∧ gR (gcx X (A0.over (.compLoop (.GeneratorExp elt [⟨.Name x px, iter, [], 0⟩] scope pos) 0 (.ref it) .none cenv) []) (x :: N) s4 H4 cenv fp) pn fp tn cv n Iv n' s₀ s₁)
        (gY (gcx X (A0.over (.compLoop (.GeneratorExp elt [⟨.Name x px, iter, [], 0⟩] scope pos) 0 (.ref it) .none cenv) []) (x :: N) s4 H4 cenv fp) pn fp tn cv n Iv Qf) n s₀
        (.compStart (.GeneratorExp elt [⟨.Name x px, iter, [], 0⟩] scope pos) 0 (.ref it) .none cenv)
        ((model X.prog X.w).den (.compStart (.GeneratorExp elt [⟨.Name x px, iter, [], 0⟩] scope pos) 0 (.ref it) .none cenv)) [] s := by
  have loop := seg_turns (Qf := Qf) T hN hx hco he hgo hst hs n 0 s₀ s H (Nat.sub_zero _) (Nat.zero_le _) hG hv
  obtain ⟨o, I, t, f⟩ := hG
  show Seg _ A0 _ _ _ s₀ _ ((compStart (.GeneratorExp elt [⟨.Name x px, iter, [], 0⟩] scope pos) 0 (.ref it) .none cenv).onRaise (leaving cenv)) [] s
  unfold compStart
  rw [Sem.onRaise_eq_wrap]
  show Seg _ A0 _ _ _ s₀ _ ((ask >>= _).wrap _ _ _ _) [] s
  refine seg_bind_wrap (wpAny_askSetting ?_)
  split
  · exact seg_again rfl loop
  · first
      | exact seg_bind_wrap (wpAny_rule (seg_bind_wrap (wpAny_standAt (seg_bind_wrap (T.self _ 0 s _ _ t (seg_again rfl loop))))))
      | (refine seg_bind_wrap (wpAny_rule ?_); show Seg _ A0 _ _ _ s₀ _ ((standAt iter.pos >>= _).wrap _ _ _ _) [] s; exact seg_bind_wrap (wpAny_standAt (seg_bind_wrap (T.self _ 0 s _ _ t (seg_again rfl loop)))))
/-- all(g): the loop -/
theorem all_loop {Xg : Cx} {pn : List (Addr × Obj)} {fp : List Addr} {tn : Nat → Heap → Prop} {cv : List (Option V)} {n : Nat} {Iv : Nat → Hp → Prop} {Qf : Hp → Prop} {A : Around} {a : Addr} {g : Nat} {R : Result → Shared → Prop} (hh : A.handled = none) (hd : A.depth < recursionLimit) (hg : ∀ i H s, GIn Xg pn fp tn cv i H s → s.heap.IsGen a g)
    (hT : ∀ H o s, Inv Xg pn (o :: cv) H s → Iv n H → R (.ok (.ret (.bool true))) s) (hF : ∀ H o s, Inv Xg pn (o :: cv) H s → Qf H → R (.ok (.ret (.bool false))) s) :
    ∀ (k i : Nat) (s : Shared) (H : Hp), n - i = k → i ≤ n → GIn Xg pn fp tn cv i H s → Iv i H →
      (∃ gs, s.gens[g]? = some gs ∧ gs.Goes (model Xg.prog Xg.w) A.in1.in1 (fun n' s₀ r s₁ => r = .ok .next ∧ gR Xg pn fp tn cv n Iv n' s₀ s₁) (gY Xg pn fp tn cv n Iv Qf) k (.send .none) (s.setGen g .running)) →
      codeAny (model Xg.prog Xg.w) A (.builtin "all.loop" ⟨[.ref a], []⟩) R s := by
  intro k
  induction k with
  | zero =>
    intro i s H hk hi hG hv ⟨gs, hgs, hgo⟩
    have hGen := hg i H s hG
    obtain ⟨o, I, t, f⟩ := hG
    refine codeAny_builtin F.entry_all_loop ?_
    rw [Around.under_plainId F.plain_all_loop _]
    show wpAny _ A.in1 (pyNext (.ref a) >>= _) _ _ s
    refine wpAny_bind (wpAny_pyNext_genexpQ (A := A.in1) hh I.nolimit hd hGen hgs hgo (fun v s₁ gs' hb hY => ?_) fun s₁ hp h' hkp => ?_)
    · obtain ⟨j, H', b, h1, h2, rfl, hG', q1, q2⟩ := hY
      refine wpAny_bind (wpAny_holding (wpAny_truthy_bool ?_))
      refine wpAny_bind (wpAny_letGo ?_)
      cases b with
      | true => exact ((q1 rfl).2 _ (by obtain ⟨_, I', _⟩ := hG'; exact I'.bare)).elim
      | false =>
        simp only [Bool.false_eq_true, if_false]
        refine wpAny_bind (wpAny_rule (wpAny_pure ?_))
        obtain ⟨o', I', _⟩ := hG'.regen (bare_set (by obtain ⟨_, I', _⟩ := hG'; exact I'.bare) hb)
        exact hF H' o' _ I' (q2 rfl)
    · obtain ⟨H', o', I', hv'⟩ := hp
      refine wpAny_bind (wpAny_rule (wpAny_pure ?_))
      exact hT H' o' _ (Inv.kept (t' := s₁.toks) (Inv.regen I' (bare_set I'.bare rfl)) hkp) hv'
  | succ k ih =>
    intro i s H hk hi hG hv ⟨gs, hgs, hgo⟩
    have hGen := hg i H s hG
    obtain ⟨o, I, t, f⟩ := hG
    refine codeAny_builtin F.entry_all_loop ?_
    rw [Around.under_plainId F.plain_all_loop _]
    show wpAny _ A.in1 (pyNext (.ref a) >>= _) _ _ s
    have hgl : g < s.gens.size := (Array.getElem?_eq_some_iff.mp hgs).1
    refine wpAny_bind (GenW.wpAny_gsz (n := g + 1) hgl (wpAny_pyNext_genexpQ (A := A.in1) hh I.nolimit hd hGen hgs hgo (fun v s₁ gs' hb hY => ?_) fun s₁ hp h' hkp => ?_))
    · intro hsz
      obtain ⟨j, H', b, h1, h2, rfl, hG', q1, q2⟩ := hY
      have hG2 : GIn Xg pn fp tn cv (j + 1) H' (s₁.setGen g gs') := hG'.regen (bare_set (by obtain ⟨_, I', _⟩ := hG'; exact I'.bare) hb)
      have hsz1 : g < s₁.gens.size := by
        have q : (s₁.setGen g gs').gens.size = s₁.gens.size := by simp [Shared.setGen]
        have hsz' : g + 1 ≤ (s₁.setGen g gs').gens.size := hsz
        omega
      refine wpAny_bind (wpAny_holding (wpAny_truthy_bool ?_))
      refine wpAny_bind (wpAny_letGo ?_)
      cases b with
      | true =>
        simp only [if_true]
        obtain ⟨hv', hk'⟩ := q1 rfl
        refine wpAny_pure ⟨plainId_quiet F.plain_all_loop _, ih (j + 1) _ H' (by omega) h1 hG2 hv' ⟨gs', by simp [Shared.setGen, hsz1], ?_⟩⟩
        exact hk' _ (bare_set (by obtain ⟨_, I', _⟩ := hG2; exact I'.bare) rfl)
      | false =>
        simp only [Bool.false_eq_true, if_false]
        refine wpAny_bind (wpAny_rule (wpAny_pure ?_))
        obtain ⟨o', I', _⟩ := hG2
        exact hF H' o' _ I' (q2 rfl)
    · intro hsz
      obtain ⟨H', o', I', hv'⟩ := hp
      refine wpAny_bind (wpAny_rule (wpAny_pure ?_))
      exact hT H' o' _ (Inv.kept (t' := s₁.toks) (Inv.regen I' (bare_set I'.bare rfl)) hkp) hv'

/-- the generator expression's scope within the def's; caps: the names it captures, with the def's slots -/
structure GSc (X : Cx) (scope : Scope) (x : Str) (caps : List (Str × Nat)) : Prop where
  gen : GxR.GenS X.env scope x
  sub : ∀ y c, (cloFrom X.env.cells scope.names []).lookup y = some c → X.env.cells.lookup y = some c
  has : ∀ y, scope.names.lookup y = some .free → ∃ c, (cloFrom X.env.cells scope.names []).lookup y = some c
  cap : ∀ p ∈ caps, X.N[p.2]? = some p.1 ∧ scope.names.lookup p.1 = some .free ∧ (X.env.kindOf p.1 = some .cell ∨ X.env.kindOf p.1 = some .free)
  nd : (x :: caps.map (·.1)).Nodup
def capsOf (σ : L2.St) (caps : List (Str × Nat)) : List (Option V) := caps.map fun p => σ.getD p.2 none
def tAllG (P : Addr) (wi : TI) (caps : List (Str × Nat)) (te : TE) : TE := fun σ H Q => wi σ H fun J H1 => GxR.TabG H1 P ∧ ∀ H2, GxR.Tabbed P H1 H2 → ∃ (n : Nat) (Iv : Nat → Hp → Prop), Iv 0 H2 ∧ (∀ i H, i < n → Iv i H → J.go i H) ∧
  (∀ H, Iv n H → J.stop n H ∧ Q (.bl true) H) ∧ ∀ i y H H', i < n → Iv i H → J.yld i H y H' → te (some y :: capsOf σ caps) H' fun v H3 => ∃ b, v = .bl b ∧ (b = true → Iv (i + 1) H3) ∧ (b = false → Q (.bl false) H3)
theorem gcx_inv {pins : List (Addr × Obj)} {scope : Scope} {x : Str} {caps : List (Str × Nat)} {A' : Around} {code : Value} {fp : List Addr} {h5 : Heap} {gs : Array GenState} {tk : Nat} {m : Str → Option Value} {a : Addr} {go : Obj} {tn : Nat → Heap → Prop}
    (I : Inv X pins σ H s) (S : GSc X scope x caps) (hA : A'.handled = none) (hAf : A'.frames = some (genEnv scope (cloFrom X.env.cells scope.names []) s.heap.objs.size code builtinsNs X.env :: X.stack))
    (hfp : ∀ b ∈ fp, FpOk X pins H b) (hob : ∀ b ∈ fp, ∃ o, s.heap.get? b = some o) (hns : h5.Ns s.heap.objs.size m) (hk : ∀ b o, s.heap.get? b = some o → h5.get? b = some o) (ha : s.heap.objs.size < a) (hgo : h5.get? a = some go) (hgd : ∀ v, go.data ≠ .cell v) (hg : AllBare gs)
    (ht : tn 0 s.heap) (hkeep : ∀ h', (∀ b ∈ fp, ∀ o, s.heap.get? b = some o → h'.get? b = some o) → tn 0 h') :
    GIn (gcx X A' (x :: caps.map (·.1)) s H (genEnv scope (cloFrom X.env.cells scope.names []) s.heap.objs.size code builtinsNs X.env) fp) [(a, go)] fp tn (capsOf σ caps) 0 H { s with gens := gs, toks := tk, heap := h5 } := by
  have memC : ∀ y c, (cloFrom X.env.cells scope.names []).lookup y = some c → c < s.heap.objs.size ∧ H c = none := fun y c e => by
    obtain ⟨v, q⟩ := I.cell y c (S.sub y c e)
    exact ⟨q.lt, I.freeC y c (S.sub y c e)⟩
  have fpLt : ∀ b ∈ fp, b < s.heap.objs.size := fun b hb => by
    obtain ⟨o, e⟩ := hob b hb
    exact Heap.lt_size e
  have nfs : ∀ b ∈ fp, b ∉ frs X.stack := fun b hb z => by
    obtain ⟨f0, f1, f2, _⟩ := hfp b hb
    rcases List.mem_cons.mp (I.stkSub b z) with e | e
    · exact f1 e
    · exact f2 e
  have hsz : ∀ b ∈ frs X.stack, b < s.heap.objs.size := fun b hb => by
    obtain ⟨_, o, ho, _⟩ := I.stack.mem hb
    exact Heap.lt_size ho
  have I0 : Inv (gcx X A' (x :: caps.map (·.1)) s H (genEnv scope (cloFrom X.env.cells scope.names []) s.heap.objs.size code builtinsNs X.env) fp) [(a, go)] (none :: capsOf σ caps) H { s with gens := gs, toks := tk, heap := h5 } := by
    refine ⟨⟨I.ok.mod, S.gen.kind, I.ok.glob, rfl, Nat.le_refl _, fun y z c h1 h2 => I.ok.inj y z c (S.sub y c h1) (S.sub z c h2), fun y hy => ?_, fun y c h => ?_, fun _ => hA, hAf, .inr ⟨rfl, rfl⟩, fun b hb => ⟨Nat.ne_of_lt (fpLt b hb), fun y c e z => ?_⟩, I.bs, Nat.le_trans I.ok.bsz I.sz, fun b o e z => ?_, fun b hb => nfs b hb, I.stack, I.stkFree⟩,
      rfl, hg, Un.kept hk, ⟨m, hns, fun i y v e1 e2 e3 => ?_⟩, fun y c e => ?_, I.hok.fresh (Nat.le_refl _), fun y c e => (memC y c e).2, fun p hp => ?_, I.hok.kept hk, ?_⟩
    · rcases (show scope.names.lookup y = some .cell ∨ scope.names.lookup y = some .free from hy) with z | z
      · exact absurd rfl (S.gen.cell _ (PySem.mem_of_lookup z))
      · exact S.has y z
    · cases h
    · exact (hfp b hb).2.2.2.2.1 y c (S.sub y c e) z
    · have h1 := Heap.lt_size e
      have h2 := (hfp b z).2.2.2.1
      rcases h2 with h2 | h2
      · exact I.ok.noex b o e h2
      · exact absurd (Nat.lt_of_lt_of_le h1 (Nat.le_trans I.ok.bsz h2)) (Nat.lt_irrefl _)
    · have e1' : (x :: caps.map (·.1))[i]? = some y := e1
      cases i with
      | zero => cases e2
      | succ i =>
        have e2' : (capsOf σ caps)[i]? = some (some v) := e2
        have e1'' : (caps.map (·.1))[i]? = some y := e1'
        unfold capsOf at e2'
        rw [List.getElem?_map] at e1'' e2'
        cases q : caps[i]? with
        | none => rw [q] at e1''; cases e1''
        | some p =>
          rw [q] at e1'' e2'
          injection e1'' with e1''
          injection e2' with e2'
          have hp : p ∈ caps := List.mem_of_getElem? q
          obtain ⟨c1, c2, c3⟩ := S.cap p hp
          obtain ⟨m0, hn0, hl0⟩ := I.loc
          have hσ : σ[p.2]? = some (some v) := by
            have e2' : σ.getD p.2 none = some v := e2'
            rw [List.getD_eq_getElem?_getD] at e2'
            cases w : σ[p.2]? with
            | none => rw [w] at e2'; cases e2'
            | some u => rw [w] at e2'; rw [← e2']; rfl
          obtain ⟨u, r, l⟩ := hl0 p.2 p.1 v c1 hσ (by
            rcases c3 with z | z
            · exact .inr (.inl z)
            · exact .inr (.inr z))
          refine ⟨u, r, .inr ?_⟩
          have e1'' : p.1 = y := e1''
          rw [← e1'']
          obtain ⟨c, hc⟩ := S.has p.1 c2
          refine ⟨.inr c2, c, hc, ?_⟩
          rcases l with ⟨z, _⟩ | ⟨_, c', hc', o, ho, hd⟩
          · rcases c3 with z2 | z2
            · rw [z] at z2; cases z2
            · rw [z] at z2; cases z2
          · have : c = c' := by
              have q1 := S.sub p.1 c hc
              rw [hc'] at q1
              exact (Option.some.inj q1).symm
            subst this
            exact ⟨o, hk _ _ ho, hd⟩
    · obtain ⟨v, o, ho, hd⟩ := I.cell y c (S.sub y c e)
      exact ⟨v, o, hk _ _ ho, hd⟩
    · obtain rfl : p = (a, go) := by
        rcases List.mem_append.mp hp with z | z
        · cases z
        · exact List.mem_singleton.mp z
      exact ⟨hgo, I.hok.fresh (Nat.le_of_lt ha), Nat.ne_of_gt ha, fun z => absurd (Nat.lt_trans (hsz a z) ha) (Nat.lt_irrefl _), hgd⟩
    · show (capsOf σ caps).length + 1 = (caps.map (·.1)).length + 1
      unfold capsOf
      rw [List.length_map, List.length_map]
  refine ⟨none, I0, hkeep _ fun b hb o e => hk b o e, fun b hb => ⟨(hfp b hb).1, Nat.ne_of_lt (fpLt b hb), nfs b hb, .inl hb, fun y c e => (hfp b hb).2.2.2.2.1 y c (S.sub y c e), fun p hp => ?_⟩⟩
  obtain rfl : p = (a, go) := by
    rcases List.mem_append.mp hp with z | z
    · cases z
    · exact List.mem_singleton.mp z
  exact Nat.ne_of_gt (Nat.lt_trans (fpLt b hb) ha)

theorem over_frames {A0 : Around} {elt iter : Expr} {x : Str} {px : Pos} {scope : Scope} {pos : Pos} {it : Value} {cenv : Env} {l : List Env} (h : A0.frames = some l) :
    (A0.over (.compLoop (.GeneratorExp elt [⟨.Name x px, iter, [], 0⟩] scope pos) 0 it .none cenv) []).frames = some (cenv :: l) := by
  show pushEnvs [cenv] (pushEnvs [] A0.frames) = some (cenv :: l)
  rw [h]
  rfl
theorem over_room {A : Around} {elt iter : Expr} {x : Str} {px : Pos} {scope : Scope} {pos : Pos} {it : Value} {cenv : Env} {k : Nat} (h : Room (k + 1) A) :
    Room k (A.in1.in1.over (.compLoop (.GeneratorExp elt [⟨.Name x px, iter, [], 0⟩] scope pos) 0 it .none cenv) []) :=
  ⟨h.hd, by
    have := h.dp
    show A.depth + 1 + 3 * k + 5 < _
    omega, by
    have := h.un
    show A.units + 1 + 1 + 0 + 3 + 16 * k + 200 < _
    omega⟩
/-- all(elt for x in e) -/
theorem pe_allG {c P : Addr} {elt iter : Expr} {x : Str} {px p pos gpos : Pos} {scope : Scope} {caps : List (Str × Nat)} {wi : TI} {te : TE} {k : Nat}
    (hr : Room (k + 1) X.A) (hcalm : X.calm = true) (hgl : Gl X "all") (hm : X.mg "all" = none) (hb : bootBuiltins "all" = some (.builtin "all")) (TB : GxR.TabB X.base X.mg c P) (hcode : X.env.code = .ref c) (S : GSc X scope x caps) (hi : PI X (.Name x px) iter wi)
    (hel : ∀ (A' : Around) (s4 : Shared) (H4 : Hp) (C : Addr) (code : Value) (fp : List Addr), Room k A' → PE (gcx X A' (x :: caps.map (·.1)) s4 H4 (genEnv scope (cloFrom X.env.cells scope.names []) C code builtinsNs X.env) fp) elt te)
    (hs : ∀ v, genFold iter X.env v = pure v)
    (he : starEach [.GeneratorExp elt [⟨.Name x px, iter, [], 0⟩] scope gpos] X.env = (false, eval (.GeneratorExp elt [⟨.Name x px, iter, [], 0⟩] scope gpos) X.env) :: starEach [] X.env := by rfl) :
    PE X (.Call (.Name "all" p) [.GeneratorExp elt [⟨.Name x px, iter, [], 0⟩] scope gpos] [] pos) (tAllG P wi caps te) := by
  refine ⟨fun pins s σ H Q I h => ?_⟩
  refine wpAny_Call_Name_kw (ld_blt I hgl hm hb ?_)
  refine PyProof.Rows.callWith_builtin1 ?_ he (by rfl)
  rw [he]
  show wpAny _ _ (spliced ((false, eval (.GeneratorExp elt [⟨.Name x px, iter, [], 0⟩] scope gpos) X.env) :: backTo pos (starEach [] X.env))) _ _ s
  refine Calls.spliced_cons ?_
  refine wpAny_GeneratorExp_make S.gen.co (closure_ok S.gen.free) S.gen.cell S.gen.dot S.gen.kind hr.depth ?_ hs
  refine thn (hi.run pins s σ H _ I h) fun v s1 h1 => thn h1 fun itv s2 h2 => ?_
  obtain ⟨it, fp, tn, J, H2, rfl, I2, T, t2, f2, ⟨ps, hP, ht⟩, q2⟩ := h2
  have hPs : s2.heap.get? P = some { cls := .none, data := .fields ps } := I2.hok P _ hP
  have cd : PySem.W.CodeHd s2.heap c P := TB.code.keeps fun b u e => I2.bk b u e
  refine ⟨I2.nolimit, ?_⟩
  have ob2 := fun b hb => (T.obj 0 _ t2 b hb)
  have fpP : ∀ b ∈ fp, b ≠ P := fun b hb z => by
    have := (f2 b hb).1
    rw [z, hP] at this
    cases this
  have cont : ∀ (code : Value) (h3 : Heap) (tk : Nat) (ps' : Array Value), Heap.ExtBut P s2.heap h3 → h3.get? P = some { cls := .none, data := .fields ps' } → (∃ more, ps' = ps ++ more) → TriplesOk ps'.toList →
      wpAny (model X.prog X.w) X.A (builtinsFor X.env.globals X.env.builtins) (fun bi s₄ =>
        ∀ h', h'.Ns s₄.heap.objs.size (fun y => if y = ".0" then some (.ref it) else none) → Heap.SameBut s₄.heap.objs.size (s₄.heap.push { cls := .type "frame", data := .dict #[] }) h' →
          wpAny (model X.prog X.w) X.A (spliced (backTo pos (starEach [] X.env))) (fun us s5 => wpAny (model X.prog X.w) X.A (call (.builtin "all") (.ref h'.objs.size :: us)) (EP X pins σ Q) X.xe s5) X.xe { s₄ with
            gens := s₄.gens.push (.fresh (.compStart (.GeneratorExp elt [⟨.Name x px, iter, [], 0⟩] scope gpos) 0 (.ref it) .none (genEnv scope (cloFrom X.env.cells scope.names []) s₄.heap.objs.size code bi X.env))),
            toks := s₄.toks + 1 + 1 + 1,
            heap := h'.push { cls := .type "generator", data := .fields #[.int s₄.gens.size 0, .str "<genexpr>" (s₄.toks + 1), .str (X.env.qual ++ "<genexpr>") (s₄.toks + 1 + 1)] } }) X.xe { s2 with heap := h3, toks := tk } := by
    intro code h3 tk ps' hx hP3 hmore ht3
    obtain ⟨more, em⟩ := hmore
    have I3 : Inv X pins σ (upd H2 P (.tbl (ps ++ more))) { s2 with heap := h3, gens := s2.gens, drawn := s2.drawn, toks := tk } :=
      GxR.inv_tab I2 hP (fun b o hb e => hx b o hb e) (by rw [← em]; exact hP3) I2.bare
    have tb3 : GxR.Tabbed P H2 (upd H2 P (.tbl (ps ++ more))) := ⟨⟨ps ++ more, upd_same, by rw [← em]; exact ht3⟩, fun b hb => upd_ne hb⟩
    obtain ⟨n, Iv, iv0, hgo, hst, hstep⟩ := q2 _ tb3
    generalize hH3 : upd H2 P (.tbl (ps ++ more)) = H3 at I3 tb3 iv0
    have f3 : ∀ b ∈ fp, FpOk X pins H3 b := fun b hb => ⟨by rw [tb3.2 b (fpP b hb)]; exact (f2 b hb).1, (f2 b hb).2⟩
    have keepfp : ∀ b ∈ fp, ∀ o, s2.heap.get? b = some o → h3.get? b = some o := fun b hb o e => hx b o (fpP b hb) e
    have t3 : tn 0 h3 := T.keep 0 _ _ t2 keepfp
    obtain ⟨bm, ob, e1, e2, e3, e4, e5, e6, e7, e8⟩ := TB.bm
    refine wpAny_builtinsFor (m := X.mg) (by rw [I3.ok.glob]; exact I3.mod.glob.keeps I3.bk) e1 e2 (I3.bk _ _ e5) e6 e7 e8 ?_
    intro h' hns hsb
    refine Calls.spliced_nil ?_
    have sz3 : ∀ b o, h3.get? b = some o → b ≠ h3.objs.size := fun b o e => Nat.ne_of_lt (Heap.lt_size e)
    have k' : ∀ b o, h3.get? b = some o → h'.get? b = some o := fun b o e => hsb.extBut b o (sz3 b o e) (Heap.get?_push_of_some _ e)
    have hsz' : h'.objs.size = h3.objs.size + 1 := by rw [hsb.1]; exact Heap.size_push ..
    generalize hgobj : ({ cls := .type "generator", data := .fields #[.int s2.gens.size 0, .str "<genexpr>" (tk + 1), .str (X.env.qual ++ "<genexpr>") (tk + 1 + 1)] } : Obj) = gob
    have k5 : ∀ b o, h3.get? b = some o → (h'.push gob).get? b = some o := fun b o e => Heap.get?_push_of_some _ (k' b o e)
    have hgd : ∀ v, gob.data ≠ .cell v := fun v z => by rw [← hgobj] at z; cases z
    have hgp : (h'.push gob).get? h'.objs.size = some gob := by rw [← hgobj]; exact Heap.get?_push_size _ rfl
    have hgen : ∀ hh : Heap, hh.get? h'.objs.size = some gob → hh.IsGen h'.objs.size s2.gens.size := fun hh e => by
      rw [← hgobj] at e
      exact ⟨_, _, _, e, rfl, rfl, rfl⟩
    generalize hcenv : genEnv scope (cloFrom X.env.cells scope.names []) h3.objs.size code builtinsNs X.env = cenv
    have hAf := over_frames (elt := elt) (iter := iter) (x := x) (px := px) (scope := scope) (pos := gpos) (it := .ref it) (cenv := cenv) (show X.A.in1.in1.frames = some X.stack from I3.ok.frames)
    have G0 := gcx_inv (A' := X.A.in1.in1.over (.compLoop (.GeneratorExp elt [⟨.Name x px, iter, [], 0⟩] scope gpos) 0 (.ref it) .none cenv) []) (code := code) (a := h'.objs.size) (go := gob) (gs := s2.gens.push (.fresh (.compStart (.GeneratorExp elt [⟨.Name x px, iter, [], 0⟩] scope gpos) 0 (.ref it) .none cenv))) (tk := tk + 1 + 1 + 1) (tn := tn)
      I3 S hr.hd (by rw [hAf, ← hcenv]) f3 (fun b hb => by obtain ⟨o, e, _⟩ := ob2 b hb; exact ⟨o, keepfp b hb o e⟩) (hns.push gob) k5 (by show h3.objs.size < _; omega) hgp hgd (I2.bare.push rfl) t3 (fun hh kk => T.keep 0 _ _ t3 kk)
    have hE := hel (X.A.in1.in1.over (.compLoop (.GeneratorExp elt [⟨.Name x px, iter, [], 0⟩] scope gpos) 0 (.ref it) .none cenv) []) { s2 with heap := h3, toks := tk } H3 h3.objs.size code fp (over_room hr)
    have cscope : cenv.scope = scope := by rw [← hcenv]; rfl
    have G0' := G0
    change GIn (gcx X _ _ _ _ (genEnv scope (cloFrom X.env.cells scope.names []) h3.objs.size code builtinsNs X.env) fp) _ _ _ _ _ _ _ at G0'
    rw [hcenv] at G0' hE
    have out : ∀ H' o s6 b, Inv (gcx X (X.A.in1.in1.over (.compLoop (.GeneratorExp elt [⟨.Name x px, iter, [], 0⟩] scope gpos) 0 (.ref it) .none cenv) []) (x :: caps.map (·.1)) { s2 with heap := h3, toks := tk } H3 cenv fp) [(h'.objs.size, gob)] (o :: capsOf σ caps) H' s6 → Q (.bl b) H' → EP X pins σ Q (.bool b) s6 := by
      intro H' o s6 b J hq
      exact ⟨.bl b, H', I3.call' (s' := s6) (ch := fp) J.os J.base J.hok J.bare (fun d hd => ⟨(f3 d hd).2.2.2.1, (f3 d hd).2.1, (f3 d hd).2.2.2.2.1, (f3 d hd).2.2.2.2.2⟩), rfl, hq⟩
    refine call_function_tree F.kind_all F.plain_all F.entry_all (F.args_all1 _) ?_
    unfold Builtin.«all»
    refine wpAny_bind (m := oneArg "all" _) (wpAny_pure ?_)
    refine wpAny_bind (wpAny_pyIter_gen (hgen _ hgp) ?_)
    refine wpAny_pure ⟨plainId_quiet F.plain_all_loop _, ?_⟩
    have gens_at : (s2.gens.push (.fresh (.compStart (.GeneratorExp elt [⟨.Name x px, iter, [], 0⟩] scope gpos) 0 (.ref it) .none cenv)))[s2.gens.size]? = some (.fresh (.compStart (.GeneratorExp elt [⟨.Name x px, iter, [], 0⟩] scope gpos) 0 (.ref it) .none cenv)) := Array.getElem?_push_size ..
    refine all_loop (Xg := gcx X (X.A.in1.in1.over (.compLoop (.GeneratorExp elt [⟨.Name x px, iter, [], 0⟩] scope gpos) 0 (.ref it) .none cenv) []) (x :: caps.map (·.1)) { s2 with heap := h3, toks := tk } H3 cenv fp) (pn := [(h'.objs.size, gob)]) (fp := fp) (tn := tn) (cv := capsOf σ caps) (n := n) (Iv := Iv) (Qf := fun H => Q (.bl false) H) (g := s2.gens.size) hr.hd hr.depth
      (fun i H s6 hG => ?_) (fun H o s6 J hv => ?_) (fun H o s6 J hv => ?_) n 0 _ H3 (Nat.sub_zero _) (Nat.zero_le _) G0' iv0 ⟨_, gens_at, ?_⟩
    · obtain ⟨o, J, _⟩ := hG
      exact hgen _ (J.pin (h'.objs.size, gob) (List.mem_append_right _ (List.mem_singleton.mpr rfl))).1
    · exact out H o s6 true J (hst H hv).2
    · exact out H o s6 false J hv
    · refine ⟨rfl, ?_⟩
      exact seg_first T S.nd (by rw [cscope]; exact S.gen.loc) (by rw [cscope]; exact S.gen.co) hE hgo (fun H hv => (hst H hv).1) hstep _ _ H3 (G0'.regen (bare_set (by obtain ⟨_, J, _⟩ := G0'; exact J.bare) rfl)) iv0
  cases hf : codeAmong gpos ps.toList with
  | none =>
    refine wpAny_genexprCodeX hcode (cd.code hPs ht) (cd.tab hPs) hf fun c' h' tk hx hge hlt hco' _ htab' _ => ?_
    obtain ⟨o1, vs, f1, tf, fl, tg, inF, tx, tt, op, _, _, _, _, _, _, _, _, _, htr, _⟩ := hco'
    exact cont _ h' tk _ hx htab'.2 ⟨_, rfl⟩ htr
  | some cv =>
    refine wpAny_genexprCode_hit hcode (cd.code hPs ht) hf ?_
    exact cont cv s2.heap s2.toks ps (Heap.ExtBut.refl _ _) hPs ⟨#[], by simp⟩ ht
end
end Pw

/-! all(..) on data. -/
namespace Pw
open PySem L2
section
variable {L : Pm} {G : Ctx} {F : Frm} {T : List Addr} {σ : St} {H : Hp}
theorem Sh.alt {G' : Ctx} {σ' : St} (s : Sh L G F T σ H) (hl : σ'.length = G'.length) (hd : ∀ (i : Nat) e, G'[i]? = some (some e) → ∃ d v, e = .d d ∧ σ'[i]? = some (some v) ∧ At (hide H T) d v) : Sh L G' F T σ' H where
  len := hl
  inT := s.inT
  sub := s.sub
  subM := s.subM
  one := s.one
  fresh := s.fresh
  keep := s.keep
  rows := s.rows
  gr := s.gr
  anc := s.anc
  held := s.held
  xs := s.xs
  tab := s.tab
  dat := fun i d e => by
    obtain ⟨d', v, h1, h2, h3⟩ := hd i _ e
    cases h1
    exact ⟨v, h2, h3⟩
  own := fun i ds e => by
    obtain ⟨d', v, h1, _⟩ := hd i _ e
    cases h1
  inj := fun i j ds es p e => by
    obtain ⟨d', v, h1, _⟩ := hd i _ e
    cases h1
  row := fun i e => by
    obtain ⟨d', v, h1, _⟩ := hd i _ e
    cases h1
  prg := fun i st e => by
    obtain ⟨d', v, h1, _⟩ := hd i _ e
    cases h1
  px := fun i j st e => by
    obtain ⟨d', v, h1, _⟩ := hd i _ e
    cases h1
theorem Gr.tabbed {H H2 : Hp} {P : Addr} (t : GxR.TabG H P) (h : GxR.Tabbed P H H2) : Gr H H2 where
  o := fun a u e n => by
    by_cases z : a = P
    · obtain ⟨ps, e2, _⟩ := t
      rw [z, e2] at e
      cases e
      exact absurd rfl (n ps)
    · rw [h.2 a z]
      exact e
  t := fun Q q => by
    by_cases z : Q = P
    · rw [z]; exact h.1
    · obtain ⟨ps, e, r⟩ := q
      exact ⟨ps, by rw [h.2 Q z]; exact e, r⟩
  n := fun a e => by
    by_cases z : a = P
    · obtain ⟨ps, e2, _⟩ := h.1
      rw [z, e2] at e
      cases e
    · rw [← h.2 a z]
      exact e
def capE : Option (Option Ent) → Option Ent
  | some (some (.d d)) => some (.d d)
  | _ => none
def capC (G : Ctx) (caps : List (Str × Nat)) : Ctx := caps.map fun p => capE G[p.2]?
theorem ev_allG {P : Addr} {wi : TI} {te : TE} {caps : List (Str × Nat)} {n : Nat} {item : Nat → D} {f : Nat → Bool} (hP : P ∈ L.Ps) (hs : Src L wi G n item)
    (he : ∀ i, i < n → (∀ j, j < i → f j = true) → Ev L te (some (.d (item i)) :: capC G caps) (.bl (f i))) : Ev L (tAllG P wi caps te) G (.bl ((List.range n).all f)) := fun F T σ H s Q q => by
  refine hs.run F T σ H s _ fun J H1 Gd Y n' item' p s1 w hG hY => ?_
  obtain ⟨rfl, rfl⟩ := p
  have S1 := s.step s1
  have t1 := (TabG_hide.mp (S1.tab P hP)).2
  refine ⟨t1, fun H2 hT => ?_⟩
  have s2 : Step L F T H1 H2 := Step.of_gr S1 (Gr.tabbed t1 hT)
  have gd : ∀ {H'}, Step L F T H2 H' → Gd H' := fun {H'} s3 => hG H' T (s2.gr.trans s3.gr)
  refine ⟨n', fun i H' => Step L F T H2 H' ∧ ∀ j, j < i → f j = true, ⟨Step.refl (S1.step s2), fun j hj => absurd hj (Nat.not_lt_zero _)⟩, fun i H' hi hv => w.goes i H' hi (gd hv.1), fun H' hv => ⟨w.stops H' (gd hv.1), ?_⟩, fun i y H' H3 hi hv hy => ?_⟩
  · have e : (List.range n').all f = true := List.all_eq_true.mpr fun j hj => hv.2 j (List.mem_range.mp hj)
    rw [e] at q
    exact q _ _ H' rfl ((s1.trans s2).trans hv.1) (at_bl.mpr rfl)
  · have S3 := (S1.step s2).step hv.1
    obtain ⟨s4, a4⟩ := hY i H' y H3 F T G σ hi (s2.gr.trans hv.1.gr) S3 (w.yields i H' y H3 hi (gd hv.1) hy)
    have S4 := S3.step s4
    refine he i hi hv.2 F T _ H3 (S4.alt (by unfold capsOf capC; simp) fun j e hj => ?_) _ fun d v H5 hd s5 a5 => ?_
    · cases j with
      | zero =>
        cases hj
        exact ⟨_, y, rfl, rfl, a4⟩
      | succ j =>
        have hj : (capC G caps)[j]? = some (some e) := hj
        unfold capC at hj
        rw [List.getElem?_map] at hj
        cases hq : caps[j]? with
        | none => rw [hq] at hj; cases hj
        | some p =>
          rw [hq] at hj
          injection hj with hj
          have hj : capE G[p.2]? = some e := hj
          unfold capE at hj
          split at hj
          · rename_i d hd
            cases hj
            obtain ⟨v, h1, h2⟩ := S4.dat p.2 d hd
            refine ⟨d, v, rfl, ?_, h2⟩
            show (capsOf σ caps)[j]? = _
            unfold capsOf
            rw [List.getElem?_map, hq]
            show some (σ.getD p.2 none) = _
            rw [List.getD_eq_getElem?_getD, h1]
            rfl
          · cases hj
    · subst hd
      refine ⟨f i, at_bl.mp a5, fun hb => ⟨(hv.1.trans s4).trans s5, fun j hj => ?_⟩, fun hb => ?_⟩
      · rcases Nat.lt_or_ge j i with z | z
        · exact hv.2 j z
        · rw [show j = i by omega]; exact hb
      · have e : (List.range n').all f = false := by
          rw [Bool.eq_false_iff]
          intro z
          rw [List.all_eq_true.mp z i (List.mem_range.mpr hi)] at hb
          cases hb
        rw [e] at q
        exact q _ _ H5 rfl ((s1.trans s2).trans ((hv.1.trans s4).trans s5)) (at_bl.mpr rfl)
end
end Pw

/-! More that a loop walks: enumerate of a tuple, zip of tuples, of a list and a tuple. -/
namespace Pw
open PySem PySem.Spec PyProof.Rows L2 PySem.W
theorem apart_iter {h : Heap} {a it t : Addr} {items : Array Value} {i : Nat} (x : h.IsTuple a items) (y : h.IsTupleIter it t i) : a ≠ it := fun z => by
  obtain ⟨o, e, c, _⟩ := x
  obtain ⟨o2, e2, c2, _⟩ := y
  rw [z, e2] at e
  cases e
  rw [c] at c2
  exact absurd c2 (by decide +kernel)
theorem apart_enum {h : Heap} {a e it : Addr} {items : Array Value} {k : Int} {old : Value} (x : h.IsTuple a items) (y : IsEnum h e it k old) : e ≠ a := fun z => by
  obtain ⟨o, q, c, _⟩ := x
  have y : h.get? e = some _ := y
  rw [z, q] at y
  cases y
  exact absurd c (by show ¬ (Value.type "enumerate" = .type "tuple"); decide +kernel)
/-- the tuple at a, each item in a new pair -/
def IteT (K : PySem.W.Frag) (a : Addr) : It :=
  ⟨fun i H => ∃ (xs : List V) (x : V), SqT K H a xs ∧ xs[i]? = some x, fun i H v H' => ∃ T x, v = .ref T ∧ H T = none ∧ H' = upd H T (.tup [.int (i : Nat), x]) ∧ ∀ xs, SqT K H a xs → xs[i]? = some x, fun i H => ∃ xs : List V, SqT K H a xs ∧ xs.length = i⟩
theorem turn_enumT {P : Program} {w : World} {K : PySem.W.Frag} {elts : List Expr} {kk : Nat} {tpos : Pos} (a e it : Addr) :
    Turn P w K (.Tuple elts kk tpos) (IteT K a) [e, it] e (fun i h => (∃ old, IsEnum h e it ((i : Nat) : Int) old) ∧ h.IsTupleIter it a i ∧ e ≠ it) where
  mem := by simp
  obj := fun i h st b hb => by
    obtain ⟨⟨old, he⟩, ⟨o, ho, hc, hd⟩, _⟩ := st
    rcases List.mem_cons.mp hb with z | z
    · rw [z]; exact ⟨_, he, fun v q => nomatch q⟩
    · rw [List.mem_singleton.mp z]; exact ⟨o, ho, fun v q => by rw [hd] at q; cases q⟩
  keep := fun i h h' st k => let ⟨⟨old, he⟩, hi, hne⟩ := st; ⟨⟨old, k e List.mem_cons_self _ he⟩, hi.at fun o q => k it (List.mem_cons_of_mem _ List.mem_cons_self) o q, hne⟩
  item := by
    intro X hP hw hK hc i pins s σ H E I hf st hg
    subst hP hw hK
    obtain ⟨⟨old, he⟩, hit, hne⟩ := st
    obtain ⟨xs, x, hq, hx⟩ := hg
    obtain ⟨its, rv, p, _⟩ := I.tuple hq
    obtain ⟨u, hu, ru⟩ := rv.get hx
    have p' : s.heap.IsTuple a its.toArray := p
    have hel : e < s.heap.objs.size := Heap.lt_size he
    have hil : it < s.heap.objs.size := by obtain ⟨_, q, _⟩ := hit; exact Heap.lt_size q
    have hlt : i < its.toArray.size := by
      have := (List.getElem?_eq_some_iff.mp hu).1
      simpa using this
    refine wpAny_pyNext_enum_itemD (Draws.tuple (A := X.A.in1) (I.ok.hd hc) it a (apart_iter p' hit) its.toArray) he ⟨hit, p'⟩ hlt hne (fun z => by
      rcases List.mem_cons.mp z with z | z
      · exact hne z
      · exact apart_enum p' he (List.mem_singleton.mp z)) fun y h' tk hy ho hit' hT hsz hk => ?_
    obtain rfl : u = y := by
      have hy' : its.toArray[i]? = some y := hy
      have hu' : its.toArray[i]? = some u := by simpa using hu
      rw [hu'] at hy'
      exact Option.some.inj hy'
    refine ⟨_, rfl, wpAny_letOwnedTupleGo_enum (s := { s with heap := h', toks := tk + 1 }) ho fun h'' he' sb => ?_⟩
    have hT2 : h''.get? s.heap.objs.size = some { cls := .type "tuple", data := .seq #[.int i tk, u] } := (sb.2 _ (Nat.ne_of_gt hel)).trans hT
    have new : ObjOk X.prog X.w (upd H s.heap.objs.size (.tup [.int (i : Nat), x])) h'' s.heap.objs.size (.tup [.int (i : Nat), x]) :=
      ⟨by show 2 ≤ sizeLine; decide, [.int i tk, u], .cons ⟨_, rfl⟩ (.cons ru .nil), ⟨_, hT2, rfl, _, rfl⟩⟩
    have I1 : Inv X pins σ (upd H s.heap.objs.size (.tup [.int (i : Nat), x])) { s with heap := h'', toks := tk + 1 } :=
      I.turnedNew (ch := [e, it]) (fun b ob hb q => (sb.2 b (fun z => hb (by simp [z]))).trans (hk b ob (fun z => hb (by simp [z])) (fun z => hb (by simp [z])) q)) hf (Nat.le_refl _) new
    refine ⟨.ref s.heap.objs.size, _, I1, rfl, ⟨_, x, rfl, I.hok.fresh (Nat.le_refl _), rfl, fun ys hy => by rw [I.tuple_inj hy hq]; exact hx⟩, ⟨⟨u, ?_⟩, hit'.1.at fun o q => (sb.2 it (Ne.symm hne)).trans q, hne⟩, fun b hb => ?_⟩
    · have e1 : ((i + 1 : Nat) : Int) = (i : Int) + 1 := by omega
      rw [e1]; exact he'
    · have hb' : b < s.heap.objs.size := by
        rcases List.mem_cons.mp hb with z | z
        · rw [z]; exact hel
        · rw [List.mem_singleton.mp z]; exact hil
      rw [upd_ne (Nat.ne_of_lt hb')]
      exact (hf b hb).1
  done := by
    intro X hP hw hK hc i pins s σ H E I hf st hg
    subst hP hw hK
    obtain ⟨⟨old, he⟩, hit, hne⟩ := st
    obtain ⟨xs, hq, hx⟩ := hg
    obtain ⟨its, rv, p, _⟩ := I.tuple hq
    have p' : s.heap.IsTuple a its.toArray := p
    obtain ⟨f0, f1, f2, f3, f4, f5⟩ := hf it (List.mem_cons_of_mem _ List.mem_cons_self)
    have hsz : i = its.toArray.size := by
      have := rv.length
      rw [List.size_toArray, ← this, hx]
    refine wpAny_pyNext_enum_endD (Draws.tuple (A := X.A.in1) (I.ok.hd hc) it a (apart_iter p' hit) its.toArray) he ⟨by rw [← hsz]; exact hit, p'⟩ fun h' eb => ⟨rfl, I.turned (t' := s.toks) (fun b o hb q => eb b o hb q) f0 f1 f3 f4 f5⟩
  self := fun A i s Q E st h => let ⟨⟨_, he⟩, _⟩ := st; wpAny_pyIter_enum he h
theorem meets_enumT {v : Value} {o : Obj} {H : Heap → Prop} (B : Begins v o H) :
    Meets (Builtin.«enumerate.__new__» ⟨[.type "enumerate", v], []⟩) (fun _ R s => H s.heap ∧
      R (.ok (.ret (.ref (s.heap.push o).objs.size))) { s with heap := (s.heap.push o).push { cls := .type "enumerate", data := .fields #[.none, .bool false, .ref s.heap.objs.size, rawInt 0, .none, .none] } }) :=
  .of_wp fun prog w A R s h => by
    obtain ⟨hp, g, d, tk, os⟩ := s; obtain ⟨h1, h⟩ := h
    have hsub := sub_enumerate
    have q1 : ∀ {A' : Around} {E : Value → Shared → Prop} {Q : Value → Shared → Prop}, Q (.ref hp.objs.size) ⟨hp.push o, g, d, tk, os⟩ → wpAny (model prog w) A' (pyIter v) Q E ⟨hp, g, d, tk, os⟩ :=
      fun q => B.iter prog w _ _ ⟨hp, g, d, tk, os⟩ _ h1 q
    wp_walk using q1
    refine wpAny_stack_any fun st => wpAny_pure ?_
    split
    · rename_i c _ _ _ _ _
      cases (c == Value.type "enumerate")
      · wp_walk using q1
        exact ⟨_, rfl, h⟩
      · wp_walk using q1
        exact ⟨_, rfl, h⟩
    · wp_walk using q1
      exact ⟨_, rfl, h⟩
theorem enum_beginsT {prog : Program} {w : World} {A : Around} {E : Value → Shared → Prop} {s : Shared} {v : Value} {o : Obj} {H : Heap → Prop} {Q : Value → Shared → Prop} (B : Begins v o H) (h1 : H s.heap)
    (h : ∀ h', IsEnum h' (s.heap.objs.size + 1) s.heap.objs.size 0 .none → h'.get? s.heap.objs.size = some o → h'.objs.size = s.heap.objs.size + 2 →
      (∀ b o, s.heap.get? b = some o → h'.get? b = some o) → Q (.ref (s.heap.objs.size + 1)) { s with heap := h' }) :
    wpAny (model prog w) A (call (.type "enumerate") [v]) Q E s := by
  refine callType_new F.called_enumerate (by decide) (F.typeCall_enumerate_1 _) (F.newCall_enumerate_1 _) (fun obj => F.args_object_init_2 obj _) F.entry_enumerate_new
    (meets_enumT B) ⟨h1, ?_⟩
  have hz : (s.heap.push o).objs.size = s.heap.objs.size + 1 := Heap.size_push ..
  show _ ∧ _
  rw [hz]
  have he : IsEnum ((s.heap.push o).push { cls := .type "enumerate", data := .fields #[.none, .bool false, .ref s.heap.objs.size, rawInt 0, .none, .none] }) (s.heap.objs.size + 1) s.heap.objs.size 0 .none := by
    have := Heap.get?_push_size (s.heap.push o) (o := { cls := .type "enumerate", data := .fields #[.none, .bool false, .ref s.heap.objs.size, rawInt 0, .none, .none] }) rfl
    rw [hz] at this; exact this
  exact ⟨⟨_, he, rfl⟩, h _ he (Heap.get?_push_of_some _ (Heap.get?_push_size _ B.free)) (by rw [Heap.size_push, hz]) fun b o x => Heap.get?_push_of_some _ (Heap.get?_push_of_some _ x)⟩
def iEnumT (K : PySem.W.Frag) (ta : TA) : TI := fun σ H R => ta σ H fun vs H1 => ∃ a xs, vs = [.ref a] ∧ SqT K H1 a xs ∧ R (IteT K a) H1
theorem pi_enumT {X : Cx} {e : Expr} {ta : TA} {p pos tpos : Pos} {elts : List Expr} {kk : Nat} (hg : Gl X "enumerate") (hm : X.mg "enumerate" = none) (ha : PA X [e] ta) (hs : starEach [e] X.env = [(false, eval e X.env)] := by rfl) :
    PI X (.Tuple elts kk tpos) (.Call (.Name "enumerate" p) [e] [] pos) (iEnumT X.K ta) := by
  refine ⟨fun pins s σ H R I h => ?_⟩
  refine Call_ (ld_blt I hg hm boot_enumerate (PyProof.Rows.callWith_type1 (thn (ha.run pos pins s σ H _ I h) fun us s1 ⟨vs, H1, I1, r1, q1⟩ => ?_) hs rfl))
  obtain ⟨a, xs, ex, hq, q⟩ := q1
  subst ex
  cases r1 with
  | cons r rr =>
    cases rr
    cases r
    obtain ⟨its, rv, p', _⟩ := I1.tuple hq
    refine enum_beginsT (begins_tuple a its.toArray) p' fun h' he hit hsz hk => wpAny_pyIter_enum he ?_
    have I2 : Inv X pins σ H1 { s1 with heap := h' } := I1.kept (t' := s1.toks) hk
    refine ⟨s1.heap.objs.size + 1, [s1.heap.objs.size + 1, s1.heap.objs.size], _, _, H1, rfl, I2, turn_enumT a (s1.heap.objs.size + 1) s1.heap.objs.size, ⟨⟨.none, he⟩, ⟨_, hit, rfl, rfl⟩, Nat.succ_ne_self _⟩, fun b hb => ?_, q⟩
    have hle : s1.heap.objs.size ≤ b := by
      rcases List.mem_cons.mp hb with z | z
      · rw [z]; exact Nat.le_add_right _ _
      · rw [List.mem_singleton.mp z]; exact Nat.le_refl _
    exact I1.fpOk hle (I1.hok.fresh hle)
theorem walk_enumT {K : PySem.W.Frag} {a : Addr} {xs : List V} : Walk (IteT K a) xs.length (fun H => SqT K H a xs) (YPair (fun i => some (.int (i : Nat))) (fun i => xs[i]?)) where
  goes := fun i H hi h => ⟨xs, xs[i], h, List.getElem?_eq_getElem hi⟩
  stops := fun H h => ⟨xs, h, rfl⟩
  yields := fun i H x H' hi h y => by
    obtain ⟨T, z, e1, e2, e3, e4⟩ := y
    exact ⟨T, _, z, e1, e2, e3, rfl, e4 xs h⟩
section
variable {L : Pm} {G : Ctx} {te : TE} {ta : TA}
theorem src_enumT {ds : List D} (h : EvA L ta G [.tup ds]) : Src L (iEnumT L.K ta) G ds.length (fun i => .tup [.int (i : Int), ds.getD i .non]) := ⟨fun F T σ H s R r => h F T σ H s _ fun es vs H1 e s1 a => by
  subst e
  obtain ⟨x, xs0, e, a1, a2⟩ := ats_cons.mp a
  obtain ⟨p, xs, e1, h1, h2, h3⟩ := see_tup a1
  rw [e1, ats_nil.mp a2] at e
  refine ⟨p, xs, e, SqT.of h1, r _ H1 (fun H2 => SqT L.K H2 p xs) _ _ _ ⟨rfl, rfl⟩ s1 (by rw [← h2.length]; exact walk_enumT) (fun H2 T2 g => ?_) fun i H2 x H3 F2 T2 G2 σ2 hi g s2 y => ?_⟩
  · exact SqT.of (hide_some (g.o p _ (by rw [hide_out h3]; exact h1) nt_tup)).2
  · refine pair_at s2 y (fun v hv => ?_) (fun v hv => ?_)
    · cases hv
      exact at_int.mpr rfl
    · obtain ⟨d, e2, a2⟩ := h2.get' hv
      rw [List.getD_eq_getElem?_getD, e2]
      exact At.gr g d v a2⟩
theorem walk_zipT {K : PySem.W.Frag} {a b : Addr} {xs ys : List V} : Walk (RZ.ItzT K a b) (min xs.length ys.length) (fun H => SqT K H a xs ∧ SqT K H b ys) (YPair (fun i => xs[i]?) (fun i => ys[i]?)) where
  goes := fun i H hi h => ⟨xs, ys, xs[i]'(by omega), ys[i]'(by omega), h.1, h.2, List.getElem?_eq_getElem _, List.getElem?_eq_getElem _⟩
  stops := fun H h => ⟨xs, ys, h.1, h.2, by omega⟩
  yields := fun i H x H' hi h y => by
    obtain ⟨T, z, w, e1, e2, e3, e4, e5⟩ := y
    exact ⟨T, z, w, e1, e2, e3, e4 xs h.1, e5 ys h.2⟩
theorem src_zipT {ds es : List D} (h : EvA L ta G [.tup ds, .tup es]) : Src L (RZ.iZipA L.K ta) G (min ds.length es.length) (fun i => .tup [ds.getD i .non, es.getD i .non]) := ⟨fun F T σ H s R r => h F T σ H s _ fun zs vs H1 e s1 a => by
  subst e
  obtain ⟨x, xs0, e, a1, a2⟩ := ats_cons.mp a
  obtain ⟨x2, xs1, e', a3, a4⟩ := ats_cons.mp a2
  obtain ⟨p, xs, e1, h1, h2, h3⟩ := see_tup a1
  obtain ⟨p2, ys, e2, g1, g2, g3⟩ := see_tup a3
  rw [e', e1, e2, ats_nil.mp a4] at e
  refine ⟨p, p2, xs, ys, e, .inr ⟨SqT.of h1, SqT.of g1, r _ H1 (fun H2 => SqT L.K H2 p xs ∧ SqT L.K H2 p2 ys) _ _ _ ⟨rfl, rfl⟩ s1 (by rw [← h2.length, ← g2.length]; exact walk_zipT) (fun H2 T2 g => ⟨?_, ?_⟩) fun i H2 x H3 F2 T2 G2 σ2 hi g s2 y => ?_⟩⟩
  · exact SqT.of (hide_some (g.o p _ (by rw [hide_out h3]; exact h1) nt_tup)).2
  · exact SqT.of (hide_some (g.o p2 _ (by rw [hide_out g3]; exact g1) nt_tup)).2
  · refine pair_at s2 y (fun v hv => ?_) (fun v hv => ?_)
    · obtain ⟨d, e2, a2⟩ := h2.get' hv
      rw [List.getD_eq_getElem?_getD, e2]
      exact At.gr g d v a2
    · obtain ⟨d, e2, a2⟩ := g2.get' hv
      rw [List.getD_eq_getElem?_getD, e2]
      exact At.gr g d v a2⟩
end
end Pw

/-! zip of a list and a tuple; range with a step. -/
namespace Pw
open PySem PySem.Spec PyProof.Rows L2 PySem.W
theorem apart_listIter {h : Heap} {a it t : Addr} {items : Array Value} {i : Nat} (x : h.IsList a items) (y : h.IsListIter it t i) : a ≠ it := fun z => by
  obtain ⟨o, e, c, _⟩ := x
  obtain ⟨o2, e2, c2, _⟩ := y
  rw [z, e2] at e
  cases e
  rw [c] at c2
  exact absurd c2 (by decide +kernel)
def ItzLT (K : PySem.W.Frag) (a b : Addr) : It :=
  ⟨fun i H => ∃ (xs ys : List V) (x y : V), SqL K H a xs ∧ SqT K H b ys ∧ xs[i]? = some x ∧ ys[i]? = some y,
    fun i H v H' => ∃ T x y, v = .ref T ∧ H T = none ∧ H' = upd H T (.tup [x, y]) ∧ (∀ xs, SqL K H a xs → xs[i]? = some x) ∧ ∀ ys, SqT K H b ys → ys[i]? = some y,
    fun i H => ∃ xs ys : List V, SqL K H a xs ∧ SqT K H b ys ∧ i = min xs.length ys.length⟩
theorem turn_zipLT {P : Program} {w : World} {K : PySem.W.Frag} {elts : List Expr} {kk : Nat} {tpos : Pos} {a b z TI TO i1 i2 : Addr} (D : ZipSep2 z TI TO i1 i2 [i1, a] [i2, b]) :
    Turn P w K (.Tuple elts kk tpos) (ItzLT K a b) [z, TI, TO, i1, i2] z (fun i h => IsZip h z TI TO .none ∧ IsTupOf2 h TI (.ref i1) (.ref i2) ∧ (∃ x y, IsTupOf2 h TO x y) ∧ h.IsListIter i1 a i ∧ h.IsTupleIter i2 b i) where
  mem := by simp
  obj := fun i h st c hc => by
    obtain ⟨hz, hTI, ⟨x, y, hTO⟩, ⟨o1, e1, _, d1⟩, ⟨o2, e2, _, d2⟩⟩ := st
    have e' : c = z ∨ c = TI ∨ c = TO ∨ c = i1 ∨ c = i2 := by simpa using hc
    rcases e' with q | q | q | q | q
    · rw [q]; exact ⟨_, hz, fun v q => nomatch q⟩
    · rw [q]; exact ⟨_, hTI, fun v q => nomatch q⟩
    · rw [q]; exact ⟨_, hTO, fun v q => nomatch q⟩
    · rw [q]; exact ⟨o1, e1, fun v q => by rw [d1] at q; cases q⟩
    · rw [q]; exact ⟨o2, e2, fun v q => by rw [d2] at q; cases q⟩
  keep := fun i h h' st k => by
    obtain ⟨hz, hTI, ⟨x, y, hTO⟩, h1, h2⟩ := st
    exact ⟨k z (by simp) _ hz, k TI (by simp) _ hTI, ⟨x, y, k TO (by simp) _ hTO⟩, h1.at fun o q => k i1 (by simp) o q, h2.at fun o q => k i2 (by simp) o q⟩
  item := by
    intro X hP hw hK hc i pins s σ H E I hf st hg
    subst hP hw hK
    obtain ⟨hz, hTI, ⟨x0, y0, hTO⟩, h1, h2⟩ := st
    obtain ⟨xs, ys, x, y, hqx, hqy, hx, hy⟩ := hg
    obtain ⟨its, rv, p, _⟩ := I.list hqx
    obtain ⟨its2, rv2, p2, _⟩ := I.tuple hqy
    obtain ⟨u, hu, ru⟩ := rv.get hx
    obtain ⟨u2, hu2, ru2⟩ := rv2.get hy
    have p' : s.heap.IsList a its.toArray := p.isList
    have p2' : s.heap.IsTuple b its2.toArray := p2
    have hzl : z < s.heap.objs.size := Heap.lt_size hz
    have l1 : i < its.toArray.size := by simpa using (List.getElem?_eq_some_iff.mp hu).1
    have l2 : i < its2.toArray.size := by simpa using (List.getElem?_eq_some_iff.mp hu2).1
    refine wpAny_pyNext_zipD2_item D (Draws.list (A := X.A.in1) (I.ok.hd hc) i1 a (apart_listIter p' h1) its.toArray) (Draws.tuple (A := X.A.in1) (I.ok.hd hc) i2 b (apart_iter p2' h2) its2.toArray) hz hTI hTO ⟨h1, p'⟩ ⟨h2, p2'⟩ l1 l2 fun v1 v2 h' tk y1 y2 z' TO' d1 d2 hT hsz hk => ?_
    obtain rfl : u = v1 := by
      have hy' : its.toArray[i]? = some v1 := y1
      have hu' : its.toArray[i]? = some u := by simpa using hu
      rw [hu'] at hy'
      exact Option.some.inj hy'
    obtain rfl : u2 = v2 := by
      have hy' : its2.toArray[i]? = some v2 := y2
      have hu' : its2.toArray[i]? = some u2 := by simpa using hu2
      rw [hu'] at hy'
      exact Option.some.inj hy'
    refine ⟨_, rfl, wpAny_letOwnedTupleGo_zip (s := { s with heap := h', toks := tk }) z' fun h'' z'' sb => ?_⟩
    have hT2 : h''.get? s.heap.objs.size = some { cls := .type "tuple", data := .seq #[u, u2] } := (sb.2 _ (Nat.ne_of_gt hzl)).trans hT
    have new : ObjOk X.prog X.w (upd H s.heap.objs.size (.tup [x, y])) h'' s.heap.objs.size (.tup [x, y]) :=
      ⟨by show 2 ≤ sizeLine; decide, [u, u2], .cons ru (.cons ru2 .nil), ⟨_, hT2, rfl, _, rfl⟩⟩
    have I1 : Inv X pins σ (upd H s.heap.objs.size (.tup [x, y])) { s with heap := h'', toks := tk } :=
      I.turnedNew (ch := [z, TI, TO, i1, i2]) (fun c o hb q => (sb.2 c (fun q' => hb (by simp [q']))).trans (hk c o (fun q' => hb (by simp [q'])) (fun q' => hb (by simp [q'])) (fun q' => hb (by simp [q'])) (fun q' => hb (by simp [q'])) q)) hf (Nat.le_refl _) new
    refine ⟨.ref s.heap.objs.size, _, I1, rfl, ⟨_, x, y, rfl, I.hok.fresh (Nat.le_refl _), rfl, fun l hl => by rw [I.list_inj hl hqx]; exact hx, fun l hl => by rw [I.tuple_inj hl hqy]; exact hy⟩, ⟨z'', ?_, ⟨u, u2, ?_⟩, ?_, ?_⟩, fun c hcm => ?_⟩
    · exact (sb.2 _ D.TIz).trans (hk _ _ D.TIz D.TITO D.TIi1 D.TIi2 hTI)
    · exact (sb.2 _ D.TOz).trans TO'
    · exact d1.1.at fun o q => (sb.2 _ D.zi1.symm).trans q
    · exact d2.1.at fun o q => (sb.2 _ D.zi2.symm).trans q
    · have hlt : c < s.heap.objs.size := by
        have e' : c = z ∨ c = TI ∨ c = TO ∨ c = i1 ∨ c = i2 := by simpa using hcm
        rcases e' with q | q | q | q | q
        · rw [q]; exact hzl
        · rw [q]; exact Heap.lt_size hTI
        · rw [q]; exact Heap.lt_size hTO
        · rw [q]; obtain ⟨_, e1, _⟩ := h1; exact Heap.lt_size e1
        · rw [q]; obtain ⟨_, e2, _⟩ := h2; exact Heap.lt_size e2
      rw [upd_ne (Nat.ne_of_lt hlt)]
      exact (hf c hcm).1
  done := by
    intro X hP hw hK hc i pins s σ H E I hf st hg
    subst hP hw hK
    obtain ⟨hz, hTI, ⟨x0, y0, hTO⟩, h1, h2⟩ := st
    obtain ⟨xs, ys, hqx, hqy, hend⟩ := hg
    obtain ⟨its, rv, p, _⟩ := I.list hqx
    obtain ⟨its2, rv2, p2, _⟩ := I.tuple hqy
    have p' : s.heap.IsList a its.toArray := p.isList
    have p2' : s.heap.IsTuple b its2.toArray := p2
    have l1 := rv.length
    have l2 := rv2.length
    exact wpAny_pyNext_zipD2_end D (Draws.list (A := X.A.in1) (I.ok.hd hc) i1 a (apart_listIter p' h1) its.toArray) (Draws.tuple (A := X.A.in1) (I.ok.hd hc) i2 b (apart_iter p2' h2) its2.toArray) hz hTI hTO ⟨h1, p'⟩ ⟨h2, p2'⟩ (by rw [List.size_toArray]; omega) (by rw [List.size_toArray]; omega)
      (by rw [List.size_toArray, List.size_toArray]; omega) fun h' tk hk => ⟨rfl, I.turnedL (t' := tk) (ch := [z, TI, TO, i1, i2]) (fun c o hb q =>
      hk c o (fun q' => hb (by simp [q'])) (fun q' => hb (by simp [q'])) (fun q' => hb (by simp [q'])) (fun q' => hb (by simp [q'])) q) hf⟩
  self := fun A i s Q E st h => wpAny_pyIter_zip st.1 h
def iZipLT (K : PySem.W.Frag) (ta : TA) : TI := fun σ H R => ta σ H fun vs H1 => ∃ a b xs ys, vs = [.ref a, .ref b] ∧ SqL K H1 a xs ∧ SqT K H1 b ys ∧ R (ItzLT K a b) H1
theorem pi_zipLT {X : Cx} {e e2 : Expr} {ta : TA} {p pos tpos : Pos} {elts : List Expr} {kk : Nat} (hg : Gl X "zip") (hm : X.mg "zip" = none) (ha : PA X [e, e2] ta)
    (hs : starEach [e, e2] X.env = (false, eval e X.env) :: starEach [e2] X.env := by rfl) (hpl : (backTo pos (starEach [e2] X.env)).any (·.1) = false := by rfl) :
    PI X (.Tuple elts kk tpos) (.Call (.Name "zip" p) [e, e2] [] pos) (iZipLT X.K ta) := by
  refine ⟨fun pins s σ H R I h => ?_⟩
  refine Call_ (ld_blt I hg hm PyProof.Rows.boot_zip (PyProof.Rows.callWith_type1 (thn (ha.run pos pins s σ H _ I h) fun us s1 ⟨vs, H1, I1, r1, q1⟩ => ?_) hs hpl))
  obtain ⟨a, b, xs, ys, ex, hqx, hqy, q⟩ := q1
  subst ex
  cases r1 with
  | cons r rr =>
    cases rr with
    | cons r' rr =>
      cases rr
      cases r
      cases r'
      obtain ⟨its, rv, p1, _⟩ := I1.list hqx
      obtain ⟨its2, rv2, p2, _⟩ := I1.tuple hqy
      obtain ⟨o2, ho2, _⟩ := id p2
      refine zip_begins2 (begins_list a its.toArray) (begins_tuple b its2.toArray) p1.isList p2 fun h' hz hTI hTO h1 h2 hsz hk => wpAny_pyIter_zip hz ?_
      have I2 : Inv X pins σ H1 { s1 with heap := h' } := I1.kept (t' := s1.toks) hk
      refine ⟨s1.heap.objs.size + 4, [s1.heap.objs.size + 4, s1.heap.objs.size + 2, s1.heap.objs.size + 3, s1.heap.objs.size, s1.heap.objs.size + 1], _, _, H1, rfl, I2, turn_zipLT (zip_sep2 (N := s1.heap.objs.size) (fp1 := [a]) (fp2 := [b]) (fun c hc => by rw [List.mem_singleton.mp hc]; exact p1.lt) (fun c hc => by rw [List.mem_singleton.mp hc]; exact Heap.lt_size ho2)), ⟨hz, hTI, ⟨_, _, hTO⟩, ⟨_, h1, rfl, rfl⟩, ⟨_, h2, rfl, rfl⟩⟩, fun c hcm => ?_, q⟩
      have e' : c = s1.heap.objs.size + 4 ∨ c = s1.heap.objs.size + 2 ∨ c = s1.heap.objs.size + 3 ∨ c = s1.heap.objs.size ∨ c = s1.heap.objs.size + 1 := by simpa using hcm
      have hle : s1.heap.objs.size ≤ c := by
        rcases e' with z | z | z | z | z
        · rw [z]; exact Nat.le_add_right _ _
        · rw [z]; exact Nat.le_add_right _ _
        · rw [z]; exact Nat.le_add_right _ _
        · rw [z]; exact Nat.le_refl _
        · rw [z]; exact Nat.le_add_right _ _
      exact I1.fpOk hle (I1.hok.fresh hle)
theorem walk_zipLT {K : PySem.W.Frag} {a b : Addr} {xs ys : List V} : Walk (ItzLT K a b) (min xs.length ys.length) (fun H => SqL K H a xs ∧ SqT K H b ys) (YPair (fun i => xs[i]?) (fun i => ys[i]?)) where
  goes := fun i H hi h => ⟨xs, ys, xs[i]'(by omega), ys[i]'(by omega), h.1, h.2, List.getElem?_eq_getElem _, List.getElem?_eq_getElem _⟩
  stops := fun H h => ⟨xs, ys, h.1, h.2, rfl⟩
  yields := fun i H x H' hi h y => by
    obtain ⟨T, z, w, e1, e2, e3, e4, e5⟩ := y
    exact ⟨T, z, w, e1, e2, e3, e4 xs h.1, e5 ys h.2⟩
section
variable {L : Pm} {G : Ctx} {te : TE} {ta : TA}
theorem src_zipLT {ds es : List D} (h : EvA L ta G [.lst ds, .tup es]) : Src L (iZipLT L.K ta) G (min ds.length es.length) (fun i => .tup [ds.getD i .non, es.getD i .non]) := ⟨fun F T σ H s R r => h F T σ H s _ fun zs vs H1 e s1 a => by
  subst e
  obtain ⟨x, xs0, e, a1, a2⟩ := ats_cons.mp a
  obtain ⟨x2, xs1, e', a3, a4⟩ := ats_cons.mp a2
  obtain ⟨p, xs, e1, h1, h2, h3⟩ := see_lst a1
  obtain ⟨p2, ys, e2, g1, g2, g3⟩ := see_tup a3
  rw [e', e1, e2, ats_nil.mp a4] at e
  refine ⟨p, p2, xs, ys, e, SqL.of h1, SqT.of g1, r _ H1 (fun H2 => SqL L.K H2 p xs ∧ SqT L.K H2 p2 ys) _ _ _ ⟨rfl, rfl⟩ s1 (by rw [← h2.length, ← g2.length]; exact walk_zipLT) (fun H2 T2 g => ⟨?_, ?_⟩) fun i H2 x H3 F2 T2 G2 σ2 hi g s2 y => ?_⟩
  · exact SqL.of (hide_some (g.o p _ (by rw [hide_out h3]; exact h1) nt_lst)).2
  · exact SqT.of (hide_some (g.o p2 _ (by rw [hide_out g3]; exact g1) nt_tup)).2
  · refine pair_at s2 y (fun v hv => ?_) (fun v hv => ?_)
    · obtain ⟨d, e2, a2⟩ := h2.get' hv
      rw [List.getD_eq_getElem?_getD, e2]
      exact At.gr g d v a2
    · obtain ⟨d, e2, a2⟩ := g2.get' hv
      rw [List.getD_eq_getElem?_getD, e2]
      exact At.gr g d v a2⟩
/-- n, n - 1, .. , 0 -/
theorem src_down {n : Nat} (h : EvA L ta G [.int ((n : Int) - 1), .int (-1), .int (-1)]) (hn : n ≤ 100000) : Src L (iRng3 ta) G n (fun i => .int ((n : Int) - 1 - i)) := ⟨fun F T σ H s R r => h F T σ H s _ fun ds vs H1 p s1 a => by
  subst p
  obtain ⟨x, xs, e, a1, a2⟩ := ats_cons.mp a
  obtain ⟨x2, xs2, e2, a3, a4⟩ := ats_cons.mp a2
  obtain ⟨x3, xs3, e3, a5, a6⟩ := ats_cons.mp a4
  rw [e2, e3, at_int.mp a1, at_int.mp a3, at_int.mp a5, ats_nil.mp a6] at e
  have hr := RgC.neg (i := (n : Int) - 1) (j := -1) (by omega) (by omega) (by omega) (by omega)
  rw [show ((n : Int) - 1 - -1).toNat = n by omega] at hr
  refine ⟨_, _, _, n, e, hr, r _ H1 (fun _ => True) _ n _ ⟨rfl, rfl⟩ s1 walk_rangeC (fun _ _ _ => trivial) fun i H2 x H3 F2 T2 G2 σ2 hi g s2 y => ?_⟩
  obtain ⟨rfl, rfl⟩ := y
  exact ⟨Step.refl s2, at_int.mpr (congrArg V.int (by omega))⟩⟩
end
end Pw

/-! More operations on data: // by any divisor, tuple * int, ==, isinstance, truth. -/
namespace Pw
open PySem PySem.Spec PyProof.Rows L2
def CDivZ (i j : Int) : Prop := j ≠ 0 ∧ j.natAbs.log2 < 9000
theorem op_fdivZ {X : Cx} : OpR X (binaryOp .FloorDiv) (rI CDivZ fun i j => .int (i.fdiv j)) := opI fun _ _ _ _ _ _ _ hc q => floordiv_int hc.1 q (.inl (PyProof.noPylong_of_log2 hc.2))
theorem tuple_mul1 (l : Addr) (items : Array Value) (n : Nat) (dd : Option Addr) (sl : Array (Option Value)) (u : Tok) :
    Meets (Builtin.«tuple.__mul__» ⟨[.ref l, .int 1 u], []⟩) (fun _ R s => s.heap.get? l = some { cls := .type "tuple", dict := dd, data := .seq items n, slots := sl } ∧ R (.ok (.ret (Value.ref l))) s) :=
  .of_wp fun prog w A R s h => by
    obtain ⟨hp, g, d, tk, os⟩ := s
    obtain ⟨hl, h⟩ := h
    have f1 := AutoSeq1.idx_int
    have hc : (items.isEmpty || (1 : Int) == 1) = true := by simp
    wp_walk using wpAny_loadPart' hl
    simp only [hc, if_true]
    wp_walk using wpAny_loadPart' hl
    exact ⟨_, rfl, h⟩
theorem tuple_mul0 (l : Addr) (items : Array Value) (n : Nat) (dd : Option Addr) (sl : Array (Option Value)) (u : Tok) (he : items.isEmpty = false) :
    Meets (Builtin.«tuple.__mul__» ⟨[.ref l, .int 0 u], []⟩) (fun _ R s => s.heap.get? l = some { cls := .type "tuple", dict := dd, data := .seq items n, slots := sl } ∧
      R (.ok (.ret (Value.ref s.heap.objs.size))) { s with heap := s.heap.push { cls := Value.type "tuple", data := Data.seq #[] } }) :=
  .of_wp fun prog w A R s h => by
    obtain ⟨hp, g, d, tk, os⟩ := s
    obtain ⟨hl, h⟩ := h
    have f1 := AutoSeq1.idx_int
    have hc : (items.isEmpty || (0 : Int) == 1) = false := by rw [he]; rfl
    have hc2 : (decide ((0 : Int) ≤ 0) || items.isEmpty) = true := by simp
    wp_walk using wpAny_loadPart' hl
    exact ⟨_, rfl, h⟩
def rRepA (K : PySem.W.Frag) : R2 := fun x y H Q => ∃ l k xs, x = .ref l ∧ y = .int k ∧ SqT K H l xs ∧ xs ≠ [] ∧ 0 ≤ k ∧ k ≤ 1000 ∧ xs.length ≤ 1000 ∧ (k = 1 → Q (.ref l) H) ∧ (k ≠ 1 → ∀ p, H p = none → Q (.ref p) (upd H p (.tup (List.replicate k.toNat xs).flatten)))
theorem op_repA {X : Cx} : OpR X (binaryOp .Mult) (rRepA X.K) := by
  intro pins s σ H x y v u Q I rx ry h
  obtain ⟨l, k, xs, rfl, rfl, hT, hne, h0, h1, hz, q1, q2⟩ := h
  by_cases k2 : 2 ≤ k
  · exact op_repT pins s σ H _ _ v u Q I rx ry ⟨l, k, xs, rfl, rfl, hT, hne, k2, h1, hz, q2 (by omega)⟩
  cases rx
  obtain ⟨t, rfl⟩ := ry
  obtain ⟨its, r, ⟨⟨cls, dd, data, sl⟩, ho, hc, n, hd⟩, hs⟩ := I.tuple hT
  simp only at hc hd
  subst hc hd
  have hle : its.length = xs.length := r.length.symm
  have hi : its.toArray.isEmpty = false := by
    cases its with
    | nil => exact absurd (List.eq_nil_of_length_eq_zero hle.symm) hne
    | cons a b => rfl
  by_cases k1 : k = 1
  · subst k1
    exact wpAny_binaryOp_repeat_ref (T := "tuple") (U := "int") (by decide) ⟨_, ho, rfl⟩ (fun s' => typeIs_int s' 1 t) noFill_tuple_mul F.fills_int_mul F.slot_int_rmul repeat_tuple F.slot_int_index.lookup
      (call_meets F.slot_int_rmul (typeIs_int s 1 t) F.entry_int_rmul (F.args_int_rmul_2 _ _) (int_rmul_tuple 1 t l its.toArray n dd sl)
        ⟨ho, rfl, ⟨_, ho, rfl⟩, call_meets F.slot_tuple_mul ⟨_, ho, rfl⟩ F.entry_tuple_mul (F.args_tuple_mul_2 _ _) (tuple_mul1 l its.toArray n dd sl t) ⟨ho, ⟨.ref l, H, I, rfl, q1 rfl⟩⟩⟩)
  · obtain rfl : k = 0 := by omega
    refine wpAny_binaryOp_repeat_ref (T := "tuple") (U := "int") (by decide) ⟨_, ho, rfl⟩ (fun s' => typeIs_int s' 0 t) noFill_tuple_mul F.fills_int_mul F.slot_int_rmul repeat_tuple F.slot_int_index.lookup
      (call_meets F.slot_int_rmul (typeIs_int s 0 t) F.entry_int_rmul (F.args_int_rmul_2 _ _) (int_rmul_tuple 0 t l its.toArray n dd sl)
        ⟨ho, rfl, ⟨_, ho, rfl⟩, call_meets F.slot_tuple_mul ⟨_, ho, rfl⟩ F.entry_tuple_mul (F.args_tuple_mul_2 _ _) (tuple_mul0 l its.toArray n dd sl t hi) ⟨ho, ?_⟩⟩)
    refine ⟨.ref s.heap.objs.size, _, I.laid (t' := s.toks) (o := .tup (List.replicate (0 : Int).toNat xs).flatten) (fun b ob q => Heap.get?_push_of_some _ q) (Nat.le_refl _) ?_, rfl, q2 (by decide) _ (I.hok.fresh (Nat.le_refl _))⟩
    exact ⟨by show 0 ≤ sizeLine; exact Nat.zero_le _, [], .nil, IsTup.new _ _⟩
section
variable {L : Pm} {G : Ctx} {ta tb te : TE} {x y z d : D}
theorem r2_repA {ds : List D} {k : Int} (hk : 0 ≤ k ∧ k ≤ 1000) (hne : ds ≠ []) (hl : ds.length ≤ 100) : R2D L (rRepA L.K) (.tup ds) (.int k) (fun w => w = .tup (List.replicate k.toNat ds).flatten) := fun F T G σ H s v w a b Q q => by
  obtain ⟨p, xs, e, h1, h2, _⟩ := see_tup a
  rw [at_int.mp b, e]
  refine ⟨p, k, xs, rfl, rfl, SqT.of h1, fun z => ?_, hk.1, hk.2, by rw [h2.length]; omega, fun e1 => ?_, fun e1 p' hp => ?_⟩
  · have := h2.length
    rw [z] at this
    exact hne (List.eq_nil_of_length_eq_zero this.symm)
  · subst e1
    rw [show (List.replicate (1 : Int).toNat ds).flatten = ds by simp] at q
    exact q _ _ H rfl (Step.refl s) (by rw [← e]; exact a)
  · exact q _ _ _ rfl (step_new s hp) (at_new_tup s hp (ats_flat h2 _))
/-! ### == of data -/
mutual
def toPy : D → PyData
  | .non => .none
  | .bl b => .bool b
  | .int i => .int i
  | .str s => .str s
  | .tup ds => .tuple (toPys ds)
  | .lst ds => .list (toPys ds)
  | .dic => .none
def toPys : List D → List PyData
  | [] => []
  | d :: ds => toPy d :: toPys ds
end
mutual
def dOk : D → Bool
  | .non => true
  | .bl _ => true
  | .int _ => true
  | .str s => PyData.canLay0 (.str s)
  | .tup ds => dOks ds
  | .lst ds => dOks ds
  | .dic => false
def dOks : List D → Bool
  | [] => true
  | d :: ds => dOk d && dOks ds
end
mutual
theorem at_dp {K : PySem.W.Frag} {H : Hp} {T : List Addr} : ∀ (d : D) (v : V), dOk d = true → At (hide H T) d v → Dp K H v (toPy d)
  | .non, _, _, a => by rw [at_non.mp a]; exact .non
  | .bl b, _, _, a => by rw [at_bl.mp a]; exact .bl b
  | .int i, _, _, a => by rw [at_int.mp a]; exact .int i
  | .str i, _, _, a => by rw [at_str.mp a]; exact .str i
  | .tup ds, v, ok, a => by
    obtain ⟨p, xs, e, h1, h2, _⟩ := see_tup a
    rw [e]
    exact .tup (SqT.of h1) (at_dps ds xs ok h2)
  | .lst ds, v, ok, a => by
    obtain ⟨p, xs, e, h1, h2, _⟩ := see_lst a
    rw [e]
    exact .lst (SqL.of h1) (at_dps ds xs ok h2)
  | .dic, _, ok, _ => by cases ok
theorem at_dps {K : PySem.W.Frag} {H : Hp} {T : List Addr} : ∀ (ds : List D) (xs : List V), dOks ds = true → Ats (hide H T) ds xs → DpAll K H xs (toPys ds)
  | [], _, _, a => by rw [ats_nil.mp a]; exact .nil
  | d :: ds, _, ok, a => by
    obtain ⟨x, r, e, h1, h2⟩ := ats_cons.mp a
    rw [e]
    rw [dOks, Bool.and_eq_true] at ok
    exact .cons (at_dp d x ok.1 h1) (at_dps ds r ok.2 h2)
end
mutual
theorem can_of : ∀ (d : D), dOk d = true → (toPy d).canLay0 = true
  | .non, _ => rfl
  | .bl b, _ => rfl
  | .int i, _ => rfl
  | .str i, h => h
  | .tup ds, ok => by
    rw [dOk] at ok
    rw [toPy, PyData.canLay0]
    exact can_ofs ds ok
  | .lst ds, ok => by
    rw [dOk] at ok
    rw [toPy, PyData.canLay0]
    exact can_ofs ds ok
  | .dic, ok => by cases ok
theorem can_ofs : ∀ (ds : List D), dOks ds = true → PyData.canLayAll0 (toPys ds) = true
  | [], _ => rfl
  | d :: ds, ok => by
    rw [dOks, Bool.and_eq_true] at ok
    rw [toPys, PyData.canLayAll0, can_of d ok.1, can_ofs ds ok.2]
    rfl
end
mutual
/-- no deeper than n -/
def dLow : Nat → D → Bool
  | 0, .tup _ => false
  | 0, .lst _ => false
  | n + 1, .tup ds => dLows n ds
  | n + 1, .lst ds => dLows n ds
  | _, _ => true
def dLows : Nat → List D → Bool
  | _, [] => true
  | n, d :: ds => dLow n d && dLows n ds
end
mutual
theorem low_of : ∀ (n : Nat) (d : D), dLow n d = true → (toPy d).depth ≤ n
  | n, .non, _ => Nat.zero_le _
  | n, .bl b, _ => Nat.zero_le _
  | n, .int i, _ => Nat.zero_le _
  | n, .str i, h => Nat.zero_le _
  | 0, .tup ds, ok => by rw [dLow] at ok; cases ok
  | 0, .lst ds, ok => by rw [dLow] at ok; cases ok
  | n + 1, .tup ds, ok => by
    rw [dLow] at ok
    rw [toPy, PyData.depth]
    exact Nat.succ_le_succ (low_ofs n ds ok)
  | n + 1, .lst ds, ok => by
    rw [dLow] at ok
    rw [toPy, PyData.depth]
    exact Nat.succ_le_succ (low_ofs n ds ok)
  | n, .dic, ok => Nat.zero_le _
theorem low_ofs : ∀ (n : Nat) (ds : List D), dLows n ds = true → PyData.depthAll (toPys ds) ≤ n
  | n, [], _ => Nat.zero_le _
  | n, d :: ds, ok => by
    rw [dLows, Bool.and_eq_true] at ok
    rw [toPys, PyData.depthAll]
    exact Nat.max_le.mpr ⟨low_of n d ok.1, low_ofs n ds ok.2⟩
end
def dEq (x y : D) : Bool := PyData.eqv (toPy x) (toPy y)
/-- may be compared -/
def dCmp (d : D) : Bool := dOk d && dLow 60 d
theorem shaped_of {d : D} (h : dCmp d = true) : SeqAt.shaped (toPy d) = true := by
  unfold dCmp at h
  rw [Bool.and_eq_true] at h
  unfold SeqAt.shaped
  rw [can_of d h.1, Bool.true_and]
  exact decide_eq_true (Nat.le_trans (low_of 60 d h.2) (by decide))
theorem ok_of {d : D} (h : dCmp d = true) : dOk d = true := by
  unfold dCmp at h
  rw [Bool.and_eq_true] at h
  exact h.1
theorem ev_eqD (ha : Ev L ta G x) (hb : Ev L tb G y) (hx : dCmp x = true) (hy : dCmp y = true) : Ev L (tOp (rEqD L.K) ta tb) G (.bl (dEq x y)) := ev_op ha hb fun F T G σ H s v w a b Q q =>
  ⟨toPy x, toPy y, at_dp x v (ok_of hx) a, at_dp y w (ok_of hy) b, shaped_of hx, shaped_of hy, q _ _ H rfl (Step.refl s) (at_bl.mpr rfl)⟩
theorem ev_neD (ha : Ev L ta G x) (hb : Ev L tb G y) (hx : dCmp x = true) (hy : dCmp y = true) : Ev L (tOp (rNeD L.K) ta tb) G (.bl (!dEq x y)) := ev_op ha hb fun F T G σ H s v w a b Q q =>
  ⟨toPy x, toPy y, at_dp x v (ok_of hx) a, at_dp y w (ok_of hy) b, shaped_of hx, shaped_of hy, q _ _ H rfl (Step.refl s) (at_bl.mpr rfl)⟩
/-! ### isinstance -/
def dTy : D → String
  | .non => "NoneType"
  | .bl _ => "bool"
  | .int _ => "int"
  | .str _ => "str"
  | .tup _ => "tuple"
  | .lst _ => "list"
  | .dic => "dict"
theorem at_ty {K : PySem.W.Frag} {H : Hp} {T : List Addr} {d : D} {v : V} (a : At (hide H T) d v) : TyX K H v (.type (dTy d)) := by
  cases d with
  | non => rw [at_non.mp a]; exact .base .non
  | bl b => rw [at_bl.mp a]; exact .base (.bl b)
  | int i => rw [at_int.mp a]; exact .base (.int i)
  | str i => rw [at_str.mp a]; exact .base (.str i)
  | tup ds =>
    obtain ⟨p, xs, e, h1, _⟩ := see_tup a
    rw [e]; exact .base (.tup h1)
  | lst ds =>
    obtain ⟨p, xs, e, h1, _⟩ := see_lst a
    rw [e]; exact .base (.lst h1)
  | dic =>
    obtain ⟨p, e, h1⟩ := at_dic.mp a
    rw [e]; exact .base (.dK (hide_some h1).2)
theorem ev_isi {n : String} {b : Bool} (ha : Ev L ta G x) (hb : kitB (dTy x) n = some b) : Ev L (tCB (rIsi L.K) (tCons ta (tCons (tC (.ty n)) tNil))) G (.bl b) := fun F T σ H s Q q =>
  ha F T σ H s _ fun d v H2 e s2 a => by
    subst e
    exact ⟨v, .ty n, .type (dTy d), .type n, b, rfl, .ty n, at_ty a, kit_ty hb, q _ _ H2 rfl s2 (at_bl.mpr rfl)⟩
def isTup : D → Bool
  | .tup _ => true
  | _ => false
def isLst : D → Bool
  | .lst _ => true
  | _ => false
def isBl : D → Bool
  | .bl _ => true
  | _ => false
def isInt : D → Bool
  | .int _ => true
  | .bl _ => true
  | _ => false
theorem kb_tup (x : D) : kitB (dTy x) "tuple" = some (isTup x) := by cases x <;> first | rfl | decide +kernel
theorem kb_lst (x : D) : kitB (dTy x) "list" = some (isLst x) := by cases x <;> first | rfl | decide +kernel
theorem kb_bl (x : D) : kitB (dTy x) "bool" = some (isBl x) := by cases x <;> first | rfl | decide +kernel
theorem kb_int (x : D) : kitB (dTy x) "int" = some (isInt x) := by cases x <;> first | rfl | decide +kernel
theorem ev_isTup (ha : Ev L ta G x) : Ev L (tCB (rIsi L.K) (tCons ta (tCons (tC (.ty "tuple")) tNil))) G (.bl (isTup x)) := ev_isi ha (kb_tup x)
theorem ev_isLst (ha : Ev L ta G x) : Ev L (tCB (rIsi L.K) (tCons ta (tCons (tC (.ty "list")) tNil))) G (.bl (isLst x)) := ev_isi ha (kb_lst x)
theorem ev_isBl (ha : Ev L ta G x) : Ev L (tCB (rIsi L.K) (tCons ta (tCons (tC (.ty "bool")) tNil))) G (.bl (isBl x)) := ev_isi ha (kb_bl x)
theorem ev_isInt (ha : Ev L ta G x) : Ev L (tCB (rIsi L.K) (tCons ta (tCons (tC (.ty "int")) tNil))) G (.bl (isInt x)) := ev_isi ha (kb_int x)
/-- isinstance(a bool, (tuple, list)) -/
theorem ev_isTL {b : Bool} (ha : Ev L ta G (.bl b)) : Ev L (tCB (rIsiT L.K) (tCons ta (tCons (tTup (tCons (tC (.ty "tuple")) (tCons (tC (.ty "list")) tNil))) tNil))) G (.bl false) := fun F T σ H s Q q =>
  ha F T σ H s _ fun d v H2 e s2 a => by
    subst e
    rw [at_bl.mp a]
    refine ⟨by show 2 ≤ sizeLine; decide, fun p hp => ⟨.bl b, p, [.ty "tuple", .ty "list"], .type "bool", [.type "tuple", .type "list"], false, rfl, upd_same, .cons (.ty _) (.cons (.ty _) .nil), .base (.bl b), ?_, q _ _ _ rfl (s2.trans (step_new (s.step s2) hp)) (at_bl.mpr rfl)⟩⟩
    exact kitAny_cons (b := false) (kit_ty (by decide +kernel)) (fun _ => kitAny_cons (b := false) (kit_ty (by decide +kernel)) (fun _ => kitAny_nil) (fun h => nomatch h)) (fun h => nomatch h)
/-! ### truth -/
def dTru : D → Bool
  | .tup ds => !ds.isEmpty
  | .lst ds => !ds.isEmpty
  | _ => false
def isSeq : D → Bool
  | .tup _ => true
  | .lst _ => true
  | _ => false
theorem Ats.empty {H : Hp} {ds : List D} {xs : List V} (h : Ats H ds xs) : xs.isEmpty = ds.isEmpty := by
  cases ds with
  | nil =>
    rw [ats_nil.mp h]
    rfl
  | cons d ds =>
    obtain ⟨x, r, e, _⟩ := ats_cons.mp h
    rw [e]
    rfl
theorem et_truth (h : Ev L te G x) (hs : isSeq x = true) : EvT L (fun σ H Q => te σ H fun x H' => ∃ k, TruV L.K x H' k ∧ Q k H') G (dTru x) := fun F T σ H s Q q => h F T σ H s _ fun d v H2 e s2 a => by
  subst e
  cases d with
  | tup ds =>
    obtain ⟨p, xs, e, h1, h2, _⟩ := see_tup a
    rw [e]
    refine ⟨!ds.isEmpty, .inr (.inl ⟨xs, SqT.of h1, ?_⟩), q _ H2 rfl s2⟩
    exact congrArg _ (h2.empty).symm
  | lst ds =>
    obtain ⟨p, xs, e, h1, h2, _⟩ := see_lst a
    rw [e]
    refine ⟨!ds.isEmpty, .inl ⟨xs, SqL.of h1, ?_⟩, q _ H2 rfl s2⟩
    exact congrArg _ (h2.empty).symm
  | _ => cases hs
end
end Pw

/-! What is used of the text. -/
namespace Pw
open PySem L2 PyProof.Rows
/-- a def whose code object has a table in Ps -/
structure Dft (L : Pm) (mg : Str → Option Value) (base : Heap) (x : Str) (st : Stmt) : Prop where
  ex : ∃ f fd c Pt, FunD L.K x x (defArgs st) (defBody st) (defScope st) [] [] f fd ∧ mg x = some (.ref f) ∧ fd.code = .ref c ∧ Pt ∈ L.Ps ∧ GxR.TabB base mg c Pt
/-- a method of Program -/
structure Dfm (L : Pm) (m q : Str) (st : Stmt) : Prop where
  ex : ∃ f fd, FunD L.K m q (defArgs st) (defBody st) (defScope st) [] [] f fd ∧ Meth L.K L.C m f
structure Dfi (L : Pm) (q : Str) (st : Stmt) : Prop where
  ex : ∃ f fd, FunD L.K "__init__" q (defArgs st) (defBody st) (defScope st) [] [] f fd ∧ Mk L.K L.C f
structure Tx (L : Pm) (mg : Str → Option Value) (base : Heap) : Prop where
  is_in : Df L.K mg "is_in" (top 16)
  is_stream : Dft L mg base "is_stream" (top 17)
  is_box : Df L.K mg "is_box" (top 18)
  need_problem : Df L.K mg "need_problem" (top 19)
  is_giver : Df L.K mg "is_giver" (top 20)
  ratio : Df L.K mg "ratio" (top 22)
  plus : Df L.K mg "plus" (top 23)
  minus : Df L.K mg "minus" (top 24)
  by_ : Df L.K mg "by" (top 25)
  over : Df L.K mg "over" (top 26)
  less : Df L.K mg "less" (top 27)
  total : Df L.K mg "total" (top 28)
  is_ratio : Dft L mg base "is_ratio" (top 29)
  solved : Df L.K mg "solved" (top 32)
  is_pair : Dft L mg base "is_pair" (top 35)
  need_structure : Df L.K mg "need_structure" (top 36)
  heats_of : Df L.K mg "heats_of" (top 37)
  conditions_of : Df L.K mg "conditions_of" (top 38)
  program_of : Df L.K mg "program_of" (top 39)
  outside_of : Df L.K mg "outside_of" (top 40)
  best_of : Df L.K mg "best_of" (top 41)
  best_loads : Df L.K mg "best_loads" (top 42)
  load_paper : Df L.K mg "load_paper" (top 43)
  weights_of : Df L.K mg "weights_of" (top 44)
  are_weights : Dft L mg base "are_weights" (top 45)
  shows_paper : Dft L mg base "shows_paper" (top 46)
  law_taken : Df L.K mg "_law_taken" (top 48)
  law_pick : Df L.K mg "_law_pick" (top 49)
  law_alike : Df L.K mg "_law_alike" (top 50)
  law_problem : Df L.K mg "_law_problem" (top 51)
  law_plain : Df L.K mg "_law_plain" (top 58)
  law_ratio : Df L.K mg "_law_ratio" (top 59)
  law_plus : Df L.K mg "_law_plus" (top 60)
  law_by : Df L.K mg "_law_by" (top 61)
  law_sum : Df L.K mg "_law_sum" (top 62)
  law_are_ratios : Df L.K mg "_law_are_ratios" (top 63)
  law_structure : Df L.K mg "_law_structure" (top 64)
  law_conditions : Df L.K mg "_law_conditions" (top 65)
  law_bound : Df L.K mg "_law_bound" (top 67)
  law : Df L.K mg "law" (top 68)
  P_init : Dfi L "Program.__init__" (met 0)
  P_turn : Dfm L "turn" "Program.turn" (met 1)
  P_multiplier : Dfm L "multiplier" "Program.multiplier" (met 2)
  P_climb : Dfm L "climb" "Program.climb" (met 3)
  P_leave_help : Dfm L "leave_help" "Program.leave_help" (met 4)
  P_amounts : Dfm L "amounts" "Program.amounts" (met 5)
  P_prices : Dfm L "prices" "Program.prices" (met 6)
  mgC : mg "Program" = some (.ref L.C)
  cl : Cls L.K L.C
  no_many : NoAttr L.K L.C "many"
  no_signs : NoAttr L.K L.C "signs"
  no_rows : NoAttr L.K L.C "rows"
  no_basis : NoAttr L.K L.C "basis"
  len_ : mg "len" = none
  isinstance_ : mg "isinstance" = none
  int_ : mg "int" = none
  bool_ : mg "bool" = none
  tuple_ : mg "tuple" = none
  list_ : mg "list" = none
  abs_ : mg "abs" = none
  range_ : mg "range" = none
  enumerate_ : mg "enumerate" = none
  zip_ : mg "zip" = none
  all_ : mg "all" = none
  str_ : mg "str" = none
  gcd_ : mg "gcd" = some (.builtin "math.gcd")
  MOST_TEMPERATURE : ∃ t, mg "MOST_TEMPERATURE" = some (.int 1000 t)
  MOST_RATE : ∃ t, mg "MOST_RATE" = some (.int 100 t)
  MOST_HEAT : ∃ t, mg "MOST_HEAT" = some (.int 10000 t)
  MOST_STREAMS : ∃ t, mg "MOST_STREAMS" = some (.int 6 t)
  MOST_BOXES : ∃ t, mg "MOST_BOXES" = some (.int 4 t)
  MOST_GAP : ∃ t, mg "MOST_GAP" = some (.int 100 t)
  MOST_PAIRS : ∃ t, mg "MOST_PAIRS" = some (.int 10 t)
theorem pe_const {X : Cx} {x : Str} {i : Int} {pos : Pos} (h : ∃ t, X.mg x = some (.int i t)) (hg : Gl X x := by rfl) (hd : (x == ("__debug__" : Str)) = false := by decide) : PE X (.Name x pos) (tC (.int i)) := by
  obtain ⟨t, e⟩ := h
  exact pe_glob hg e ⟨t, rfl⟩ hd
theorem pv {X : Cx} (i : Nat) {x : Str} {pos : Pos} (hN : X.N[i]? = some x := by rfl) (hv : Vis X.env.scope x := by first | exact .inl rfl | exact .inr (.inl rfl) | exact .inr (.inr rfl)) (hd : (x == ("__debug__" : Str)) = false := by decide) (hcd : (x == ("__classdict__" : Str)) = false := by decide) : PE X (.Name x pos) (tVar i) := pe_var hN hv hd hcd
section
variable {P : Program} {w : World} {L : Pm} {mg : Str → Option Value} {base : Heap} {x : Str} {st : Stmt} {N ps : List Str} {k : Nat} {sp : Sp}
/-- a def with a table keeps its promise -/
theorem pr_ofT (F : Dft L mg base x st) (S : FnScope N ps (defScope st)) (hb : ∀ (kV doc pm : Value) (an : Option Addr) (cdv ct : Value) (us : List Value), us.length = ps.length → bindArgs (PySem.W.fnOf x x (defArgs st) (defBody st) (defScope st) .none kV doc pm an cdv ct) ⟨us, []⟩ = pure (ps.zip us))
    (len : ∀ vs H Q E, sp vs H Q E → vs.length = ps.length)
    (hbody : ∀ (c Pt : Addr) (f : Addr) (A : Around) (outer : List Env) (s : Shared) (H : Hp) (vs : List V) (Q : VK) (E : XK), Pt ∈ L.Ps → GxR.TabB base mg c Pt → Room k (A.deeper (envOfC x (defScope st) s.heap.objs.size f (.ref c))) → sp vs H Q E →
      ∃ t, PSs (cxOf CX0 P w L.K mg base N x (defScope st) f (.ref c) A outer s H E).nox (defBody st) t ∧ t { nx := fun _ H' => Q .non H', rt := Q } (L2.start N vs) H) : Pr P w L.K mg base x (k + 1) ps sp := by
  obtain ⟨f, fd, c, Pt, F1, m, hc, hP, TB⟩ := F.ex
  refine ⟨f, fd, ?_, m, F1.kp, F1.bindsN hb⟩
  obtain ⟨oc, od, dV, kV, doc, pm, an, cdv, ct, osl, rfl, lk, hcd, _, _⟩ := F1.ex
  have e : cdv = .ref c := hc
  subst e
  exact fn_of lk hcd S len fun A outer s H vs Q E hr hsp => by
    obtain ⟨t, h1, h2⟩ := hbody c Pt f A outer s H vs Q E hP TB hr hsp
    exact ⟨t, h1.nox, h2⟩
end
end Pw

/-! A Program object: its fields read and changed, its methods' promises. -/
namespace Pw
open PySem L2
/-- the class, as the rules want it -/
structure Ob (L : Pm) : Prop where
  cl : Cls L.K L.C
  many : NoAttr L.K L.C "many"
  signs : NoAttr L.K L.C "signs"
  rows : NoAttr L.K L.C "rows"
  basis : NoAttr L.K L.C "basis"
section
variable {L : Pm} {G : Ctx} {F : Frm} {E : Ends} {T : List Addr} {σ : St} {H : Hp} {te tj : TE} {t u : TS} {ta : TA} {i : Nat} {st : PSt} {d : D} {Φ : D → Prop}
theorem Sh.pAt (s : Sh L G F T σ H) (h : G[i]? = some (some (.prog st))) : σ[i]? = some (some (.ref st.p)) ∧ PObj L H T st.p st.R st.B st ∧ (st.p ∉ F.M ∧ st.R ∉ F.M ∧ st.B ∉ F.M) ∧ (st.R ∈ F.S ∧ st.R ∈ F.W) ∧ (st.B ∈ F.S ∧ st.B ∈ F.W ∧ st.p ∈ F.S) ∧ (st.p ∉ F.X ∧ st.R ∉ F.X ∧ st.B ∉ F.X) := by
  obtain ⟨p, R, B, h1, h2, h3⟩ := s.prg i st h
  obtain ⟨dx, sg, rv, a1, a2, a3, a4, a5, b1, b2, b3, b4, b5, b6, e1, e2, e3⟩ := id h2
  subst e1 e2 e3
  exact ⟨h1, h2, h3⟩
/-- a field is read: its value v there -/
theorem fld_at (O : Ob L) (h : G[i]? = some (some (.prog st))) {f : Str} {v : Addr → V} (hn : NoAttr L.K L.C f) (hl : ∀ sg, (pFields (intV st.many) (.ref sg) (.ref st.R) (.ref st.B)).lookup f = some (v sg)) (s : Sh L G F T σ H) {Q : VK}
    (q : ∀ dx sg rv, H st.p = some (.ins L.C dx (pFields (intV st.many) (.ref sg) (.ref st.R) (.ref st.B))) → At (hide H T) (.lst st.signs) (.ref sg) → H st.R = some (.lst rv) → Ats (hide H T) st.rows rv → H st.B = some (.lst (st.basis.map intV)) → Q (v sg) H) : tFld L.K (tVar i) f σ H Q := by
  obtain ⟨h1, ⟨dx, sg, rv, a1, a2, a3, a4, a5, _⟩, _⟩ := s.pAt h
  exact ⟨_, h1, st.p, L.C, dx, _, v sg, rfl, a1, O.cl, hn, hl sg, q dx sg rv a1 a2 a3 a4 a5⟩
theorem ev_many (O : Ob L) (h : G[i]? = some (some (.prog st))) : Ev L (tFld L.K (tVar i) "many") G (.int (st.many : Int)) := fun F T σ H s Q q =>
  fld_at O h (v := fun _ => intV st.many) O.many (fun _ => rfl) s fun dx sg rv a1 a2 a3 a4 a5 => q _ _ H rfl (Step.refl s) (at_int.mpr rfl)
theorem ev_signs (O : Ob L) (h : G[i]? = some (some (.prog st))) : Ev L (tFld L.K (tVar i) "signs") G (.lst st.signs) := fun F T σ H s Q q =>
  fld_at O h (v := fun sg => .ref sg) O.signs (fun _ => rfl) s fun dx sg rv a1 a2 a3 a4 a5 => q _ _ H rfl (Step.refl s) a2
theorem ev_rowAt (O : Ob L) {j : Int} (h : G[i]? = some (some (.prog st))) (hj : Ev L tj G (.int j)) (hd : atI st.rows j = some d) : Ev L (tOp (rIxL L.K) (tFld L.K (tVar i) "rows") tj) G d := fun F T σ H s Q q =>
  fld_at O h (v := fun _ => .ref st.R) O.rows (fun _ => rfl) s fun dx sg rv a1 a2 a3 a4 a5 => hj F T σ H s _ fun z w H2 e s2 a => by
    subst e
    rw [at_int.mp a]
    obtain ⟨_, ⟨dx2, sg2, rv2, c1, c2, c3, c4, c5, _⟩, _⟩ := (s.step s2).pAt h
    obtain ⟨v, h1, h2⟩ := atI_ats c4 hd
    exact ⟨st.R, rv2, j, v, rfl, rfl, SqL.of c3, h1, q d v H2 rfl s2 h2⟩
theorem ev_basisAt (O : Ob L) {j b : Nat} (h : G[i]? = some (some (.prog st))) (hj : Ev L tj G (.int (j : Int))) (hd : st.basis[j]? = some b) : Ev L (tOp (rIxL L.K) (tFld L.K (tVar i) "basis") tj) G (.int (b : Int)) := fun F T σ H s Q q =>
  fld_at O h (v := fun _ => .ref st.B) O.basis (fun _ => rfl) s fun dx sg rv a1 a2 a3 a4 a5 => hj F T σ H s _ fun z w H2 e s2 a => by
    subst e
    rw [at_int.mp a]
    obtain ⟨_, ⟨dx2, sg2, rv2, c1, c2, c3, c4, c5, _⟩, _⟩ := (s.step s2).pAt h
    have hj : j < (st.basis.map intV).length := by
      rw [List.length_map]
      exact (List.getElem?_eq_some_iff.mp hd).1
    refine ⟨st.B, _, j, intV b, rfl, rfl, SqL.of c5, ?_, q _ _ H2 rfl s2 (at_int.mpr rfl)⟩
    unfold atI ixN
    rw [if_pos (by omega), if_pos (by omega), Option.bind_some, Int.toNat_natCast, List.getElem?_map, hd]
    rfl
theorem ev_lenRows (O : Ob L) (h : G[i]? = some (some (.prog st))) : Ev L (tCB (fun xs H Q => ∃ p ys, xs = [.ref p] ∧ (SqL L.K H p ys ∨ SqT L.K H p ys) ∧ Q (.int ys.length) H) (tCons (tFld L.K (tVar i) "rows") tNil)) G (.int (st.rows.length : Int)) := fun F T σ H s Q q =>
  fld_at O h (v := fun _ => .ref st.R) O.rows (fun _ => rfl) s fun dx sg rv a1 a2 a3 a4 a5 => ⟨st.R, rv, rfl, .inl (SqL.of a3), by rw [a4.length]; exact q _ _ H rfl (Step.refl s) (at_int.mpr rfl)⟩
/-- the rows or the basis change -/
theorem Sh.upProg (s : Sh L G F T σ H) (h : G[i]? = some (some (.prog st))) (hV : F.V = []) {Z : Addr} {xs : List V} {st' : PSt} (hZ : Z = st.R ∨ Z = st.B) (he : st'.p = st.p ∧ st'.R = st.R ∧ st'.B = st.B)
    (hP : PObj L (upd H Z (.lst xs)) T st.p st.R st.B st') : Sh L (G.set i (some (.prog st'))) F T σ (upd H Z (.lst xs)) := by
  obtain ⟨h1, hO, ⟨m1, m2, m3⟩, w1, w2, x1, x2, x3⟩ := s.pAt h
  obtain ⟨dx, sg, rv, a1, a2, a3, a4, a5, t1, t2, t3, n1, n2, n3, _⟩ := id hO
  have hi : i < G.length := (List.getElem?_eq_some_iff.mp h).1
  have zT : Z ∈ T := by rcases hZ with z | z <;> rw [z] <;> assumption
  have zM : Z ∉ F.M := by rcases hZ with z | z <;> rw [z] <;> assumption
  have zX : Z ∉ F.X := by rcases hZ with z | z <;> rw [z] <;> assumption
  have zS : Z ∈ F.S := by
    rcases hZ with z | z
    · rw [z]; exact w1.1
    · rw [z]; exact w2.1
  have zW : Z ∈ F.W := by
    rcases hZ with z | z
    · rw [z]; exact w1.2
    · rw [z]; exact w2.2.1
  have e := hide_upd (H := H) (o := .lst xs) zT
  have other : ∀ (j : Nat) x, (G.set i (some (Ent.prog st')))[j]? = some (some x) → (j = i ∧ x = .prog st') ∨ (i ≠ j ∧ G[j]? = some (some x)) := fun j x q => by
    by_cases z : i = j
    · subst z
      rw [List.getElem?_set_self hi] at q
      cases q
      exact .inl ⟨rfl, rfl⟩
    · rw [List.getElem?_set_ne z] at q
      exact .inr ⟨z, q⟩
  have noP : ∀ (j : Nat) st2, G[j]? = some (some (.prog st2)) → j = i := fun j st2 q => s.px i j st h st2 q
  refine ⟨by rw [List.length_set]; exact s.len, fun b hb => ?_, s.sub, s.subM, s.one, s.fresh, fun b hb h1 h2 => ?_, fun b hb => ?_, by rw [e]; exact s.gr, by rw [e]; exact s.anc, fun q hq => absurd hq (by rw [hV]; exact List.not_mem_nil), s.xs, by rw [e]; exact s.tab, fun j d q => ?_, fun j fs q => ?_, fun j k fs gs q e1 e2 e3 e4 => ?_, fun j q => ?_, fun j st2 q => ?_, fun j k st2 q st3 q2 => ?_⟩
  · by_cases z : b = Z
    · rw [z, upd_same]
      exact ⟨_, rfl, nt_lst⟩
    · rw [upd_ne z]
      exact s.inT b hb
  · rw [upd_ne (fun z => h2 (by rw [z]; exact zW))]
    exact s.keep b hb h1 h2
  · exact (s.rows b hb).gr (by rw [e]; exact Gr.refl _) (upd_ne fun z => zM (by rw [← z]; exact hb))
  · rcases other j _ q with ⟨z, z2⟩ | ⟨z, z2⟩
    · cases z2
    · rw [e]
      exact s.dat j d z2
  · rcases other j _ q with ⟨z, z2⟩ | ⟨z, z2⟩
    · cases z2
    · obtain ⟨q1, zs, k1, k2, k3, k4, k5⟩ := s.own j fs z2
      exact ⟨q1, zs, k1, k2, k3, by rw [upd_ne (fun y => k3.1 (by rw [y]; exact zS))]; exact k4, by rw [e]; exact k5⟩
  · rcases other j _ e1 with ⟨z, z2⟩ | ⟨z, z2⟩
    · cases z2
    · rcases other k _ e2 with ⟨y, y2⟩ | ⟨y, y2⟩
      · cases y2
      · exact s.inj j k fs gs q z2 y2 e3 e4
  · rcases other j _ q with ⟨z, z2⟩ | ⟨z, z2⟩
    · cases z2
    · exact s.row j z2
  · rcases other j _ q with ⟨z, z2⟩ | ⟨z, z2⟩
    · cases z2
      subst z
      exact ⟨st.p, st.R, st.B, h1, hP, ⟨m1, m2, m3⟩, w1, w2, x1, x2, x3⟩
    · exact absurd (noP j st2 z2).symm z
  · rcases other j _ q with ⟨z, z2⟩ | ⟨z, z2⟩
    · rcases other k _ q2 with ⟨y, y2⟩ | ⟨y, y2⟩
      · rw [y, z]
      · exact absurd (noP k st3 y2).symm y
    · exact absurd (noP j st2 z2).symm z
theorem PObj.upR {p R B : Addr} {rows : List D} {xs : List V} (o : PObj L H T p R B st) (a : Ats (hide H T) rows xs) : PObj L (upd H R (.lst xs)) T p R B { st with rows := rows } := by
  obtain ⟨dx, sg, rv, a1, a2, a3, a4, a5, t1, t2, t3, n1, n2, n3, r⟩ := o
  have e := hide_upd (H := H) (o := .lst xs) t2
  exact ⟨dx, sg, xs, by rw [upd_ne n2]; exact a1, by rw [e]; exact a2, upd_same, by rw [e]; exact a, by rw [upd_ne (Ne.symm n1)]; exact a5, t1, t2, t3, n1, n2, n3, r⟩
theorem PObj.upB {p R B : Addr} {basis : List Nat} (o : PObj L H T p R B st) : PObj L (upd H B (.lst (basis.map intV))) T p R B { st with basis := basis } := by
  obtain ⟨dx, sg, rv, a1, a2, a3, a4, a5, t1, t2, t3, n1, n2, n3, r⟩ := o
  have e := hide_upd (H := H) (o := .lst (basis.map intV)) t3
  exact ⟨dx, sg, rv, by rw [upd_ne n3]; exact a1, by rw [e]; exact a2, by rw [upd_ne n1]; exact a3, by rw [e]; exact a4, upd_same, t1, t2, t3, n1, n2, n3, r⟩
theorem ixN_nat {n j : Nat} (h : j < n) : ixN n (j : Int) = some j := by
  unfold ixN
  rw [if_pos (by omega), if_pos (by omega)]
  rfl
/-- self.rows[j] = e -/
theorem go_setRow (O : Ob L) {j : Nat} (h : G[i]? = some (some (.prog st))) (hV : F.V = []) (he : EvG L te G Φ) (hj : Ev L tj G (.int (j : Int))) (hl : j < st.rows.length) (k : ∀ d, Φ d → Nx L F E.nx (G.set i (some (.prog { st with rows := st.rows.set j d })))) :
    Go L F E (tAsg te (gSub (tFld L.K (tVar i) "rows") tj rSetL)) G := fun T σ H s => by
  refine he F T σ H s _ fun d v H2 pd s2 a => ?_
  have S2 := s.step s2
  refine fld_at O h (v := fun _ => .ref st.R) O.rows (fun _ => rfl) S2 fun dx sg rv a1 a2 a3 a4 a5 => hj F T σ H2 S2 _ fun z w H3 e s3 b => ?_
  subst e
  have S3 := S2.step s3
  obtain ⟨h1, hO, _⟩ := S3.pAt h
  obtain ⟨dx, sg, rv, b1, b2, b3, b4, _⟩ := id hO
  exact ⟨st.R, rv, j, j, rfl, at_int.mp b, b3, by rw [b4.length]; exact ixN_nat hl, k d pd T σ _ (S3.upProg h hV (.inl rfl) ⟨rfl, rfl, rfl⟩ (hO.upR (b4.set j (At.gr s3.gr _ _ a))))⟩
/-- self.basis[j] = e -/
theorem go_setBasis (O : Ob L) {j b : Nat} (h : G[i]? = some (some (.prog st))) (hV : F.V = []) (he : Ev L te G (.int (b : Int))) (hj : Ev L tj G (.int (j : Int))) (hl : j < st.basis.length) (k : Nx L F E.nx (G.set i (some (.prog { st with basis := st.basis.set j b })))) :
    Go L F E (tAsg te (gSub (tFld L.K (tVar i) "basis") tj rSetL)) G := fun T σ H s => by
  refine he F T σ H s _ fun d v H2 pd s2 a => ?_
  subst pd
  have S2 := s.step s2
  refine fld_at O h (v := fun _ => .ref st.B) O.basis (fun _ => rfl) S2 fun dx sg rv a1 a2 a3 a4 a5 => hj F T σ H2 S2 _ fun z w H3 e s3 b' => ?_
  subst e
  have S3 := S2.step s3
  obtain ⟨h1, hO, _⟩ := S3.pAt h
  obtain ⟨dx, sg, rv, b1, b2, b3, b4, b5, _⟩ := id hO
  refine ⟨st.B, _, j, j, rfl, at_int.mp b', b5, by rw [List.length_map]; exact ixN_nat hl, ?_⟩
  rw [at_int.mp a, show (st.basis.map intV).set j (.int (b : Int)) = (st.basis.set j b).map intV by rw [List.map_set]; rfl]
  exact k T σ _ (S3.upProg h hV (.inr rfl) ⟨rfl, rfl, rfl⟩ hO.upB)
theorem tyL {H : Hp} {R : Addr} {xs : List V} (h : H R = some (.lst xs)) : tyV L.K "list" (.ref R) H := .inl ⟨rfl, xs, SqL.of h⟩
/-- self.rows.append(e) -/
theorem go_appRow (O : Ob L) (h : G[i]? = some (some (.prog st))) (hV : F.V = []) (he : EvG L te G Φ) (hl : st.rows.length < 100000) (k : ∀ d, Φ d → Nx L F E.nx (G.set i (some (.prog { st with rows := st.rows ++ [d] })))) :
    Go L F E (tDrop (tBM L.K "list" rAppend (tFld L.K (tVar i) "rows") (tCons te tNil))) G := fun T σ H s => by
  unfold tDrop tBM
  refine fld_at O h (v := fun _ => .ref st.R) O.rows (fun _ => rfl) s fun dx sg rv a1 a2 a3 a4 a5 => ⟨tyL a3, he F T σ H s _ fun d v H2 pd s2 a => ?_⟩
  have S2 := s.step s2
  obtain ⟨h1, hO, _⟩ := S2.pAt h
  obtain ⟨dx, sg, rv, b1, b2, b3, b4, b5, _⟩ := id hO
  exact ⟨st.R, rv, v, rfl, rfl, b3, by rw [b4.length]; exact szlt hl, k d pd T σ _ (S2.upProg h hV (.inl rfl) ⟨rfl, rfl, rfl⟩ (hO.upR (b4.append (ats_cons' a (ats_nil.mpr rfl)))))⟩
theorem go_appBasis (O : Ob L) {b : Nat} (h : G[i]? = some (some (.prog st))) (hV : F.V = []) (he : Ev L te G (.int (b : Int))) (hl : st.basis.length < 100000) (k : Nx L F E.nx (G.set i (some (.prog { st with basis := st.basis ++ [b] })))) :
    Go L F E (tDrop (tBM L.K "list" rAppend (tFld L.K (tVar i) "basis") (tCons te tNil))) G := fun T σ H s => by
  unfold tDrop tBM
  refine fld_at O h (v := fun _ => .ref st.B) O.basis (fun _ => rfl) s fun dx sg rv a1 a2 a3 a4 a5 => ⟨tyL a5, he F T σ H s _ fun d v H2 pd s2 a => ?_⟩
  subst pd
  have S2 := s.step s2
  obtain ⟨h1, hO, _⟩ := S2.pAt h
  obtain ⟨dx, sg, rv, b1, b2, b3, b4, b5, _⟩ := id hO
  refine ⟨st.B, _, v, rfl, rfl, b5, by rw [List.length_map]; exact szlt hl, ?_⟩
  rw [at_int.mp a, show st.basis.map intV ++ [V.int (b : Int)] = (st.basis ++ [b]).map intV by rw [List.map_append]; rfl]
  exact k T σ _ (S2.upProg h hV (.inr rfl) ⟨rfl, rfl, rfl⟩ hO.upB)
theorem ats_erase {H : Hp} : ∀ {ds : List D} {xs : List V} (i : Nat), Ats H ds xs → Ats H (ds.eraseIdx i) (xs.eraseIdx i)
  | [], _, _, h => by
    rw [ats_nil.mp h]
    exact ats_nil.mpr rfl
  | d :: ds, _, 0, h => by
    obtain ⟨x, r, e, h1, h2⟩ := ats_cons.mp h
    subst e
    exact h2
  | d :: ds, _, i + 1, h => by
    obtain ⟨x, r, e, h1, h2⟩ := ats_cons.mp h
    subst e
    exact ats_cons' h1 (ats_erase i h2)
theorem erase_map {α β : Type} (f : α → β) : ∀ (l : List α) (j : Nat), (l.map f).eraseIdx j = (l.eraseIdx j).map f
  | [], _ => rfl
  | _ :: _, 0 => rfl
  | x :: l, j + 1 => by
    rw [List.map_cons, List.eraseIdx_cons_succ, List.eraseIdx_cons_succ, List.map_cons, erase_map f l j]
theorem seqIx {n j : Nat} (h : j < n) : seqIndex? (j : Int) n = some j := (ixN_seq (ixN_nat h)).1
/-- self.rows.pop(j) -/
theorem go_popRow (O : Ob L) {j : Nat} (h : G[i]? = some (some (.prog st))) (hV : F.V = []) (hj : Ev L tj G (.int (j : Int))) (hl : j < st.rows.length) (hs : j < 100000) (k : Nx L F E.nx (G.set i (some (.prog { st with rows := st.rows.eraseIdx j })))) :
    Go L F E (tDrop (tBM L.K "list" rPopAt (tFld L.K (tVar i) "rows") (tCons tj tNil))) G := fun T σ H s => by
  unfold tDrop tBM
  refine fld_at O h (v := fun _ => .ref st.R) O.rows (fun _ => rfl) s fun dx sg rv a1 a2 a3 a4 a5 => ⟨tyL a3, hj F T σ H s _ fun d v H2 pd s2 a => ?_⟩
  subst pd
  have S2 := s.step s2
  obtain ⟨h1, hO, _⟩ := S2.pAt h
  obtain ⟨dx, sg, rv, b1, b2, b3, b4, b5, _⟩ := id hO
  have hl2 : j < rv.length := by rw [b4.length]; exact hl
  exact ⟨st.R, rv, j, j, rv[j], rfl, by rw [at_int.mp a], b3, by omega, by omega, seqIx hl2, List.getElem?_eq_getElem hl2, k T σ _ (S2.upProg h hV (.inl rfl) ⟨rfl, rfl, rfl⟩ (hO.upR (ats_erase j b4)))⟩
theorem go_popBasis (O : Ob L) {j : Nat} (h : G[i]? = some (some (.prog st))) (hV : F.V = []) (hj : Ev L tj G (.int (j : Int))) (hl : j < st.basis.length) (hs : j < 100000) (k : Nx L F E.nx (G.set i (some (.prog { st with basis := st.basis.eraseIdx j })))) :
    Go L F E (tDrop (tBM L.K "list" rPopAt (tFld L.K (tVar i) "basis") (tCons tj tNil))) G := fun T σ H s => by
  unfold tDrop tBM
  refine fld_at O h (v := fun _ => .ref st.B) O.basis (fun _ => rfl) s fun dx sg rv a1 a2 a3 a4 a5 => ⟨tyL a5, hj F T σ H s _ fun d v H2 pd s2 a => ?_⟩
  subst pd
  have S2 := s.step s2
  obtain ⟨h1, hO, _⟩ := S2.pAt h
  obtain ⟨dx, sg, rv, b1, b2, b3, b4, b5, _⟩ := id hO
  have hl2 : j < (st.basis.map intV).length := by rw [List.length_map]; exact hl
  refine ⟨st.B, _, j, j, (st.basis.map intV)[j], rfl, by rw [at_int.mp a], b5, by omega, by omega, seqIx hl2, List.getElem?_eq_getElem hl2, ?_⟩
  rw [show (st.basis.map intV).eraseIdx j = (st.basis.eraseIdx j).map intV from erase_map intV _ _]
  exact k T σ _ (S2.upProg h hV (.inr rfl) ⟨rfl, rfl, rfl⟩ hO.upB)
end
end Pw

/-! Methods of a Program: promises, calls, starts, ends; its making. -/
namespace Pw
open PySem L2
section
variable {L : Pm} {G : Ctx} {F : Frm} {T T2 : List Addr} {σ : L2.St} {H H2 : Hp}
/-- another heap, more hidden: what stood stands -/
theorem Sh.into (s : Sh L G F T σ H) (g : Gr (hide H T) (hide H2 T2)) (hT : ∀ a ∈ T, a ∈ T2) (hn : ∀ a ∈ T2, a ∉ T → H a = none) (hi : ∀ a ∈ T2, ∃ u, H2 a = some u ∧ nt u) (hs : ∀ a ∈ T, H2 a = H a) : Sh L G F T2 σ H2 where
  len := s.len
  inT := hi
  sub := fun a ha => hT a (s.sub a ha)
  subM := s.subM
  one := s.one
  fresh := fun a ha hS => by
    by_cases z : a ∈ T
    · exact s.fresh a z hS
    · exact s.new0 (hn a ha z)
  keep := fun a ha h1 h2 => by
    rw [hs a (s.sub a ha)]
    exact s.keep a ha h1 h2
  rows := fun a ha => (s.rows a ha).gr g (hs a (s.sub a (s.subM a ha)))
  gr := s.gr.trans g
  anc := fun q hq => (s.anc q hq).trans g
  held := fun q hq => by
    obtain ⟨h1, h2, h3⟩ := s.held q hq
    exact ⟨by rw [hs q.1 (s.sub _ h2)]; exact h1, h2, h3⟩
  xs := fun a ha => ⟨hT a (s.xs a ha).1, (s.xs a ha).2⟩
  tab := fun P hP => g.t P (s.tab P hP)
  dat := fun i d e => by
    obtain ⟨v, h1, h2⟩ := s.dat i d e
    exact ⟨v, h1, At.gr g d v h2⟩
  own := fun i ds e => by
    obtain ⟨p, xs, h1, h2, h3, h4, h5⟩ := s.own i ds e
    exact ⟨p, xs, h1, hT p h2, h3, by rw [hs p h2]; exact h4, Ats.gr g _ _ h5⟩
  inj := s.inj
  row := s.row
  prg := fun i st e => by
    obtain ⟨p, R, B, h1, ⟨dx, sg, rv, a1, a2, a3, a4, a5, t1, t2, t3, t4⟩, h3⟩ := s.prg i st e
    exact ⟨p, R, B, h1, ⟨dx, sg, rv, by rw [hs p t1]; exact a1, At.gr g _ _ a2, by rw [hs R t2]; exact a3, Ats.gr g _ _ a4, by rw [hs B t3]; exact a5, hT p t1, hT R t2, hT B t3, t4⟩, h3⟩
  px := s.px
/-- behind a method that may change the object -/
theorem Sh.turned {i : Nat} {st st' : PSt} (s : Sh L G F T σ H) (h : G[i]? = some (some (.prog st))) (hV : F.V = []) (he : st'.p = st.p ∧ st'.R = st.R ∧ st'.B = st.B) (g : Gr (hide H T) (hide H2 T)) (hs : ∀ b ∈ T, b ≠ st.R → b ≠ st.B → H2 b = H b)
    (hP : PObj L H2 T st.p st.R st.B st') : Sh L (G.set i (some (.prog st'))) F T σ H2 := by
  obtain ⟨h1, hO, ⟨m1, m2, m3⟩, w1, w2, x1, x2, x3⟩ := s.pAt h
  have hi : i < G.length := (List.getElem?_eq_some_iff.mp h).1
  have other : ∀ (j : Nat) x, (G.set i (some (Ent.prog st')))[j]? = some (some x) → (j = i ∧ x = .prog st') ∨ (i ≠ j ∧ G[j]? = some (some x)) := fun j x q => by
    by_cases z : i = j
    · subst z
      rw [List.getElem?_set_self hi] at q
      cases q
      exact .inl ⟨rfl, rfl⟩
    · rw [List.getElem?_set_ne z] at q
      exact .inr ⟨z, q⟩
  have noP : ∀ (j : Nat) st2, G[j]? = some (some (.prog st2)) → j = i := fun j st2 q => s.px i j st h st2 q
  obtain ⟨dx, sg, rv, a1, a2, a3, a4, a5, _⟩ := id hP
  refine ⟨by rw [List.length_set]; exact s.len, fun b hb => ?_, s.sub, s.subM, s.one, s.fresh, fun b hb h1 h2 => ?_, fun b hb => ?_, s.gr.trans g, fun q hq => (s.anc q hq).trans g, fun q hq => absurd hq (by rw [hV]; exact List.not_mem_nil), s.xs, fun P hP => g.t P (s.tab P hP), fun j d q => ?_, fun j fs q => ?_, fun j k fs gs q e1 e2 e3 e4 => ?_, fun j q => ?_, fun j st2 q => ?_, fun j k st2 q st3 q2 => ?_⟩
  · by_cases z : b = st.R
    · rw [z, a3]
      exact ⟨_, rfl, nt_lst⟩
    · by_cases z2 : b = st.B
      · rw [z2, a5]
        exact ⟨_, rfl, nt_lst⟩
      · rw [hs b hb z z2]
        exact s.inT b hb
  · rw [hs b (s.sub b hb) (fun z => h2 (by rw [z]; exact w1.2)) (fun z => h2 (by rw [z]; exact w2.2.1))]
    exact s.keep b hb h1 h2
  · exact (s.rows b hb).gr g (hs b (s.sub b (s.subM b hb)) (fun z => m2 (by rw [← z]; exact hb)) (fun z => m3 (by rw [← z]; exact hb)))
  · rcases other j _ q with ⟨z, z2⟩ | ⟨z, z2⟩
    · cases z2
    · obtain ⟨v, k1, k2⟩ := s.dat j d z2
      exact ⟨v, k1, At.gr g d v k2⟩
  · rcases other j _ q with ⟨z, z2⟩ | ⟨z, z2⟩
    · cases z2
    · obtain ⟨q1, zs, k1, k2, k3, k4, k5⟩ := s.own j fs z2
      exact ⟨q1, zs, k1, k2, k3, by rw [hs q1 k2 (fun y => k3.1 (by rw [y]; exact w1.1)) (fun y => k3.1 (by rw [y]; exact w2.1))]; exact k4, Ats.gr g _ _ k5⟩
  · rcases other j _ e1 with ⟨z, z2⟩ | ⟨z, z2⟩
    · cases z2
    · rcases other k _ e2 with ⟨y, y2⟩ | ⟨y, y2⟩
      · cases y2
      · exact s.inj j k fs gs q z2 y2 e3 e4
  · rcases other j _ q with ⟨z, z2⟩ | ⟨z, z2⟩
    · cases z2
    · exact s.row j z2
  · rcases other j _ q with ⟨z, z2⟩ | ⟨z, z2⟩
    · cases z2
      subst z
      exact ⟨st.p, st.R, st.B, h1, hP, ⟨m1, m2, m3⟩, w1, w2, x1, x2, x3⟩
    · exact absurd (noP j st2 z2).symm z
  · rcases other j _ q with ⟨z, z2⟩ | ⟨z, z2⟩
    · rcases other k _ q2 with ⟨y, y2⟩ | ⟨y, y2⟩
      · rw [y, z]
      · exact absurd (noP k st3 y2).symm y
    · exact absurd (noP j st2 z2).symm z
end
/-- a method that may change the object: its arguments beside self; how it ends -/
def spM (L : Pm) {α : Type} (pre : α → PSt → Prop) (args : α → List D) (R : α → PSt → D → PSt → Prop) : Sp := fun vs H Q _ => ∃ (S : List Addr) (ws : List V) (a : α) (st : PSt), vs = .ref st.p :: ws ∧ PObj L H S st.p st.R st.B st ∧ (∀ a ∈ S, ∃ u, H a = some u ∧ nt u) ∧ (∀ Pt ∈ L.Ps, GxR.TabG (hide H S) Pt) ∧
  Ats (hide H S) (args a) ws ∧ pre a st ∧ ∀ d v H2 st', R a st d st' → Gr (hide H S) (hide H2 S) → (∀ b ∈ S, b ≠ st.R → b ≠ st.B → H2 b = H b) → PObj L H2 S st.p st.R st.B st' → At (hide H2 S) d v → Q v H2
/-- a method that only reads it -/
def spMr (L : Pm) {α : Type} (pre : α → PSt → Prop) (args : α → List D) (R : α → PSt → D → Prop) : Sp := fun vs H Q _ => ∃ (S : List Addr) (ws : List V) (a : α) (st : PSt), vs = .ref st.p :: ws ∧ PObj L H S st.p st.R st.B st ∧ (∀ a ∈ S, ∃ u, H a = some u ∧ nt u) ∧ (∀ Pt ∈ L.Ps, GxR.TabG (hide H S) Pt) ∧
  Ats (hide H S) (args a) ws ∧ pre a st ∧ ∀ d v H2, R a st d → Gr (hide H S) (hide H2 S) → (∀ b ∈ S, H2 b = H b) → At (hide H2 S) d v → Q v H2
section
variable {L : Pm} {G : Ctx} {F : Frm} {En : Ends} {T : List Addr} {σ : L2.St} {H : Hp} {te : TE} {ta : TA} {t u : TS} {i : Nat} {st : PSt} {d : D} {ds : List D} {α : Type} {pre : α → PSt → Prop} {args : α → List D} {Rr : α → PSt → D → Prop} {Rw : α → PSt → D → PSt → Prop} {E : XK} {m : Str}
theorem ev_methR (h : G[i]? = some (some (.prog st))) (hm : ∀ a b c d, (pFields a b c d).lookup m = none) (a : α) (ha : EvA L ta G (args a)) (hp : pre a st) (hR : ∀ x, Rr a st x → x = d) : Ev L (tMeth L.C m (spMr L pre args Rr) [] E (tVar i) ta) G d := fun F T σ H s Q q => by
  obtain ⟨h1, ⟨dx, sg, rv, a1, _⟩, _⟩ := s.pAt h
  refine ⟨_, h1, st.p, dx, _, rfl, a1, hm _ _ _ _, ha F T σ H s _ fun ds vs H1 e s1 b => ?_⟩
  subst e
  have S1 := s.step s1
  obtain ⟨_, hO, _⟩ := S1.pAt h
  refine ⟨T, vs, a, st, by rw [List.append_nil], hO, S1.inT, S1.tab, b, hp, fun d' v H2 r g same a2 => q d' v H2 (hR d' r) (s1.trans ⟨g, fun b hb _ => same b hb, fun b hb => ?_⟩) a2⟩
  obtain ⟨u, e, n⟩ := S1.inT b (S1.sub b (S1.subM b hb))
  have e2 := same b (S1.sub b (S1.subM b hb))
  exact ⟨(S1.rows b hb).gr g e2, u, by rw [e2]; exact e, n⟩
/-- a call that changes the object -/
theorem call_methW (s : Sh L G F T σ H) (h : G[i]? = some (some (.prog st))) (hV : F.V = []) (hm : ∀ a b c d, (pFields a b c d).lookup m = none) (a : α) (ha : EvA L ta G (args a)) (hp : pre a st) (hR : ∀ d st', Rw a st d st' → st'.p = st.p ∧ st'.R = st.R ∧ st'.B = st.B) {Q : VK}
    (q : ∀ d v H2 st', Rw a st d st' → Sh L (G.set i (some (.prog st'))) F T σ H2 → At (hide H2 T) d v → Q v H2) : tMeth L.C m (spM L pre args Rw) [] E (tVar i) ta σ H Q := by
  obtain ⟨h1, ⟨dx, sg, rv, a1, _⟩, _⟩ := s.pAt h
  refine ⟨_, h1, st.p, dx, _, rfl, a1, hm _ _ _ _, ha F T σ H s _ fun ds vs H1 e s1 b => ?_⟩
  subst e
  have S1 := s.step s1
  obtain ⟨_, hO, _⟩ := S1.pAt h
  exact ⟨T, vs, a, st, by rw [List.append_nil], hO, S1.inT, S1.tab, b, hp, fun d' v H2 st' r g same o a2 => q d' v H2 st' r (S1.turned h hV (hR d' st' r) g same o) a2⟩
theorem go_methS (h : G[i]? = some (some (.prog st))) (hV : F.V = []) (hm : ∀ a b c d, (pFields a b c d).lookup m = none) (a : α) (ha : EvA L ta G (args a)) (hp : pre a st) (hR : ∀ d st', Rw a st d st' → st'.p = st.p ∧ st'.R = st.R ∧ st'.B = st.B)
    (k : ∀ d st', Rw a st d st' → Nx L F En.nx (G.set i (some (.prog st')))) : Go L F En (tDrop (tMeth L.C m (spM L pre args Rw) [] E (tVar i) ta)) G := fun T σ H s =>
  call_methW s h hV hm a ha hp hR fun d v H2 st' r s2 _ => k d st' r T σ H2 s2
/-- if not self.m(..): .. -/
theorem go_ifNotM {b : Bool} (h : G[i]? = some (some (.prog st))) (hV : F.V = []) (hm : ∀ a b c d, (pFields a b c d).lookup m = none) (a : α) (ha : EvA L ta G (args a)) (hp : pre a st) (hR : ∀ d st', Rw a st d st' → st'.p = st.p ∧ st'.R = st.R ∧ st'.B = st.B) (hb : ∀ d st', Rw a st d st' → d = .bl b)
    (k1 : ∀ d st', Rw a st d st' → b = false → Go L F En t (G.set i (some (.prog st')))) (k2 : ∀ d st', Rw a st d st' → b = true → Go L F En u (G.set i (some (.prog st')))) : Go L F En (tIfS (tNot (tB (tMeth L.C m (spM L pre args Rw) [] E (tVar i) ta))) t u) G := fun T σ H s => by
  refine call_methW s h hV hm a ha hp hR fun d v H2 st' r s2 a2 => ?_
  have e := hb d st' r
  subst e
  refine ⟨b, at_bl.mp a2, ?_⟩
  cases hbb : b with
  | true => exact k2 _ st' r hbb T σ H2 s2
  | false => exact k1 _ st' r hbb T σ H2 s2
/-! ### starts and ends -/
def ctxM (n : Nat) (st : PSt) (ds : List D) : Ctx := some (.prog st) :: (ds.map (fun d => some (.d d)) ++ List.replicate (n - 1 - ds.length) none)
theorem sh_startM {S : List Addr} {N : List Str} {ws : List V} {V0 : List (Addr × HO)} (hS : ∀ a ∈ S, ∃ u, H a = some u ∧ nt u) (hT : ∀ Pt ∈ L.Ps, GxR.TabG (hide H S) Pt) (ha : Ats (hide H S) ds ws) (hO : PObj L H S st.p st.R st.B st) (hN : 1 + ds.length ≤ N.length) (hV : ∀ q ∈ V0, H q.1 = some q.2 ∧ q.1 ∈ S) :
    Sh L (ctxM N.length st ds) { S := S, M := [], W := [st.R, st.B], H0 := H, V := V0 } S (L2.start N (.ref st.p :: ws)) H := by
  have hl := ha.length
  obtain ⟨_, _, _, _, _, _, _, _, t1, t2, t3, _⟩ := id hO
  have no : ∀ (i : Nat) x, (ctxM N.length st ds)[i]? = some (some x) → (i = 0 ∧ x = .prog st) ∨ ∃ d j, i = j + 1 ∧ x = .d d ∧ ds[j]? = some d := fun i x q => by
    unfold ctxM at q
    cases i with
    | zero => cases q; exact .inl ⟨rfl, rfl⟩
    | succ i =>
      rw [List.getElem?_cons_succ] at q
      by_cases z : i < ds.length
      · rw [List.getElem?_append_left (by simpa using z), List.getElem?_map, List.getElem?_eq_getElem z] at q
        cases q
        exact .inr ⟨_, i, rfl, rfl, List.getElem?_eq_getElem z⟩
      · rw [List.getElem?_append_right (by simpa using z), List.getElem?_replicate] at q
        split at q <;> cases q
  have nd : ∀ (i : Nat) x, (ctxM N.length st ds)[i]? = some (some x) → (∀ e, x ≠ .own e) ∧ x ≠ .row := fun i x q => by
    rcases no i x q with ⟨_, e⟩ | ⟨d, j, _, e, _⟩ <;> rw [e] <;> exact ⟨fun _ z => (nomatch z), fun z => nomatch z⟩
  refine ⟨?_, hS, fun a h => h, fun a h => absurd h List.not_mem_nil, fun a b h => absurd h List.not_mem_nil, fun a h hn => absurd h hn, fun a _ _ _ => rfl, fun a h => absurd h List.not_mem_nil, Gr.refl _, fun q h => absurd h List.not_mem_nil, fun q h => ⟨(hV q h).1, (hV q h).2, List.not_mem_nil⟩, fun a h => absurd h List.not_mem_nil, hT, fun i d q => ?_, fun i es q => ?_, fun i j es fs p q => ?_, fun i q => ?_, fun i st2 q => ?_, fun i j st2 q st3 z => ?_⟩
  · unfold L2.start ctxM
    rw [List.length_append, List.length_map, List.length_cons, List.length_replicate, List.length_cons, List.length_append, List.length_map, List.length_replicate, hl]
    omega
  · rcases no i _ q with ⟨_, e⟩ | ⟨d', j, rfl, e, e2⟩
    · cases e
    · cases e
      obtain ⟨v, h1, h2⟩ := ha.get e2
      refine ⟨v, ?_, h2⟩
      unfold L2.start
      have hi : j < ws.length := (List.getElem?_eq_some_iff.mp h1).1
      rw [List.map_cons, List.cons_append, List.getElem?_cons_succ, List.getElem?_append_left (by simpa using hi), List.getElem?_map, h1]
      rfl
  · exact absurd rfl ((nd i _ q).1 es)
  · exact absurd rfl ((nd i _ q).1 es)
  · exact absurd rfl (nd i _ q).2
  · rcases no i _ q with ⟨e0, e⟩ | ⟨d', j, rfl, e, e2⟩
    · cases e
      subst e0
      exact ⟨st.p, st.R, st.B, rfl, hO, ⟨List.not_mem_nil, List.not_mem_nil, List.not_mem_nil⟩, ⟨t2, List.mem_cons_self⟩, ⟨t3, List.mem_cons_of_mem _ List.mem_cons_self, t1⟩, List.not_mem_nil, List.not_mem_nil, List.not_mem_nil⟩
    · cases e
  · rcases no i _ q with ⟨e0, e⟩ | ⟨d', k, rfl, e, e2⟩
    · rcases no j _ z with ⟨e1, _⟩ | ⟨_, _, _, e1, _⟩
      · rw [e1, e0]
      · cases e1
    · cases e
theorem start_Mr {N : List Str} {vs : List V} {H : Hp} {Q : VK} {t : TS} (h : spMr L pre args Rr vs H Q E) (hN : ∀ a, 1 + (args a).length ≤ N.length)
    (k : ∀ a st F rt, pre a st → F.M = [] → st.p ∈ F.S ∧ st.R ∈ F.S ∧ st.B ∈ F.S → (∃ rv, (st.R, HO.lst rv) ∈ F.V) → (∀ d, Rr a st d → RtOk L F rt d) → Go L F { nx := fun _ H' => rt .non H', rt := rt } t (ctxM N.length st (args a))) : t { nx := fun _ H' => Q .non H', rt := Q } (L2.start N vs) H := by
  obtain ⟨S, ws, a, st, rfl, hO, hS, hT, ha, hP, hQ⟩ := h
  obtain ⟨dx, sg, rv, a1, a2, a3, a4, a5, t1, t2, t3, _⟩ := id hO
  refine k a st { S := S, M := [], W := [st.R, st.B], H0 := H, V := [(st.R, .lst rv), (st.B, .lst (st.basis.map intV))] } Q hP rfl ⟨t1, t2, t3⟩ ⟨rv, List.mem_cons_self⟩ (fun d r v H2 g same _ held a => hQ d v H2 r g (fun b hb => ?_) a) S _ H (sh_startM hS hT ha hO (hN a) fun q hq => ?_)
  · by_cases z : b = st.R
    · rw [z, a3]
      exact held (st.R, .lst rv) List.mem_cons_self
    · by_cases z2 : b = st.B
      · rw [z2, a5]
        exact held (st.B, .lst (st.basis.map intV)) (List.mem_cons_of_mem _ List.mem_cons_self)
      · exact same b hb List.not_mem_nil fun z3 => (List.mem_cons.mp z3).elim z fun z4 => z2 (List.mem_singleton.mp z4)
  · rcases List.mem_cons.mp hq with z | z
    · rw [z]
      exact ⟨a3, t2⟩
    · rw [List.mem_singleton.mp z]
      exact ⟨a5, t3⟩
/-- this may be handed back with this state of the object -/
def RtM (L : Pm) (F : Frm) (rt : VK) (d : D) (st' : PSt) : Prop := ∀ (v : V) (H : Hp), Gr (hide F.H0 F.S) (hide H F.S) → (∀ a ∈ F.S, a ∉ F.M → a ∉ F.W → H a = F.H0 a) → PObj L H F.S st'.p st'.R st'.B st' → At (hide H F.S) d v → rt v H
theorem start_M {N : List Str} {vs : List V} {H : Hp} {Q : VK} {t : TS} (h : spM L pre args Rw vs H Q E) (hN : ∀ a, 1 + (args a).length ≤ N.length) (hR : ∀ a st d st', Rw a st d st' → st'.p = st.p ∧ st'.R = st.R ∧ st'.B = st.B)
    (k : ∀ a st F rt, pre a st → F.M = [] → F.V = [] → st.p ∈ F.S ∧ st.R ∈ F.S ∧ st.B ∈ F.S → (∀ d st', Rw a st d st' → RtM L F rt d st') → Go L F { nx := fun _ H' => rt .non H', rt := rt } t (ctxM N.length st (args a))) : t { nx := fun _ H' => Q .non H', rt := Q } (L2.start N vs) H := by
  obtain ⟨S, ws, a, st, rfl, hO, hS, hT, ha, hP, hQ⟩ := h
  obtain ⟨dx, sg, rv, a1, a2, a3, a4, a5, t1, t2, t3, _⟩ := id hO
  refine k a st { S := S, M := [], W := [st.R, st.B], H0 := H } Q hP rfl rfl ⟨t1, t2, t3⟩ (fun d st' r v H2 g same o a2 => hQ d v H2 st' r g (fun b hb n1 n2 => same b hb List.not_mem_nil fun z3 => (List.mem_cons.mp z3).elim n1 fun z4 => n2 (List.mem_singleton.mp z4)) ?_ a2) S _ H (sh_startM hS hT ha hO (hN a) fun q hq => absurd hq List.not_mem_nil)
  obtain ⟨e1, e2, e3⟩ := hR a st d st' r
  rw [← e1, ← e2, ← e3]
  exact o
theorem Sh.rtM {rt : VK} {v : V} (s : Sh L G F T σ H) (h : G[i]? = some (some (.prog st))) (hS : st.p ∈ F.S ∧ st.R ∈ F.S ∧ st.B ∈ F.S) (a : At (hide H T) d v) (k : RtM L F rt d st) : rt v H := by
  have sh : Gr (hide H T) (hide H F.S) := Gr.show fun x hx => s.sub x hx
  obtain ⟨_, ⟨dx, sg, rv, a1, a2, a3, a4, a5, t1, t2, t3, t4⟩, _⟩ := s.pAt h
  exact k v H (s.gr.trans sh) s.keep ⟨dx, sg, rv, a1, At.gr sh _ _ a2, a3, Ats.gr sh _ _ a4, a5, hS.1, hS.2.1, hS.2.2, t4⟩ (At.gr sh d v a)
theorem go_retM (he : Ev L te G d) (h : G[i]? = some (some (.prog st))) (hS : st.p ∈ F.S ∧ st.R ∈ F.S ∧ st.B ∈ F.S) (k : RtM L F En.rt d st) : Go L F En (tRet te) G := fun T σ H s => he F T σ H s _ fun d' v H2 e s2 a => by
  subst e
  exact (s.step s2).rtM h hS a k
theorem nx_endM {rt : VK} (h : G[i]? = some (some (.prog st))) (hS : st.p ∈ F.S ∧ st.R ∈ F.S ∧ st.B ∈ F.S) (k : RtM L F rt .non st) : Nx L F (fun _ H' => rt .non H') G := fun T σ H s => s.rtM h hS (at_non.mpr rfl) k
end
end Pw

/-! Loops and comprehensions over self.rows. -/
namespace Pw
open PySem L2
section
variable {L : Pm} {G : Ctx} {F : Frm} {T : List Addr} {σ : L2.St} {H : Hp}
theorem Sh.hold (s : Sh L G F T σ H) {p : Addr} {u : HO} (h : H p = some u) (hS : p ∈ F.S) (hM : p ∉ F.M) : Sh L G { F with V := (p, u) :: F.V } T σ H :=
  { s with held := fun q hq => (List.mem_cons.mp hq).elim (fun e => by rw [e]; exact ⟨h, hS, hM⟩) (s.held q) }
theorem Sh.unhold {V' : List (Addr × HO)} (h : ∀ q ∈ F.V, q ∈ V') (s : Sh L G { F with V := V' } T σ H) : Sh L G F T σ H := { s with held := fun q hq => s.held q (h q hq) }
end
section
variable {L : Pm} {G : Ctx} {F : Frm} {E : Ends} {t : TS} {i : Nat} {st : PSt}
/-- for j, row in enumerate(self.rows): .. -/
theorem go_forRows (O : Ob L) {g : TG} (h : G[i]? = some (some (.prog st))) (js : List Nat) (bd : Nat → List D) (C : Nat → Ctx → Prop) (c0 : C 0 G) (hg : ∀ k, k < st.rows.length → Tg g (.tup [.int (k : Int), st.rows.getD k .non]) js (bd k)) (hj : ∀ k G', C k G' → ∀ j ∈ js, j < G'.length)
    (body : ∀ k G' A' V' N, k < st.rows.length → C k G' → (∀ G'', C (k + 1) G'' → Nx L { F with A := A', V := V' } N G'') → Go L { F with A := A', V := V' } { E with nx := N, ct := N, bk := E.nx } t (setC G' (js.zip (bd k)))) (done : ∀ G', C st.rows.length G' → Nx L F E.nx G') :
    Go L F E (tFor (iEnum L.K (tCons (tFld L.K (tVar i) "rows") tNil)) g t) G := fun T σ H s => by
  obtain ⟨_, _, ⟨_, m2, _⟩, w1, _⟩ := s.pAt h
  refine fld_at O h (v := fun _ => .ref st.R) O.rows (fun _ => rfl) s fun dx sg rv a1 a2 a3 a4 a5 => ⟨st.R, rv, rfl, SqL.of a3, ?_⟩
  have S1 := (s.anch).hold a3 w1.1 m2
  rw [← a4.length] at body hg done
  have wk : Walk (Ite L.K st.R) rv.length (fun H' => SqL L.K H' st.R rv) (YPair (fun i => some (.int (i : Nat))) (fun i => rv[i]?)) := walk_enum
  refine for_it wk (fun k σ' H' => ∃ G' T', C k G' ∧ Sh L G' { F with A := (H, T) :: F.A, V := (st.R, .lst rv) :: F.V } T' σ' H') ⟨G, T, c0, S1⟩ (fun k σ' H' _ ⟨G', T', _, s'⟩ => SqL.of (s'.held (st.R, .lst rv) List.mem_cons_self).1) ?_ ?_
  · rintro k x σ' H2 H3 hk ⟨G', T', cc, s'⟩ y
    have g1 : Gr (hide H T) (hide H2 T') := s'.anc (H, T) List.mem_cons_self
    obtain ⟨s3, a3'⟩ := pair_at (dx := .int (k : Int)) (dy := st.rows.getD k .non) s' y (fun v hv => by
      cases hv
      exact at_int.mpr rfl) fun v hv => by
      obtain ⟨d, e2, b2⟩ := a4.get' hv
      rw [List.getD_eq_getElem?_getD, e2]
      exact At.gr g1 d v b2
    refine hg k hk T' σ' H3 x a3' _ fun us hu au => ?_
    exact body k G' _ _ _ hk cc (fun G'' c2 T2 σ2 H4 s4 => ⟨G'', T2, c2, s4⟩) T' _ H3 ((s'.step s3).setAll (hj k G' cc) hu au)
  · rintro σ' H' ⟨G', T', cc, s'⟩
    have s2 : Sh L G' { F with A := (H, T) :: F.A } T' σ' H' := Sh.unhold (F := { F with A := (H, T) :: F.A }) (V' := (st.R, .lst rv) :: F.V) (fun q hq => List.mem_cons_of_mem _ hq) s'
    exact done G' cc T' σ' H' (s2.unanch fun q hq => List.mem_cons_of_mem _ hq)
theorem go_forRowsS (O : Ob L) {g : TG} {u : TS} (h : G[i]? = some (some (.prog st))) (js : List Nat) (bd : Nat → List D) (C : Nat → Ctx → Prop) (c0 : C 0 G) (hg : ∀ k, k < st.rows.length → Tg g (.tup [.int (k : Int), st.rows.getD k .non]) js (bd k)) (hj : ∀ k G', C k G' → ∀ j ∈ js, j < G'.length)
    (body : ∀ k G' A' V' N, k < st.rows.length → C k G' → (∀ G'', C (k + 1) G'' → Nx L { F with A := A', V := V' } N G'') → Go L { F with A := A', V := V' } { E with nx := N, ct := N, bk := u E } t (setC G' (js.zip (bd k)))) (done : ∀ G', C st.rows.length G' → Go L F E u G') :
    Go L F E (tSeq (tFor (iEnum L.K (tCons (tFld L.K (tVar i) "rows") tNil)) g t) u) G := go_seq (go_forRows O h js bd C c0 hg hj body done)
theorem wipeC_get {vs : List Nat} {i : Nat} (h : i ∉ vs) : (wipeC G vs)[i]? = G[i]? := by
  induction vs with
  | nil => rfl
  | cons v vs ih =>
    unfold wipeC
    rw [List.getElem?_set_ne fun z => h (by rw [z]; exact List.mem_cons_self), ih fun z => h (List.mem_cons_of_mem _ z)]
/-- [e for j, row in enumerate(self.rows)] -/
theorem ev_lcRows (O : Ob L) {g : TG} {tt : TT} {te : TE} {vs js : List Nat} {bd : Nat → List D} {f : Nat → Bool} {out : Nat → D} (h : G[i]? = some (some (.prog st))) (hn : st.rows.length ≤ 50000) (hv : ∀ j ∈ vs, j < G.length) (hjs : ∀ j ∈ js, j ∈ vs)
    (hg : ∀ k, k < st.rows.length → Tg g (.tup [.int (k : Int), st.rows.getD k .non]) js (bd k)) (ht : ∀ k, k < st.rows.length → EvT L tt (setC (wipeC G vs) (js.zip (bd k))) (f k)) (he : ∀ k, k < st.rows.length → f k = true → Ev L te (setC (wipeC G vs) (js.zip (bd k))) (out k)) :
    Ev L (tLc (iEnum L.K (tCons (tFld L.K (tVar i) "rows") tNil)) g tt te vs) G (.lst (given st.rows.length f out)) := fun F T σ H s Q q => by
  obtain ⟨_, _, ⟨_, m2, _⟩, w1, _⟩ := s.pAt h
  unfold tLc
  refine fld_at O h (v := fun _ => .ref st.R) O.rows (fun _ => rfl) s fun dx sg rv a1 a2 a3 a4 a5 => ⟨st.R, rv, rfl, SqL.of a3, fun Dl hD => ?_⟩
  rw [← a4.length] at hn hg ht he q
  have nT := s.newT hD
  have RT : st.R ∈ T := s.sub _ w1.1
  have M0 := (s.make (u := .lst []) hD nt_lst).hold (p := st.R) (u := .lst rv) (by rw [upd_ne (fun z => nT (by rw [← z]; exact RT))]; exact a3) w1.1 m2
  have e0 : hide (upd H Dl (.lst [])) (Dl :: T) = hide H T := by
    funext a
    by_cases z : a = Dl
    · subst z
      rw [hide_in List.mem_cons_self, hide_out nT, hD]
    · by_cases y : a ∈ T
      · rw [hide_in (List.mem_cons_of_mem _ y), hide_in y]
      · rw [hide_out (fun x => (List.mem_cons.mp x).elim z y), hide_out y, upd_ne z]
  have wk : Walk (Ite L.K st.R) rv.length (fun H' => SqL L.K H' st.R rv) (YPair (fun i => some (.int (i : Nat))) (fun i => rv[i]?)) := walk_enum
  refine lc_it wk (fun k H' => Sh L G { F with X := Dl :: F.X, V := (st.R, .lst rv) :: F.V } (Dl :: T) σ H' ∧ Gr (hide H T) (hide H' (Dl :: T)) ∧ (∀ a ∈ T, a ∉ F.M → H' a = H a) ∧ ∃ acc, H' Dl = some (.lst acc) ∧ Ats (hide H' (Dl :: T)) (given k f out) acc)
    ⟨M0, by rw [e0]; exact Gr.refl _, fun a ha _ => upd_ne fun z => nT (by rw [← z]; exact ha), [], upd_same, ats_nil.mpr rfl⟩ (fun k H' _ pv => SqL.of (pv.1.held (st.R, .lst rv) List.mem_cons_self).1) ?_ ?_
  · rintro k x H2 H3 hk ⟨p1, p2, p3, acc, p4, p5⟩ y
    obtain ⟨s3, a3'⟩ := pair_at (dx := .int (k : Int)) (dy := st.rows.getD k .non) p1 y (fun v hv => by
      cases hv
      exact at_int.mpr rfl) fun v hv => by
      obtain ⟨d, e2, b2⟩ := a4.get' hv
      rw [List.getD_eq_getElem?_getD, e2]
      exact At.gr p2 d v b2
    have P3 := p1.step s3
    refine hg k hk _ _ _ _ a3' _ fun us hu au => ⟨wipe_setAll hjs, ?_⟩
    have W3 : Sh L (setC (wipeC G vs) (js.zip (bd k))) _ _ _ H3 := (P3.wipe hv).setAll (fun j hj => by rw [wipeC_length]; exact hv j (hjs j hj)) hu au
    refine ht k hk _ _ _ _ W3 _ fun b H4 eb s4 => ?_
    subst eb
    have W4 := W3.step s4
    have fin : ∀ {H5 : Hp}, Step L { F with X := Dl :: F.X, V := (st.R, .lst rv) :: F.V } (Dl :: T) H2 H5 → Sh L G { F with X := Dl :: F.X, V := (st.R, .lst rv) :: F.V } (Dl :: T) σ H5 ∧ Gr (hide H T) (hide H5 (Dl :: T)) ∧ (∀ a ∈ T, a ∉ F.M → H5 a = H a) ∧ H5 Dl = some (.lst acc) ∧ Ats (hide H5 (Dl :: T)) (given k f out) acc := fun {H5} s5 =>
      ⟨p1.step s5, p2.trans s5.gr, fun a ha hm => (s5.same a (List.mem_cons_of_mem _ ha) hm).trans (p3 a ha hm), by
        rw [s5.same Dl List.mem_cons_self fun z => nT (s.sub _ (s.subM _ z))]
        exact p4, Ats.gr s5.gr _ _ p5⟩
    by_cases hf : f k = true
    · rw [if_pos hf]
      refine he k hk hf _ _ _ _ W4 _ fun d z H5 ed s5 a5' => ?_
      subst ed
      obtain ⟨f1, f2, f3, f4, f5⟩ := fin ((s3.trans s4).trans s5)
      have e5 := hide_upd (H := H5) (T := Dl :: T) (p := Dl) (o := .lst (acc ++ [z])) List.mem_cons_self
      refine ⟨acc, f4, by rw [f5.length]; exact szlt (Nat.lt_of_le_of_lt (given_len _ _ _) (by omega)), f1.grow List.mem_cons_self, by rw [e5]; exact f2, fun a ha hm => by
        rw [upd_ne (fun z => nT (by rw [← z]; exact ha))]
        exact f3 a ha hm, acc ++ [z], upd_same, ?_⟩
      rw [e5, given_yes hf]
      exact f5.append (ats_cons' a5' (ats_nil.mpr rfl))
    · rw [if_neg hf]
      obtain ⟨f1, f2, f3, f4, f5⟩ := fin (s3.trans s4)
      refine ⟨f1, f2, f3, acc, f4, ?_⟩
      rw [given_no (Bool.eq_false_iff.mpr hf)]
      exact f5
  · rintro H' ⟨p1, p2, p3, acc, p4, p5⟩
    have sh : Gr (hide H' (Dl :: T)) (hide H' T) := Gr.show fun a ha => List.mem_cons_of_mem _ ha
    refine q _ _ _ rfl ⟨p2.trans sh, p3, fun a ha => ⟨(p1.rows a ha).gr sh rfl, p1.inT a (List.mem_cons_of_mem _ (s.sub a (s.subM a ha)))⟩⟩ (at_lst.mpr ⟨Dl, acc, rfl, by rw [hide_out nT]; exact p4, Ats.gr sh _ _ p5⟩)
end
end Pw

/-! A comprehension's list as one's own. -/
namespace Pw
open PySem L2
section
variable {L : Pm} {G : Ctx} {F : Frm} {E : Ends}
/-- xs = [e for ..], and xs will be changed -/
theorem go_setLcO {wi : TI} {g : TG} {tt : TT} {te : TE} {vs js : List Nat} {n i : Nat} {item : Nat → D} {bd : Nat → List D} {f : Nat → Bool} {out : Nat → D} (hs : Src L wi G n item) (hn : n ≤ 50000) (hv : ∀ j ∈ vs, j < G.length) (hjs : ∀ j ∈ js, j ∈ vs)
    (hg : ∀ i, i < n → Tg g (item i) js (bd i)) (ht : ∀ i, i < n → EvT L tt (setC (wipeC G vs) (js.zip (bd i))) (f i)) (he : ∀ i, i < n → f i = true → Ev L te (setC (wipeC G vs) (js.zip (bd i))) (out i))
    (hi : i < G.length) (k : Nx L F E.nx (G.set i (some (.own (given n f out))))) : Go L F E (tAsg (tLc wi g tt te vs) (gName i)) G := fun T σ H s => hs.run F T σ H s _ fun J H1 Gd Y n' item' p s1 w hG hY Dl hD => by
  obtain ⟨rfl, rfl⟩ := p
  have S1 := s.step s1
  have nT := S1.newT hD
  have M0 := S1.make (u := .lst []) hD nt_lst
  have e0 : hide (upd H1 Dl (.lst [])) (Dl :: T) = hide H1 T := by
    funext a
    by_cases z : a = Dl
    · subst z
      rw [hide_in List.mem_cons_self, hide_out nT, hD]
    · by_cases y : a ∈ T
      · rw [hide_in (List.mem_cons_of_mem _ y), hide_in y]
      · rw [hide_out (fun x => (List.mem_cons.mp x).elim z y), hide_out y, upd_ne z]
  refine lc_it w (fun i H' => Sh L G { F with X := Dl :: F.X } (Dl :: T) σ H' ∧ Gr (hide H1 T) (hide H' (Dl :: T)) ∧ ∃ acc, H' Dl = some (.lst acc) ∧ Ats (hide H' (Dl :: T)) (given i f out) acc)
    ⟨M0, by rw [e0]; exact Gr.refl _, [], upd_same, ats_nil.mpr rfl⟩ (fun i H' _ pv => hG H' _ pv.2.1) ?_ ?_
  · rintro i x H2 H3 hi ⟨p1, p2, acc, p4, p5⟩ y
    obtain ⟨s3, a3⟩ := hY i H2 x H3 _ _ _ _ hi p2 p1 y
    have P3 := p1.step s3
    refine hg i hi _ _ _ _ a3 _ fun us hu au => ⟨wipe_setAll hjs, ?_⟩
    have W3 : Sh L (setC (wipeC G vs) (js.zip (bd i))) _ _ _ H3 := (P3.wipe hv).setAll (fun j hj => by rw [wipeC_length]; exact hv j (hjs j hj)) hu au
    refine ht i hi _ _ _ _ W3 _ fun b H4 eb s4 => ?_
    subst eb
    have W4 := W3.step s4
    have fin : ∀ {H5 : Hp}, Step L { F with X := Dl :: F.X } (Dl :: T) H2 H5 → Sh L G { F with X := Dl :: F.X } (Dl :: T) σ H5 ∧ Gr (hide H1 T) (hide H5 (Dl :: T)) ∧ H5 Dl = some (.lst acc) ∧ Ats (hide H5 (Dl :: T)) (given i f out) acc := fun {H5} s5 =>
      ⟨p1.step s5, p2.trans s5.gr, by
        rw [s5.same Dl List.mem_cons_self fun z => nT (S1.sub _ (S1.subM _ z))]
        exact p4, Ats.gr s5.gr _ _ p5⟩
    by_cases hf : f i = true
    · rw [if_pos hf]
      refine he i hi hf _ _ _ _ W4 _ fun d z H5 ed s5 a5 => ?_
      subst ed
      obtain ⟨f1, f2, f4, f5⟩ := fin ((s3.trans s4).trans s5)
      have e5 := hide_upd (H := H5) (T := Dl :: T) (p := Dl) (o := .lst (acc ++ [z])) List.mem_cons_self
      refine ⟨acc, f4, by rw [f5.length]; exact szlt (Nat.lt_of_le_of_lt (given_len _ _ _) (by omega)), f1.grow List.mem_cons_self, by rw [e5]; exact f2, acc ++ [z], upd_same, ?_⟩
      rw [e5, given_yes hf]
      exact f5.append (ats_cons' a5 (ats_nil.mpr rfl))
    · rw [if_neg hf]
      obtain ⟨f1, f2, f4, f5⟩ := fin (s3.trans s4)
      refine ⟨f1, f2, acc, f4, ?_⟩
      rw [given_no (Bool.eq_false_iff.mpr hf)]
      exact f5
  · rintro H' ⟨p1, p2, acc, p4, p5⟩
    exact k (Dl :: T) _ H' (p1.adopt hi List.mem_cons_self (fun y => nT (S1.xs Dl y).1) (fun y => nT (S1.sub Dl y)) p4 p5)
end
end Pw

/-! A Program is made. -/
namespace Pw
open PySem L2
/-- what __init__ promises: of the new object at p the state st0 -/
def spI (L : Pm) {α : Type} (pre : α → Prop) (args : α → List D) (st0 : α → Addr → Addr → Addr → PSt) : Sp := fun vs H Q _ => ∃ (S : List Addr) (p dx : Addr) (ws : List V) (a : α), vs = .ref p :: ws ∧ H p = some (.ins L.C dx []) ∧ p ∉ S ∧ (∀ b ∈ S, ∃ u, H b = some u ∧ nt u) ∧ (∀ Pt ∈ L.Ps, GxR.TabG (hide H (p :: S)) Pt) ∧
  Ats (hide H (p :: S)) (args a) ws ∧ pre a ∧ ∀ R B H2, H R = none → H B = none → R ≠ B → Gr (hide H (p :: S)) (hide H2 (B :: R :: p :: S)) → (∀ b ∈ S, H2 b = H b) → PObj L H2 (B :: R :: p :: S) p R B (st0 a p R B) → Q .non H2
section
variable {L : Pm} {G : Ctx} {F : Frm} {T : List Addr} {σ : L2.St} {H : Hp}
/-- a hidden object that nothing known speaks of changes -/
theorem Sh.poke (s : Sh L G F T σ H) {p : Addr} {u : HO} (hp : p ∈ T) (hu : nt u) (hM : p ∉ F.M) (hW : p ∈ F.S → p ∈ F.W) (hV : ∀ q ∈ F.V, q.1 ≠ p) (hO : ∀ (i : Nat) ds, G[i]? = some (some (.own ds)) → σ[i]? ≠ some (some (.ref p))) (hP : ∀ (i : Nat) st, G[i]? = some (some (.prog st)) → st.p ≠ p ∧ st.R ≠ p ∧ st.B ≠ p) :
    Sh L G F T σ (upd H p u) := by
  have e := hide_upd (H := H) (o := u) hp
  refine { s with inT := fun a ha => ?_, keep := fun a ha h1 h2 => ?_, rows := fun a ha => ?_, gr := by rw [e]; exact s.gr, anc := by rw [e]; exact s.anc, held := fun q hq => ?_, tab := by rw [e]; exact s.tab, dat := by rw [e]; exact s.dat, own := fun i ds q => ?_, prg := fun i st q => ?_ }
  · by_cases z : a = p
    · rw [z, upd_same]
      exact ⟨_, rfl, hu⟩
    · rw [upd_ne z]
      exact s.inT a ha
  · rw [upd_ne (fun z => h2 (by rw [z]; exact hW (by rw [← z]; exact ha)))]
    exact s.keep a ha h1 h2
  · exact (s.rows a ha).gr (by rw [e]; exact Gr.refl _) (upd_ne fun z => hM (by rw [← z]; exact ha))
  · obtain ⟨h1, h2⟩ := s.held q hq
    exact ⟨by rw [upd_ne (hV q hq)]; exact h1, h2⟩
  · obtain ⟨q1, ys, h1, h2, h3, h4, h5⟩ := s.own i ds q
    exact ⟨q1, ys, h1, h2, h3, by rw [upd_ne (fun z => hO i ds q (by rw [← z]; exact h1))]; exact h4, by rw [e]; exact h5⟩
  · obtain ⟨h1, ⟨dx, sg, rv, a1, a2, a3, a4, a5, t⟩, h3⟩ := s.pAt q
    obtain ⟨n1, n2, n3⟩ := hP i st q
    exact ⟨st.p, st.R, st.B, h1, ⟨dx, sg, rv, by rw [upd_ne n1]; exact a1, by rw [e]; exact a2, by rw [upd_ne n2]; exact a3, by rw [e]; exact a4, by rw [upd_ne n3]; exact a5, t⟩, h3⟩
end
section
variable {L : Pm} {H : Hp} {α : Type} {pre : α → Prop} {args : α → List D} {st0 : α → Addr → Addr → Addr → PSt} {E : XK}
def ctxI (n : Nat) (e : Option Ent) (ds : List D) : Ctx := e :: (ds.map (fun d => some (.d d)) ++ List.replicate (n - 1 - ds.length) none)
theorem ctxI_at {n : Nat} {e : Option Ent} {ds : List D} {i : Nat} {x : Ent} (q : (ctxI n e ds)[i]? = some (some x)) : (i = 0 ∧ e = some x) ∨ ∃ d j, i = j + 1 ∧ x = .d d ∧ ds[j]? = some d := by
  unfold ctxI at q
  cases i with
  | zero => cases q; exact .inl ⟨rfl, rfl⟩
  | succ i =>
    rw [List.getElem?_cons_succ] at q
    by_cases z : i < ds.length
    · rw [List.getElem?_append_left (by simpa using z), List.getElem?_map, List.getElem?_eq_getElem z] at q
      cases q
      exact .inr ⟨_, i, rfl, rfl, List.getElem?_eq_getElem z⟩
    · rw [List.getElem?_append_right (by simpa using z), List.getElem?_replicate] at q
      split at q <;> cases q
/-- __init__ up to the four fields -/
theorem start_I (O : Ob L) {N : List Str} {vs : List V} {Q : VK} {t1 t2 : TE} {rest : TS} (h : spI L pre args st0 vs H Q E) (hN : ∀ a, 1 + (args a).length ≤ N.length) (many : α → Nat) (signs : α → List D)
    (e1 : ∀ a, pre a → Ev L t1 (ctxI N.length none (args a)) (.int (many a : Int))) (e2 : ∀ a, pre a → Ev L t2 (ctxI N.length none (args a)) (.lst (signs a)))
    (k : ∀ a p R B F rt, pre a → F.M = [] → F.V = [] → p ∈ F.S ∧ R ∈ F.S ∧ B ∈ F.S → RtM L F rt .non (st0 a p R B) → Go L F { nx := fun _ H' => rt .non H', rt := rt } rest (ctxI N.length (some (.prog ⟨p, R, B, many a, signs a, [], []⟩)) (args a)))
    (hst : ∀ a p R B, (st0 a p R B).p = p ∧ (st0 a p R B).R = R ∧ (st0 a p R B).B = B) :
    (tSeq (sFld L.K (tVar 0) t1 "many") (tSeq (sFld L.K (tVar 0) t2 "signs") (tSeq (sFld L.K (tVar 0) (tLst tNil) "rows") (tSeq (sFld L.K (tVar 0) (tLst tNil) "basis") rest)))) { nx := fun _ H' => Q .non H', rt := Q } (L2.start N vs) H := by
  obtain ⟨S, p, dx, ws, a, rfl, hp, hpS, hS, hT, ha, hpre, hQ⟩ := h
  have hl := ha.length
  have inS : ∀ b ∈ p :: S, ∃ u, H b = some u ∧ nt u := fun b hb => by
    rcases List.mem_cons.mp hb with z | z
    · rw [z]
      exact ⟨_, hp, fun _ z => nomatch z⟩
    · exact hS b z
  have s0 := sh_start (L := L) (S := p :: S) (H := H) (N := N) (ds := []) (vs := []) inS hT (ats_nil.mpr rfl)
  have noC : ∀ (i : Nat) x, (ctx0 N.length [])[i]? ≠ some (some x) := fun i x e => by
    have e : (List.replicate (N.length - 0) (none : Option Ent))[i]? = some (some x) := e
    rw [List.getElem?_replicate] at e
    split at e <;> cases e
  have s1 : Sh L (ctx0 N.length []) { S := p :: S, M := [], W := [p], H0 := H } (p :: S) (L2.start N []) H := { s0 with keep := fun b hb h1 h2 => rfl, prg := fun i st e => absurd e (noC i _) }
  have sN := hN a
  have s2 : Sh L (ctxI N.length none (args a)) { S := p :: S, M := [], W := [p], H0 := H } (p :: S) (L2.start N (.ref p :: ws)) H := s1.alt (by
    unfold L2.start ctxI
    rw [List.length_append, List.length_map, List.length_cons, List.length_replicate, List.length_cons, List.length_append, List.length_map, List.length_replicate, hl]
    omega) fun i e q => by
    rcases ctxI_at q with ⟨_, z⟩ | ⟨d, j, rfl, rfl, e2⟩
    · cases z
    · obtain ⟨v, h1, h2⟩ := ha.get e2
      refine ⟨d, v, rfl, ?_, h2⟩
      unfold L2.start
      have hi : j < ws.length := (List.getElem?_eq_some_iff.mp h1).1
      rw [List.map_cons, List.cons_append, List.getElem?_cons_succ, List.getElem?_append_left (by simpa using hi), List.getElem?_map, h1]
      rfl
  generalize hF : ({ S := p :: S, M := [], W := [p], H0 := H } : Frm) = F at s2
  have fS : F.S = p :: S := by rw [← hF]
  have fM : F.M = [] := by rw [← hF]
  have fW : F.W = [p] := by rw [← hF]
  have fV : F.V = [] := by rw [← hF]
  have fX : F.X = [] := by rw [← hF]
  have fH : F.H0 = H := by rw [← hF]
  have σ0 : (L2.start N (.ref p :: ws))[0]? = some (some (.ref p)) := rfl
  generalize hσ : L2.start N (.ref p :: ws) = σ at s2 σ0
  have noO : ∀ (i : Nat) ds, (ctxI N.length none (args a))[i]? = some (some (.own ds)) → σ[i]? ≠ some (some (.ref p)) := fun i ds q => by
    rcases ctxI_at q with ⟨_, z⟩ | ⟨_, _, _, z, _⟩ <;> cases z
  have noP : ∀ (i : Nat) st, (ctxI N.length none (args a))[i]? = some (some (.prog st)) → st.p ≠ p ∧ st.R ≠ p ∧ st.B ≠ p := fun i ds q => by
    rcases ctxI_at q with ⟨_, z⟩ | ⟨_, _, _, z, _⟩ <;> cases z
  have poke : ∀ {T : List Addr} {H' : Hp} {u : HO}, Sh L (ctxI N.length none (args a)) F T σ H' → nt u → Sh L (ctxI N.length none (args a)) F T σ (upd H' p u) := fun {T H' u} s hu =>
    s.poke (s.sub p (by rw [fS]; exact List.mem_cons_self)) hu (by rw [fM]; exact List.not_mem_nil) (fun _ => by rw [fW]; exact List.mem_cons_self) (fun q hq => absurd hq (by rw [fV]; exact List.not_mem_nil)) noO noP
  have ntI : ∀ {C dx : Addr} {fs : List (Str × V)}, nt (.ins C dx fs) := fun _ z => nomatch z
  refine e1 a hpre F (p :: S) σ H s2 _ fun d1 v1 H1 q1 st1 a1 => ?_
  subst q1
  have hp1 : H1 p = some (.ins L.C dx []) := by rw [st1.same p List.mem_cons_self (by rw [fM]; exact List.not_mem_nil)]; exact hp
  refine ⟨.ref p, σ0, p, L.C, dx, [], rfl, hp1, O.cl, O.many, by decide, ?_⟩
  have S1 := poke (u := .ins L.C dx (putF "many" v1 [])) (s2.step st1) ntI
  refine e2 a hpre F (p :: S) σ _ S1 _ fun d2 v2 H2 q2 st2 a2 => ?_
  subst q2
  obtain ⟨sg, xs, rfl, _⟩ := at_lst.mp a2
  rw [at_int.mp a1] at S1 st2
  have hp2 : H2 p = some (.ins L.C dx [("many", intV (many a))]) := by
    rw [st2.same p List.mem_cons_self (by rw [fM]; exact List.not_mem_nil), upd_same]
    rfl
  refine ⟨.ref p, σ0, p, L.C, dx, _, rfl, hp2, O.cl, O.signs, (show 1 < 1000 by decide), ?_⟩
  have S2 := poke (u := .ins L.C dx (putF "signs" (.ref sg) [("many", intV (many a))])) (S1.step st2) ntI
  refine ⟨Nat.zero_le _, fun R hR => ?_⟩
  have a2' : At (hide (upd H2 p (.ins L.C dx (putF "signs" (.ref sg) [("many", intV (many a))]))) (p :: S)) (.lst (signs a)) (.ref sg) := by
    rw [hide_upd (H := H2) List.mem_cons_self]
    exact a2
  have S3 := S2.more (p := R) (u := .lst []) hR nt_lst
  have hRT := S2.newT hR
  have hRp : R ≠ p := fun z => hRT (by rw [z]; exact List.mem_cons_self)
  have hp3 : upd (upd H2 p (.ins L.C dx (putF "signs" (.ref sg) [("many", intV (many a))]))) R (.lst []) p = some (.ins L.C dx [("many", intV (many a)), ("signs", .ref sg)]) := by
    rw [upd_ne (Ne.symm hRp), upd_same]
    rfl
  refine ⟨.ref p, σ0, p, L.C, dx, _, rfl, hp3, O.cl, O.rows, (show 2 < 1000 by decide), ?_⟩
  have S4 := poke (u := .ins L.C dx (putF "rows" (.ref R) [("many", intV (many a)), ("signs", .ref sg)])) S3 ntI
  generalize hH4 : upd (upd (upd H2 p (.ins L.C dx (putF "signs" (.ref sg) [("many", intV (many a))]))) R (.lst [])) p (.ins L.C dx (putF "rows" (.ref R) [("many", intV (many a)), ("signs", .ref sg)])) = H4 at S4 ⊢
  have hR4 : H4 R = some (.lst []) := by rw [← hH4, upd_ne hRp, upd_same]
  have hp4 : H4 p = some (.ins L.C dx [("many", intV (many a)), ("signs", .ref sg), ("rows", .ref R)]) := by
    rw [← hH4, upd_same]
    rfl
  refine ⟨Nat.zero_le _, fun B hB => ?_⟩
  have S5 := S4.more (p := B) (u := .lst []) hB nt_lst
  have hBT := S4.newT hB
  have hBp : B ≠ p := fun z => hBT (by rw [z]; exact List.mem_cons_of_mem _ List.mem_cons_self)
  have hBR : B ≠ R := fun z => hBT (by rw [z]; exact List.mem_cons_self)
  have hp5 : upd H4 B (.lst []) p = some (.ins L.C dx [("many", intV (many a)), ("signs", .ref sg), ("rows", .ref R)]) := by
    rw [upd_ne (Ne.symm hBp)]
    exact hp4
  refine ⟨.ref p, σ0, p, L.C, dx, _, rfl, hp5, O.cl, O.basis, (show 3 < 1000 by decide), ?_⟩
  have S6 := poke (u := .ins L.C dx (putF "basis" (.ref B) [("many", intV (many a)), ("signs", .ref sg), ("rows", .ref R)])) S5 ntI
  have g24 : Gr (hide H2 (p :: S)) (hide H4 (R :: p :: S)) := by
    rw [← hH4]
    rw [hide_upd (H := upd (upd H2 p (.ins L.C dx (putF "signs" (.ref sg) [("many", intV (many a))]))) R (.lst [])) (List.mem_cons_of_mem _ List.mem_cons_self)]
    have : hide (upd (upd H2 p (.ins L.C dx (putF "signs" (.ref sg) [("many", intV (many a))]))) R (.lst [])) (R :: p :: S) = hide H2 (p :: S) := by
      funext b
      by_cases z : b = R
      · subst z
        rw [hide_in List.mem_cons_self, hide_out hRT]
        rw [upd_ne hRp] at hR
        exact hR.symm
      · by_cases y : b ∈ p :: S
        · rw [hide_in (List.mem_cons_of_mem _ y), hide_in y]
        · rw [hide_out (fun x => (List.mem_cons.mp x).elim z y), hide_out y, upd_ne z, upd_ne (fun x => y (by rw [x]; exact List.mem_cons_self))]
    rw [this]
    exact Gr.refl _
  have g46 : hide (upd (upd H4 B (.lst [])) p (.ins L.C dx (putF "basis" (.ref B) [("many", intV (many a)), ("signs", .ref sg), ("rows", .ref R)]))) (B :: R :: p :: S) = hide H4 (R :: p :: S) := by
    rw [hide_upd (H := upd H4 B (.lst [])) (List.mem_cons_of_mem _ (List.mem_cons_of_mem _ List.mem_cons_self))]
    funext b
    by_cases z : b = B
    · subst z
      rw [hide_in List.mem_cons_self, hide_out hBT]
      exact hB.symm
    · by_cases y : b ∈ R :: p :: S
      · rw [hide_in (List.mem_cons_of_mem _ y), hide_in y]
      · rw [hide_out (fun x => (List.mem_cons.mp x).elim z y), hide_out y, upd_ne z]
  generalize hH6 : upd (upd H4 B (.lst [])) p (.ins L.C dx (putF "basis" (.ref B) [("many", intV (many a)), ("signs", .ref sg), ("rows", .ref R)])) = H6 at S6 g46 ⊢
  have hO : PObj L H6 (B :: R :: p :: S) p R B ⟨p, R, B, many a, signs a, [], []⟩ := by
    refine ⟨dx, sg, [], ?_, ?_, ?_, ats_nil.mpr rfl, ?_, List.mem_cons_of_mem _ (List.mem_cons_of_mem _ List.mem_cons_self), List.mem_cons_of_mem _ List.mem_cons_self, List.mem_cons_self, Ne.symm hBR, Ne.symm hRp, Ne.symm hBp, rfl, rfl, rfl⟩
    · rw [← hH6, upd_same]
      rfl
    · rw [g46]
      exact At.gr g24 _ _ a2
    · rw [← hH6, upd_ne hRp, upd_ne (Ne.symm hBR)]
      exact hR4
    · rw [← hH6, upd_ne hBp, upd_same]
      rfl
  have gAll : Gr (hide H (p :: S)) (hide H6 (B :: R :: p :: S)) := by
    have := S6.gr
    rw [fS, fH] at this
    exact this
  have kpS : ∀ b ∈ S, H6 b = H b := fun b hb => by
    have := S6.keep b (by rw [fS]; exact List.mem_cons_of_mem _ hb) (by rw [fM]; exact List.not_mem_nil) (by rw [fW]; exact fun z => hpS (by rw [← List.mem_singleton.mp z]; exact hb))
    rw [fH] at this
    exact this
  have hR0 : H R = none := by
    have := S3.fresh R List.mem_cons_self (by rw [fS]; exact hRT)
    rw [fH] at this
    exact this
  have hB0 : H B = none := by
    have := S5.fresh B List.mem_cons_self (by rw [fS]; exact fun z => hBT (List.mem_cons_of_mem _ z))
    rw [fH] at this
    exact this
  -- the new frame
  have k1 := k a p R B { S := B :: R :: p :: S, M := [], W := [R, B], H0 := H6 } Q hpre rfl rfl ⟨List.mem_cons_of_mem _ (List.mem_cons_of_mem _ List.mem_cons_self), List.mem_cons_of_mem _ List.mem_cons_self, List.mem_cons_self⟩ (fun v H' g kp o av => ?_)
  · refine k1 (B :: R :: p :: S) σ H6 ?_
    have no : ∀ (i : Nat) x, (ctxI N.length (some (.prog ⟨p, R, B, many a, signs a, [], []⟩)) (args a))[i]? = some (some x) → (i = 0 ∧ x = .prog ⟨p, R, B, many a, signs a, [], []⟩) ∨ ∃ d j, i = j + 1 ∧ x = .d d ∧ (ctxI N.length none (args a))[i]? = some (some (.d d)) := fun i x q => by
      rcases ctxI_at q with ⟨z, z2⟩ | ⟨d, j, z, z2, z3⟩
      · exact .inl ⟨z, (Option.some.inj z2).symm⟩
      · refine .inr ⟨d, j, z, z2, ?_⟩
        subst z z2
        exact q
    refine ⟨?_, S6.inT, fun b hb => hb, fun b hb => absurd hb List.not_mem_nil, fun b c hb => absurd hb List.not_mem_nil, fun b hb hn => absurd hb hn, fun b _ _ _ => rfl, fun b hb => absurd hb List.not_mem_nil, Gr.refl _, fun q hq => absurd hq List.not_mem_nil, fun q hq => absurd hq List.not_mem_nil, fun b hb => absurd hb List.not_mem_nil, S6.tab, fun i d q => ?_, fun i ds q => ?_, fun i j ds es p' q => ?_, fun i q => ?_, fun i st q => ?_, fun i j st q st' q2 => ?_⟩
    · rw [S6.len]
      rfl
    · rcases no i _ q with ⟨_, z⟩ | ⟨d', j, _, z, z2⟩
      · cases z
      · cases z
        exact S6.dat i d z2
    · rcases no i _ q with ⟨_, z⟩ | ⟨_, _, _, z, _⟩ <;> cases z
    · rcases no i _ q with ⟨_, z⟩ | ⟨_, _, _, z, _⟩ <;> cases z
    · rcases no i _ q with ⟨_, z⟩ | ⟨_, _, _, z, _⟩ <;> cases z
    · rcases no i _ q with ⟨z0, z⟩ | ⟨_, _, _, z, _⟩
      · cases z
        subst z0
        exact ⟨p, R, B, σ0, hO, ⟨List.not_mem_nil, List.not_mem_nil, List.not_mem_nil⟩, ⟨List.mem_cons_of_mem _ List.mem_cons_self, List.mem_cons_self⟩, ⟨List.mem_cons_self, List.mem_cons_of_mem _ List.mem_cons_self, List.mem_cons_of_mem _ (List.mem_cons_of_mem _ List.mem_cons_self)⟩, List.not_mem_nil, List.not_mem_nil, List.not_mem_nil⟩
      · cases z
    · rcases no i _ q with ⟨z0, _⟩ | ⟨_, _, _, z, _⟩
      · rcases no j _ q2 with ⟨y0, _⟩ | ⟨_, _, _, y, _⟩
        · rw [y0, z0]
        · cases y
      · cases z
  · rw [at_non.mp av]
    obtain ⟨h1, h2, h3⟩ := hst a p R B
    rw [h1, h2, h3] at o
    refine hQ R B H' hR0 hB0 (Ne.symm hBR) (gAll.trans g) (fun b hb => ?_) o
    rw [kp b (List.mem_cons_of_mem _ (List.mem_cons_of_mem _ (List.mem_cons_of_mem _ hb))) List.not_mem_nil fun z => ?_]
    · exact kpS b hb
    · rcases List.mem_cons.mp z with z | z
      · exact hRT (by rw [← z]; exact List.mem_cons_of_mem _ hb)
      · exact hBT (by rw [← List.mem_singleton.mp z]; exact List.mem_cons_of_mem _ (List.mem_cons_of_mem _ hb))
end
end Pw

/-! x = Program(..). -/
namespace Pw
open PySem L2
section
variable {L : Pm} {G : Ctx} {F : Frm} {En : Ends} {ta : TA} {u : TS} {i : Nat} {α : Type} {pre : α → Prop} {args : α → List D} {st0 : α → Addr → Addr → Addr → PSt} {E : XK}
theorem go_make (hi : i < G.length) (hM : F.M = []) (hV : F.V = []) (hG : ∀ (j : Nat) x, G[j]? = some (some x) → ∃ d, x = .d d) (a : α) (ha : EvA L ta G (args a)) (hp : pre a) (hst : ∀ a p R B, (st0 a p R B).p = p ∧ (st0 a p R B).R = R ∧ (st0 a p R B).B = B)
    (k : ∀ p R B F', F'.M = [] → F'.V = [] → (∀ rt d, RtOk L F rt d → RtOk L F' rt d) → Go L F' En u (G.set i (some (.prog (st0 a p R B))))) : Go L F En (tSeq (tAsg (tMake L.C (spI L pre args st0) [] E ta) (gName i)) u) G := fun T σ H s => by
  refine ha F T σ H s _ fun ds vs H1 e s1 av => ?_
  subst e
  have S1 := s.step s1
  intro x dx hx hdx hne
  have xT := S1.newT hx
  have dT := S1.newT hdx
  generalize hHs : upd (upd H1 dx (.own x)) x (.ins L.C dx []) = Hs
  have sx : Hs x = some (.ins L.C dx []) := by rw [← hHs, upd_same]
  have sd : Hs dx = some (.own x) := by rw [← hHs, upd_ne hne, upd_same]
  have so : ∀ b, b ≠ x → b ≠ dx → Hs b = H1 b := fun b h1 h2 => by rw [← hHs, upd_ne h1, upd_ne h2]
  have sT : ∀ b ∈ T, Hs b = H1 b := fun b hb => so b (fun z => xT (by rw [← z]; exact hb)) fun z => dT (by rw [← z]; exact hb)
  have g1 : Gr (hide H1 T) (hide Hs (x :: T)) := by
    refine ⟨fun b v e n => ?_, fun P q => ?_, fun b e => ?_⟩
    · obtain ⟨h1, h2⟩ := hide_some e
      have bx : b ≠ x := fun z => by rw [z, hx] at h2; cases h2
      have bd : b ≠ dx := fun z => by rw [z, hdx] at h2; cases h2
      rw [hide_out (fun z => (List.mem_cons.mp z).elim bx h1), so b bx bd]
      exact h2
    · obtain ⟨h1, ps, h2, h3⟩ := TabG_hide.mp q
      have bx : P ≠ x := fun z => by rw [z, hx] at h2; cases h2
      have bd : P ≠ dx := fun z => by rw [z, hdx] at h2; cases h2
      exact TabG_hide.mpr ⟨fun z => (List.mem_cons.mp z).elim bx h1, ps, by rw [so P bx bd]; exact h2, h3⟩
    · by_cases bT : b ∈ T
      · exact hide_in bT
      · rw [hide_out bT]
        by_cases bx : b = x
        · rw [bx]; exact hx
        · rw [hide_out (fun z => (List.mem_cons.mp z).elim bx bT)] at e
          by_cases bd : b = dx
          · rw [bd, sd] at e; cases e
          · rw [so b bx bd] at e
            exact e
  refine ⟨T, x, dx, vs, a, by rw [List.append_nil], sx, xT, fun b hb => by rw [sT b hb]; exact S1.inT b hb, fun P hP => g1.t P (S1.tab P hP), Ats.gr g1 _ _ av, hp, fun R B H2 hR hB hRB g2 k2 o => ⟨rfl, ?_⟩⟩
  have Rx : R ≠ x := fun z => by rw [z, sx] at hR; cases hR
  have Rd : R ≠ dx := fun z => by rw [z, sd] at hR; cases hR
  have Bx : B ≠ x := fun z => by rw [z, sx] at hB; cases hB
  have Bd : B ≠ dx := fun z => by rw [z, sd] at hB; cases hB
  have hR1 : H1 R = none := by rw [← so R Rx Rd]; exact hR
  have hB1 : H1 B = none := by rw [← so B Bx Bd]; exact hB
  obtain ⟨dx', sg, rv, a1, a2, a3, a4, a5, r⟩ := id o
  have S2 : Sh L G F (B :: R :: x :: T) σ H2 := S1.into (g1.trans g2) (fun b hb => List.mem_cons_of_mem _ (List.mem_cons_of_mem _ (List.mem_cons_of_mem _ hb))) (fun b hb hn => by
      rcases List.mem_cons.mp hb with z | hb
      · rw [z]; exact hB1
      · rcases List.mem_cons.mp hb with z | hb
        · rw [z]; exact hR1
        · rcases List.mem_cons.mp hb with z | hb
          · rw [z]; exact hx
          · exact absurd hb hn) (fun b hb => by
      rcases List.mem_cons.mp hb with z | hb
      · rw [z, a5]; exact ⟨_, rfl, nt_lst⟩
      · rcases List.mem_cons.mp hb with z | hb
        · rw [z, a3]; exact ⟨_, rfl, nt_lst⟩
        · rcases List.mem_cons.mp hb with z | hb
          · rw [z, a1]; exact ⟨_, rfl, fun _ z => nomatch z⟩
          · rw [k2 b hb, sT b hb]
            exact S1.inT b hb) fun b hb => by rw [k2 b hb, sT b hb]
  obtain ⟨h1, h2, h3⟩ := hst a x R B
  have RS : R ∉ F.S := fun z => S1.newT hR1 (S1.sub R z)
  have BS : B ∉ F.S := fun z => S1.newT hB1 (S1.sub B z)
  refine k x R B { S := B :: R :: x :: T, M := [], W := R :: B :: F.W, H0 := H2 } rfl rfl (fun rt d hrt v H' g kp _ _ av => hrt v H' ?_ (fun b hb m w => ?_) (fun b hb => absurd hb (by rw [hM]; exact List.not_mem_nil)) (fun q hq => absurd hq (by rw [hV]; exact List.not_mem_nil)) (At.gr (Gr.show fun b hb => S2.sub b hb) d v av)) (B :: R :: x :: T) _ H2 ?_
  · exact (S2.gr.trans g).trans (Gr.show fun b hb => S2.sub b hb)
  · rw [kp b (S2.sub b hb) List.not_mem_nil fun z => ?_]
    · exact S2.keep b hb m w
    · rcases List.mem_cons.mp z with z | z
      · exact RS (by rw [← z]; exact hb)
      · rcases List.mem_cons.mp z with z | z
        · exact BS (by rw [← z]; exact hb)
        · exact w z
  · have other : ∀ (j : Nat) y, (G.set i (some (Ent.prog (st0 a x R B))))[j]? = some (some y) → (j = i ∧ y = .prog (st0 a x R B)) ∨ (i ≠ j ∧ (∃ d, y = .d d) ∧ G[j]? = some (some y) ∧ (σ.set i (some (V.ref x)))[j]? = σ[j]?) := fun j y q => by
      by_cases z : i = j
      · subst z
        rw [List.getElem?_set_self hi] at q
        cases q
        exact .inl ⟨rfl, rfl⟩
      · rw [List.getElem?_set_ne z] at q
        exact .inr ⟨z, hG j y q, q, List.getElem?_set_ne z⟩
    refine ⟨by rw [List.length_set, List.length_set]; exact S2.len, S2.inT, fun b hb => hb, fun b hb => absurd hb List.not_mem_nil, fun b c hb => absurd hb List.not_mem_nil, fun b hb hn => absurd hb hn, fun b _ _ _ => rfl, fun b hb => absurd hb List.not_mem_nil, Gr.refl _, fun q hq => absurd hq List.not_mem_nil, fun q hq => absurd hq List.not_mem_nil, fun b hb => absurd hb List.not_mem_nil, S2.tab, fun j d q => ?_, fun j ds q => ?_, fun j j2 ds es p' q => ?_, fun j q => ?_, fun j st q => ?_, fun j j2 st q st' q2 => ?_⟩
    · rcases other j _ q with ⟨_, z⟩ | ⟨_, _, z2, z3⟩
      · cases z
      · rw [z3]
        exact S2.dat j d z2
    · rcases other j _ q with ⟨_, z⟩ | ⟨_, ⟨_, z⟩, _⟩ <;> cases z
    · rcases other j _ q with ⟨_, z⟩ | ⟨_, ⟨_, z⟩, _⟩ <;> cases z
    · rcases other j _ q with ⟨_, z⟩ | ⟨_, ⟨_, z⟩, _⟩ <;> cases z
    · rcases other j _ q with ⟨z0, z⟩ | ⟨_, ⟨_, z⟩, _⟩
      · cases z
        subst z0
        exact ⟨x, R, B, List.getElem?_set_self (by rw [S2.len]; exact hi), o, ⟨List.not_mem_nil, List.not_mem_nil, List.not_mem_nil⟩, ⟨List.mem_cons_of_mem _ List.mem_cons_self, List.mem_cons_self⟩, ⟨List.mem_cons_self, List.mem_cons_of_mem _ List.mem_cons_self, List.mem_cons_of_mem _ (List.mem_cons_of_mem _ List.mem_cons_self)⟩, List.not_mem_nil, List.not_mem_nil, List.not_mem_nil⟩
      · cases z
    · rcases other j _ q with ⟨z0, z⟩ | ⟨_, ⟨_, z⟩, _⟩
      · rcases other j2 _ q2 with ⟨y0, y⟩ | ⟨_, ⟨_, y⟩, _⟩
        · rw [y0, z0]
        · cases y
      · cases z
end
end Pw

/-! The rationals as the program holds them. -/
namespace Pw
open PySem L2 PyProof.Rows
/-- a rational's datum -/
def rt (q : Rat) : D := .tup [.int q.num, .int (q.den : Int)]
/-- of at most n bits each -/
def Bit (q : Rat) (n : Nat) : Prop := q.num.natAbs < 2 ^ n ∧ q.den < 2 ^ n
theorem Bit.mono {q : Rat} {m n : Nat} (h : Bit q m) (k : m ≤ n) : Bit q n :=
  ⟨Nat.lt_of_lt_of_le h.1 (Nat.pow_le_pow_right (by decide) k), Nat.lt_of_lt_of_le h.2 (Nat.pow_le_pow_right (by decide) k)⟩
theorem Bit.pos {q : Rat} {n : Nat} (h : Bit q n) : 0 < n := by
  rcases Nat.eq_zero_or_pos n with e | e
  · have := h.2
    rw [e] at this
    have := q.den_pos
    omega
  · exact e
/-- what ratio computes -/
theorem ratio_up {t b : Int} (hb : 0 < b) : t.fdiv ((Nat.gcd t.natAbs b.natAbs : Nat) : Int) = (Rat.divInt t b).num ∧ b.fdiv ((Nat.gcd t.natAbs b.natAbs : Nat) : Int) = ((Rat.divInt t b).den : Int) := by
  have h1 : ((Nat.gcd t.natAbs b.natAbs : Nat) : Int) ∣ t := by rw [Int.ofNat_dvd_left]; exact Nat.gcd_dvd_left _ _
  have h2 : ((Nat.gcd t.natAbs b.natAbs : Nat) : Int) ∣ b := by rw [Int.ofNat_dvd_left]; exact Nat.gcd_dvd_right _ _
  rw [Int.fdiv_eq_ediv_of_dvd h1, Int.fdiv_eq_ediv_of_dvd h2, Rat.num_divInt, Rat.den_divInt, if_neg (by omega), Int.sign_eq_one_of_pos hb, Int.one_mul]
  have e : b.gcd t = Nat.gcd t.natAbs b.natAbs := Nat.gcd_comm _ _
  rw [e]
  refine ⟨rfl, ?_⟩
  rw [Int.natCast_ediv]
  congr 1
  omega
theorem ratio_down {t b : Int} (hb : b < 0) : t.fdiv (0 - ((Nat.gcd t.natAbs b.natAbs : Nat) : Int)) = (Rat.divInt t b).num ∧ b.fdiv (0 - ((Nat.gcd t.natAbs b.natAbs : Nat) : Int)) = ((Rat.divInt t b).den : Int) := by
  have h1 : ((Nat.gcd t.natAbs b.natAbs : Nat) : Int) ∣ t := by rw [Int.ofNat_dvd_left]; exact Nat.gcd_dvd_left _ _
  have h2 : ((Nat.gcd t.natAbs b.natAbs : Nat) : Int) ∣ b := by rw [Int.ofNat_dvd_left]; exact Nat.gcd_dvd_right _ _
  rw [Int.zero_sub, Int.fdiv_eq_ediv_of_dvd (Int.neg_dvd.mpr h1), Int.fdiv_eq_ediv_of_dvd (Int.neg_dvd.mpr h2), Rat.num_divInt, Rat.den_divInt, if_neg (by omega), Int.sign_eq_neg_one_of_neg hb]
  have e : b.gcd t = Nat.gcd t.natAbs b.natAbs := Nat.gcd_comm _ _
  rw [e, Int.ediv_neg, Int.ediv_neg]
  refine ⟨?_, ?_⟩
  · rw [Int.neg_one_mul, Int.neg_ediv_of_dvd h1]
  · rw [Int.natCast_ediv, ← Int.neg_ediv_of_dvd h2]
    congr 1
    omega
theorem gcd_ne {t b : Int} (hb : b ≠ 0) : ((Nat.gcd t.natAbs b.natAbs : Nat) : Int) ≠ 0 := by
  have : 0 < Nat.gcd t.natAbs b.natAbs := Nat.gcd_pos_of_pos_right _ (by omega)
  omega
theorem log_mono {a b : Nat} (h : a ≤ b) (h0 : a ≠ 0) : a.log2 ≤ b.log2 := (Nat.le_log2 (by omega)).mpr (Nat.le_trans (Nat.log2_self_le h0) h)
theorem gcd_log {t b : Int} (hb : b ≠ 0) (h : b.natAbs.log2 < 9000) : (Nat.gcd t.natAbs b.natAbs).log2 < 9000 := by
  have h1 : Nat.gcd t.natAbs b.natAbs ≤ b.natAbs := Nat.gcd_le_right _ (by omega)
  have h2 : Nat.gcd t.natAbs b.natAbs ≠ 0 := by
    have := gcd_ne (t := t) hb
    omega
  exact Nat.lt_of_le_of_lt (log_mono h1 h2) h
theorem log_lt {b : Int} {n : Nat} (h : b.natAbs < 2 ^ n) (h0 : 0 < n) : b.natAbs.log2 < n := PySem.Flt.log2_lt_of h0 h
theorem add_rt (p q : Rat) : Rat.divInt (p.num * (q.den : Int) + q.num * (p.den : Int)) ((p.den : Int) * (q.den : Int)) = p + q := by
  have hp : (p.den : Int) ≠ 0 := by have := p.den_pos; omega
  have hq : (q.den : Int) ≠ 0 := by have := q.den_pos; omega
  have := Rat.divInt_add_divInt p.num q.num hp hq
  rw [Rat.num_divInt_den, Rat.num_divInt_den] at this
  exact this.symm
theorem sub_rt (p q : Rat) : Rat.divInt (p.num * (q.den : Int) - q.num * (p.den : Int)) ((p.den : Int) * (q.den : Int)) = p - q := by
  have hp : (p.den : Int) ≠ 0 := by have := p.den_pos; omega
  have hq : (q.den : Int) ≠ 0 := by have := q.den_pos; omega
  have := Rat.divInt_sub_divInt p.num q.num hp hq
  rw [Rat.num_divInt_den, Rat.num_divInt_den] at this
  exact this.symm
theorem mul_rt (p q : Rat) : Rat.divInt (p.num * q.num) ((p.den : Int) * (q.den : Int)) = p * q := by
  have hp : (p.den : Int) ≠ 0 := by have := p.den_pos; omega
  have hq : (q.den : Int) ≠ 0 := by have := q.den_pos; omega
  have := Rat.divInt_mul_divInt p.num q.num (d₁ := p.den) (d₂ := q.den)
  rw [Rat.num_divInt_den, Rat.num_divInt_den] at this
  exact this.symm
theorem div_rt (p q : Rat) : Rat.divInt (p.num * (q.den : Int)) ((p.den : Int) * q.num) = p / q := by
  have := Rat.divInt_mul_divInt p.num (q.den : Int) (d₁ := p.den) (d₂ := q.num)
  rw [Rat.num_divInt_den] at this
  rw [← this, Rat.div_def]
  congr 1
  have h := Rat.inv_divInt q.num (q.den : Int)
  rw [Rat.num_divInt_den] at h
  exact h.symm
theorem divInt_bit {t b : Int} {m n : Nat} (ht : t.natAbs < 2 ^ m) (hb : b.natAbs < 2 ^ n) (hb0 : b ≠ 0) (h : m ≤ n) : Bit (Rat.divInt t b) n := by
  refine ⟨?_, ?_⟩
  · rw [Rat.num_divInt]
    have h1 : (b.sign * t / ((b.gcd t : Nat) : Int)).natAbs ≤ (b.sign * t).natAbs := Int.natAbs_ediv_le_natAbs _ _
    have h2 : (b.sign * t).natAbs ≤ t.natAbs := by
      rw [Int.natAbs_mul]
      have : b.sign.natAbs ≤ 1 := by
        rw [Int.natAbs_sign]
        split <;> omega
      calc b.sign.natAbs * t.natAbs ≤ 1 * t.natAbs := Nat.mul_le_mul_right _ this
        _ = t.natAbs := Nat.one_mul _
    exact Nat.lt_of_le_of_lt (Nat.le_trans h1 h2) (Nat.lt_of_lt_of_le ht (Nat.pow_le_pow_right (by decide) h))
  · rw [Rat.den_divInt, if_neg hb0]
    exact Nat.lt_of_le_of_lt (Nat.div_le_self _ _) hb
theorem mulB {x y : Int} {a b : Nat} (hx : x.natAbs < 2 ^ a) (hy : y.natAbs < 2 ^ b) : (x * y).natAbs < 2 ^ (a + b) := wide_lt hx hy
theorem Bit.add {p q : Rat} {a b : Nat} (hp : Bit p a) (hq : Bit q b) : Bit (p + q) (a + b + 1) := by
  rw [← add_rt]
  have h0 := p.den_pos
  have h1 := q.den_pos
  refine divInt_bit (m := a + b + 1) ?_ ?_ ?_ (Nat.le_refl _)
  · have h2 := mulB hp.1 (y := (q.den : Int)) (b := b) (by exact hq.2)
    have h3 := mulB hq.1 (y := (p.den : Int)) (b := a) (by exact hp.2)
    rw [Nat.add_comm b a] at h3
    rw [Nat.pow_succ]
    omega
  · have h2 := mulB (x := (p.den : Int)) (a := a) (y := (q.den : Int)) (b := b) (by exact hp.2) (by exact hq.2)
    exact Nat.lt_of_lt_of_le h2 (Nat.pow_le_pow_right (by decide) (by omega))
  · exact Int.ne_of_gt (Int.mul_pos (by omega) (by omega))
theorem Bit.neg {p : Rat} {a : Nat} (hp : Bit p a) : Bit (-p) a := ⟨by rw [Rat.neg_num, Int.natAbs_neg]; exact hp.1, by rw [Rat.neg_den]; exact hp.2⟩
theorem Bit.sub {p q : Rat} {a b : Nat} (hp : Bit p a) (hq : Bit q b) : Bit (p - q) (a + b + 1) := by
  rw [Rat.sub_eq_add_neg]
  exact hp.add hq.neg
theorem Bit.mul {p q : Rat} {a b : Nat} (hp : Bit p a) (hq : Bit q b) : Bit (p * q) (a + b) := by
  rw [← mul_rt]
  have h0 := p.den_pos
  have h1 := q.den_pos
  exact divInt_bit (mulB hp.1 hq.1) (mulB (x := (p.den : Int)) (y := (q.den : Int)) (by exact hp.2) (by exact hq.2)) (Int.ne_of_gt (Int.mul_pos (by omega) (by omega))) (Nat.le_refl _)
theorem Bit.inv {q : Rat} {b : Nat} (hq : Bit q b) (h : q ≠ 0) : Bit q⁻¹ b := by
  rw [Rat.inv_def]
  exact divInt_bit (t := (q.den : Int)) (b := q.num) (by exact hq.2) hq.1 (fun e => h (Rat.num_eq_zero.mp e)) (Nat.le_refl _)
theorem Bit.div {p q : Rat} {a b : Nat} (hp : Bit p a) (hq : Bit q b) (h : q ≠ 0) : Bit (p / q) (a + b) := by
  rw [Rat.div_def]
  exact hp.mul (hq.inv h)
theorem Bit.int {i : Int} {n : Nat} (h : i.natAbs < 2 ^ n) (h0 : 0 < n) : Bit (i : Rat) n := ⟨by rw [Rat.num_intCast]; exact h, by rw [Rat.den_intCast]; exact Nat.one_lt_two_pow (by omega)⟩
theorem rt_int (i : Int) : rt (i : Rat) = .tup [.int i, .int 1] := by
  unfold rt
  rw [Rat.num_intCast, Rat.den_intCast]
  rfl
theorem rt_inj {p q : Rat} (h : rt p = rt q) : p = q := by
  unfold rt at h
  simp only [D.tup.injEq, List.cons.injEq, D.int.injEq, and_true] at h
  exact Rat.ext h.1 (by omega)
theorem dEq_rt (p q : Rat) : dEq (rt p) (rt q) = decide (p = q) := by
  unfold dEq rt
  simp only [toPy, toPys, PyData.eqv, PyData.eqvAll, Bool.and_true]
  rw [Bool.eq_iff_iff, Bool.and_eq_true, beq_iff_eq, beq_iff_eq, decide_eq_true_iff]
  constructor
  · rintro ⟨h1, h2⟩
    exact Rat.ext h1 (by omega)
  · rintro rfl
    exact ⟨rfl, rfl⟩
theorem cmp_rt (p : Rat) : dCmp (rt p) = true := rfl
end Pw

/-! Problems, structures, conditions: plainly, and as data. -/
namespace Pw
open PySem L2
/-- a stream: start, goal, rate -/
abbrev Stm := Int × Int × Int
abbrev Pair := Int × Int
structure Prob where
  ss : List Stm
  gap : Int
def dS (s : Stm) : D := .tup [.int s.1, .int s.2.1, .int s.2.2]
def dP (p : Pair) : D := .tup [.int p.1, .int p.2]
def dProb (p : Prob) : D := .tup [.tup (p.ss.map dS), .tup [], .int p.gap]
def dStr (t : List Pair) : D := .tup (t.map dP)
def StmOk (s : Stm) : Prop := 0 ≤ s.1 ∧ s.1 ≤ 1000 ∧ 0 ≤ s.2.1 ∧ s.2.1 ≤ 1000 ∧ s.1 ≠ s.2.1 ∧ 1 ≤ s.2.2 ∧ s.2.2 ≤ 100
structure ProbOk (p : Prob) : Prop where
  ne : p.ss ≠ []
  le : p.ss.length ≤ 5
  ok : ∀ s ∈ p.ss, StmOk s
  g0 : 0 ≤ p.gap
  g1 : p.gap ≤ 100
def Prob.at (p : Prob) (k : Nat) : Stm := p.ss.getD k (0, 0, 0)
def Prob.giver (p : Prob) (k : Int) : Bool := decide ((p.at k.toNat).2.1 < (p.at k.toNat).1)
def PairOk (p : Prob) (q : Pair) : Prop := -1 ≤ q.1 ∧ q.1 < p.ss.length ∧ -1 ≤ q.2 ∧ q.2 < p.ss.length ∧ (q.1 = -1 ∨ p.giver q.1 = true) ∧ (q.2 = -1 ∨ p.giver q.2 = false) ∧ ¬ (q.1 = -1 ∧ q.2 = -1)
def both (q : Pair) : Bool := decide (0 ≤ q.1) && decide (0 ≤ q.2)
structure StrOk (p : Prob) (t : List Pair) : Prop where
  le : t.length ≤ 10
  ok : ∀ q ∈ t, PairOk p q
  few : (t.filter both).length ≤ 3
/-- a condition: the place, the factors, the side -/
structure Cond where
  at_ : Nat
  fs : List Int
  side : Int
def dC (c : Cond) : D := .tup [.int (c.at_ : Int), .lst (c.fs.map D.int), .int c.side]
/-- the factor of pair k in the condition (own) of pair at_ -/
def fac (p : Prob) (q : Pair) (at_ own k : Nat) (r : Pair) : Int :=
  (if r.1 = q.1 ∧ (k : Int) < (at_ : Int) + own then (p.at q.2.toNat).2.2 else 0) + (if r.2 = q.2 ∧ (at_ : Int) - 1 + own < (k : Int) then (p.at q.1.toNat).2.2 else 0)
def sideOf (p : Prob) (q : Pair) : Int := ((p.at q.1.toNat).1 - (p.at q.2.toNat).1 - p.gap) * (p.at q.1.toNat).2.2 * (p.at q.2.toNat).2.2
def condAt (p : Prob) (t : List Pair) (at_ own : Nat) : Cond :=
  ⟨at_, (List.range t.length).map fun k => fac p (t.getD at_ (0, 0)) at_ own k (t.getD k (0, 0)), sideOf p (t.getD at_ (0, 0))⟩
def condsOf (p : Prob) (t : List Pair) (at_ : Nat) : List Cond := if both (t.getD at_ (0, 0)) = true then [condAt p t at_ 0, condAt p t at_ 1] else []
/-- the conditions of the first n pairs -/
def condsTo (p : Prob) (t : List Pair) : Nat → List Cond
  | 0 => []
  | n + 1 => condsTo p t n ++ condsOf p t n
def conds (p : Prob) (t : List Pair) : List Cond := condsTo p t t.length
def heat (s : Stm) : Int := s.2.2 * (if s.1 - s.2.1 < 0 then -(s.1 - s.2.1) else s.1 - s.2.1)
theorem getD_map {α β : Type} (f : α → β) (l : List α) (i : Nat) (a : α) (b : β) (h : i < l.length) : (l.map f).getD i b = f (l.getD i a) := by
  rw [List.getD_eq_getElem?_getD, List.getD_eq_getElem?_getD, List.getElem?_map, List.getElem?_eq_getElem h]
  rfl
theorem getD_mem {α : Type} (l : List α) (i : Nat) (a : α) (h : i < l.length) : l.getD i a ∈ l := by
  rw [List.getD_eq_getElem?_getD, List.getElem?_eq_getElem h]
  exact List.getElem_mem h
theorem getD_tab {β : Type} (f : Nat → β) (n i : Nat) (b : β) (h : i < n) : ((List.range n).map f).getD i b = f i := by
  rw [List.getD_eq_getElem?_getD, List.getElem?_map, List.getElem?_range h]
  rfl
theorem map_tab {α β : Type} (f : α → β) (l : List α) (a : α) : l.map f = (List.range l.length).map fun i => f (l.getD i a) := by
  refine List.ext_getElem (by simp) fun i h1 h2 => ?_
  rw [List.getElem_map, List.getElem_map, List.getElem_range, List.getD_eq_getElem?_getD, List.getElem?_eq_getElem (by simpa using h1)]
  rfl
theorem atI_nat {α : Type} (l : List α) (k : Nat) (h : k < l.length) : atI l (k : Int) = some (l[k]'h) := by
  unfold atI ixN
  rw [if_pos (by omega), if_pos (by omega), Option.bind_some, Int.toNat_natCast, List.getElem?_eq_getElem h]
theorem atI_map {α : Type} (f : α → D) (l : List α) (k : Int) (a : α) (h0 : 0 ≤ k) (h : k.toNat < l.length) : atI (l.map f) k = some (f (l.getD k.toNat a)) := by
  obtain ⟨n, rfl⟩ := Int.eq_ofNat_of_zero_le h0
  rw [Int.toNat_natCast] at h ⊢
  rw [atI_nat _ n (by simpa using h), List.getElem_map, List.getD_eq_getElem?_getD, List.getElem?_eq_getElem h]
  rfl
theorem atI_tab (f : Nat → D) (n i : Nat) (h : i < n) : atI ((List.range n).map f) (i : Int) = some (f i) := by
  rw [atI_nat _ i (by simpa using h), List.getElem_map, List.getElem_range]
end Pw

/-! The walk: ratios. -/
namespace Pw
open PySem L2 PyProof.Rows
section
variable {P : Program} {w : World} {L : Pm} {mg : Str → Option Value} {base : Heap}
def nm_ratio : List Str := ["top", "bottom", "common"]
theorem sc_ratio : FnScope nm_ratio ["top", "bottom"] (defScope (top 22)) := ⟨rfl, rfl, rfl, by decide +kernel, rfl, by decide +kernel, by decide +kernel⟩
theorem w_ratio (T : Tx L mg base) : Pr P w L.K mg base "ratio" 1 ["top", "bottom"] (spP L (fun a : Int × Int => a.2 ≠ 0 ∧ a.2.natAbs.log2 < 9000) (fun a => [.int a.1, .int a.2]) (fun a d => d = rt (Rat.divInt a.1 a.2))) :=
  pr_of T.ratio sc_ratio (by intro kV doc pm an cdv ct us h; match us, h with | [_, _], _ => rfl) (fun vs H Q E h => len_P (n := 2) (fun _ => rfl) h) fun f cdv A outer s H vs Q E HR h => ⟨_, (pss_cons (ps_set (i := 2) sc_ratio.nd rfl (Or.inl rfl) (pe_ifExp (pt_cmpR op_gt (pv 1) pe_int (nomark _)) (pe_callBfun cr_gcd (by rfl) T.gcd_ (pa_cons (pv 0) (pa_cons (pv 1) pa_nil))) (pe_op op_sub pe_int (pe_callBfun cr_gcd (by rfl) T.gcd_ (pa_cons (pv 0) (pa_cons (pv 1) pa_nil))))))
    (pss_one (ps_ret (pe_tup (pa_cons (pe_op op_fdivZ (pv 0) (pv 2)) (pa_cons (pe_op op_fdivZ (pv 1) (pv 2)) pa_nil)))))),
  start_P h fun a F rt' hp hM hW hR => by
    obtain ⟨t, b⟩ := a
    have h1 : b ≠ 0 := hp.1
    have h2 : b.natAbs.log2 < 9000 := hp.2
    refine go_set (d := .int (if 0 < b then ((Nat.gcd t.natAbs b.natAbs : Nat) : Int) else 0 - ((Nat.gcd t.natAbs b.natAbs : Nat) : Int))) ?_ (show 2 < 3 by decide) ?_
    · refine ev_eq (ev_if (ev_B0 (ev_var rfl) ev_int |> et_B) (fun _ => ev_cb (ea_cons (ev_var rfl) (ea_cons (ev_var rfl) ea_nil)) rn_gcd) fun _ => ev_I0 ev_int (ev_cb (ea_cons (ev_var rfl) (ea_cons (ev_var rfl) ea_nil)) rn_gcd)) ?_
      by_cases hb : 0 < b
      · rw [if_pos (decide_eq_true hb), if_pos hb]
      · rw [if_neg (by rw [decide_eq_true_iff]; exact hb), if_neg hb]
    · have hc : (if 0 < b then ((Nat.gcd t.natAbs b.natAbs : Nat) : Int) else 0 - ((Nat.gcd t.natAbs b.natAbs : Nat) : Int)) ≠ 0 ∧ (if 0 < b then ((Nat.gcd t.natAbs b.natAbs : Nat) : Int) else 0 - ((Nat.gcd t.natAbs b.natAbs : Nat) : Int)).natAbs.log2 < 9000 := by
        have g1 := gcd_ne (t := t) h1
        have g2 := gcd_log (t := t) h1 h2
        split
        · exact ⟨g1, g2⟩
        · refine ⟨by omega, ?_⟩
          rw [Int.zero_sub, Int.natAbs_neg]
          exact g2
      have hv : t.fdiv (if 0 < b then ((Nat.gcd t.natAbs b.natAbs : Nat) : Int) else 0 - ((Nat.gcd t.natAbs b.natAbs : Nat) : Int)) = (Rat.divInt t b).num ∧ b.fdiv (if 0 < b then ((Nat.gcd t.natAbs b.natAbs : Nat) : Int) else 0 - ((Nat.gcd t.natAbs b.natAbs : Nat) : Int)) = ((Rat.divInt t b).den : Int) := by
        split
        · exact ratio_up (by assumption)
        · exact ratio_down (by omega)
      refine go_retE (d := rt (Rat.divInt t b)) (ev_eq (ev_tup (ea_cons (ev_I (ev_var rfl) (ev_var rfl) hc) (ea_cons (ev_I (ev_var rfl) (ev_var rfl) hc) ea_nil)) (show 2 ≤ 100000 by decide)) ?_) (hR _ rfl)
      rw [hv.1, hv.2]
      rfl⟩

def nm_plus : List Str := ["one", "other"]
theorem sc_plus : FnScope nm_plus ["one", "other"] (defScope (top 23)) := ⟨rfl, rfl, rfl, by decide +kernel, rfl, by decide +kernel, by decide +kernel⟩
theorem w_plus (T : Tx L mg base) : Pr P w L.K mg base "plus" 2 ["one", "other"] (spP L (fun a => ∃ m n, Bit a.1 m ∧ Bit a.2 n ∧ m + n ≤ 9000) (fun a : Rat × Rat => [rt a.1, rt a.2]) (fun a d => d = rt (a.1 + a.2))) :=
  have g_ratio := w_ratio (P := P) (w := w) T
  pr_of T.plus sc_plus (by intro kV doc pm an cdv ct us h; match us, h with | [_, _], _ => rfl) (fun vs H Q E h => len_P (n := 2) (fun _ => rfl) h) fun f cdv A outer s H vs Q E HR h => ⟨_, (pss_one (ps_ret (pe_own g_ratio HR (by decide) (by rfl) (pa_cons (pe_op op_add (pe_op op_mulW (pe_ix ix_tup (pv 0) pe_int (fun _ _ => rfl)) (pe_ix ix_tup (pv 1) pe_int (fun _ _ => rfl))) (pe_op op_mulW (pe_ix ix_tup (pv 1) pe_int (fun _ _ => rfl)) (pe_ix ix_tup (pv 0) pe_int (fun _ _ => rfl)))) (pa_cons (pe_op op_mulW (pe_ix ix_tup (pv 0) pe_int (fun _ _ => rfl)) (pe_ix ix_tup (pv 1) pe_int (fun _ _ => rfl))) pa_nil))))),
  start_P h fun a F rt' hp hM hW hR => by
    obtain ⟨p, q⟩ := a
    have hp0 : (p.den : Int) ≠ 0 := by have := p.den_pos; omega
    have hq0 : (q.den : Int) ≠ 0 := by have := q.den_pos; omega
    obtain ⟨m, n, bp, bq, hmn⟩ := hp
    have bp : Bit p m := bp
    have bq : Bit q n := bq
    have m0 := bp.pos
    have n0 := bq.pos
    have dp : ((p.den : Int)).natAbs < 2 ^ m := bp.2
    have dq : ((q.den : Int)).natAbs < 2 ^ n := bq.2
    have hl : ((p.den : Int) * (q.den : Int)).natAbs.log2 < 9000 := Nat.lt_of_lt_of_le (log_lt (mulB dp dq) (by omega)) hmn
    refine go_retE (d := rt (p + q)) (ev_own (p.num * (q.den : Int) + q.num * (p.den : Int), (p.den : Int) * (q.den : Int))
      (ea_cons (ev_I0 (ev_I (ev_ixT (ev_var rfl) ev_int rfl) (ev_ixT (ev_var rfl) ev_int rfl) (wide_mul bp.1 dq m0 n0 (by omega))) (ev_I (ev_ixT (ev_var rfl) ev_int rfl) (ev_ixT (ev_var rfl) ev_int rfl) (wide_mul bq.1 dp n0 m0 (by omega)))) (ea_cons (ev_I (ev_ixT (ev_var rfl) ev_int rfl) (ev_ixT (ev_var rfl) ev_int rfl) (wide_mul dp dq m0 n0 (by omega))) ea_nil))
      ⟨Int.mul_ne_zero hp0 hq0, hl⟩ fun x e => by rw [e, add_rt]) (hR _ rfl)⟩
def nm_minus : List Str := ["one", "other"]
theorem sc_minus : FnScope nm_minus ["one", "other"] (defScope (top 24)) := ⟨rfl, rfl, rfl, by decide +kernel, rfl, by decide +kernel, by decide +kernel⟩
theorem w_minus (T : Tx L mg base) : Pr P w L.K mg base "minus" 2 ["one", "other"] (spP L (fun a => ∃ m n, Bit a.1 m ∧ Bit a.2 n ∧ m + n ≤ 9000) (fun a : Rat × Rat => [rt a.1, rt a.2]) (fun a d => d = rt (a.1 - a.2))) :=
  have g_ratio := w_ratio (P := P) (w := w) T
  pr_of T.minus sc_minus (by intro kV doc pm an cdv ct us h; match us, h with | [_, _], _ => rfl) (fun vs H Q E h => len_P (n := 2) (fun _ => rfl) h) fun f cdv A outer s H vs Q E HR h => ⟨_, (pss_one (ps_ret (pe_own g_ratio HR (by decide) (by rfl) (pa_cons (pe_op op_sub (pe_op op_mulW (pe_ix ix_tup (pv 0) pe_int (fun _ _ => rfl)) (pe_ix ix_tup (pv 1) pe_int (fun _ _ => rfl))) (pe_op op_mulW (pe_ix ix_tup (pv 1) pe_int (fun _ _ => rfl)) (pe_ix ix_tup (pv 0) pe_int (fun _ _ => rfl)))) (pa_cons (pe_op op_mulW (pe_ix ix_tup (pv 0) pe_int (fun _ _ => rfl)) (pe_ix ix_tup (pv 1) pe_int (fun _ _ => rfl))) pa_nil))))),
  start_P h fun a F rt' hp hM hW hR => by
    obtain ⟨p, q⟩ := a
    have hp0 : (p.den : Int) ≠ 0 := by have := p.den_pos; omega
    have hq0 : (q.den : Int) ≠ 0 := by have := q.den_pos; omega
    obtain ⟨m, n, bp, bq, hmn⟩ := hp
    have bp : Bit p m := bp
    have bq : Bit q n := bq
    have m0 := bp.pos
    have n0 := bq.pos
    have dp : ((p.den : Int)).natAbs < 2 ^ m := bp.2
    have dq : ((q.den : Int)).natAbs < 2 ^ n := bq.2
    have hl : ((p.den : Int) * (q.den : Int)).natAbs.log2 < 9000 := Nat.lt_of_lt_of_le (log_lt (mulB dp dq) (by omega)) hmn
    refine go_retE (d := rt (p - q)) (ev_own (p.num * (q.den : Int) - q.num * (p.den : Int), (p.den : Int) * (q.den : Int))
      (ea_cons (ev_I0 (ev_I (ev_ixT (ev_var rfl) ev_int rfl) (ev_ixT (ev_var rfl) ev_int rfl) (wide_mul bp.1 dq m0 n0 (by omega))) (ev_I (ev_ixT (ev_var rfl) ev_int rfl) (ev_ixT (ev_var rfl) ev_int rfl) (wide_mul bq.1 dp n0 m0 (by omega)))) (ea_cons (ev_I (ev_ixT (ev_var rfl) ev_int rfl) (ev_ixT (ev_var rfl) ev_int rfl) (wide_mul dp dq m0 n0 (by omega))) ea_nil))
      ⟨Int.mul_ne_zero hp0 hq0, hl⟩ fun x e => by rw [e, sub_rt]) (hR _ rfl)⟩
def nm_by : List Str := ["one", "other"]
theorem sc_by : FnScope nm_by ["one", "other"] (defScope (top 25)) := ⟨rfl, rfl, rfl, by decide +kernel, rfl, by decide +kernel, by decide +kernel⟩
theorem w_by (T : Tx L mg base) : Pr P w L.K mg base "by" 2 ["one", "other"] (spP L (fun a => ∃ m n, Bit a.1 m ∧ Bit a.2 n ∧ m + n ≤ 9000) (fun a : Rat × Rat => [rt a.1, rt a.2]) (fun a d => d = rt (a.1 * a.2))) :=
  have g_ratio := w_ratio (P := P) (w := w) T
  pr_of T.by_ sc_by (by intro kV doc pm an cdv ct us h; match us, h with | [_, _], _ => rfl) (fun vs H Q E h => len_P (n := 2) (fun _ => rfl) h) fun f cdv A outer s H vs Q E HR h => ⟨_, (pss_one (ps_ret (pe_own g_ratio HR (by decide) (by rfl) (pa_cons (pe_op op_mulW (pe_ix ix_tup (pv 0) pe_int (fun _ _ => rfl)) (pe_ix ix_tup (pv 1) pe_int (fun _ _ => rfl))) (pa_cons (pe_op op_mulW (pe_ix ix_tup (pv 0) pe_int (fun _ _ => rfl)) (pe_ix ix_tup (pv 1) pe_int (fun _ _ => rfl))) pa_nil))))),
  start_P h fun a F rt' hp hM hW hR => by
    obtain ⟨p, q⟩ := a
    have hp0 : (p.den : Int) ≠ 0 := by have := p.den_pos; omega
    have hq0 : (q.den : Int) ≠ 0 := by have := q.den_pos; omega
    obtain ⟨m, n, bp, bq, hmn⟩ := hp
    have bp : Bit p m := bp
    have bq : Bit q n := bq
    have m0 := bp.pos
    have n0 := bq.pos
    have dp : ((p.den : Int)).natAbs < 2 ^ m := bp.2
    have dq : ((q.den : Int)).natAbs < 2 ^ n := bq.2
    have hl : ((p.den : Int) * (q.den : Int)).natAbs.log2 < 9000 := Nat.lt_of_lt_of_le (log_lt (mulB dp dq) (by omega)) hmn
    refine go_retE (d := rt (p * q)) (ev_own (p.num * q.num, (p.den : Int) * (q.den : Int))
      (ea_cons (ev_I (ev_ixT (ev_var rfl) ev_int rfl) (ev_ixT (ev_var rfl) ev_int rfl) (wide_mul bp.1 bq.1 m0 n0 (by omega))) (ea_cons (ev_I (ev_ixT (ev_var rfl) ev_int rfl) (ev_ixT (ev_var rfl) ev_int rfl) (wide_mul dp dq m0 n0 (by omega))) ea_nil))
      ⟨Int.mul_ne_zero hp0 hq0, hl⟩ fun x e => by rw [e, mul_rt]) (hR _ rfl)⟩
def nm_over : List Str := ["one", "other"]
theorem sc_over : FnScope nm_over ["one", "other"] (defScope (top 26)) := ⟨rfl, rfl, rfl, by decide +kernel, rfl, by decide +kernel, by decide +kernel⟩
theorem w_over (T : Tx L mg base) : Pr P w L.K mg base "over" 2 ["one", "other"] (spP L (fun a => a.2 ≠ 0 ∧ ∃ m n, Bit a.1 m ∧ Bit a.2 n ∧ m + n ≤ 9000) (fun a : Rat × Rat => [rt a.1, rt a.2]) (fun a d => d = rt (a.1 / a.2))) :=
  have g_ratio := w_ratio (P := P) (w := w) T
  pr_of T.over sc_over (by intro kV doc pm an cdv ct us h; match us, h with | [_, _], _ => rfl) (fun vs H Q E h => len_P (n := 2) (fun _ => rfl) h) fun f cdv A outer s H vs Q E HR h => ⟨_, (pss_one (ps_ret (pe_own g_ratio HR (by decide) (by rfl) (pa_cons (pe_op op_mulW (pe_ix ix_tup (pv 0) pe_int (fun _ _ => rfl)) (pe_ix ix_tup (pv 1) pe_int (fun _ _ => rfl))) (pa_cons (pe_op op_mulW (pe_ix ix_tup (pv 0) pe_int (fun _ _ => rfl)) (pe_ix ix_tup (pv 1) pe_int (fun _ _ => rfl))) pa_nil))))),
  start_P h fun a F rt' hp hM hW hR => by
    obtain ⟨p, q⟩ := a
    obtain ⟨hq1, hp⟩ := hp
    have hp0 : (p.den : Int) ≠ 0 := by have := p.den_pos; omega
    have hq0 : (q.den : Int) ≠ 0 := by have := q.den_pos; omega
    obtain ⟨m, n, bp, bq, hmn⟩ := hp
    have bp : Bit p m := bp
    have bq : Bit q n := bq
    have m0 := bp.pos
    have n0 := bq.pos
    have dp : ((p.den : Int)).natAbs < 2 ^ m := bp.2
    have dq : ((q.den : Int)).natAbs < 2 ^ n := bq.2
    have hl : ((p.den : Int) * (q.den : Int)).natAbs.log2 < 9000 := Nat.lt_of_lt_of_le (log_lt (mulB dp dq) (by omega)) hmn
    have hq2 : q.num ≠ 0 := fun e => hq1 (Rat.num_eq_zero.mp e)
    refine go_retE (d := rt (p / q)) (ev_own (p.num * (q.den : Int), (p.den : Int) * q.num)
      (ea_cons (ev_I (ev_ixT (ev_var rfl) ev_int rfl) (ev_ixT (ev_var rfl) ev_int rfl) (wide_mul bp.1 dq m0 n0 (by omega))) (ea_cons (ev_I (ev_ixT (ev_var rfl) ev_int rfl) (ev_ixT (ev_var rfl) ev_int rfl) (wide_mul dp bq.1 m0 n0 (by omega))) ea_nil))
      ⟨Int.mul_ne_zero hp0 hq2, Nat.lt_of_lt_of_le (log_lt (mulB dp bq.1) (by omega)) hmn⟩ fun x e => by rw [e, div_rt]) (hR _ rfl)⟩
def nm_less : List Str := ["one", "other"]
theorem sc_less : FnScope nm_less ["one", "other"] (defScope (top 27)) := ⟨rfl, rfl, rfl, by decide +kernel, rfl, by decide +kernel, by decide +kernel⟩
theorem w_less (T : Tx L mg base) : Pr P w L.K mg base "less" 1 ["one", "other"] (spP L (fun a => ∃ m n, Bit a.1 m ∧ Bit a.2 n ∧ m + n ≤ 100000) (fun a : Rat × Rat => [rt a.1, rt a.2]) (fun a d => d = .bl (decide (a.1 < a.2)))) :=
  pr_of T.less sc_less (by intro kV doc pm an cdv ct us h; match us, h with | [_, _], _ => rfl) (fun vs H Q E h => len_P (n := 2) (fun _ => rfl) h) fun f cdv A outer s H vs Q E HR h => ⟨_, (pss_one (ps_ret (pe_cmpR op_lt (pe_op op_mulW (pe_ix ix_tup (pv 0) pe_int (fun _ _ => rfl)) (pe_ix ix_tup (pv 1) pe_int (fun _ _ => rfl))) (pe_op op_mulW (pe_ix ix_tup (pv 1) pe_int (fun _ _ => rfl)) (pe_ix ix_tup (pv 0) pe_int (fun _ _ => rfl))) (nomark _)))),
  start_P h fun a F rt' hp hM hW hR => by
    obtain ⟨p, q⟩ := a
    have hp0 : (p.den : Int) ≠ 0 := by have := p.den_pos; omega
    have hq0 : (q.den : Int) ≠ 0 := by have := q.den_pos; omega
    obtain ⟨m, n, bp, bq, hmn⟩ := hp
    have bp : Bit p m := bp
    have bq : Bit q n := bq
    have m0 := bp.pos
    have n0 := bq.pos
    have dp : ((p.den : Int)).natAbs < 2 ^ m := bp.2
    have dq : ((q.den : Int)).natAbs < 2 ^ n := bq.2
    refine go_retE (d := .bl (decide (p < q))) (ev_eq (ev_B0 (ev_I (ev_ixT (ev_var rfl) ev_int rfl) (ev_ixT (ev_var rfl) ev_int rfl) (wide_mul bp.1 dq m0 n0 (by omega))) (ev_I (ev_ixT (ev_var rfl) ev_int rfl) (ev_ixT (ev_var rfl) ev_int rfl) (wide_mul bq.1 dp n0 m0 (by omega)))) ?_) (hR _ rfl)
    exact congrArg D.bl (decide_eq_decide.mpr (Rat.lt_iff p q).symm)⟩
/-- the sum of the first i -/
def psum (f : Nat → Rat) : Nat → Rat
  | 0 => 0
  | n + 1 => psum f n + f n
def nm_total : List Str := ["some", "found", "one"]
theorem sc_total : FnScope nm_total ["some"] (defScope (top 28)) := ⟨rfl, rfl, rfl, by decide +kernel, rfl, by decide +kernel, by decide +kernel⟩
theorem w_total (T : Tx L mg base) : Pr P w L.K mg base "total" 3 ["some"] (spP L (fun a : Nat × (Nat → Rat) => a.1 ≤ 1000 ∧ ∀ i, i < a.1 → ∃ m n, Bit (psum a.2 i) m ∧ Bit (a.2 i) n ∧ m + n ≤ 9000) (fun a => [.lst ((List.range a.1).map fun i => rt (a.2 i))]) (fun a d => d = rt (psum a.2 a.1))) :=
  have g_plus := w_plus (P := P) (w := w) T
  pr_of T.total sc_total (by intro kV doc pm an cdv ct us h; match us, h with | [_], _ => rfl) (fun vs H Q E h => len_P (n := 1) (fun _ => rfl) h) fun f cdv A outer s H vs Q E HR h => ⟨_, (pss_cons (ps_set (i := 1) sc_total.nd rfl (Or.inl rfl) (pe_tup (pa_cons pe_int (pa_cons pe_int pa_nil))))
    (pss_cons (ps_for PassesOwn.never rfl (pi_list (pv 0)) (pg_name (i := 2) sc_total.nd rfl (.inl rfl)) (pss_one (ps_set (i := 1) sc_total.nd rfl (Or.inl rfl) (pe_own g_plus HR (by decide) (by rfl) (pa_cons (pv 1) (pa_cons (pv 2) pa_nil))))))
    (pss_one (ps_ret (pv 1))))),
  start_P h fun a F rt' hp hM hW hR => by
    obtain ⟨n, f⟩ := a
    obtain ⟨hn, hp⟩ := hp
    have hn : n ≤ 1000 := hn
    have hp : ∀ i, i < n → ∃ m n, Bit (psum f i) m ∧ Bit (f i) n ∧ m + n ≤ 9000 := hp
    refine go_set (d := rt 0) (ev_tup (ea_cons ev_int (ea_cons ev_int ea_nil)) (show 2 ≤ 100000 by decide)) (show 1 < 3 by decide) ?_
    refine go_seq ?_
    refine go_forE [2] (fun i => [rt (f i)]) (fun i G' => ∃ o, G' = [some (.d (.lst ((List.range n).map fun i => rt (f i)))), some (.d (rt (psum f i))), o]) (src_list (ev_var rfl)) ⟨_, rfl⟩ (fun i hi => ?_) (fun i G' hc j hj => ?_) (fun i G' A' N hi hc hN => ?_) (fun G' hc => ?_)
    · have hi : i < n := by simpa using hi
      rw [List.getD_eq_getElem?_getD, List.getElem?_map, List.getElem?_range hi]
      exact tg_name
    · obtain ⟨o, rfl⟩ := hc
      rw [List.mem_singleton.mp hj]
      exact (show 2 < 3 by decide)
    · have hi : i < n := by simpa using hi
      obtain ⟨o, rfl⟩ := hc
      refine go_asg (ev_own (psum f i, f i) (ea_cons (ev_var rfl) (ea_cons (ev_var rfl) ea_nil)) (hp i hi) fun x e => e) (show 1 < 3 by decide) fun d e => ?_
      rw [e]
      exact hN _ ⟨_, rfl⟩
    · obtain ⟨o, rfl⟩ := hc
      have e : ((List.range n).map fun i => rt (f i)).length = n := by simp
      rw [e]
      exact nx_go (go_retE (ev_var rfl) (hR _ rfl))⟩
end
end Pw

/-! The walk: is_ratio, is_in. -/
namespace Pw
open PySem L2 PyProof.Rows
theorem gsc0 {X : Cx} {scope : Scope} {x : Str} (h1 : scope.kind = .function) (h2 : scope.isCoroutine = false) (h3 : ∀ y ∈ scope.names, y.2 ≠ .cell) (h4 : scope.names.lookup (".0" : Str) = some NameKind.local) (h5 : scope.names.lookup x = some .local) (h6 : ∀ y ∈ scope.names, y.2 ≠ .free)
    (h7 : cloFrom X.env.cells scope.names [] = []) : GSc X scope x [] where
  gen := ⟨h1, h2, h3, h4, h5, fun y hy e => absurd e (h6 y hy)⟩
  sub := fun y c h => by rw [h7] at h; cases h
  has := fun y h => absurd rfl (h6 _ (PySem.mem_of_lookup h))
  cap := fun p h => absurd h List.not_mem_nil
  nd := List.nodup_cons.mpr ⟨List.not_mem_nil, List.nodup_nil⟩
section
variable {P : Program} {w : World} {L : Pm} {mg : Str → Option Value} {base : Heap}
/-- is_ratio -/
def okInt : D → Bool
  | .int _ => true
  | _ => false
def isRt : D → Bool
  | .tup [.int a, .int b] => decide (0 < b) && decide (Nat.gcd a.natAbs b.natAbs = 1)
  | _ => false
def nm_is_ratio : List Str := ["value"]
theorem sc_is_ratio : FnScope nm_is_ratio ["value"] (defScope (top 29)) := ⟨rfl, rfl, rfl, by decide +kernel, rfl, by decide +kernel, by decide +kernel⟩
theorem w_is_ratio (T : Tx L mg base) : Pr P w L.K mg base "is_ratio" 2 ["value"] (spP L (fun _ : D => True) (fun a => [a]) (fun a d => d = .bl (isRt a))) :=
  pr_ofT T.is_ratio sc_is_ratio (by intro kV doc pm an cdv ct us h; match us, h with | [_], _ => rfl) (fun vs H Q E h => len_P (n := 1) (fun _ => rfl) h) fun c Pt f A outer s H vs Q E hPt TB HR h => ⟨_, (pss_cons (ps_if (PW.pt (pw_or (pt_not (pt_val (pe_callB call_isi (by rfl) T.isinstance_ (by decide +kernel) (pa_cons (pv 0) (pa_cons (pe_bltn (v := .ty "tuple") (by rfl) T.tuple_ (by decide +kernel) rfl) pa_nil))))) (pw_or1 (pt_cmpR op_ne (pe_callB call_len_seq (by rfl) T.len_ PySem.boot_len (pa_cons (pv 0) pa_nil)) pe_int (nomark _))))) (pss_one (ps_ret pe_bl)) pss_nil)
    (pss_cons (ps_if (pt_not (pt_val (pe_allG (caps := []) (te := (tAndV (tCB (rIsi L.K) (tCons (tVar 0) (tCons (tC (.ty "int")) tNil))) (tNotV (tCB (rIsi L.K) (tCons (tVar 0) (tCons (tC (.ty "bool")) tNil)))))) HR rfl (by rfl) T.all_ (by decide +kernel) TB rfl (gsc0 rfl rfl (by decide +kernel) rfl rfl (by decide +kernel) rfl) (pi_tup (pv 0)) (fun A' s4 H4 C code fp HR' => (pe_and (pe_callB call_isi (by rfl) T.isinstance_ (by decide +kernel) (pa_cons (pv 0) (pa_cons (pe_bltn (v := .ty "int") (by rfl) T.int_ (by decide +kernel) rfl) pa_nil))) (pe_one (pe_not (pe_callB call_isi (by rfl) T.isinstance_ (by decide +kernel) (pa_cons (pv 0) (pa_cons (pe_bltn (v := .ty "bool") (by rfl) T.bool_ (by decide +kernel) rfl) pa_nil))))))) (fun _ => rfl)))) (pss_one (ps_ret pe_bl)) pss_nil)
    (pss_one (ps_ret (pe_and (pe_cmpR op_gt (pe_ix ix_tup (pv 0) pe_int (fun _ _ => rfl)) pe_int (nomark _)) (pe_one (pe_cmpR op_eq (pe_callBfun cr_gcd (by rfl) T.gcd_ (pa_cons (pe_ix ix_tup (pv 0) pe_int (fun _ _ => rfl)) (pa_cons (pe_ix ix_tup (pv 0) pe_int (fun _ _ => rfl)) pa_nil))) pe_int (nomark _)))))))),
  start_P h fun a F rt' hp hM hW hR => by
    have bad : isTup a = false → isRt a = false := fun e => by
      cases a with
      | tup ds => cases e
      | _ => rfl
    by_cases hT : isTup a = true
    · obtain ⟨ds, rfl⟩ : ∃ ds, a = .tup ds := by
        cases a with
        | tup ds => exact ⟨ds, rfl⟩
        | _ => cases hT
      by_cases hl : (ds.length : Int) = 2
      · obtain ⟨x, y, rfl⟩ : ∃ x y, ds = [x, y] := by
          match ds, hl with
          | [x, y], _ => exact ⟨x, y, rfl⟩
          | [], e => simp at e
          | [_], e => simp at e
          | _ :: _ :: _ :: _, e => simp at e; omega
        refine go_seq (go_if (b := false) (et_eq (et_or (et_not (et_B (ev_isTup (ev_var rfl)))) fun _ => et_test (ev_neI (ev_cb (ea_cons (ev_var rfl) ea_nil) (rn_len rfl)) ev_int)) rfl) (fun e => by cases e) fun _ => go_next (nx_go ?_))
        have fI : ∀ d : D, (isInt d && !isBl d) = okInt d := fun d => by cases d <;> rfl
        refine go_seq (go_if (et_not (et_B (ev_allG hPt (src_tup (ev_var rfl)) (f := fun i => okInt ([x, y].getD i .non)) fun i hi _ => ev_eq (ev_andV (ev_isInt (ev_var rfl)) fun _ => ev_notV (ev_isBl (ev_var rfl))) (congrArg D.bl (fI _))))) (fun e => ?_) fun e => go_next (nx_go ?_))
        · refine go_retE ev_bl (hR _ ?_)
          have e : (!(okInt x && (okInt y && true))) = true := e
          cases x with
          | int i =>
            cases y with
            | int j => cases e
            | _ => rfl
          | _ => rfl
        · have e : (!(okInt x && (okInt y && true))) = false := e
          cases x with
          | int i =>
            cases y with
            | int j =>
              refine go_retE (ev_andV (ev_B0 (ev_ixT (ev_var rfl) ev_int rfl) ev_int) fun _ => ev_eqI (ev_cb (ea_cons (ev_ixT (ev_var rfl) ev_int rfl) (ea_cons (ev_ixT (ev_var rfl) ev_int rfl) ea_nil)) rn_gcd) ev_int) (hR _ ?_)
              show D.bl _ = D.bl _
              congr 2
              exact decide_eq_decide.mpr (by omega)
            | _ => cases e
          | _ => cases e
      · refine go_seq (go_if (b := true) (et_eq (et_or (et_not (et_B (ev_isTup (ev_var rfl)))) fun _ => et_test (ev_neI (ev_cb (ea_cons (ev_var rfl) ea_nil) (rn_len rfl)) ev_int)) ?_) (fun _ => go_retE ev_bl (hR _ ?_)) fun e => by cases e)
        · rw [decide_eq_false hl]
          rfl
        · match ds, hl with
          | [x, y], e => exact absurd rfl e
          | [], _ => rfl
          | [x], _ => cases x <;> rfl
          | x :: y :: z :: r, _ => cases x <;> first | rfl | (cases y <;> rfl)
    · have hT : isTup a = false := Bool.eq_false_iff.mpr hT
      refine go_seq (go_if (b := true) (et_eq (et_or (b := false) (et_not (et_B (ev_isTup (ev_var rfl)))) fun e => by
        rw [show isTup a = false from hT] at e
        cases e) ?_) (fun _ => go_retE ev_bl (hR _ (by rw [bad hT]))) fun e => by cases e)
      rw [hT]
      rfl⟩
end
end Pw

/-! The walk: problems. -/
namespace Pw
open PySem L2 PyProof.Rows
theorem ps_false {X : Cx} {st : Stmt} : PS X st (fun _ _ _ => False) := ⟨fun _ _ _ _ _ _ h => h.elim⟩
theorem gsc1 {X : Cx} {scope : Scope} {x y : Str} {i : Nat} (h1 : scope.kind = .function) (h2 : scope.isCoroutine = false) (h3 : ∀ y ∈ scope.names, y.2 ≠ .cell) (h4 : scope.names.lookup (".0" : Str) = some NameKind.local) (h5 : scope.names.lookup x = some .local)
    (h7 : cloFrom X.env.cells scope.names [] = X.env.cells) (h8 : X.N[i]? = some y) (h9 : scope.names.lookup y = some .free) (h10 : X.env.kindOf y = some .cell) (h11 : ∀ z ∈ scope.names, z.2 = .free → z.1 = y) (h12 : (x :: [y]).Nodup) (h13 : ∃ c, X.env.cells.lookup y = some c) : GSc X scope x [(y, i)] where
  gen := ⟨h1, h2, h3, h4, h5, fun z hz e => by rw [h11 z hz e]; exact h13⟩
  sub := fun z c h => by rw [h7] at h; exact h
  has := fun z h => by
    rw [h7]
    have e : z = y := h11 _ (PySem.mem_of_lookup h) rfl
    rw [e]
    exact h13
  cap := fun p h => by
    rw [List.mem_singleton.mp h]
    exact ⟨h8, h9, .inl h10⟩
  nd := h12
section
variable {L : Pm} {G : Ctx} {F : Frm} {E : Ends} {te : TE} {t u : TS} {c : TT} {d : D}
/-- if c: raise ..; rest -/
theorem go_guard {b : Bool} (h : EvT L c G b) (e : b = false) (k : Go L F E u G) : Go L F E (tSeq (tIfS c t tNext) u) G := go_seq (go_if (b := false) (et_eq h e) (fun e => by cases e) fun _ => go_next k)
theorem go_asgS {g : TG} (js : List Nat) (ds : List D) (h : Ev L te G d) (hg : Tg g d js ds) (hj : ∀ j ∈ js, j < G.length) (k : Go L F E u (setC G (js.zip ds))) : Go L F E (tSeq (tAsg te g) u) G := go_seq (go_asgT h hg hj k)
theorem go_forS {wi : TI} {g : TG} {n : Nat} {item : Nat → D} (js : List Nat) (bd : Nat → List D) (C : Nat → Ctx → Prop) (hs : Src L wi G n item) (c0 : C 0 G) (hg : ∀ i, i < n → Tg g (item i) js (bd i)) (hj : ∀ i G', C i G' → ∀ j ∈ js, j < G'.length)
    (body : ∀ i G' A' N (E' : Ends), i < n → C i G' → (∀ G'', C (i + 1) G'' → Nx L { F with A := A' } N G'') → E'.nx = N → E'.ct = N → E'.rt = E.rt → Go L { F with A := A' } E' t (setC G' (js.zip (bd i)))) (done : ∀ G', C n G' → Go L F E u G') :
    Go L F E (tSeq (tFor wi g t) u) G := go_seq (go_forE js bd C hs c0 hg hj (fun i G' A' N hi hc hN => body i G' A' N _ hi hc hN rfl rfl rfl) done)
end
section
variable {P : Program} {w : World} {L : Pm} {mg : Str → Option Value} {base : Heap}
theorem ev_chainLE {G : Ctx} {ta tb tc : TE} {i j k : Int} (ha : Ev L ta G (.int i)) (hb : Ev L tb G (.int j)) (hc : Ev L tc G (.int k)) : Ev L (tChain (rI0 fun i j => .bl (decide (i ≤ j))) (rI0 fun i j => .bl (decide (i ≤ j))) ta tb tc) G (.bl (decide (i ≤ j) && decide (j ≤ k))) := fun F T σ H s Q q =>
  ha F T σ H s _ fun x v H1 p1 s1 a1 => hb F T σ H1 (s.step s1) _ fun y u H2 p2 s2 a2 => by
    subst p1 p2
    rw [at_int.mp a1, at_int.mp a2]
    refine ⟨i, j, rfl, rfl, _, rfl, ?_⟩
    by_cases h : i ≤ j
    · rw [if_pos (decide_eq_true h)]
      refine hc F T σ H2 ((s.step s1).step s2) _ fun z w H3 p3 s3 a3 => ?_
      subst p3
      rw [at_int.mp a3]
      refine ⟨j, k, rfl, rfl, q _ _ H3 ?_ ((s1.trans s2).trans s3) (at_bl.mpr rfl)⟩
      rw [decide_eq_true h]
      rfl
    · rw [if_neg (by rw [decide_eq_true_iff]; exact h)]
      refine q _ _ H2 ?_ (s1.trans s2) (at_bl.mpr rfl)
      rw [decide_eq_false h]
      rfl
abbrev spIn (L : Pm) : Sp := spP L (fun _ : Int × Int × Int => True) (fun a => [.int a.1, .int a.2.1, .int a.2.2]) (fun a d => d = .bl (decide (a.2.1 ≤ a.1) && decide (a.1 ≤ a.2.2)))
def nm_is_in : List Str := ["value", "least", "most"]
theorem sc_is_in : FnScope nm_is_in ["value", "least", "most"] (defScope (top 16)) := ⟨rfl, rfl, rfl, by decide +kernel, rfl, by decide +kernel, by decide +kernel⟩
theorem w_is_in (T : Tx L mg base) : Pr P w L.K mg base "is_in" 1 ["value", "least", "most"] (spIn L) :=
  pr_of T.is_in sc_is_in (by intro kV doc pm an cdv ct us h; match us, h with | [_, _, _], _ => rfl) (fun vs H Q E h => len_P (n := 3) (fun _ => rfl) h) fun f cdv A outer s H vs Q E HR h => ⟨_, (pss_one (ps_ret (pe_and (pe_callB call_isi (by rfl) T.isinstance_ (by decide +kernel) (pa_cons (pv 0) (pa_cons (pe_bltn (v := .ty "int") (by rfl) T.int_ (by decide +kernel) rfl) pa_nil))) (pe_and (pe_not (pe_callB call_isi (by rfl) T.isinstance_ (by decide +kernel) (pa_cons (pv 0) (pa_cons (pe_bltn (v := .ty "bool") (by rfl) T.bool_ (by decide +kernel) rfl) pa_nil)))) (pe_one (pe_chain op_le op_le (pv 1) (pv 0) (pv 2))))))),
  start_P h fun a F rt' hp hM hW hR => by
    refine go_retE (ev_andV (ev_isInt (ev_var rfl)) fun _ => ev_andV (ev_notV (ev_isBl (ev_var rfl))) fun _ => ev_chainLE (ev_var rfl) (ev_var rfl) (ev_var rfl)) (hR _ rfl)⟩
def nm_is_stream : List Str := ["value"]
theorem sc_is_stream : FnScope nm_is_stream ["value"] (defScope (top 17)) := ⟨rfl, rfl, rfl, by decide +kernel, rfl, by decide +kernel, by decide +kernel⟩
theorem w_is_stream (T : Tx L mg base) : Pr P w L.K mg base "is_stream" 3 ["value"] (spP L (fun a : Stm => StmOk a) (fun a => [dS a]) (fun a d => d = .bl true)) :=
  have g_is_in := w_is_in (P := P) (w := w) T
  pr_ofT T.is_stream sc_is_stream (by intro kV doc pm an cdv ct us h; match us, h with | [_], _ => rfl) (fun vs H Q E h => len_P (n := 1) (fun _ => rfl) h) fun c Pt f A outer s H vs Q E hPt TB HR h => ⟨_, (pss_cons (ps_if (PW.pt (pw_or (pt_not (pt_val (pe_callB call_isi (by rfl) T.isinstance_ (by decide +kernel) (pa_cons (pv 0) (pa_cons (pe_bltn (v := .ty "tuple") (by rfl) T.tuple_ (by decide +kernel) rfl) pa_nil))))) (pw_or (pt_cmpR op_ne (pe_callB call_len_seq (by rfl) T.len_ PySem.boot_len (pa_cons (pv 0) pa_nil)) pe_int (nomark _)) (pw_or1 (pt_not (pt_val (pe_own g_is_in HR (by decide) (by rfl) (pa_cons (pe_ix ix_tup (pv 0) pe_int (fun _ _ => rfl)) (pa_cons pe_int (pa_cons (pe_const T.MOST_RATE) pa_nil)))))))))) (pss_one (ps_ret pe_bl)) pss_nil)
    (pss_one (ps_ret (pe_and (pe_allG (caps := []) (te := (tCall (spIn L) [] E0 (tCons (tVar 0) (tCons (tC (.int 0)) (tCons (tC (.int 1000)) tNil))))) HR rfl (by rfl) T.all_ (by decide +kernel) TB rfl (gsc0 rfl rfl (by decide +kernel) rfl rfl (by decide +kernel) rfl) (pi_tup (pe_slice sl_tupA (pv 0) po_none (po_some pe_int))) (fun A' s4 H4 C code fp HR' => (pe_own g_is_in HR' (by decide) (by rfl) (pa_cons (pv 0) (pa_cons pe_int (pa_cons (pe_const T.MOST_TEMPERATURE) pa_nil))))) (fun _ => rfl)) (pe_one (pe_cmpR op_ne (pe_ix ix_tup (pv 0) pe_int (fun _ _ => rfl)) (pe_ix ix_tup (pv 0) pe_int (fun _ _ => rfl)) (nomark _))))))),
  start_P h fun a F rt' hp hM hW hR => by
    obtain ⟨x, y, r⟩ := a
    obtain ⟨h1, h2, h3, h4, h5, h6, h7⟩ := hp
    refine go_seq (go_if (b := false) (et_eq (et_or (et_not (et_B (ev_isTup (ev_var rfl)))) fun _ => et_or (et_test (ev_neI (ev_cb (ea_cons (ev_var rfl) ea_nil) (rn_len rfl)) ev_int)) fun _ => et_not (et_B (ev_own (r, 1, 100) (ea_cons (ev_ixT (ev_var rfl) ev_int rfl) (ea_cons ev_int (ea_cons ev_int ea_nil))) trivial fun x e => e))) ?_) (fun e => by cases e) fun _ => go_next (nx_go ?_))
    · show (false || (false || !(decide ((1 : Int) ≤ r) && decide (r ≤ 100)))) = false
      rw [decide_eq_true h6, decide_eq_true h7]
      rfl
    · refine go_retE (ev_eq (ev_andV (ev_allG hPt (src_tup (ev_slT (ev_var rfl) eo_none (eo_some ev_int))) (f := fun _ => true) fun i hi _ => ?_) fun _ => ev_neI (ev_ixT (ev_var rfl) ev_int rfl) (ev_ixT (ev_var rfl) ev_int rfl)) ?_) (hR _ rfl)
      · have hz : i = 0 ∨ i = 1 := by
          have : i < 2 := hi
          omega
        have go : ∀ z : Int, 0 ≤ z → z ≤ 1000 → cutD [.int x, .int y, .int r] none (some 2) = [.int x, .int y] → ([D.int x, .int y].getD i .non = .int z) → Ev L (tCall (spIn L) [] E0 (tCons (tVar 0) (tCons (tC (.int 0)) (tCons (tC (.int 1000)) tNil)))) (some (.d ([D.int x, .int y].getD i .non)) :: capC (ctx0 nm_is_stream.length [dS (x, y, r)]) []) (.bl true) := fun z z0 z1 _ e => by
          rw [e]
          refine ev_own (z, 0, 1000) (ea_cons (ev_var rfl) (ea_cons ev_int (ea_cons ev_int ea_nil))) trivial fun d hd => ?_
          rw [hd]
          show D.bl (decide ((0 : Int) ≤ z) && decide (z ≤ 1000)) = _
          rw [decide_eq_true z0, decide_eq_true z1]
          rfl
        rcases hz with e | e
        · subst e
          exact go x h1 h2 rfl rfl
        · subst e
          exact go y h3 h4 rfl rfl
      · show D.bl (true && !decide (x = y)) = .bl true
        rw [decide_eq_false h5]
        rfl⟩
def nm_need_problem : List Str := ["problem", "streams", "boxes", "gap", "index", "one"]
theorem sc_need_problem : FnScope nm_need_problem ["problem"] (defScope (top 19)) := ⟨rfl, rfl, rfl, by decide +kernel, rfl, by decide +kernel, by decide +kernel⟩
theorem w_need_problem (T : Tx L mg base) : Pr P w L.K mg base "need_problem" 4 ["problem"] (spP L (fun a : Prob => ProbOk a) (fun a => [dProb a]) (fun a d => d = .non)) :=
  have g_is_in := w_is_in (P := P) (w := w) T
  have g_is_stream := w_is_stream (P := P) (w := w) T
  pr_of T.need_problem sc_need_problem (by intro kV doc pm an cdv ct us h; match us, h with | [_], _ => rfl) (fun vs H Q E h => len_P (n := 1) (fun _ => rfl) h) fun f cdv A outer s H vs Q E HR h => ⟨_, (pss_cons (ps_if (PW.pt (pw_or (pt_not (pt_val (pe_callB call_isi (by rfl) T.isinstance_ (by decide +kernel) (pa_cons (pv 0) (pa_cons (pe_bltn (v := .ty "tuple") (by rfl) T.tuple_ (by decide +kernel) rfl) pa_nil))))) (pw_or1 (pt_cmpR op_ne (pe_callB call_len_seq (by rfl) T.len_ PySem.boot_len (pa_cons (pv 0) pa_nil)) pe_int (nomark _))))) (pss_one ps_never) pss_nil)
    (pss_cons (ps_asg (pv 0) (pg_tup (by rfl) (pgs_cons (pg_name (i := 1) sc_need_problem.nd rfl (.inl rfl)) (pgs_cons (pg_name (i := 2) sc_need_problem.nd rfl (.inl rfl)) (pgs_cons (pg_name (i := 3) sc_need_problem.nd rfl (.inl rfl)) pgs_nil)))))
    (pss_cons (ps_if (PW.pt (pw_or (pt_not (pt_val (pe_callB call_isi (by rfl) T.isinstance_ (by decide +kernel) (pa_cons (pv 1) (pa_cons (pe_bltn (v := .ty "tuple") (by rfl) T.tuple_ (by decide +kernel) rfl) pa_nil))))) (pw_or1 (pt_cmpR op_gt (pe_callB call_len_seq (by rfl) T.len_ PySem.boot_len (pa_cons (pv 1) pa_nil)) (pe_const T.MOST_STREAMS) (nomark _))))) (pss_one ps_never) pss_nil)
    (pss_cons (ps_for PassesOwn.never rfl (pi_enumT (by rfl) T.enumerate_ (pa_cons (pv 1) pa_nil)) (pg_tup (by rfl) (pgs_cons (pg_name (i := 4) sc_need_problem.nd rfl (.inl rfl)) (pgs_cons (pg_name (i := 5) sc_need_problem.nd rfl (.inl rfl)) pgs_nil))) (pss_one (ps_if (pt_not (pt_val (pe_own g_is_stream HR (by decide) (by rfl) (pa_cons (pv 5) pa_nil)))) (pss_one ps_never) pss_nil)))
    (pss_cons (ps_if (PW.pt (pw_or (pt_not (pt_val (pe_callB call_isi (by rfl) T.isinstance_ (by decide +kernel) (pa_cons (pv 2) (pa_cons (pe_bltn (v := .ty "tuple") (by rfl) T.tuple_ (by decide +kernel) rfl) pa_nil))))) (pw_or1 (pt_cmpR op_gt (pe_callB call_len_seq (by rfl) T.len_ PySem.boot_len (pa_cons (pv 2) pa_nil)) (pe_const T.MOST_BOXES) (nomark _))))) (pss_one ps_never) pss_nil)
    (pss_cons (ps_for PassesOwn.never rfl (pi_enumT (by rfl) T.enumerate_ (pa_cons (pv 2) pa_nil)) (pg_tup (by rfl) (pgs_cons (pg_name (i := 4) sc_need_problem.nd rfl (.inl rfl)) (pgs_cons (pg_name (i := 5) sc_need_problem.nd rfl (.inl rfl)) pgs_nil))) (pss_one ps_false))
    (pss_cons (ps_if (pt_not (pt_val (pe_own g_is_in HR (by decide) (by rfl) (pa_cons (pv 3) (pa_cons pe_int (pa_cons (pe_const T.MOST_GAP) pa_nil)))))) (pss_one ps_never) pss_nil)
    (pss_one (ps_if (PW.pt (pw_and (pt_not (pt_truth (pv 1) (by intro _; rfl))) (pw_and1 (pt_not (pt_truth (pv 2) (by intro _; rfl)))))) (pss_one ps_never) pss_nil))))))))),
  start_P h fun a F rt' hp hM hW hR => by
    have hlen : ((a.ss.map dS).length : Int) = a.ss.length := by rw [List.length_map]
    refine go_guard (et_or (et_not (et_B (ev_isTup (ev_var rfl)))) fun _ => et_test (ev_neI (ev_cb (ea_cons (ev_var rfl) ea_nil) (rn_len rfl)) ev_int)) rfl ?_
    refine go_asgS [1, 2, 3] [.tup (a.ss.map dS), .tup [], .int a.gap] (ev_var rfl) (tg_tup (tgs_cons tg_name (tgs_cons tg_name (tgs_cons tg_name tgs_nil rfl) rfl) rfl) rfl) (fun j hj => ?_) ?_
    · have : j = 1 ∨ j = 2 ∨ j = 3 := by simpa using hj
      show j < 6
      omega
    refine go_guard (et_or (et_not (et_B (ev_isTup (ev_var rfl)))) fun _ => et_test (ev_B0 (ev_cb (ea_cons (ev_var rfl) ea_nil) (rn_len rfl)) ev_int)) ?_ ?_
    · have h1 : ¬ (6 : Int) < ((a.ss.map dS).length : Int) := by
        have := hp.le
        rw [hlen]
        omega
      show (false || decide ((6 : Int) < ((a.ss.map dS).length : Int))) = false
      rw [decide_eq_false h1]
      rfl
    refine go_forS [4, 5] (fun i => [.int (i : Int), (a.ss.map dS).getD i .non]) (fun i G' => ∃ o1 o2, G' = [some (.d (dProb a)), some (.d (.tup (a.ss.map dS))), some (.d (.tup [])), some (.d (.int a.gap)), o1, o2]) (src_enumT (ea_cons (ev_var rfl) ea_nil)) ⟨_, _, rfl⟩
      (fun i hi => tg_tup (tgs_cons tg_name (tgs_cons tg_name tgs_nil rfl) rfl) rfl) (fun i G' hc j hj => ?_) (fun i G' A' N E' hi hc hN e1 e2 e3 => ?_) (fun G' hc => ?_)
    · obtain ⟨o1, o2, rfl⟩ := hc
      have : j = 4 ∨ j = 5 := by simpa using hj
      show j < 6
      omega
    · obtain ⟨o1, o2, rfl⟩ := hc
      have hi' : i < a.ss.length := by simpa using hi
      rw [getD_map dS a.ss i (0, 0, 0) .non hi']
      refine go_if (b := false) (et_eq (et_not (et_B (ev_own (a.ss.getD i (0, 0, 0)) (ea_cons (ev_var rfl) ea_nil) (hp.ok _ (getD_mem _ _ _ hi')) fun x e => e))) rfl) (fun e => by cases e) fun _ => go_next (e1 ▸ hN _ ⟨_, _, rfl⟩)
    · obtain ⟨o1, o2, rfl⟩ := hc
      refine go_guard (et_or (et_not (et_B (ev_isTup (ev_var rfl)))) fun _ => et_test (ev_B0 (ev_cb (ea_cons (ev_var rfl) ea_nil) (rn_len rfl)) ev_int)) rfl ?_
      refine go_forS [4, 5] (fun i => [.int (i : Int), ([] : List D).getD i .non]) (fun i G' => ∃ o1 o2, G' = [some (.d (dProb a)), some (.d (.tup (a.ss.map dS))), some (.d (.tup [])), some (.d (.int a.gap)), o1, o2]) (src_enumT (ds := []) (ea_cons (ev_var rfl) ea_nil)) ⟨_, _, rfl⟩
        (fun i hi => ?_) (fun i G' hc j hj => ?_) (fun i G' A' N E' hi hc hN e1 e2 e3 => ?_) (fun G' hc => ?_)
      · exact absurd (show i < 0 from hi) (Nat.not_lt_zero _)
      · obtain ⟨o1, o2, rfl⟩ := hc
        have : j = 4 ∨ j = 5 := by simpa using hj
        show j < 6
        omega
      · exact absurd (show i < 0 from hi) (Nat.not_lt_zero _)
      · obtain ⟨o1, o2, rfl⟩ := hc
        refine go_guard (et_not (et_B (ev_own (a.gap, 0, 100) (ea_cons (ev_var rfl) (ea_cons ev_int (ea_cons ev_int ea_nil))) trivial fun x e => e))) ?_ ?_
        · show (!(decide ((0 : Int) ≤ a.gap) && decide (a.gap ≤ 100))) = false
          rw [decide_eq_true hp.g0, decide_eq_true hp.g1]
          rfl
        refine go_if (b := false) (et_eq (et_and (et_not (et_truth (ev_var rfl) rfl)) fun _ => et_not (et_truth (ev_var rfl) rfl)) ?_) (fun e => by cases e) fun _ => go_next (nx_end (hR _ rfl))
        have hne := hp.ne
        cases hs : a.ss with
        | nil => exact absurd hs hne
        | cons x xs => rfl⟩
def nm_is_giver : List Str := ["problem", "number", "streams", "boxes", "gap"]
theorem sc_is_giver : FnScope nm_is_giver ["problem", "number"] (defScope (top 20)) := ⟨rfl, rfl, rfl, by decide +kernel, rfl, by decide +kernel, by decide +kernel⟩
theorem w_is_giver (T : Tx L mg base) : Pr P w L.K mg base "is_giver" 1 ["problem", "number"] (spP L (fun a : Prob × Int => 0 ≤ a.2 ∧ a.2 < a.1.ss.length) (fun a => [dProb a.1, .int a.2]) (fun a d => d = .bl (a.1.giver a.2))) :=
  pr_of T.is_giver sc_is_giver (by intro kV doc pm an cdv ct us h; match us, h with | [_, _], _ => rfl) (fun vs H Q E h => len_P (n := 2) (fun _ => rfl) h) fun f cdv A outer s H vs Q E HR h => ⟨_, (pss_cons (ps_asg (pv 0) (pg_tup (by rfl) (pgs_cons (pg_name (i := 2) sc_is_giver.nd rfl (.inl rfl)) (pgs_cons (pg_name (i := 3) sc_is_giver.nd rfl (.inl rfl)) (pgs_cons (pg_name (i := 4) sc_is_giver.nd rfl (.inl rfl)) pgs_nil)))))
    (pss_cons (ps_if (pt_cmpR op_lt (pv 1) (pe_callB call_len_seq (by rfl) T.len_ PySem.boot_len (pa_cons (pv 2) pa_nil)) (nomark _)) (pss_one (ps_ret (pe_cmpR op_gt (pe_ix ix_tup (pe_ix ix_tup (pv 2) (pv 1) (fun _ _ => rfl)) pe_int (fun _ _ => rfl)) (pe_ix ix_tup (pe_ix ix_tup (pv 2) (pv 1) (fun _ _ => rfl)) pe_int (fun _ _ => rfl)) (nomark _)))) pss_nil)
    (pss_one (ps_ret (pe_cmpR op_gt (pe_ix ix_tup (pe_ix ix_tup (pv 3) (pe_op op_sub (pv 1) (pe_callB call_len_seq (by rfl) T.len_ PySem.boot_len (pa_cons (pv 2) pa_nil))) (fun _ _ => rfl)) pe_int (fun _ _ => rfl)) pe_int (nomark _)))))),
  start_P h fun a F rt' hp hM hW hR => by
    obtain ⟨a, k⟩ := a
    have h0 : 0 ≤ k := hp.1
    have h1 : k < a.ss.length := hp.2
    refine go_asgS [2, 3, 4] [.tup (a.ss.map dS), .tup [], .int a.gap] (ev_var rfl) (tg_tup (tgs_cons tg_name (tgs_cons tg_name (tgs_cons tg_name tgs_nil rfl) rfl) rfl) rfl) (fun j hj => ?_) ?_
    · have : j = 2 ∨ j = 3 ∨ j = 4 := by simpa using hj
      show j < 5
      omega
    refine go_seq (go_if (b := true) (et_eq (et_test (ev_B0 (ev_var rfl) (ev_cb (ea_cons (ev_var rfl) ea_nil) (rn_len rfl)))) ?_) (fun _ => ?_) fun e => by cases e)
    · rw [List.length_map]
      exact decide_eq_true h1
    · have hx := atI_map dS a.ss k (0, 0, 0) h0 (by omega)
      exact go_retE (ev_B0 (ev_ixT (ev_ixT (ev_var rfl) (ev_var rfl) hx) ev_int rfl) (ev_ixT (ev_ixT (ev_var rfl) (ev_var rfl) hx) ev_int rfl)) (hR _ rfl)⟩
end
end Pw

/-! The walk: structures. -/
namespace Pw
open PySem L2 PyProof.Rows
/-- a slot that holds a datum, or of which nothing is known -/
def dn (o : Option D) : Option Ent := o.map Ent.d
def notP : Option Ent → Bool
  | some (.prog _) => false
  | _ => true
theorem notP_dn (o : Option D) : notP (dn o) = true := by cases o <;> rfl
theorem hnp_of {G : Ctx} (h : G.all notP = true) : ∀ (j : Nat) st, G[j]? ≠ some (some (.prog st)) := fun j st e => by
  have := List.all_eq_true.mp h _ (List.mem_of_getElem? e)
  cases this
theorem tg_at2 {K : PySem.W.Frag} {a b c : Nat} {x y z : D} {n m : Nat} (h : n = 2) (h2 : m = 2) : Tg (gTup K n (gCons (gName a) (gCons (gTup K m (gCons (gName b) (gCons (gName c) gNil))) gNil))) (.tup [x, .tup [y, z]]) [a, b, c] [x, y, z] :=
  tg_tup (tgs_cons tg_name (tgs_cons (tg_tup (tgs_cons tg_name (tgs_cons tg_name tgs_nil rfl) rfl) h2.symm) tgs_nil rfl) rfl) h.symm
theorem tg_at3 {K : PySem.W.Frag} {a b c : Nat} {x y z : D} {n : Nat} (h : n = 3) : Tg (gTup K n (gCons (gName a) (gCons (gName b) (gCons (gName c) gNil)))) (.tup [x, y, z]) [a, b, c] [x, y, z] :=
  tg_tup (tgs_cons tg_name (tgs_cons tg_name (tgs_cons tg_name tgs_nil rfl) rfl) rfl) h.symm
theorem tg_2 {K : PySem.W.Frag} {a b : Nat} {x y : D} {n : Nat} (h : n = 2) : Tg (gTup K n (gCons (gName a) (gCons (gName b) gNil))) (.tup [x, y]) [a, b] [x, y] :=
  tg_tup (tgs_cons tg_name (tgs_cons tg_name tgs_nil rfl) rfl) h.symm
theorem mulOk {x y : Int} (hx : x.natAbs < 2 ^ 32) (hy : y.natAbs < 2 ^ 32) : CMulW x y := wide_mul hx hy (by decide) (by decide) (by decide)
theorem ev_ifI {L : Pm} {G : Ctx} {c : TT} {ta tb : TE} {b : Bool} {x y : Int} {p : Prop} [Decidable p] (h : EvT L c G b) (hb : b = decide p) (h1 : p → Ev L ta G (.int x)) (h2 : ¬ p → Ev L tb G (.int y)) : Ev L (tIf c ta tb) G (.int (if p then x else y)) :=
  ev_eq (ev_if h (fun e => h1 (of_decide_eq_true (hb.symm.trans e))) fun e => h2 (of_decide_eq_false (hb.symm.trans e))) (by
    subst hb
    by_cases hp : p
    · rw [if_pos (decide_eq_true hp), if_pos hp]
    · rw [if_neg (by rw [decide_eq_true_iff]; exact hp), if_neg hp])
section
variable {P : Program} {w : World} {L : Pm} {mg : Str → Option Value} {base : Heap}
def nm_is_pair : List Str := ["problem", "value"]
theorem sc_is_pair : FnScope nm_is_pair ["problem", "value"] (defScope (top 35)) := ⟨rfl, rfl, rfl, by decide +kernel, rfl, by decide +kernel, by decide +kernel⟩
theorem w_is_pair (T : Tx L mg base) : Pr P w L.K mg base "is_pair" 3 ["problem", "value"] (spP L (fun a : Prob × Pair => PairOk a.1 a.2) (fun a => [dProb a.1, dP a.2]) (fun a d => d = .bl true)) :=
  have g_is_in := w_is_in (P := P) (w := w) T
  have g_is_giver := w_is_giver (P := P) (w := w) T
  pr_ofT T.is_pair sc_is_pair (by intro kV doc pm an cdv ct us h; match us, h with | [_, _], _ => rfl) (fun vs H Q E h => len_P (n := 2) (fun _ => rfl) h) fun c Pt f A outer s H vs Q E hPt TB HR h => ⟨_, (pss_cons (ps_if (PW.pt (pw_or (pt_not (pt_val (pe_callB call_isi (by rfl) T.isinstance_ (by decide +kernel) (pa_cons (pv 1) (pa_cons (pe_bltn (v := .ty "tuple") (by rfl) T.tuple_ (by decide +kernel) rfl) pa_nil))))) (pw_or (pt_cmpR op_ne (pe_callB call_len_seq (by rfl) T.len_ PySem.boot_len (pa_cons (pv 1) pa_nil)) pe_int (nomark _)) (pw_or1 (pt_cmpR (op_eqD HR.units) (pv 1) (pe_tup (pa_cons (pe_un un_neg pe_int) (pa_cons (pe_un un_neg pe_int) pa_nil))) (nomark _)))))) (pss_one (ps_ret pe_bl)) pss_nil)
    (pss_cons (ps_if (pt_not (pt_val (pe_allG (caps := [("problem", 0)]) (te := (tCall (spIn L) [] E0 (tCons (tVar 0) (tCons (tUn (rU fun i => .int (-i)) (tC (.int 1))) (tCons (tOp (rI0 fun i j => .int (i - j)) (tCB (fun xs H Q => ∃ p ys, xs = [.ref p] ∧ (SqL L.K H p ys ∨ SqT L.K H p ys) ∧ Q (.int ys.length) H) (tCons (tOp (rIxT L.K) (tVar 1) (tC (.int 0))) tNil)) (tC (.int 1))) tNil))))) HR rfl (by rfl) T.all_ (by decide +kernel) TB rfl (gsc1 rfl rfl (by decide +kernel) rfl rfl rfl rfl rfl rfl (by decide +kernel) (by decide +kernel) ⟨_, rfl⟩) (pi_tup (pv 1)) (fun A' s4 H4 C code fp HR' => (pe_own g_is_in HR' (by decide) (by rfl) (pa_cons (pv 0) (pa_cons (pe_un un_neg pe_int) (pa_cons (pe_op op_sub (pe_callB call_len_seq (by rfl) T.len_ PySem.boot_len (pa_cons (pe_ix ix_tup (pv 1) pe_int (fun _ _ => rfl)) pa_nil)) pe_int) pa_nil))))) (fun _ => rfl)))) (pss_one (ps_ret pe_bl)) pss_nil)
    (pss_one (ps_ret (pe_and (pe_or (pe_cmpR op_eq (pe_ix ix_tup (pv 1) pe_int (fun _ _ => rfl)) (pe_un un_neg pe_int) (nomark _)) (pe_one (pe_own g_is_giver HR (by decide) (by rfl) (pa_cons (pv 0) (pa_cons (pe_ix ix_tup (pv 1) pe_int (fun _ _ => rfl)) pa_nil))))) (pe_one (pe_or (pe_cmpR op_eq (pe_ix ix_tup (pv 1) pe_int (fun _ _ => rfl)) (pe_un un_neg pe_int) (nomark _)) (pe_one (pe_not (pe_own g_is_giver HR (by decide) (by rfl) (pa_cons (pv 0) (pa_cons (pe_ix ix_tup (pv 1) pe_int (fun _ _ => rfl)) pa_nil)))))))))))),
  start_P h fun a F rt' hp hM hW hR => by
    obtain ⟨p, x, y⟩ := a
    obtain ⟨h1, h2, h3, h4, h5, h6, h7⟩ := hp
    have h1 : -1 ≤ x := h1
    have h2 : x < p.ss.length := h2
    have h3 : -1 ≤ y := h3
    have h4 : y < p.ss.length := h4
    refine go_guard (et_or (et_not (et_B (ev_isTup (ev_var rfl)))) fun _ => et_or (et_test (ev_neI (ev_cb (ea_cons (ev_var rfl) ea_nil) (rn_len rfl)) ev_int)) fun _ => et_test (ev_eqD (ev_var rfl) (ev_tup (ea_cons (ev_neg ev_int) (ea_cons (ev_neg ev_int) ea_nil)) (show 2 ≤ 100000 by decide)) rfl rfl)) ?_ ?_
    · show (false || (false || PyData.eqv (.tuple [.int x, .int y]) (.tuple [.int (-1), .int (-1)]))) = false
      simp only [PyData.eqv, PyData.eqvAll, Bool.false_or, Bool.and_true]
      rw [Bool.and_eq_false_iff, beq_eq_false_iff_ne, beq_eq_false_iff_ne]
      by_cases e : x = -1
      · exact .inr fun e2 => h7 ⟨e, e2⟩
      · exact .inl e
    have hin : ∀ z : Int, -1 ≤ z → z < p.ss.length → Ev L (tCall (spIn L) [] E0 (tCons (tVar 0) (tCons (tUn (rU fun i => .int (-i)) (tC (.int 1))) (tCons (tOp (rI0 fun i j => .int (i - j)) (tCB (fun xs H Q => ∃ p ys, xs = [.ref p] ∧ (SqL L.K H p ys ∨ SqT L.K H p ys) ∧ Q (.int ys.length) H) (tCons (tOp (rIxT L.K) (tVar 1) (tC (.int 0))) tNil)) (tC (.int 1))) tNil)))) (some (.d (.int z)) :: capC (ctx0 nm_is_pair.length [dProb p, dP (x, y)]) [("problem", 0)]) (.bl true) := fun z z0 z1 => by
      refine ev_own (z, -1, ((p.ss.map dS).length : Int) - 1) (ea_cons (ev_var rfl) (ea_cons (ev_neg ev_int) (ea_cons (ev_I0 (ev_cb (ea_cons (ev_ixT (ev_var rfl) ev_int rfl) ea_nil) (rn_len rfl)) ev_int) ea_nil))) trivial fun d hd => ?_
      rw [hd]
      show D.bl (decide (-1 ≤ z) && decide (z ≤ ((p.ss.map dS).length : Int) - 1)) = _
      rw [List.length_map, decide_eq_true z0, decide_eq_true (show z ≤ (p.ss.length : Int) - 1 by omega)]
      rfl
    refine go_guard (et_not (et_B (ev_allG hPt (src_tup (ev_var rfl)) (f := fun _ => true) fun i hi _ => ?_))) rfl ?_
    · have hz : i = 0 ∨ i = 1 := by
        have : i < 2 := hi
        omega
      rcases hz with e | e
      · subst e
        exact hin x h1 h2
      · subst e
        exact hin y h3 h4
    · refine go_retE (ev_eq (ev_andV (ev_orV (ev_eqI (ev_ixT (ev_var rfl) ev_int rfl) (ev_neg ev_int)) fun e => ev_own (p, x) (ea_cons (ev_var rfl) (ea_cons (ev_ixT (ev_var rfl) ev_int rfl) ea_nil)) ⟨?_, h2⟩ fun d e => e) fun _ => ev_orV (ev_eqI (ev_ixT (ev_var rfl) ev_int rfl) (ev_neg ev_int)) fun e => ev_notV (ev_own (p, y) (ea_cons (ev_var rfl) (ea_cons (ev_ixT (ev_var rfl) ev_int rfl) ea_nil)) ⟨?_, h4⟩ fun d e => e)) ?_) (hR _ rfl)
      · have : ¬ x = -1 := of_decide_eq_false e
        show 0 ≤ x
        omega
      · have : ¬ y = -1 := of_decide_eq_false e
        show 0 ≤ y
        omega
      · have h5 : x = -1 ∨ p.giver x = true := h5
        have h6 : y = -1 ∨ p.giver y = false := h6
        show D.bl ((decide (x = -1) || p.giver x) && (decide (y = -1) || !p.giver y)) = .bl true
        congr 1
        rw [Bool.and_eq_true, Bool.or_eq_true, Bool.or_eq_true, decide_eq_true_iff, decide_eq_true_iff, Bool.not_eq_true']
        exact ⟨h5, h6⟩⟩
def nm_need_structure : List Str := ["problem", "structure", "index", "one"]
theorem sc_need_structure : FnScope nm_need_structure ["problem", "structure"] (defScope (top 36)) := ⟨rfl, rfl, rfl, by decide +kernel, rfl, by decide +kernel, by decide +kernel⟩
theorem w_need_structure (T : Tx L mg base) : Pr P w L.K mg base "need_structure" 5 ["problem", "structure"] (spP L (fun a : Prob × List Pair => ProbOk a.1 ∧ StrOk a.1 a.2) (fun a => [dProb a.1, dStr a.2]) (fun a d => d = .non)) :=
  have g_need_problem := w_need_problem (P := P) (w := w) T
  have g_is_pair := w_is_pair (P := P) (w := w) T
  pr_of T.need_structure sc_need_structure (by intro kV doc pm an cdv ct us h; match us, h with | [_, _], _ => rfl) (fun vs H Q E h => len_P (n := 2) (fun _ => rfl) h) fun f cdv A outer s H vs Q E HR h => ⟨_, (pss_cons (ps_expr (pe_own g_need_problem HR (by decide) (by rfl) (pa_cons (pv 0) pa_nil)))
    (pss_cons (ps_if (pt_truth (pe_ix ix_tup (pv 0) pe_int (fun _ _ => rfl)) (by intro _; rfl)) (pss_one ps_never) pss_nil)
    (pss_cons (ps_if (PW.pt (pw_or (pt_not (pt_val (pe_callB call_isi (by rfl) T.isinstance_ (by decide +kernel) (pa_cons (pv 1) (pa_cons (pe_bltn (v := .ty "tuple") (by rfl) T.tuple_ (by decide +kernel) rfl) pa_nil))))) (pw_or1 (pt_cmpR op_gt (pe_callB call_len_seq (by rfl) T.len_ PySem.boot_len (pa_cons (pv 1) pa_nil)) (pe_const T.MOST_PAIRS) (nomark _))))) (pss_one ps_never) pss_nil)
    (pss_one (ps_for PassesOwn.never rfl (pi_enumT (by rfl) T.enumerate_ (pa_cons (pv 1) pa_nil)) (pg_tup (by rfl) (pgs_cons (pg_name (i := 2) sc_need_structure.nd rfl (.inl rfl)) (pgs_cons (pg_name (i := 3) sc_need_structure.nd rfl (.inl rfl)) pgs_nil))) (pss_one (ps_if (pt_not (pt_val (pe_own g_is_pair HR (by decide) (by rfl) (pa_cons (pv 0) (pa_cons (pv 3) pa_nil))))) (pss_one ps_never) pss_nil))))))),
  start_P h fun a F rt' hp hM hW hR => by
    obtain ⟨p, t⟩ := a
    obtain ⟨hp, ht⟩ := hp
    have ht : StrOk p t := ht
    refine go_seq (go_drop (ev_own (d := .non) p (ea_cons (ev_var rfl) ea_nil) hp fun d e => e) ?_)
    show Go L F _ _ _
    refine go_guard (et_truth (ev_ixT (ev_var rfl) ev_int rfl) rfl) rfl ?_
    refine go_guard (et_or (et_not (et_B (ev_isTup (ev_var rfl)))) fun _ => et_test (ev_B0 (ev_cb (ea_cons (ev_var rfl) ea_nil) (rn_len rfl)) ev_int)) ?_ ?_
    · have h1 : ¬ (10 : Int) < ((t.map dP).length : Int) := by
        have := ht.le
        rw [List.length_map]
        omega
      show (false || decide ((10 : Int) < ((t.map dP).length : Int))) = false
      rw [decide_eq_false h1]
      rfl
    refine go_forE [2, 3] (fun i => [.int (i : Int), (t.map dP).getD i .non]) (fun i G' => ∃ o1 o2, G' = [some (.d (dProb p)), some (.d (dStr t)), o1, o2]) (src_enumT (ea_cons (ev_var rfl) ea_nil)) ⟨_, _, rfl⟩
      (fun i hi => tg_2 rfl) (fun i G' hc j hj => ?_) (fun i G' A' N hi hc hN => ?_) (fun G' hc => ?_)
    · obtain ⟨o1, o2, rfl⟩ := hc
      have : j = 2 ∨ j = 3 := by simpa using hj
      show j < 4
      omega
    · obtain ⟨o1, o2, rfl⟩ := hc
      have hi' : i < t.length := by simpa using hi
      rw [getD_map dP t i (0, 0) .non hi']
      exact go_if (b := false) (et_eq (et_not (et_B (ev_own (p, t.getD i (0, 0)) (ea_cons (ev_var rfl) (ea_cons (ev_var rfl) ea_nil)) (ht.ok _ (getD_mem _ _ _ hi')) fun x e => e))) rfl) (fun e => by cases e) fun _ => go_next (hN _ ⟨_, _, rfl⟩)
    · obtain ⟨o1, o2, rfl⟩ := hc
      exact nx_end (hR _ rfl)⟩
def nm_heats_of : List Str := ["problem", "start", "goal", "rate"]
theorem sc_heats_of : FnScope nm_heats_of ["problem"] (defScope (top 37)) := ⟨rfl, rfl, rfl, by decide +kernel, rfl, by decide +kernel, by decide +kernel⟩
theorem w_heats_of (T : Tx L mg base) : Pr P w L.K mg base "heats_of" 1 ["problem"] (spP L (fun a : Prob => ProbOk a) (fun a => [dProb a]) (fun a d => d = .lst (a.ss.map fun s => .int (heat s)))) :=
  pr_of T.heats_of sc_heats_of (by intro kV doc pm an cdv ct us h; match us, h with | [_], _ => rfl) (fun vs H Q E h => len_P (n := 1) (fun _ => rfl) h) fun f cdv A outer s H vs Q E HR h => ⟨_, (pss_one (ps_ret (pe_lc (own := [("start", 1), ("goal", 2), ("rate", 3)]) (g := (gTup L.K 3 (gCons (gName 1) (gCons (gName 2) (gCons (gName 3) gNil))))) (tt := tYes) (te := (tOp (rI CMulW fun i j => .int (i * j)) (tVar 3) (tCB (fun xs H Q => ∃ i, xs = [.int i] ∧ Q (.int (if i < 0 then -i else i)) H) (tCons (tOp (rI0 fun i j => .int (i - j)) (tVar 1) (tVar 2)) tNil)))) (by rfl) sc_heats_of.nd (pi_tup (pe_ix ix_tup (pv 0) pe_int (fun _ _ => rfl))) (blkOk_by (own := [("start", 1), ("goal", 2), ("rate", 3)]) (N := nm_heats_of) (sc := (defScope (top 37))) (by decide +kernel)) (fun _ _ _ _ _ => (pg_tup (by rfl) (pgs_cons (pg_name (i := 1) sc_heats_of.nd rfl (.inl rfl)) (pgs_cons (pg_name (i := 2) sc_heats_of.nd rfl (.inl rfl)) (pgs_cons (pg_name (i := 3) sc_heats_of.nd rfl (.inl rfl)) pgs_nil))))) (fun _ _ _ _ _ => pts_nil) (fun _ _ _ _ _ => (pe_op op_mulW (pv 3) (pe_callB call_abs (by rfl) T.abs_ (by decide +kernel) (pa_cons (pe_op op_sub (pv 1) (pv 2)) pa_nil))))))),
  start_P h fun p F rt' hp hM hW hR => by
    have item : ∀ i, i < (p.ss.map dS).length → (p.ss.map dS).getD i .non = dS (p.at i) := fun i hi => getD_map dS p.ss i (0, 0, 0) .non (by simpa using hi)
    have ok : ∀ i, i < (p.ss.map dS).length → StmOk (p.at i) := fun i hi => hp.ok _ (getD_mem _ _ _ (by simpa using hi))
    refine go_retE (ev_eq (ev_lc (js := [1, 2, 3]) (bd := fun i => [.int (p.at i).1, .int (p.at i).2.1, .int (p.at i).2.2]) (f := fun _ => true) (out := fun i => .int (heat (p.at i))) (src_tup (ev_ixT (ev_var rfl) ev_int rfl)) ?_ (fun j hj => ?_) (fun j hj => ?_) (fun i hi => ?_) (fun i hi => et_yes) (fun i hi _ => ?_)) ?_) (hR _ rfl)
    · have := hp.le
      rw [List.length_map]
      omega
    · have : j = 1 ∨ j = 2 ∨ j = 3 := by simpa using hj
      show j < 4
      omega
    · simpa using hj
    · rw [item i hi]
      exact tg_at3 rfl
    · have h := ok i hi
      obtain ⟨h1, h2, h3, h4, h5, h6, h7⟩ := h
      refine ev_I (ev_var rfl) (ev_cb (ea_cons (ev_I0 (ev_var rfl) (ev_var rfl)) ea_nil) rn_abs) (mulOk ?_ ?_)
      · omega
      · split <;> omega
    · rw [given_all, map_tab (fun s => D.int (heat s)) p.ss (0, 0, 0), List.length_map]
      rfl⟩
end
end Pw

/-! The walk: conditions. -/
namespace Pw
open PySem L2 PyProof.Rows
section
variable {P : Program} {w : World} {L : Pm} {mg : Str → Option Value} {base : Heap}
theorem range_snoc {α : Type} (f : Nat → α) (n : Nat) : (List.range (n + 1)).map f = (List.range n).map f ++ [f n] := by
  rw [List.range_succ, List.map_append]
  rfl
theorem notP_d (d : D) : notP (some (.d d)) = true := rfl
theorem notP_o (ds : List D) : notP (some (.own ds)) = true := rfl
theorem giver_lt {p : Prob} {q : Pair} (h : PairOk p q) (b : both q = true) : 0 ≤ q.1 ∧ q.1.toNat < p.ss.length ∧ 0 ≤ q.2 ∧ q.2.toNat < p.ss.length := by
  obtain ⟨h1, h2, h3, h4, _⟩ := h
  unfold both at b
  rw [Bool.and_eq_true, decide_eq_true_iff, decide_eq_true_iff] at b
  omega
theorem side_small {p : Prob} {q : Pair} (hp : ProbOk p) (h : PairOk p q) (b : both q = true) : ((p.at q.1.toNat).1 - (p.at q.2.toNat).1 - p.gap).natAbs < 2 ^ 12 ∧ (p.at q.1.toNat).2.2.natAbs < 2 ^ 7 ∧ (p.at q.2.toNat).2.2.natAbs < 2 ^ 7 := by
  obtain ⟨h1, h2, h3, h4⟩ := giver_lt h b
  have a := hp.ok _ (getD_mem p.ss q.1.toNat (0, 0, 0) h2)
  have c := hp.ok _ (getD_mem p.ss q.2.toNat (0, 0, 0) h4)
  have g0 := hp.g0
  have g1 := hp.g1
  unfold Prob.at
  generalize p.ss.getD q.1.toNat (0, 0, 0) = s1 at a
  generalize p.ss.getD q.2.toNat (0, 0, 0) = s2 at c
  obtain ⟨a1, a2, a3, a4, a5, a6, a7⟩ := a
  obtain ⟨c1, c2, c3, c4, c5, c6, c7⟩ := c
  omega
def nm_conditions_of : List Str := ["problem", "structure", "found", "at", "hot", "cold", "first", "second", "side", "own", "factors", "k", "one", "other", "before", "behind"]
theorem sc_conditions_of : FnScope nm_conditions_of ["problem", "structure"] (defScope (top 38)) := ⟨rfl, rfl, rfl, by decide +kernel, rfl, by decide +kernel, by decide +kernel⟩
theorem w_conditions_of (T : Tx L mg base) : Pr P w L.K mg base "conditions_of" 1 ["problem", "structure"] (spP L (fun a : Prob × List Pair => ProbOk a.1 ∧ StrOk a.1 a.2) (fun a => [dProb a.1, dStr a.2]) (fun a d => d = .lst ((conds a.1 a.2).map dC))) :=
  pr_of T.conditions_of sc_conditions_of (by intro kV doc pm an cdv ct us h; match us, h with | [_, _], _ => rfl) (fun vs H Q E h => len_P (n := 2) (fun _ => rfl) h) fun f cdv A outer s H vs Q E HR h => ⟨_, (pss_cons (ps_set (i := 2) sc_conditions_of.nd rfl (Or.inl rfl) (pe_lst pa_nil))
    (pss_cons (ps_for PassesOwn.never rfl (pi_enumT (by rfl) T.enumerate_ (pa_cons (pv 1) pa_nil)) (pg_tup (by rfl) (pgs_cons (pg_name (i := 3) sc_conditions_of.nd rfl (.inl rfl)) (pgs_cons (pg_tup (by rfl) (pgs_cons (pg_name (i := 4) sc_conditions_of.nd rfl (.inl rfl)) (pgs_cons (pg_name (i := 5) sc_conditions_of.nd rfl (.inl rfl)) pgs_nil))) pgs_nil))) (pss_one (ps_if (PW.pt (pw_and (pt_cmpR op_ge (pv 4) pe_int (nomark _)) (pw_and1 (pt_cmpR op_ge (pv 5) pe_int (nomark _))))) (pss_cons (ps_par (i := 6) (j := 7) (by rfl) sc_conditions_of.nd rfl rfl (by decide) rfl rfl (pa_cons (pe_ix ix_tup (pe_ix ix_tup (pv 0) pe_int (fun _ _ => rfl)) (pv 4) (fun _ _ => rfl)) (pa_cons (pe_ix ix_tup (pe_ix ix_tup (pv 0) pe_int (fun _ _ => rfl)) (pv 5) (fun _ _ => rfl)) pa_nil)) (by rfl))
    (pss_cons (ps_set (i := 8) sc_conditions_of.nd rfl (Or.inl rfl) (pe_op op_mulW (pe_op op_mulW (pe_op op_sub (pe_op op_sub (pe_ix ix_tup (pv 6) pe_int (fun _ _ => rfl)) (pe_ix ix_tup (pv 7) pe_int (fun _ _ => rfl))) (pe_ix ix_tup (pv 0) pe_int (fun _ _ => rfl))) (pe_ix ix_tup (pv 6) pe_int (fun _ _ => rfl))) (pe_ix ix_tup (pv 7) pe_int (fun _ _ => rfl))))
    (pss_one (ps_for PassesOwn.never rfl (pi_tup (pe_tup (pa_cons pe_int (pa_cons pe_int pa_nil)))) (pg_name (i := 9) sc_conditions_of.nd rfl (.inl rfl)) (pss_cons (ps_set (i := 10) sc_conditions_of.nd rfl (Or.inl rfl) (pe_lst pa_nil))
    (pss_cons (ps_for PassesOwn.never rfl (pi_enumT (by rfl) T.enumerate_ (pa_cons (pv 1) pa_nil)) (pg_tup (by rfl) (pgs_cons (pg_name (i := 11) sc_conditions_of.nd rfl (.inl rfl)) (pgs_cons (pg_tup (by rfl) (pgs_cons (pg_name (i := 12) sc_conditions_of.nd rfl (.inl rfl)) (pgs_cons (pg_name (i := 13) sc_conditions_of.nd rfl (.inl rfl)) pgs_nil))) pgs_nil))) (pss_cons (ps_set (i := 14) sc_conditions_of.nd rfl (Or.inl rfl) (pe_ifExp (PW.pt (pw_and (pt_cmpR op_eq (pv 12) (pv 4) (nomark _)) (pw_and1 (pt_cmpR op_lt (pv 11) (pe_op op_add (pv 3) (pv 9)) (nomark _))))) (pe_ix ix_tup (pv 7) pe_int (fun _ _ => rfl)) pe_int))
    (pss_cons (ps_set (i := 15) sc_conditions_of.nd rfl (Or.inl rfl) (pe_ifExp (PW.pt (pw_and (pt_cmpR op_eq (pv 13) (pv 5) (nomark _)) (pw_and1 (pt_cmpR op_gt (pv 11) (pe_op op_add (pe_op op_sub (pv 3) pe_int) (pv 9)) (nomark _))))) (pe_ix ix_tup (pv 6) pe_int (fun _ _ => rfl)) pe_int))
    (pss_one (ps_expr (pe_bm PySem.F.plainAttrs_list PySem.F.slot_list_append PySem.F.type_list_append mt_append (pv 10) (pa_cons (pe_op op_add (pv 14) (pv 15)) pa_nil)))))))
    (pss_one (ps_expr (pe_bm PySem.F.plainAttrs_list PySem.F.slot_list_append PySem.F.type_list_append mt_append (pv 2) (pa_cons (pe_tup (pa_cons (pv 3) (pa_cons (pv 10) (pa_cons (pv 8) pa_nil)))) pa_nil)))))))))) pss_nil)))
    (pss_one (ps_ret (pv 2))))),
  start_P h fun a F rt' hp hM hW hR => by
    obtain ⟨p, t⟩ := a
    obtain ⟨hp, ht⟩ := hp
    have hp : ProbOk p := hp
    have ht : StrOk p t := ht
    have hlen : (t.map dP).length = t.length := List.length_map ..
    have few : ∀ n, n ≤ t.length → (condsTo p t n).length ≤ 2 * n := fun n => by
      induction n with
      | zero => intro _; exact Nat.le_refl _
      | succ n ih =>
        intro h
        have := ih (by omega)
        show (condsTo p t n ++ condsOf p t n).length ≤ _
        rw [List.length_append]
        have : (condsOf p t n).length ≤ 2 := by
          unfold condsOf
          split
          · exact Nat.le_refl _
          · exact Nat.zero_le _
        omega
    refine go_seq (go_new (show 2 < 16 by decide) ?_)
    show Go L F _ _ _
    refine go_forS [3, 4, 5] (fun i => [.int (i : Int), .int (t.getD i (0, 0)).1, .int (t.getD i (0, 0)).2]) (fun n G' => ∃ o3 o4 o5 o6 o7 o8 o9 o10 o11 o12 o13 o14 o15, G' = [some (.d (dProb p)), some (.d (dStr t)), some (.own ((condsTo p t n).map dC)), dn o3, dn o4, dn o5, dn o6, dn o7, dn o8, dn o9, dn o10, dn o11, dn o12, dn o13, dn o14, dn o15]) (src_enumT (ea_cons (ev_var rfl) ea_nil))
      ⟨none, none, none, none, none, none, none, none, none, none, none, none, none, rfl⟩ (fun i hi => ?_) (fun i G' hc j hj => ?_) (fun i G' A' N E' hi hc hN e1 e2 e3 => ?_) (fun G' hc => ?_)
    · rw [getD_map dP t i (0, 0) .non (by simpa using hi)]
      exact tg_at2 rfl rfl
    · obtain ⟨o3, o4, o5, o6, o7, o8, o9, o10, o11, o12, o13, o14, o15, rfl⟩ := hc
      have : j = 3 ∨ j = 4 ∨ j = 5 := by simpa using hj
      show j < 16
      omega
    · obtain ⟨o3, o4, o5, o6, o7, o8, o9, o10, o11, o12, o13, o14, o15, rfl⟩ := hc
      have hi' : i < t.length := by simpa using hi
      have hq : PairOk p (t.getD i (0, 0)) := ht.ok _ (getD_mem _ _ _ hi')
      have hstep : condsTo p t (i + 1) = condsTo p t i ++ condsOf p t i := rfl
      have hfew := few i (by omega)
      have hle := ht.le
      generalize hqq : t.getD i (0, 0) = q at hq
      obtain ⟨x, y⟩ := q
      refine go_if (b := both (x, y)) (et_and (et_test (ev_B0 (ev_var rfl) ev_int)) fun _ => et_test (ev_B0 (ev_var rfl) ev_int)) (fun hb => ?_) fun hb => go_next ?_
      · obtain ⟨l1, l2, l3, l4⟩ := giver_lt hq hb
        obtain ⟨b1, b2, b3⟩ := side_small hp hq hb
        have hA := atI_map dS p.ss x (0, 0, 0) l1 l2
        have hB := atI_map dS p.ss y (0, 0, 0) l3 l4
        refine go_seq (go_par (x := dS (p.at x.toNat)) (y := dS (p.at y.toNat)) (ea_cons (ev_ixT (ev_ixT (ev_var rfl) ev_int rfl) (ev_var rfl) hA) (ea_cons (ev_ixT (ev_ixT (ev_var rfl) ev_int rfl) (ev_var rfl) hB) ea_nil)) (show 6 < 16 by decide) (show 7 < 16 by decide) ?_)
        show Go L _ _ _ _
        refine go_set (d := .int (sideOf p (x, y))) (ev_I (ev_I (ev_I0 (ev_I0 (ev_ixT (ev_var rfl) ev_int rfl) (ev_ixT (ev_var rfl) ev_int rfl)) (ev_ixT (ev_var rfl) ev_int rfl)) (ev_ixT (ev_var rfl) ev_int rfl) (wide_mul b1 b2 (by decide) (by decide) (by decide))) (ev_ixT (ev_var rfl) ev_int rfl) (wide_mul (mulB b1 b2) b3 (by decide) (by decide) (by decide))) (show 8 < 16 by decide) ?_
        refine go_forE [9] (fun j => [.int (j : Int)]) (fun n G' => ∃ o9 o10 o11 o12 o13 o14 o15, G' = [some (.d (dProb p)), some (.d (dStr t)), some (.own ((condsTo p t i ++ (List.range n).map (condAt p t i)).map dC)), some (.d (.int (i : Int))), some (.d (.int x)), some (.d (.int y)), some (.d (dS (p.at x.toNat))), some (.d (dS (p.at y.toNat))), some (.d (.int (sideOf p (x, y)))), dn o9, dn o10, dn o11, dn o12, dn o13, dn o14, dn o15])
          (src_tup (ds := [.int 0, .int 1]) (ev_tup (ea_cons ev_int (ea_cons ev_int ea_nil)) (show 2 ≤ 100000 by decide))) ⟨o9, o10, o11, o12, o13, o14, o15, by rw [List.range_zero, List.map_nil, List.append_nil]; rfl⟩ (fun j hj => ?_) (fun j G' hc k hk => ?_) (fun j G' A'' N' hj hc hN' => ?_) (fun G' hc => ?_)
        · have : j = 0 ∨ j = 1 := by
            have : j < 2 := hj
            omega
          rcases this with e | e
          · subst e; exact tg_name
          · subst e; exact tg_name
        · obtain ⟨o9, o10, o11, o12, o13, o14, o15, rfl⟩ := hc
          rw [List.mem_singleton.mp hk]
          exact (show 9 < 16 by decide)
        · obtain ⟨o9, o10, o11, o12, o13, o14, o15, rfl⟩ := hc
          have hj2 : j < 2 := hj
          refine go_seq (go_new (show 10 < 16 by decide) ?_)
          show Go L _ _ _ _
          refine go_forS [11, 12, 13] (fun k => [.int (k : Int), .int (t.getD k (0, 0)).1, .int (t.getD k (0, 0)).2]) (fun n G' => ∃ o11 o12 o13 o14 o15, G' = [some (.d (dProb p)), some (.d (dStr t)), some (.own ((condsTo p t i ++ (List.range j).map (condAt p t i)).map dC)), some (.d (.int (i : Int))), some (.d (.int x)), some (.d (.int y)), some (.d (dS (p.at x.toNat))), some (.d (dS (p.at y.toNat))), some (.d (.int (sideOf p (x, y)))), some (.d (.int (j : Int))), some (.own ((List.range n).map fun k => .int (fac p (x, y) i j k (t.getD k (0, 0))))), dn o11, dn o12, dn o13, dn o14, dn o15])
            (src_enumT (ea_cons (ev_var rfl) ea_nil)) ⟨o11, o12, o13, o14, o15, rfl⟩ (fun k hk => ?_) (fun k G' hc l hl => ?_) (fun k G' A3 N3 E3 hk hc hN3 e1' e2' e3' => ?_) (fun G' hc => ?_)
          · rw [getD_map dP t k (0, 0) .non (by simpa using hk)]
            exact tg_at2 rfl rfl
          · obtain ⟨o11, o12, o13, o14, o15, rfl⟩ := hc
            have : l = 11 ∨ l = 12 ∨ l = 13 := by simpa using hl
            show l < 16
            omega
          · obtain ⟨o11, o12, o13, o14, o15, rfl⟩ := hc
            have hk' : k < t.length := by simpa using hk
            refine go_set (d := .int (if (t.getD k (0, 0)).1 = x ∧ (k : Int) < (i : Int) + (j : Int) then (p.at y.toNat).2.2 else 0)) (ev_ifI (et_and (et_test (ev_eqI (ev_var rfl) (ev_var rfl))) fun _ => et_test (ev_B0 (ev_var rfl) (ev_I0 (ev_var rfl) (ev_var rfl)))) (by rw [Bool.decide_and]) (fun _ => ev_ixT (ev_var rfl) ev_int rfl) fun _ => ev_int) (show 14 < 16 by decide) ?_
            refine go_set (d := .int (if (t.getD k (0, 0)).2 = y ∧ (i : Int) - 1 + (j : Int) < (k : Int) then (p.at x.toNat).2.2 else 0)) (ev_ifI (et_and (et_test (ev_eqI (ev_var rfl) (ev_var rfl))) fun _ => et_test (ev_B0 (ev_var rfl) (ev_I0 (ev_I0 (ev_var rfl) ev_int) (ev_var rfl)))) (by rw [Bool.decide_and]) (fun _ => ev_ixT (ev_var rfl) ev_int rfl) fun _ => ev_int) (show 15 < 16 by decide) ?_
            refine go_app (i := 10) rfl (ev_I0 (ev_var rfl) (ev_var rfl)) (by rw [List.length_map, List.length_range]; omega) fun d e => ?_
            subst e
            rw [e1']
            refine hN3 _ ⟨some (.int (k : Int)), some (.int (t.getD k (0, 0)).1), some (.int (t.getD k (0, 0)).2), some (.int (if (t.getD k (0, 0)).1 = x ∧ (k : Int) < (i : Int) + (j : Int) then (p.at y.toNat).2.2 else 0)), some (.int (if (t.getD k (0, 0)).2 = y ∧ (i : Int) - 1 + (j : Int) < (k : Int) then (p.at x.toNat).2.2 else 0)), ?_⟩
            rw [range_snoc (fun k => D.int (fac p (x, y) i j k (t.getD k (0, 0)))) k]
            rfl
          · obtain ⟨o11, o12, o13, o14, o15, rfl⟩ := hc
            refine go_freeze (i := 10) rfl ?_
            refine go_app (i := 2) rfl (ev_tup (ea_cons (ev_var rfl) (ea_cons (ev_var rfl) (ea_cons (ev_var rfl) ea_nil))) (show 3 ≤ 100000 by decide)) (by rw [List.length_map, List.length_append, List.length_map, List.length_range]; omega) fun d e => ?_
            subst e
            refine hN' _ ⟨some (.int (j : Int)), some (.lst ((List.range (t.map dP).length).map fun k => .int (fac p (x, y) i j k (t.getD k (0, 0))))), o11, o12, o13, o14, o15, ?_⟩
            have he : (condsTo p t i ++ (List.range (j + 1)).map (condAt p t i)).map dC = (condsTo p t i ++ (List.range j).map (condAt p t i)).map dC ++ [dC (condAt p t i j)] := by
              rw [range_snoc, ← List.append_assoc, List.map_append (l₁ := condsTo p t i ++ List.map (condAt p t i) (List.range j))]
              rfl
            have hc1 : (condAt p t i j).fs = (List.range t.length).map fun k => fac p (x, y) i j k (t.getD k (0, 0)) := by
              unfold condAt
              rw [hqq]
            have hc2 : (condAt p t i j).side = sideOf p (x, y) := by
              unfold condAt
              rw [hqq]
            have hd : dC (condAt p t i j) = .tup [.int (i : Int), .lst ((List.range t.length).map fun k => .int (fac p (x, y) i j k (t.getD k (0, 0)))), .int (sideOf p (x, y))] := by
              unfold dC
              rw [hc1, hc2, List.map_map]
              rfl
            rw [he, hd, hlen]
            rfl
        · obtain ⟨o9, o10, o11, o12, o13, o14, o15, rfl⟩ := hc
          show Nx L _ E'.nx _
          rw [e1]
          refine hN _ ⟨some (.int (i : Int)), some (.int x), some (.int y), some (dS (p.at x.toNat)), some (dS (p.at y.toNat)), some (.int (sideOf p (x, y))), o9, o10, o11, o12, o13, o14, o15, ?_⟩
          rw [hstep]
          unfold condsOf
          rw [hqq, if_pos hb]
          rfl
      · rw [e1]
        refine hN _ ⟨some (.int (i : Int)), some (.int x), some (.int y), o6, o7, o8, o9, o10, o11, o12, o13, o14, o15, ?_⟩
        rw [hstep]
        unfold condsOf
        rw [hqq, if_neg (by rw [hb]; exact Bool.false_ne_true), List.append_nil]
        rfl
    · obtain ⟨o3, o4, o5, o6, o7, o8, o9, o10, o11, o12, o13, o14, o15, rfl⟩ := hc
      rw [hlen]
      exact go_freeze (i := 2) rfl (go_retE (ev_var rfl) (hR _ rfl))⟩
end
end Pw

/-! The walk: turn, multiplier. -/
namespace Pw
open PySem L2 PyProof.Rows
/-- a method keeps its promise -/
structure Prm (P : Program) (w : World) (K : PySem.W.Frag) (C : Addr) (mg : Str → Option Value) (base : Heap) (m : Str) (k : Nat) (ps : List Str) (sp : Sp) : Prop where
  ex : ∃ f fd, FnOk P w K mg base CX0 k f fd ps sp ∧ Meth K C m f ∧ Binds K fd ps []
section
variable {P : Program} {w : World} {L : Pm} {mg : Str → Option Value} {base : Heap} {m q : Str} {st : Stmt} {N ps : List Str} {k : Nat} {sp : Sp}
theorem pr_ofM (F : Dfm L m q st) (S : FnScope N ps (defScope st)) (hb : ∀ (kV doc pm : Value) (an : Option Addr) (cdv ct : Value) (us : List Value), us.length = ps.length → bindArgs (PySem.W.fnOf m q (defArgs st) (defBody st) (defScope st) .none kV doc pm an cdv ct) ⟨us, []⟩ = pure (ps.zip us))
    (len : ∀ vs H Q E, sp vs H Q E → vs.length = ps.length)
    (hbody : ∀ (f : Addr) (cdv : Value) (A : Around) (outer : List Env) (s : Shared) (H : Hp) (vs : List V) (Q : VK) (E : XK), Room k (A.deeper (envOfC q (defScope st) s.heap.objs.size f cdv)) → sp vs H Q E →
      ∃ t, PSs (cxOf CX0 P w L.K mg base N q (defScope st) f cdv A outer s H E).nox (defBody st) t ∧ t { nx := fun _ H' => Q .non H', rt := Q } (L2.start N vs) H) : Prm P w L.K L.C mg base m (k + 1) ps sp := by
  obtain ⟨f, fd, F1, me⟩ := F.ex
  refine ⟨f, fd, F1.ok S len fun cdv A outer s H vs Q E hr h => ?_, me, F1.bindsN hb⟩
  obtain ⟨t, h1, h2⟩ := hbody f cdv A outer s H vs Q E hr h
  exact ⟨t, h1.nox, h2⟩
end
section
variable {X : Cx} {C : Addr} {m : Str} {k j : Nat} {ps : List Str} {sp : Sp} {apos pos : Pos} {o e : Expr} {es : List Expr} {t : TA} {ta : TE} {pl : Sem Bool}
theorem pe_mth (G : Prm X.prog X.w X.K C X.mg X.base m k ps sp) (ho : PE X o ta) (c : Cls X.K C) (hr : Room j X.A) (hk : k ≤ j) (ha : PA X (e :: es) t)
    (ht : eval (.Call (.Attribute o m apos) (e :: es) [] pos) X.env = (do
      let ov ← eval o X.env
      standAt apos.atName
      let (f, first) ← holding [ov] (getMethod ov m pl)
      callWith pos f first (backTo pos (starEach (e :: es) X.env)) (backToKw pos (keywordEach [] X.env)))) (hst : starEach (e :: es) X.env = (false, eval e X.env) :: starEach es X.env := by rfl) (hpl : (backTo pos (starEach es X.env)).any (·.1) = false := by rfl) : PE X (.Call (.Attribute o m apos) (e :: es) [] pos) (tMeth C m sp [] E0 ta t) := by
  obtain ⟨f, fd, F, me, b⟩ := G.ex
  exact pe_meth ho c me F (hr.mono hk) b .nil pass0 ha hst hpl ht
theorem pe_mth0 (G : Prm X.prog X.w X.K C X.mg X.base m k ps sp) (ho : PE X o ta) (c : Cls X.K C) (hr : Room j X.A) (hk : k ≤ j)
    (ht : eval (.Call (.Attribute o m apos) [] [] pos) X.env = (do
      let ov ← eval o X.env
      standAt apos.atName
      let (f, first) ← holding [ov] (getMethod ov m pl)
      callWith pos f first (backTo pos (starEach [] X.env)) (backToKw pos (keywordEach [] X.env)))) : PE X (.Call (.Attribute o m apos) [] [] pos) (tMeth C m sp [] E0 ta tNil) := by
  obtain ⟨f, fd, F, me, b⟩ := G.ex
  exact pe_meth0 ho c me F (hr.mono hk) b .nil pass0 ht
end
theorem Tx.ob {L : Pm} {mg : Str → Option Value} {base : Heap} (T : Tx L mg base) : Ob L := ⟨T.cl, T.no_many, T.no_signs, T.no_rows, T.no_basis⟩
theorem len_M {L : Pm} {α : Type} {pre : α → PSt → Prop} {args : α → List D} {R : α → PSt → D → PSt → Prop} {E : XK} {n : Nat} (h : ∀ a, (args a).length + 1 = n) {vs : List V} {H : Hp} {Q : VK} (hs : spM L pre args R vs H Q E) : vs.length = n := by
  obtain ⟨S, ws, a, st, rfl, _, _, _, ha, _⟩ := hs
  rw [List.length_cons, ha.length, h a]
theorem len_Mr {L : Pm} {α : Type} {pre : α → PSt → Prop} {args : α → List D} {R : α → PSt → D → Prop} {E : XK} {n : Nat} (h : ∀ a, (args a).length + 1 = n) {vs : List V} {H : Hp} {Q : VK} (hs : spMr L pre args R vs H Q E) : vs.length = n := by
  obtain ⟨S, ws, a, st, rfl, _, _, _, ha, _⟩ := hs
  rw [List.length_cons, ha.length, h a]
/-- a row as a datum -/
abbrev rowD (N : Nat) (f : Nat → Rat) : D := .lst ((List.range (N + 1)).map fun k => rt (f k))
def rowsD (m N : Nat) (T : Nat → Nat → Rat) : List D := (List.range m).map fun j => rowD N (T j)
/-- the object holds this table -/
structure Holds (st : PSt) (m N : Nat) (T : Nat → Nat → Rat) (B : Nat → Nat) : Prop where
  rows : st.rows = rowsD m N T
  basis : st.basis = (List.range m).map B
def withT (st : PSt) (m N : Nat) (T : Nat → Nat → Rat) (B : Nat → Nat) : PSt := { st with rows := rowsD m N T, basis := (List.range m).map B }
theorem withT_holds (st : PSt) (m N : Nat) (T : Nat → Nat → Rat) (B : Nat → Nat) : Holds (withT st m N T B) m N T B := ⟨rfl, rfl⟩
theorem Holds.eq {st : PSt} {m N : Nat} {T : Nat → Nat → Rat} {B : Nat → Nat} (h : Holds st m N T B) : st = withT st m N T B := by
  obtain ⟨a, b⟩ := h
  unfold withT
  rw [← a, ← b]
theorem tab_set {β : Type} (f g : Nat → β) (n j : Nat) (x : β) (hj : j < n) (h1 : g j = x) (h2 : ∀ i, i < n → i ≠ j → g i = f i) : ((List.range n).map f).set j x = (List.range n).map g := by
  refine List.ext_getElem (by simp) fun i h3 h4 => ?_
  have hi : i < n := by simpa using h4
  rw [List.getElem_set, List.getElem_map, List.getElem_map, List.getElem_range]
  by_cases e : j = i
  · subst e
    rw [if_pos rfl, h1]
  · rw [if_neg e, h2 i hi (fun z => e z.symm)]
theorem psum_S (f : Nat → Rat) : ∀ n, psum f n = S n f
  | 0 => rfl
  | n + 1 => by
    show psum f n + f n = _
    rw [psum_S f n]
    rfl
section
variable {P : Program} {w : World} {L : Pm} {mg : Str → Option Value} {base : Heap}
abbrev sp_over (L : Pm) : Sp := spP L (fun a : Rat × Rat => a.2 ≠ 0 ∧ ∃ m n, Bit a.1 m ∧ Bit a.2 n ∧ m + n ≤ 9000) (fun a => [rt a.1, rt a.2]) (fun a d => d = rt (a.1 / a.2))
abbrev sp_minus (L : Pm) : Sp := spP L (fun a : Rat × Rat => ∃ m n, Bit a.1 m ∧ Bit a.2 n ∧ m + n ≤ 9000) (fun a => [rt a.1, rt a.2]) (fun a d => d = rt (a.1 - a.2))
abbrev sp_by (L : Pm) : Sp := spP L (fun a : Rat × Rat => ∃ m n, Bit a.1 m ∧ Bit a.2 n ∧ m + n ≤ 9000) (fun a => [rt a.1, rt a.2]) (fun a d => d = rt (a.1 * a.2))
abbrev sp_less (L : Pm) : Sp := spP L (fun a : Rat × Rat => ∃ m n, Bit a.1 m ∧ Bit a.2 n ∧ m + n ≤ 100000) (fun a => [rt a.1, rt a.2]) (fun a d => d = .bl (decide (a.1 < a.2)))
/-- turn's arguments: the table's size, the table, the place -/
structure TurnA where
  m : Nat
  N : Nat
  T : Nat → Nat → Rat
  B : Nat → Nat
  r : Nat
  s : Nat
def TurnA.ok (a : TurnA) (st : PSt) : Prop := Holds st a.m a.N a.T a.B ∧ a.m ≤ 100 ∧ a.N ≤ 1000 ∧ a.r < a.m ∧ a.s ≤ a.N ∧ a.T a.r a.s ≠ 0 ∧ ∀ j k, j < a.m → k ≤ a.N → Bit (a.T j k) 1000
/-- the table while it is turned: n rows are through -/
def turnT (T : Nat → Nat → Rat) (r s n : Nat) : Nat → Nat → Rat := fun i k => if i = r then T r k / T r s else if i < n then piv T r s i k else T i k
theorem turnT_pivot {T : Nat → Nat → Rat} {r s n k : Nat} : turnT T r s n r k = T r k / T r s := if_pos rfl
theorem turnT_row {T : Nat → Nat → Rat} {r s n i k : Nat} (h : i ≠ r) (h2 : ¬ i < n) : turnT T r s n i k = T i k := by
  unfold turnT
  rw [if_neg h, if_neg h2]
theorem turnT_done {T : Nat → Nat → Rat} {r s n i : Nat} (h : i < n) : turnT T r s n i = piv T r s i := by
  funext k
  unfold turnT
  by_cases e : i = r
  · rw [if_pos e, e]
    unfold piv
    rw [if_pos rfl]
  · rw [if_neg e, if_pos h]
theorem turnT_next {T : Nat → Nat → Rat} {r s n i : Nat} (h : i ≠ n) : turnT T r s (n + 1) i = turnT T r s n i := by
  funext k
  unfold turnT
  by_cases e : i = r
  · rw [if_pos e, if_pos e]
  · rw [if_neg e, if_neg e]
    by_cases e2 : i < n
    · rw [if_pos e2, if_pos (by omega)]
    · rw [if_neg e2, if_neg (by omega)]
theorem rows_congr {m N : Nat} {T U : Nat → Nat → Rat} (h : ∀ j, j < m → T j = U j) : rowsD m N T = rowsD m N U := by
  unfold rowsD
  refine List.map_congr_left fun j hj => ?_
  rw [h j (List.mem_range.mp hj)]
theorem rows_set {m N : Nat} {T U : Nat → Nat → Rat} {i : Nat} {d : D} (hi : i < m) (hd : d = rowD N (U i)) (h : ∀ j, j < m → j ≠ i → T j = U j) : (rowsD m N T).set i d = rowsD m N U := by
  unfold rowsD
  exact tab_set _ _ m i d hi hd.symm fun j hj hn => by rw [h j hj hn]
theorem rows_len {m N : Nat} {T : Nat → Nat → Rat} : (rowsD m N T).length = m := by
  unfold rowsD
  simp
abbrev sp_P_turn (L : Pm) : Sp := spM L TurnA.ok (fun a => [.int (a.r : Int), .int (a.s : Int)]) (fun a st d st' => d = .non ∧ st' = withT st a.m a.N (piv a.T a.r a.s) (pivB a.B a.r a.s))
def nm_P_turn : List Str := ["self", "j", "k", "pivot", "one", "i", "factor", "a", "b"]
theorem sc_P_turn : FnScope nm_P_turn ["self", "j", "k"] (defScope (met 1)) := ⟨rfl, rfl, rfl, by decide +kernel, rfl, by decide +kernel, by decide +kernel⟩
theorem w_turn (T : Tx L mg base) : Prm P w L.K L.C mg base "turn" 3 ["self", "j", "k"] (sp_P_turn L) :=
  have g_over := w_over (P := P) (w := w) T
  have g_minus := w_minus (P := P) (w := w) T
  have g_by := w_by (P := P) (w := w) T
  pr_ofM T.P_turn sc_P_turn (by intro kV doc pm an cdv ct us h; match us, h with | [_, _, _], _ => rfl) (fun vs H Q E h => len_M (n := 3) (fun _ => rfl) h) fun f cdv A outer s H vs Q E HR h => ⟨_, (pss_cons (ps_set (i := 3) sc_P_turn.nd rfl (Or.inr rfl) (pe_ix ix_list (pe_ix ix_list (pe_fld (pv 0) rfl) (pv 1) (fun _ _ => rfl)) (pv 2) (fun _ _ => rfl)))
    (pss_cons (ps_asg (pe_lc (own := [("one", 4)]) (g := (gName 4)) (tt := tYes) (te := (tCall (sp_over L) [] E0 (tCons (tVar 4) (tCons (tVar 3) tNil)))) (by rfl) sc_P_turn.nd (pi_list (pe_ix ix_list (pe_fld (pv 0) rfl) (pv 1) (fun _ _ => rfl))) (blkOk_by (own := [("one", 4)]) (N := nm_P_turn) (sc := (defScope (met 1))) (by decide +kernel)) (fun _ _ _ _ _ => (pg_name (i := 4) sc_P_turn.nd rfl (.inl rfl))) (fun _ _ _ _ _ => pts_nil) (fun _ _ _ _ _ => (pe_own g_over HR (by decide) (by rfl) (pa_cons (pv 4) (pa_cons (pv 3) pa_nil))))) (pg_sub (pe_fld (pv 0) rfl) (pv 1) set_list (fun _ => rfl)))
    (pss_cons (ps_for PassesOwn.never rfl (pi_range1 (by rfl) T.range_ (pa_cons (pe_callB call_len_seq (by rfl) T.len_ PySem.boot_len (pa_cons (pe_fld (pv 0) rfl) pa_nil)) pa_nil)) (pg_name (i := 5) sc_P_turn.nd rfl (.inl rfl)) (pss_cons (ps_set (i := 6) sc_P_turn.nd rfl (Or.inr rfl) (pe_ix ix_list (pe_ix ix_list (pe_fld (pv 0) rfl) (pv 5) (fun _ _ => rfl)) (pv 2) (fun _ _ => rfl)))
    (pss_one (ps_if (PW.pt (pw_and (pt_cmpR op_ne (pv 5) (pv 1) (nomark _)) (pw_and1 (pt_cmpR op_ne (pe_ix ix_tup (pv 6) pe_int (fun _ _ => rfl)) pe_int (nomark _))))) (pss_one (ps_asg (pe_lc (own := [("a", 7), ("b", 8)]) (g := (gTup L.K 2 (gCons (gName 7) (gCons (gName 8) gNil)))) (tt := tYes) (te := (tCall (sp_minus L) [] E0 (tCons (tVar 7) (tCons (tCall (sp_by L) [] E0 (tCons (tVar 6) (tCons (tVar 8) tNil))) tNil)))) (by rfl) sc_P_turn.nd (RZ.pi_zipA (by rfl) T.zip_ (pa_cons (pe_ix ix_list (pe_fld (pv 0) rfl) (pv 5) (fun _ _ => rfl)) (pa_cons (pe_ix ix_list (pe_fld (pv 0) rfl) (pv 1) (fun _ _ => rfl)) pa_nil))) (blkOk_by (own := [("a", 7), ("b", 8)]) (N := nm_P_turn) (sc := (defScope (met 1))) (by decide +kernel)) (fun _ _ _ _ _ => (pg_tup (by rfl) (pgs_cons (pg_name (i := 7) sc_P_turn.nd rfl (.inl rfl)) (pgs_cons (pg_name (i := 8) sc_P_turn.nd rfl (.inl rfl)) pgs_nil)))) (fun _ _ _ _ _ => pts_nil) (fun _ _ _ _ _ => (pe_own g_minus HR (by decide) (by rfl) (pa_cons (pv 7) (pa_cons (pe_own g_by HR (by decide) (by rfl) (pa_cons (pv 6) (pa_cons (pv 8) pa_nil))) pa_nil))))) (pg_sub (pe_fld (pv 0) rfl) (pv 5) set_list (fun _ => rfl)))) pss_nil))))
    (pss_one (ps_asg (pv 2) (pg_sub (pe_fld (pv 0) rfl) (pv 1) set_list (fun _ => rfl))))))),
  start_M h (fun _ => (show 3 ≤ 9 by decide)) (fun a st d st' e => by rw [e.2]; exact ⟨rfl, rfl, rfl⟩) fun a st F rt' hp hM hV hS hR => by
    obtain ⟨m, N, T0, B, r, s0⟩ := a
    obtain ⟨hH, hm, hN, hr, hs, hp0, hb⟩ := hp
    have hH : Holds st m N T0 B := hH
    have hm : m ≤ 100 := hm
    have hN : N ≤ 1000 := hN
    have hr : r < m := hr
    have hs : s0 ≤ N := hs
    have hp0 : T0 r s0 ≠ 0 := hp0
    have hb : ∀ j k, j < m → k ≤ N → Bit (T0 j k) 1000 := hb
    have O := T.ob
    have hlenS : st.rows.length = m := by rw [hH.rows]; unfold rowsD; simp
    have hrow : atI st.rows (r : Int) = some (rowD N (T0 r)) := by rw [hH.rows]; exact atI_tab _ m r hr
    refine go_set (d := rt (T0 r s0)) (ev_ixL (ev_rowAt O rfl (ev_var rfl) hrow) (ev_var rfl) (atI_tab _ (N + 1) s0 (by omega))) (show 3 < 9 by decide) ?_
    refine go_seq (go_setRow O (j := r) rfl hV (Φ := fun d => d = rowD N (fun k => T0 r k / T0 r s0)) (ev_eq (ev_lc (js := [4]) (bd := fun k => [rt (T0 r k)]) (f := fun _ => true) (out := fun k => rt (T0 r k / T0 r s0)) (src_list (ev_rowAt O rfl (ev_var rfl) hrow)) ?_ (fun j hj => ?_) (fun j hj => ?_) (fun k hk => ?_) (fun k hk => et_yes) (fun k hk _ => ?_)) ?_) (ev_var rfl) (by rw [hlenS]; exact hr) (fun d e => ?_))
    · simp
      omega
    · rw [List.mem_singleton.mp hj]
      exact (show 4 < 9 by decide)
    · exact hj
    · have hk : k < N + 1 := by simpa using hk
      rw [getD_tab _ _ _ _ hk]
      exact tg_name
    · have hk : k < N + 1 := by simpa using hk
      exact ev_own (T0 r k, T0 r s0) (ea_cons (ev_var rfl) (ea_cons (ev_var rfl) ea_nil)) ⟨hp0, 1000, 1000, hb r k hr (by omega), hb r s0 hr hs, by decide⟩ fun x e => e
    · rw [given_all]
      simp
    subst e
    show Go L F _ _ _
    have e0 : st.rows.set r (rowD N (fun k => T0 r k / T0 r s0)) = rowsD m N (turnT T0 r s0 0) := by
      rw [hH.rows]
      refine rows_set hr ?_ fun j hj hn => ?_
      · have : turnT T0 r s0 0 r = fun k => T0 r k / T0 r s0 := by
          funext k
          exact turnT_pivot
        rw [this]
      · funext k
        exact (turnT_row hn (Nat.not_lt_zero _)).symm
    rw [e0]
    refine go_forS [5] (fun i => [.int (i : Int)]) (fun n G' => ∃ o4 o5 o6 o7 o8, G' = [some (.prog { st with rows := rowsD m N (turnT T0 r s0 n) }), some (.d (.int (r : Int))), some (.d (.int (s0 : Int))), some (.d (rt (T0 r s0))), dn o4, dn o5, dn o6, dn o7, dn o8])
      (src_rng (n := m) (ea_cons (ev_eq (ev_lenRows O rfl) (congrArg (fun z : Nat => D.int (z : Int)) rows_len)) ea_nil) (by omega)) ⟨none, none, none, none, none, rfl⟩ (fun i hi => tg_name) (fun i G' hc j hj => ?_) (fun i G' A' N' E' hi hc hN' e1 e2 e3 => ?_) (fun G' hc => ?_)
    · obtain ⟨o4, o5, o6, o7, o8, rfl⟩ := hc
      rw [List.mem_singleton.mp hj]
      exact (show 5 < 9 by decide)
    · obtain ⟨o4, o5, o6, o7, o8, rfl⟩ := hc
      have hri : atI (rowsD m N (turnT T0 r s0 i)) (i : Int) = some (rowD N (turnT T0 r s0 i i)) := atI_tab _ m i hi
      have hrr : atI (rowsD m N (turnT T0 r s0 i)) (r : Int) = some (rowD N (turnT T0 r s0 i r)) := atI_tab _ m r hr
      refine go_set (d := rt (turnT T0 r s0 i i s0)) (ev_ixL (ev_rowAt O rfl (ev_var rfl) hri) (ev_var rfl) (atI_tab _ (N + 1) s0 (by omega))) (show 6 < 9 by decide) ?_
      refine go_if (b := !decide ((i : Int) = (r : Int)) && !decide ((turnT T0 r s0 i i s0).num = 0)) (et_and (et_test (ev_neI (ev_var rfl) (ev_var rfl))) fun _ => et_test (ev_neI (ev_ixT (ev_var rfl) ev_int rfl) ev_int)) (fun hb1 => ?_) fun hb1 => go_next ?_
      · rw [Bool.and_eq_true, Bool.not_eq_true', Bool.not_eq_true', decide_eq_false_iff_not, decide_eq_false_iff_not] at hb1
        have hir : i ≠ r := fun e => hb1.1 (by rw [e])
        have e4 : ∀ k, turnT T0 r s0 i i k = T0 i k := fun k => turnT_row hir (Nat.lt_irrefl _)
        refine go_setRow O (j := i) rfl hV (Φ := fun d => d = rowD N (turnT T0 r s0 (i + 1) i)) (ev_eq (ev_lc (js := [7, 8]) (bd := fun k => [rt (turnT T0 r s0 i i k), rt (turnT T0 r s0 i r k)]) (f := fun _ => true) (out := fun k => rt (turnT T0 r s0 (i + 1) i k)) (src_zipL (ea_cons (ev_rowAt O rfl (ev_var rfl) hri) (ea_cons (ev_rowAt O rfl (ev_var rfl) hrr) ea_nil))) ?_ (fun j hj => ?_) (fun j hj => ?_) (fun k hk => ?_) (fun k hk => et_yes) (fun k hk _ => ?_)) ?_) (ev_var rfl) (by show i < (rowsD m N _).length; rw [rows_len]; exact hi) (fun d e => ?_)
        · simp
          omega
        · have : j = 7 ∨ j = 8 := by simpa using hj
          show j < 9
          omega
        · exact hj
        · have hk : k < N + 1 := by simpa using hk
          rw [getD_tab _ _ _ _ hk, getD_tab _ _ _ _ hk]
          exact tg_2 rfl
        · have hk : k < N + 1 := by simpa using hk
          have b1 := hb r k hr (by omega)
          have b2 := hb r s0 hr hs
          have b3 := hb i s0 hi hs
          have b4 := hb i k hi (by omega)
          have q1 := b1.div b2 hp0
          have q2 := b3.mul q1
          have ee : turnT T0 r s0 (i + 1) i k = T0 i k - T0 i s0 * (T0 r k / T0 r s0) := by
            rw [turnT_done (Nat.lt_succ_self i)]
            unfold piv
            rw [if_neg hir]
          refine ev_own (turnT T0 r s0 i i k, turnT T0 r s0 i i s0 * turnT T0 r s0 i r k) (ea_cons (ev_var rfl) (ea_cons (ev_own (turnT T0 r s0 i i s0, turnT T0 r s0 i r k) (ea_cons (ev_var rfl) (ea_cons (ev_var rfl) ea_nil)) ?_ fun x e => e) ea_nil)) ?_ fun x e => ?_
          · rw [e4, turnT_pivot]
            exact ⟨1000, 2000, b3, q1, by decide⟩
          · rw [e4, e4, turnT_pivot]
            exact ⟨1000, 3000, b4, q2, by decide⟩
          · rw [e, ee, e4, e4, turnT_pivot]
        · rw [given_all]
          simp
        · subst e
          rw [e1]
          refine hN' _ ⟨o4, some (.int (i : Int)), some (rt (turnT T0 r s0 i i s0)), o7, o8, ?_⟩
          rw [← rows_set (N := N) (T := turnT T0 r s0 i) (U := turnT T0 r s0 (i + 1)) hi rfl fun j hj hn => (turnT_next hn).symm]
          rfl
      · rw [e1]
        refine hN' _ ⟨o4, some (.int (i : Int)), some (rt (turnT T0 r s0 i i s0)), o7, o8, ?_⟩
        have : rowsD m N (turnT T0 r s0 (i + 1)) = rowsD m N (turnT T0 r s0 i) := rows_congr fun j hj => by
          by_cases hji : j = i
          · subst hji
            rw [turnT_done (Nat.lt_succ_self j)]
            funext k
            by_cases hjr : j = r
            · subst hjr
              rw [turnT_pivot]
              unfold piv
              rw [if_pos rfl]
            · rw [turnT_row hjr (Nat.lt_irrefl _)]
              rw [turnT_row hjr (Nat.lt_irrefl _)] at hb1
              have hz : T0 j s0 = 0 := by
                rw [Bool.and_eq_false_iff, Bool.not_eq_false', Bool.not_eq_false', decide_eq_true_iff, decide_eq_true_iff] at hb1
                rcases hb1 with e | e
                · exact absurd (by omega) hjr
                · exact Rat.num_eq_zero.mp e
              unfold piv
              rw [if_neg hjr, hz]
              grind
          · exact turnT_next hji
        rw [this]
        rfl
    · obtain ⟨o4, o5, o6, o7, o8, rfl⟩ := hc
      refine go_setBasis O (j := r) (b := s0) rfl hV (ev_var rfl) (ev_var rfl) (by show r < st.basis.length; rw [hH.basis]; simpa using hr) ?_
      have e5 : rowsD m N (turnT T0 r s0 m) = rowsD m N (piv T0 r s0) := rows_congr fun j hj => turnT_done hj
      have e6 : st.basis.set r s0 = (List.range m).map (pivB B r s0) := by
        rw [hH.basis]
        refine tab_set _ _ m r s0 hr (by unfold pivB; rw [if_pos rfl]) fun j hj hn => by
          unfold pivB
          rw [if_neg hn]
      refine nx_endM (i := 0) (st := withT st m N (piv T0 r s0) (pivB B r s0)) ?_ hS (hR _ _ ⟨rfl, rfl⟩)
      show some (some (Ent.prog { { st with rows := rowsD m N (turnT T0 r s0 m) } with basis := st.basis.set r s0 })) = _
      rw [e5, e6]
      rfl⟩
end
end Pw

/-! The walk: multiplier, amounts, prices. -/
namespace Pw
open PySem L2 PyProof.Rows
/-- a list of rationals as a datum -/
abbrev listD (n : Nat) (c : Nat → Rat) : D := .lst ((List.range n).map fun i => rt (c i))
/-- multiplier's arguments -/
structure MulA where
  m : Nat
  N : Nat
  n : Nat
  T : Nat → Nat → Rat
  B : Nat → Nat
  c : Nat → Rat
  k : Nat
def MulA.ok (a : MulA) (st : PSt) : Prop := Holds st a.m a.N a.T a.B ∧ a.m ≤ 100 ∧ a.N ≤ 1000 ∧ a.n ≤ 2000 ∧ a.k ≤ a.N ∧ (∀ j, j < a.m → a.B j < a.n) ∧ (∀ j, j < a.m → ∃ x y, Bit (a.c (a.B j)) x ∧ Bit (a.T j a.k) y ∧ x + y ≤ 9000) ∧
  ∀ j, j < a.m → ∃ x y, Bit (S j fun j => a.c (a.B j) * a.T j a.k) x ∧ Bit (a.c (a.B j) * a.T j a.k) y ∧ x + y ≤ 9000
abbrev sp_P_multiplier (L : Pm) : Sp := spMr L MulA.ok (fun a => [listD a.n a.c, .int (a.k : Int)]) (fun a st d => d = rt (mult a.m a.c a.T a.B a.k))
theorem hold_basis {st : PSt} {m N : Nat} {T : Nat → Nat → Rat} {B : Nat → Nat} (h : Holds st m N T B) {j : Nat} (hj : j < m) : st.basis[j]? = some (B j) := by
  rw [h.basis, List.getElem?_map, List.getElem?_range hj]
  rfl
theorem hold_len {st : PSt} {m N : Nat} {T : Nat → Nat → Rat} {B : Nat → Nat} (h : Holds st m N T B) : st.rows.length = m := by rw [h.rows, rows_len]
theorem hold_row {st : PSt} {m N : Nat} {T : Nat → Nat → Rat} {B : Nat → Nat} (h : Holds st m N T B) {j : Nat} (hj : j < m) : st.rows.getD j .non = rowD N (T j) := by
  rw [h.rows]
  exact getD_tab _ m j _ hj
theorem hold_at {st : PSt} {m N : Nat} {T : Nat → Nat → Rat} {B : Nat → Nat} (h : Holds st m N T B) {j : Nat} (hj : j < m) : atI st.rows (j : Int) = some (rowD N (T j)) := by
  rw [h.rows]
  exact atI_tab _ m j hj
theorem atI_last (f : Nat → D) (n : Nat) : atI ((List.range (n + 1)).map f) (-1) = some (f n) := by
  unfold atI ixN
  rw [List.length_map, List.length_range, if_neg (by omega), if_pos (by omega), Option.bind_some, show ((-1 : Int) + ((n + 1 : Nat) : Int)).toNat = n by omega, List.getElem?_map, List.getElem?_range (Nat.lt_succ_self n)]
  rfl
section
variable {P : Program} {w : World} {L : Pm} {mg : Str → Option Value} {base : Heap}
def nm_P_multiplier : List Str := ["self", "costs", "k", "j", "row"]
theorem sc_P_multiplier : FnScope nm_P_multiplier ["self", "costs", "k"] (defScope (met 2)) := ⟨rfl, rfl, rfl, by decide +kernel, rfl, by decide +kernel, by decide +kernel⟩
theorem w_multiplier (T : Tx L mg base) : Prm P w L.K L.C mg base "multiplier" 4 ["self", "costs", "k"] (sp_P_multiplier L) :=
  have g_total := w_total (P := P) (w := w) T
  have g_by := w_by (P := P) (w := w) T
  pr_ofM T.P_multiplier sc_P_multiplier (by intro kV doc pm an cdv ct us h; match us, h with | [_, _, _], _ => rfl) (fun vs H Q E h => len_Mr (n := 3) (fun _ => rfl) h) fun f cdv A outer s H vs Q E HR h => ⟨_, (pss_one (ps_ret (pe_own g_total HR (by decide) (by rfl) (pa_cons (pe_lc (own := [("j", 3), ("row", 4)]) (g := (gTup L.K 2 (gCons (gName 3) (gCons (gName 4) gNil)))) (tt := tYes) (te := (tCall (sp_by L) [] E0 (tCons (tOp (rIxL L.K) (tVar 1) (tOp (rIxL L.K) (tFld L.K (tVar 0) "basis") (tVar 3))) (tCons (tOp (rIxL L.K) (tVar 4) (tVar 2)) tNil)))) (by rfl) sc_P_multiplier.nd (pi_enum (by rfl) T.enumerate_ (pa_cons (pe_fld (pv 0) rfl) pa_nil)) (blkOk_by (own := [("j", 3), ("row", 4)]) (N := nm_P_multiplier) (sc := (defScope (met 2))) (by decide +kernel)) (fun _ _ _ _ _ => (pg_tup (by rfl) (pgs_cons (pg_name (i := 3) sc_P_multiplier.nd rfl (.inl rfl)) (pgs_cons (pg_name (i := 4) sc_P_multiplier.nd rfl (.inl rfl)) pgs_nil)))) (fun _ _ _ _ _ => pts_nil) (fun _ _ _ _ _ => (pe_own g_by HR (by decide) (by rfl) (pa_cons (pe_ix ix_list (pv 1) (pe_ix ix_list (pe_fld (pv 0) rfl) (pv 3) (fun _ _ => rfl)) (fun _ _ => rfl)) (pa_cons (pe_ix ix_list (pv 4) (pv 2) (fun _ _ => rfl)) pa_nil))))) pa_nil)))),
  start_Mr h (fun _ => (show 3 ≤ 5 by decide)) fun a st F rt' hp hM hS hV hR => by
    obtain ⟨m, N, n, T0, B, c, k⟩ := a
    obtain ⟨hH, hm, hN, hn, hk, hB, b1, b2⟩ := hp
    have hH : Holds st m N T0 B := hH
    have hm : m ≤ 100 := hm
    have hk : k ≤ N := hk
    have hB : ∀ j, j < m → B j < n := hB
    have b1 : ∀ j, j < m → ∃ x y, Bit (c (B j)) x ∧ Bit (T0 j k) y ∧ x + y ≤ 9000 := b1
    have b2 : ∀ j, j < m → ∃ x y, Bit (S j fun j => c (B j) * T0 j k) x ∧ Bit (c (B j) * T0 j k) y ∧ x + y ≤ 9000 := b2
    have O := T.ob
    have hl := hold_len hH
    refine go_retE (d := rt (mult m c T0 B k)) (ev_own (m, fun j => c (B j) * T0 j k) (ea_cons (ev_eq (ev_lcRows O (i := 0) (js := [3, 4]) (bd := fun j => [.int (j : Int), rowD N (T0 j)]) (f := fun _ => true) (out := fun j => rt (c (B j) * T0 j k)) rfl (by omega) (fun j hj => ?_) (fun j hj => ?_) (fun j hj => ?_) (fun j hj => et_yes) (fun j hj _ => ?_)) ?_) ea_nil) ⟨by show m ≤ 1000; omega, fun i hi => ?_⟩ fun x e => ?_) (hR _ rfl)
    · have : j = 3 ∨ j = 4 := by simpa using hj
      show j < 5
      omega
    · exact hj
    · rw [hold_row hH (by omega)]
      exact tg_2 rfl
    · have hj : j < m := by omega
      exact ev_own (c (B j), T0 j k) (ea_cons (ev_ixL (ev_var rfl) (ev_basisAt O rfl (ev_var rfl) (hold_basis hH hj)) (atI_tab _ n (B j) (hB j hj))) (ea_cons (ev_ixL (ev_var rfl) (ev_var rfl) (atI_tab _ (N + 1) k (by omega))) ea_nil)) (b1 j hj) fun x e => e
    · rw [given_all, hl]
    · show ∃ x y, Bit (psum (fun j => c (B j) * T0 j k) i) x ∧ Bit (c (B i) * T0 i k) y ∧ x + y ≤ 9000
      rw [psum_S]
      exact b2 i hi
    · rw [e]
      show rt (psum (fun j => c (B j) * T0 j k) m) = _
      rw [psum_S]
      rfl⟩
/-- amounts -/
def amt (N : Nat) (T : Nat → Nat → Rat) (B : Nat → Nat) : Nat → Nat → Rat
  | 0, _ => 0
  | j + 1, k => if k = B j then T j N else amt N T B j k
structure AmtA where
  m : Nat
  N : Nat
  T : Nat → Nat → Rat
  B : Nat → Nat
abbrev sp_P_amounts (L : Pm) : Sp := spMr L (fun (a : AmtA) st => Holds st a.m a.N a.T a.B ∧ a.m ≤ 100 ∧ st.many ≤ 1000) (fun a => []) (fun a st d => d = listD st.many (amt a.N a.T a.B a.m))
def nm_P_amounts : List Str := ["self", "found", "k", "j", "row"]
theorem sc_P_amounts : FnScope nm_P_amounts ["self"] (defScope (met 5)) := ⟨rfl, rfl, rfl, by decide +kernel, rfl, by decide +kernel, by decide +kernel⟩
theorem w_amounts (T : Tx L mg base) : Prm P w L.K L.C mg base "amounts" 1 ["self"] (sp_P_amounts L) :=
  pr_ofM T.P_amounts sc_P_amounts (by intro kV doc pm an cdv ct us h; match us, h with | [_], _ => rfl) (fun vs H Q E h => len_Mr (n := 1) (fun _ => rfl) h) fun f cdv A outer s H vs Q E HR h => ⟨_, (pss_cons (ps_setLc (i := 1) (own := [("k", 2)]) (g := (gName 2)) (tt := tYes) (te := (tTup (tCons (tC (.int 0)) (tCons (tC (.int 1)) tNil)))) (by rfl) sc_P_amounts.nd rfl rfl (sw_true rfl rfl rfl (by decide +kernel)) (pi_range1 (by rfl) T.range_ (pa_cons (pe_fld (pv 0) rfl) pa_nil)) (blkOk_by (own := [("k", 2)]) (N := nm_P_amounts) (sc := (defScope (met 5))) (by decide +kernel)) (fun _ _ _ _ _ => (pg_name (i := 2) sc_P_amounts.nd rfl (.inl rfl))) (fun _ _ _ _ _ => pts_nil) (fun _ _ _ _ _ => (pe_tup (pa_cons pe_int (pa_cons pe_int pa_nil)))))
    (pss_cons (ps_for PassesOwn.never rfl (pi_enum (by rfl) T.enumerate_ (pa_cons (pe_fld (pv 0) rfl) pa_nil)) (pg_tup (by rfl) (pgs_cons (pg_name (i := 3) sc_P_amounts.nd rfl (.inl rfl)) (pgs_cons (pg_name (i := 4) sc_P_amounts.nd rfl (.inl rfl)) pgs_nil))) (pss_one (ps_if (pt_cmpR op_lt (pe_ix ix_list (pe_fld (pv 0) rfl) (pv 3) (fun _ _ => rfl)) (pe_fld (pv 0) rfl) (nomark _)) (pss_one (ps_asg (pe_ix ix_list (pv 4) (pe_un un_neg pe_int) (fun _ _ => rfl)) (pg_sub (pv 1) (pe_ix ix_list (pe_fld (pv 0) rfl) (pv 3) (fun _ _ => rfl)) set_list (fun _ => rfl)))) pss_nil)))
    (pss_one (ps_ret (pv 1))))),
  start_Mr h (fun _ => (show 1 ≤ 5 by decide)) fun a st F rt' hp hM hS hV hR => by
    obtain ⟨m, N, T0, B⟩ := a
    obtain ⟨hH, hm, hmany⟩ := hp
    have hH : Holds st m N T0 B := hH
    have hm : m ≤ 100 := hm
    have hmany : st.many ≤ 1000 := hmany
    have O := T.ob
    have hl := hold_len hH
    refine go_seq (go_setLcO (js := [2]) (bd := fun k => [.int (k : Int)]) (f := fun _ => true) (out := fun k => rt 0) (src_rng (n := st.many) (ea_cons (ev_many O rfl) ea_nil) (by omega)) (by omega) (fun j hj => ?_) (fun j hj => hj) (fun k hk => tg_name) (fun k hk => et_yes) (fun k hk _ => ev_tup (ea_cons ev_int (ea_cons ev_int ea_nil)) (show 2 ≤ 100000 by decide)) (show 1 < 5 by decide) ?_)
    · rw [List.mem_singleton.mp hj]
      exact (show 2 < 5 by decide)
    rw [given_all]
    show Go L F _ _ _
    refine go_seq (go_forRows O (i := 0) rfl [3, 4] (fun j => [.int (j : Int), rowD N (T0 j)]) (fun n G' => ∃ o3 o4, G' = [some (.prog st), some (.own ((List.range st.many).map fun k => rt (amt N T0 B n k))), none, dn o3, dn o4]) ⟨none, none, rfl⟩ (fun j hj => ?_) (fun j G' hc l hl => ?_) (fun j G' A' V' N' hj hc hN' => ?_) (fun G' hc => ?_))
    · rw [hold_row hH (by omega)]
      exact tg_2 rfl
    · obtain ⟨o3, o4, rfl⟩ := hc
      have : l = 3 ∨ l = 4 := by simpa using hl
      show l < 5
      omega
    · obtain ⟨o3, o4, rfl⟩ := hc
      have hj' : j < m := by omega
      refine go_if (et_test (ev_B0 (ev_basisAt O rfl (ev_var rfl) (hold_basis hH hj')) (ev_many O rfl))) (fun hb => ?_) fun hb => go_next ?_
      · have hb : B j < st.many := by
          have := of_decide_eq_true hb
          omega
        refine go_setI (i := 1) (j := B j) rfl (Φ := fun d => d = rt (T0 j N)) (ev_ixL (ev_var rfl) (ev_neg ev_int) (atI_last _ N)) (ev_basisAt O rfl (ev_var rfl) (hold_basis hH hj')) (by simpa using hb) fun d e => ?_
        subst e
        refine hN' _ ⟨some (.int (j : Int)), some (rowD N (T0 j)), ?_⟩
        have : ((List.range st.many).map fun k => rt (amt N T0 B j k)).set (B j) (rt (T0 j N)) = (List.range st.many).map fun k => rt (amt N T0 B (j + 1) k) :=
          tab_set _ _ st.many (B j) _ hb (by rw [amt, if_pos rfl]) fun i hi hn => by rw [amt, if_neg hn]
        rw [← this]
        rfl
      · have hb : ¬ B j < st.many := by
          have := of_decide_eq_false hb
          omega
        refine hN' _ ⟨some (.int (j : Int)), some (rowD N (T0 j)), ?_⟩
        have : ((List.range st.many).map fun k => rt (amt N T0 B (j + 1) k)) = (List.range st.many).map fun k => rt (amt N T0 B j k) := List.map_congr_left fun k hk => by
          have := List.mem_range.mp hk
          rw [amt, if_neg (by omega)]
        rw [this]
        rfl
    · obtain ⟨o3, o4, rfl⟩ := hc
      rw [hl]
      exact nx_go (go_freeze (i := 1) rfl (go_retE (ev_var rfl) (hR _ rfl)))⟩
/-- prices' arguments -/
structure PriA where
  m : Nat
  N : Nat
  n : Nat
  T : Nat → Nat → Rat
  B : Nat → Nat
  c : Nat → Rat
  ms : Nat
  sg : Nat → Rat
abbrev sp_P_prices (L : Pm) : Sp := spMr L (fun (a : PriA) st => st.signs = (List.range a.ms).map (fun j => rt (a.sg j)) ∧ a.ms ≤ 100 ∧ ∀ j, j < a.ms → MulA.ok ⟨a.m, a.N, a.n, a.T, a.B, a.c, st.many + j⟩ st ∧ ∃ x y, Bit (a.sg j) x ∧ Bit (mult a.m a.c a.T a.B (st.many + j)) y ∧ x + y ≤ 9000) (fun a => [listD a.n a.c])
  (fun a st d => d = listD a.ms fun j => a.sg j * mult a.m a.c a.T a.B (st.many + j))
def nm_P_prices : List Str := ["self", "costs", "j", "sign"]
theorem sc_P_prices : FnScope nm_P_prices ["self", "costs"] (defScope (met 6)) := ⟨rfl, rfl, rfl, by decide +kernel, rfl, by decide +kernel, by decide +kernel⟩
theorem w_prices (T : Tx L mg base) : Prm P w L.K L.C mg base "prices" 5 ["self", "costs"] (sp_P_prices L) :=
  have g_by := w_by (P := P) (w := w) T
  have g_multiplier := w_multiplier (P := P) (w := w) T
  pr_ofM T.P_prices sc_P_prices (by intro kV doc pm an cdv ct us h; match us, h with | [_, _], _ => rfl) (fun vs H Q E h => len_Mr (n := 2) (fun _ => rfl) h) fun f cdv A outer s H vs Q E HR h => ⟨_, (pss_one (ps_ret (pe_lc (own := [("j", 2), ("sign", 3)]) (g := (gTup L.K 2 (gCons (gName 2) (gCons (gName 3) gNil)))) (tt := tYes) (te := (tCall (sp_by L) [] E0 (tCons (tVar 3) (tCons (tMeth L.C "multiplier" (sp_P_multiplier L) [] E0 (tVar 0) (tCons (tVar 1) (tCons (tOp (rI0 fun i j => .int (i + j)) (tFld L.K (tVar 0) "many") (tVar 2)) tNil))) tNil)))) (by rfl) sc_P_prices.nd (pi_enum (by rfl) T.enumerate_ (pa_cons (pe_fld (pv 0) rfl) pa_nil)) (blkOk_by (own := [("j", 2), ("sign", 3)]) (N := nm_P_prices) (sc := (defScope (met 6))) (by decide +kernel)) (fun _ _ _ _ _ => (pg_tup (by rfl) (pgs_cons (pg_name (i := 2) sc_P_prices.nd rfl (.inl rfl)) (pgs_cons (pg_name (i := 3) sc_P_prices.nd rfl (.inl rfl)) pgs_nil)))) (fun _ _ _ _ _ => pts_nil) (fun _ _ _ _ _ => (pe_own g_by HR (by decide) (by rfl) (pa_cons (pv 3) (pa_cons (pe_mth g_multiplier (pv 0) T.cl HR (by decide) (pa_cons (pv 1) (pa_cons (pe_op op_add (pe_fld (pv 0) rfl) (pv 2)) pa_nil)) rfl) pa_nil))))))),
  start_Mr h (fun _ => (show 2 ≤ 4 by decide)) fun a st F rt' hp hM hS hV hR => by
    obtain ⟨m, N, n, T0, B, c, ms, sg⟩ := a
    obtain ⟨hs, hms, hj0⟩ := hp
    have hs : st.signs = (List.range ms).map fun j => rt (sg j) := hs
    have hms : ms ≤ 100 := hms
    have hj0 : ∀ j, j < ms → MulA.ok ⟨m, N, n, T0, B, c, st.many + j⟩ st ∧ ∃ x y, Bit (sg j) x ∧ Bit (mult m c T0 B (st.many + j)) y ∧ x + y ≤ 9000 := hj0
    have O := T.ob
    have hl : st.signs.length = ms := by rw [hs]; simp
    refine go_retE (ev_eq (ev_lc (js := [2, 3]) (bd := fun j => [.int (j : Int), rt (sg j)]) (f := fun _ => true) (out := fun j => rt (sg j * mult m c T0 B (st.many + j))) (src_enum (ea_cons (ev_signs O rfl) ea_nil)) (by omega) (fun j hj => ?_) (fun j hj => hj) (fun j hj => ?_) (fun j hj => et_yes) (fun j hj _ => ?_)) ?_) (hR _ rfl)
    · have : j = 2 ∨ j = 3 := by simpa using hj
      show j < 4
      omega
    · have hg : st.signs.getD j .non = rt (sg j) := by
        rw [hs]
        exact getD_tab _ ms j _ (by omega)
      rw [hg]
      exact tg_2 rfl
    · have hj : j < ms := by omega
      refine ev_own (sg j, mult m c T0 B (st.many + j)) (ea_cons (ev_var rfl) (ea_cons (ev_methR (i := 0) (st := st) rfl (fun _ _ _ _ => rfl) ⟨m, N, n, T0, B, c, st.many + j⟩ (ea_cons (ev_var rfl) (ea_cons (ev_eq (ev_I0 (ev_many O rfl) (ev_var rfl)) (congrArg D.int (show (st.many : Int) + (j : Int) = ((st.many + j : Nat) : Int) by omega))) ea_nil)) (hj0 j hj).1 fun x e => e) ea_nil)) (hj0 j hj).2 fun x e => e
    · rw [given_all, hl]⟩
end
end Pw

/-! The walk: climb. -/
namespace Pw
open PySem L2 PyProof.Rows
/-- climb's arguments -/
structure CliA where
  m : Nat
  N : Nat
  n : Nat
  T : Nat → Nat → Rat
  B : Nat → Nat
  c : Nat → Rat
  col : Nat
/-- every table that the climb meets is small -/
structure CliA.ok (a : CliA) (st : PSt) : Prop where
  holds : Holds st a.m a.N a.T a.B
  m : a.m ≤ 100
  N : a.N ≤ 1000
  n : a.N ≤ a.n ∧ a.n ≤ 2000
  col : a.col ≤ a.N
  basic : Basic a.m a.N a.T a.B
  feas : Feas a.m a.N a.T
  bc : ∀ k, k < a.n → Bit (a.c k) 2
  small : ∀ t j k, j < a.m → k ≤ a.N → Bit ((iter a.col a.m a.N a.c (a.T, a.B) t).1 j k) 1000
  sums : ∀ t j k, j < a.m → k ≤ a.N → Bit (S j fun j => a.c ((iter a.col a.m a.N a.c (a.T, a.B) t).2 j) * (iter a.col a.m a.N a.c (a.T, a.B) t).1 j k) 2000
  mult : ∀ t k, k ≤ a.N → Bit (mult a.m a.c (iter a.col a.m a.N a.c (a.T, a.B) t).1 (iter a.col a.m a.N a.c (a.T, a.B) t).2 k) 2000
abbrev sp_P_climb (L : Pm) : Sp := spM L CliA.ok (fun a => [listD a.n a.c, .int (a.col : Int)])
  (fun a st d st' => d = .bl (climbAns a.col a.m a.N a.c (a.T, a.B)) ∧ st' = withT st a.m a.N (climbed a.col a.m a.N a.c (a.T, a.B)).1 (climbed a.col a.m a.N a.c (a.T, a.B)).2)
/-- the best row so far, as the program holds it -/
def bestD (N : Nat) (T : Tab) (k : Nat) : Option Nat → D
  | none => .non
  | some b => .tup [rt (T b N / T b k), .int (b : Int)]
theorem ne_pos {q : Rat} (h : 0 < q) : q ≠ 0 := fun e => by
  rw [e] at h
  exact absurd h (by decide)
theorem num_pos (q : Rat) : 0 < q.num ↔ 0 < q := by
  rw [Rat.lt_iff]
  have h1 : (0 : Rat).num = 0 := rfl
  have h2 : (0 : Rat).den = 1 := rfl
  rw [h1, h2]
  omega
theorem ev_isNone {L : Pm} {G : Ctx} {te : TE} {x : D} (h : Ev L te G x) : Ev L (tOp (fun x y H Q => y = .non ∧ Q (.bl (decide (x = .non))) H) te (tC .non)) G (.bl (isNon x)) := ev_isN (fun _ _ _ => ⟨fun h => h.2, fun h => ⟨rfl, h⟩⟩) h
theorem isN_r {v : V} {H : Hp} {Q : VK} : (fun (x y : V) (H : Hp) (Q : VK) => y = .non ∧ Q (.bl (decide (x = .non))) H) v .non H Q ↔ Q (.bl (decide (v = .non))) H := ⟨fun h => h.2, fun h => ⟨rfl, h⟩⟩
section
variable {P : Program} {w : World} {L : Pm} {mg : Str → Option Value} {base : Heap}
def nm_P_climb : List Str := ["self", "costs", "columns", "up", "k", "best", "j", "row", "here"]
theorem sc_P_climb : FnScope nm_P_climb ["self", "costs", "columns"] (defScope (met 3)) := ⟨rfl, rfl, rfl, by decide +kernel, rfl, by decide +kernel, by decide +kernel⟩
theorem w_climb (T : Tx L mg base) : Prm P w L.K L.C mg base "climb" 5 ["self", "costs", "columns"] (sp_P_climb L) :=
  have g_over := w_over (P := P) (w := w) T
  have g_less := w_less (P := P) (w := w) T
  have g_multiplier := w_multiplier (P := P) (w := w) T
  have g_turn := w_turn (P := P) (w := w) T
  pr_ofM T.P_climb sc_P_climb (by intro kV doc pm an cdv ct us h; match us, h with | [_, _, _], _ => rfl) (fun vs H Q E h => len_M (n := 3) (fun _ => rfl) h) fun f cdv A outer s H vs Q E HR h => ⟨_, (pss_one (ps_while PassesOwn.never (pt_val pe_bl) (pss_cons (ps_setLc (i := 3) (own := [("k", 4)]) (g := (gName 4)) (tt := (tB (tCall (sp_less L) [] E0 (tCons (tMeth L.C "multiplier" (sp_P_multiplier L) [] E0 (tVar 0) (tCons (tVar 1) (tCons (tVar 4) tNil))) (tCons (tOp (rIxL L.K) (tVar 1) (tVar 4)) tNil))))) (te := (tVar 4)) (by rfl) sc_P_climb.nd rfl rfl (sw_true rfl rfl rfl (by decide +kernel)) (pi_range1 (by rfl) T.range_ (pa_cons (pv 2) pa_nil)) (blkOk_by (own := [("k", 4)]) (N := nm_P_climb) (sc := (defScope (met 3))) (by decide +kernel)) (fun _ _ _ _ _ => (pg_name (i := 4) sc_P_climb.nd rfl (.inl rfl))) (fun _ _ _ _ _ => (pts_one (pt_val (pe_own g_less HR (by decide) (by rfl) (pa_cons (pe_mth g_multiplier (pv 0) T.cl HR (by decide) (pa_cons (pv 1) (pa_cons (pv 4) pa_nil)) rfl) (pa_cons (pe_ix ix_list (pv 1) (pv 4) (fun _ _ => rfl)) pa_nil)))))) (fun _ _ _ _ _ => (pv 4)))
    (pss_cons (ps_if (pt_not (pt_truth (pv 3) (by intro _; rfl))) (pss_one (ps_ret pe_bl)) pss_nil)
    (pss_cons (ps_par (i := 4) (j := 5) (by rfl) sc_P_climb.nd rfl rfl (by decide) rfl rfl (pa_cons (pe_ix ix_list (pv 3) pe_int (fun _ _ => rfl)) (pa_cons pe_non pa_nil)) (by rfl))
    (pss_cons (ps_for PassesOwn.never rfl (pi_enum (by rfl) T.enumerate_ (pa_cons (pe_fld (pv 0) rfl) pa_nil)) (pg_tup (by rfl) (pgs_cons (pg_name (i := 6) sc_P_climb.nd rfl (.inl rfl)) (pgs_cons (pg_name (i := 7) sc_P_climb.nd rfl (.inl rfl)) pgs_nil))) (pss_one (ps_if (pt_cmpR op_gt (pe_ix ix_tup (pe_ix ix_list (pv 7) (pv 4) (fun _ _ => rfl)) pe_int (fun _ _ => rfl)) pe_int (nomark _)) (pss_cons (ps_set (i := 8) sc_P_climb.nd rfl (Or.inl rfl) (pe_own g_over HR (by decide) (by rfl) (pa_cons (pe_ix ix_list (pv 7) (pe_un un_neg pe_int) (fun _ _ => rfl)) (pa_cons (pe_ix ix_list (pv 7) (pv 4) (fun _ _ => rfl)) pa_nil))))
    (pss_one (ps_if (PW.pt (pw_or (pt_cmpR op_isN (pv 5) pe_non (nomark _)) (pw_or (pt_val (pe_own g_less HR (by decide) (by rfl) (pa_cons (pv 8) (pa_cons (pe_ix ix_tup (pv 5) pe_int (fun _ _ => rfl)) pa_nil)))) (pw_or1 (PW.pt (pw_and (pt_cmpR (op_eqD HR.units) (pv 8) (pe_ix ix_tup (pv 5) pe_int (fun _ _ => rfl)) (nomark _)) (pw_and1 (pt_cmpR op_lt (pe_ix ix_list (pe_fld (pv 0) rfl) (pv 6) (fun _ _ => rfl)) (pe_ix ix_list (pe_fld (pv 0) rfl) (pe_ix ix_tup (pv 5) pe_int (fun _ _ => rfl)) (fun _ _ => rfl)) (nomark _))))))))) (pss_one (ps_set (i := 5) sc_P_climb.nd rfl (Or.inl rfl) (pe_tup (pa_cons (pv 8) (pa_cons (pv 6) pa_nil))))) pss_nil))) pss_nil)))
    (pss_cons (ps_if (pt_cmpR op_isN (pv 5) pe_non (nomark _)) (pss_one (ps_ret pe_bl)) pss_nil)
    (pss_one (ps_expr (pe_mth g_turn (pv 0) T.cl HR (by decide) (pa_cons (pe_ix ix_tup (pv 5) pe_int (fun _ _ => rfl)) (pa_cons (pv 4) pa_nil)) rfl)))))))))),
  start_M h (fun _ => (show 3 ≤ 9 by decide)) (fun a st d st' e => by rw [e.2]; exact ⟨rfl, rfl, rfl⟩) fun a st F rt' hp hM hV hS hR => by
    obtain ⟨m, N, n, T0, B0, c, col⟩ := a
    obtain ⟨hH, hm, hN, ⟨hn, hn2⟩, hcol, hbas, hfea, hbc, hsm, hsu, hmu⟩ := hp
    have hH : Holds st m N T0 B0 := hH
    have hm : m ≤ 100 := hm
    have hN : N ≤ 1000 := hN
    have hn : N ≤ n := hn
    have hn2 : n ≤ 2000 := hn2
    have hcol : col ≤ N := hcol
    have hbc : ∀ k, k < n → Bit (c k) 2 := hbc
    have hsm : ∀ t j k, j < m → k ≤ N → Bit ((iter col m N c (T0, B0) t).1 j k) 1000 := hsm
    have hsu : ∀ t j k, j < m → k ≤ N → Bit (S j fun j => c ((iter col m N c (T0, B0) t).2 j) * (iter col m N c (T0, B0) t).1 j k) 2000 := hsu
    have hmu : ∀ t k, k ≤ N → Bit (mult m c (iter col m N c (T0, B0) t).1 (iter col m N c (T0, B0) t).2 k) 2000 := hmu
    have O := T.ob
    have hend : ∃ t, Stops col m N c (iter col m N c (T0, B0) t) := ends hcol hbas hfea
    have hst := endAt_stops hend
    generalize ht0 : endAt col m N c (T0, B0) = t0 at hst
    refine go_while (fun mm G' => ∃ t, t ≤ t0 ∧ mm = t0 - t ∧ ∃ o3 o4 o5 o6 o7 o8, G' = [some (.prog (withT st m N (iter col m N c (T0, B0) t).1 (iter col m N c (T0, B0) t).2)), some (.d (listD n c)), some (.d (.int (col : Int))), dn o3, dn o4, dn o5, dn o6, dn o7, dn o8]) t0
      ⟨0, Nat.zero_le _, rfl, none, none, none, none, none, none, ?_⟩ ?_
    · show ctxM _ st _ = [some (.prog (withT st m N T0 B0)), _, _, _, _, _, _, _, _]
      rw [← hH.eq]
      rfl
    rintro mm G' ⟨t, ht, rfl, o3, o4, o5, o6, o7, o8, rfl⟩
    have hB1 := (iter_basic (c := c) hcol hbas hfea t).1.lt
    have hs1 := hsm t
    have hs2 := hsu t
    have hs3 := hmu t
    have hnx : iter col m N c (T0, B0) (t + 1) = next col m N c (iter col m N c (T0, B0) t) := rfl
    have hcl : Stops col m N c (iter col m N c (T0, B0) t) → iter col m N c (T0, B0) t = climbed col m N c (T0, B0) := climbed_at
    generalize hit : iter col m N c (T0, B0) t = S0 at hB1 hs1 hs2 hs3 hnx hcl
    obtain ⟨T1, B1⟩ := S0
    have hB1 : ∀ j, j < m → B1 j < N := hB1
    have hs1 : ∀ j k, j < m → k ≤ N → Bit (T1 j k) 1000 := hs1
    have hs2 : ∀ j k, j < m → k ≤ N → Bit (S j fun j => c (B1 j) * T1 j k) 2000 := hs2
    have hs3 : ∀ k, k ≤ N → Bit (mult m c T1 B1 k) 2000 := hs3
    have hW := withT_holds st m N T1 B1
    refine ⟨fun b => b = true, et_B ev_bl, fun _ N' hN' => ?_, fun h => by cases h⟩
    have hmul : ∀ k, k ≤ N → MulA.ok ⟨m, N, n, T1, B1, c, k⟩ (withT st m N T1 B1) := fun k hk => ⟨hW, hm, hN, hn2, hk, fun j hj => Nat.lt_of_lt_of_le (hB1 j hj) hn, fun j hj => ⟨2, 1000, hbc _ (Nat.lt_of_lt_of_le (hB1 j hj) hn), hs1 j k hj hk, by decide⟩,
      fun j hj => ⟨2000, 1002, hs2 j k hj hk, (hbc _ (Nat.lt_of_lt_of_le (hB1 j hj) hn)).mul (hs1 j k hj hk), by decide⟩⟩
    refine go_set (d := .lst ((ups col m c T1 B1).map fun k : Nat => D.int (k : Int))) (ev_lc (js := [4]) (bd := fun k => [.int (k : Int)]) (f := fun k => decide (mult m c T1 B1 k < c k)) (out := fun k => .int (k : Int)) (src_rng (n := col) (ea_cons (ev_var rfl) ea_nil) (by omega)) (by omega) (fun j hj => ?_) (fun j hj => hj) (fun k hk => tg_name) (fun k hk => ?_) (fun k hk _ => ev_var rfl)) (show 3 < 9 by decide) ?_
    · rw [List.mem_singleton.mp hj]
      exact (show 4 < 9 by decide)
    · exact et_B (ev_own (mult m c T1 B1 k, c k) (ea_cons (ev_methR (i := 0) (st := withT st m N T1 B1) rfl (fun _ _ _ _ => rfl) ⟨m, N, n, T1, B1, c, k⟩ (ea_cons (ev_var rfl) (ea_cons (ev_var rfl) ea_nil)) (hmul k (by omega)) fun x e => e) (ea_cons (ev_ixL (ev_var rfl) (ev_var rfl) (atI_tab _ n k (by omega))) ea_nil)) ⟨2000, 2, hs3 k (by omega), hbc k (by omega), by decide⟩ fun x e => e)
    cases hu : ups col m c T1 B1 with
    | nil =>
      have ha : act col m N c T1 B1 = .stop true := by
        unfold act
        rw [hu]
      have hc1 := hcl ⟨true, ha⟩
      refine go_seq (go_if (b := true) (et_eq (et_not (et_truth (ev_var rfl) rfl)) rfl) (fun _ => go_retM (i := 0) ev_bl rfl hS (hR _ _ ⟨?_, ?_⟩)) fun e => by cases e)
      · show D.bl true = .bl (ansOf (act col m N c (climbed col m N c (T0, B0)).1 (climbed col m N c (T0, B0)).2))
        rw [← hc1]
        show D.bl true = .bl (ansOf (act col m N c T1 B1))
        rw [ha]
        rfl
      · show withT st m N T1 B1 = withT st m N (climbed col m N c (T0, B0)).1 (climbed col m N c (T0, B0)).2
        rw [← hc1]
    | cons k l =>
      obtain ⟨hk1, hk2, hk3⟩ := filter_head hu
      have hkN : k ≤ N := by omega
      refine go_guard (et_not (et_truth (ev_var rfl) rfl)) rfl ?_
      refine go_seq (go_par (x := .int (k : Int)) (y := .non) (ea_cons (ev_ixL (ev_var rfl) ev_int (show atI ((k :: l).map fun k : Nat => D.int (k : Int)) 0 = some (.int (k : Int)) from atI_nat _ 0 (by simp))) (ea_cons ev_non ea_nil)) (show 4 < 9 by decide) (show 5 < 9 by decide) ?_)
      show Go L F _ _ _
      refine go_forRowsS O (i := 0) (st := withT st m N T1 B1) rfl [6, 7] (fun j => [.int (j : Int), rowD N (T1 j)]) (fun j G' => ∃ o6 o7 o8, G' = [some (.prog (withT st m N T1 B1)), some (.d (listD n c)), some (.d (.int (col : Int))), some (.d (.lst ((k :: l).map fun k : Nat => D.int (k : Int)))), some (.d (.int (k : Int))), some (.d (bestD N T1 k (bestTo N T1 B1 k j))), dn o6, dn o7, dn o8]) ⟨o6, o7, o8, rfl⟩ (fun j hj => ?_) (fun j G' hc l hl => ?_) (fun j G' A' V' N2 hj hc hN2 => ?_) (fun G' hc => ?_)
      · have hj : j < m := by rw [hold_len hW] at hj; exact hj
        rw [hold_row hW hj]
        exact tg_2 rfl
      · obtain ⟨o6, o7, o8, rfl⟩ := hc
        have : l = 6 ∨ l = 7 := by simpa using hl
        show l < 9
        omega
      · have hj : j < m := by rw [hold_len hW] at hj; exact hj
        obtain ⟨o6, o7, o8, rfl⟩ := hc
        have hxk := atI_tab (fun k => rt (T1 j k)) (N + 1) k (by omega)
        have hxl := atI_last (fun k => rt (T1 j k)) N
        refine go_if (et_test (ev_B0 (ev_ixT (ev_ixL (ev_var rfl) (ev_var rfl) hxk) ev_int rfl) ev_int)) (fun hb => ?_) fun hb => go_next ?_
        · have hp : 0 < T1 j k := (num_pos _).mp (of_decide_eq_true hb)
          have hbn : bestTo N T1 B1 k (j + 1) = (match bestTo N T1 B1 k j with
            | none => some j
            | some b => if T1 j N / T1 j k < T1 b N / T1 b k ∨ (T1 j N / T1 j k = T1 b N / T1 b k ∧ B1 j < B1 b) then some j else some b) := by
            rw [bestTo, if_pos hp] <;> rfl
          have q1 := (hs1 j N hj (Nat.le_refl _)).div (hs1 j k hj hkN) (ne_pos hp)
          refine go_set (d := rt (T1 j N / T1 j k)) (ev_own (T1 j N, T1 j k) (ea_cons (ev_ixL (ev_var rfl) (ev_neg ev_int) hxl) (ea_cons (ev_ixL (ev_var rfl) (ev_var rfl) hxk) ea_nil)) ⟨ne_pos hp, 1000, 1000, hs1 j N hj (Nat.le_refl _), hs1 j k hj hkN, by decide⟩ fun x e => e) (show 8 < 9 by decide) ?_
          cases hbb : bestTo N T1 B1 k j with
          | none =>
            rw [hbb] at hbn
            refine go_if (b := true) (et_or (a := true) (b := false) (et_eq (et_test (ev_isNone (x := bestD N T1 k none) (ev_var rfl))) rfl) fun e => by cases e) (fun _ => ?_) fun e => by cases e
            refine go_asg (Φ := fun d => d = .tup [rt (T1 j N / T1 j k), .int (j : Int)]) (ev_tup (ea_cons (ev_var rfl) (ea_cons (ev_var rfl) ea_nil)) (show 2 ≤ 100000 by decide)) (show 5 < 9 by decide) fun d e => ?_
            subst e
            refine hN2 _ ⟨some (.int (j : Int)), some (rowD N (T1 j)), some (rt (T1 j N / T1 j k)), ?_⟩
            rw [hbn]
            rfl
          | some b =>
            rw [hbb] at hbn
            simp only at hbn
            obtain ⟨c1, c2, c3⟩ := bestTo_some hbb
            have hbm : b < m := by omega
            have q2 := (hs1 b N hbm (Nat.le_refl _)).div (hs1 b k hbm hkN) (ne_pos c2)
            refine go_if (b := decide (T1 j N / T1 j k < T1 b N / T1 b k ∨ (T1 j N / T1 j k = T1 b N / T1 b k ∧ B1 j < B1 b))) (et_eq (et_or (a := false) (et_eq (et_test (ev_isNone (x := bestD N T1 k (some b)) (ev_var rfl))) rfl) fun _ => et_or (et_B (ev_own (T1 j N / T1 j k, T1 b N / T1 b k) (ea_cons (ev_var rfl) (ea_cons (ev_ixT (ev_var rfl) ev_int rfl) ea_nil)) ⟨2000, 2000, q1, q2, by decide⟩ fun x e => e))
              fun _ => et_and (et_test (ev_eqD (ev_var rfl) (ev_ixT (ev_var rfl) ev_int rfl) (cmp_rt _) (cmp_rt _))) fun _ => et_test (ev_B0 (ev_basisAt O (i := 0) (st := withT st m N T1 B1) rfl (ev_var rfl) (hold_basis hW hj)) (ev_basisAt O (i := 0) (st := withT st m N T1 B1) rfl (ev_ixT (ev_var rfl) ev_int rfl) (hold_basis hW hbm)))) ?_) (fun hb2 => ?_) fun hb2 => go_next ?_
            · rw [Bool.false_or, dEq_rt, Bool.decide_or, Bool.decide_and]
              congr 2
              exact decide_eq_decide.mpr (by omega)
            · rw [if_pos (of_decide_eq_true hb2)] at hbn
              refine go_asg (Φ := fun d => d = .tup [rt (T1 j N / T1 j k), .int (j : Int)]) (ev_tup (ea_cons (ev_var rfl) (ea_cons (ev_var rfl) ea_nil)) (show 2 ≤ 100000 by decide)) (show 5 < 9 by decide) fun d e => ?_
              subst e
              refine hN2 _ ⟨some (.int (j : Int)), some (rowD N (T1 j)), some (rt (T1 j N / T1 j k)), ?_⟩
              rw [hbn]
              rfl
            · rw [if_neg (of_decide_eq_false hb2)] at hbn
              refine hN2 _ ⟨some (.int (j : Int)), some (rowD N (T1 j)), some (rt (T1 j N / T1 j k)), ?_⟩
              rw [hbn]
              rfl
        · have hp : ¬ 0 < T1 j k := fun z => of_decide_eq_false hb ((num_pos _).mpr z)
          refine hN2 _ ⟨some (.int (j : Int)), some (rowD N (T1 j)), o8, ?_⟩
          rw [bestTo, if_neg hp]
          rfl
      · obtain ⟨o6, o7, o8, rfl⟩ := hc
        rw [hold_len hW]
        cases hbb : bestTo N T1 B1 k m with
        | none =>
          have ha : act col m N c T1 B1 = .stop false := by
            unfold act
            rw [hu]
            simp only
            rw [hbb]
          have hc1 := hcl ⟨false, ha⟩
          refine go_seq (go_if (b := true) (et_eq (et_test (ev_isNone (x := bestD N T1 k none) (ev_var rfl))) rfl) (fun _ => go_retM (i := 0) (st := withT st m N T1 B1) ev_bl rfl hS (hR _ _ ⟨?_, ?_⟩)) fun e => by cases e)
          · show D.bl false = .bl (ansOf (act col m N c (climbed col m N c (T0, B0)).1 (climbed col m N c (T0, B0)).2))
            rw [← hc1]
            show D.bl false = .bl (ansOf (act col m N c T1 B1))
            rw [ha]
            rfl
          · show withT st m N T1 B1 = withT st m N (climbed col m N c (T0, B0)).1 (climbed col m N c (T0, B0)).2
            rw [← hc1]
        | some r =>
          have ha : act col m N c T1 B1 = .turn r k := by
            unfold act
            rw [hu]
            simp only
            rw [hbb]
          obtain ⟨c1, c2, c3⟩ := bestTo_some hbb
          refine go_guard (et_test (ev_isNone (x := bestD N T1 k (some r)) (ev_var rfl))) rfl ?_
          refine go_methS (i := 0) (st := withT st m N T1 B1) rfl hV (fun _ _ _ _ => rfl) ⟨m, N, T1, B1, r, k⟩ (ea_cons (ev_ixT (ev_var rfl) ev_int rfl) (ea_cons (ev_var rfl) ea_nil)) ⟨hW, hm, hN, c1, hkN, ne_pos c2, hs1⟩ (fun d st' e => by rw [e.2]; exact ⟨rfl, rfl, rfl⟩) fun d st' e => ?_
          have e2 : st' = withT (withT st m N T1 B1) m N (piv T1 r k) (pivB B1 r k) := e.2
          subst e2
          have hne : t ≠ t0 := fun z => by
            rw [← z, hit] at hst
            obtain ⟨b, hb⟩ := hst
            rw [show act col m N c T1 B1 = .stop b from hb] at ha
            cases ha
          refine hN' (t0 - (t + 1)) _ (by omega) ⟨t + 1, by omega, rfl, some (.lst ((k :: l).map fun k : Nat => D.int (k : Int))), some (.int (k : Int)), some (bestD N T1 k (some r)), o6, o7, o8, ?_⟩
          have e3 : iter col m N c (T0, B0) (t + 1) = (piv T1 r k, pivB B1 r k) := by
            rw [hnx]
            unfold next
            rw [show act col m N c (T1, B1).1 (T1, B1).2 = .turn r k from ha]
          rw [e3]
          rfl⟩
end
end Pw

/-! The walk: leave_help. -/
namespace Pw
open PySem L2 PyProof.Rows
structure LeaA where
  m : Nat
  N : Nat
  T : Nat → Nat → Rat
  B : Nat → Nat
/-- every table met on the way is small -/
structure LeaA.ok (a : LeaA) (st : PSt) : Prop where
  holds : Holds st a.m a.N a.T a.B
  m : a.m ≤ 100
  N : a.N ≤ 1000
  many : st.many ≤ a.N
  small : ∀ i j k, i ≤ a.m → j < (leaveTo st.many a.m (a.m, a.T, a.B) i).1 → k ≤ a.N → Bit ((leaveTo st.many a.m (a.m, a.T, a.B) i).2.1 j k) 1000
def withL (st : PSt) (N : Nat) (s : Lv) : PSt := withT st s.1 N s.2.1 s.2.2
abbrev sp_P_leave_help (L : Pm) : Sp := spM L LeaA.ok (fun a => []) (fun a st d st' => d = .non ∧ st' = withL st a.N (left st.many (a.m, a.T, a.B)))
theorem tab_erase {β : Type} (f : Nat → β) (n j : Nat) (h : j < n) : ((List.range n).map f).eraseIdx j = (List.range (n - 1)).map (dropT f j) := by
  refine List.ext_getElem (by rw [List.length_eraseIdx]; simp [h]) fun i h1 h2 => ?_
  have hi : i < n - 1 := by simpa using h2
  rw [List.getElem_eraseIdx, List.getElem_map (f := dropT f j), List.getElem_range]
  by_cases e : i < j
  · rw [dif_pos e, List.getElem_map, List.getElem_range, dropT, if_pos e]
  · rw [dif_neg e, List.getElem_map, List.getElem_range, dropT, if_neg e]
theorem rows_erase (m N : Nat) (T : Tab) (j : Nat) (h : j < m) : (rowsD m N T).eraseIdx j = rowsD (m - 1) N (dropT T j) := by
  unfold rowsD
  rw [tab_erase _ m j h]
  refine List.map_congr_left fun i _ => ?_
  unfold dropT
  split <;> rfl
section
variable {P : Program} {w : World} {L : Pm} {mg : Str → Option Value} {base : Heap}
def nm_P_leave_help : List Str := ["self", "j", "some", "k"]
theorem sc_P_leave_help : FnScope nm_P_leave_help ["self"] (defScope (met 4)) := ⟨rfl, rfl, rfl, by decide +kernel, rfl, by decide +kernel, by decide +kernel⟩
theorem w_leave_help (T : Tx L mg base) : Prm P w L.K L.C mg base "leave_help" 4 ["self"] (sp_P_leave_help L) :=
  have g_turn := w_turn (P := P) (w := w) T
  pr_ofM T.P_leave_help sc_P_leave_help (by intro kV doc pm an cdv ct us h; match us, h with | [_], _ => rfl) (fun vs H Q E h => len_M (n := 1) (fun _ => rfl) h) fun f cdv A outer s H vs Q E HR h => ⟨_, (pss_one (ps_for PassesOwn.never rfl (pi_range3 (by rfl) T.range_ (pa_cons (pe_op op_sub (pe_callB call_len_seq (by rfl) T.len_ PySem.boot_len (pa_cons (pe_fld (pv 0) rfl) pa_nil)) pe_int) (pa_cons (pe_un un_neg pe_int) (pa_cons (pe_un un_neg pe_int) pa_nil)))) (pg_name (i := 1) sc_P_leave_help.nd rfl (.inr rfl)) (pss_one (ps_if (pt_cmpR op_ge (pe_ix ix_list (pe_fld (pv 0) rfl) (pv 1) (fun _ _ => rfl)) (pe_fld (pv 0) rfl) (nomark _)) (pss_cons (ps_setLc (i := 2) (own := [("k", 3)]) (g := (gName 3)) (tt := (tTest (tOp rNe (tOp (rIxT L.K) (tOp (rIxL L.K) (tOp (rIxL L.K) (tFld L.K (tVar 0) "rows") (tVar 1)) (tVar 3)) (tC (.int 0))) (tC (.int 0))))) (te := (tVar 3)) (by rfl) sc_P_leave_help.nd rfl rfl (sw_true rfl rfl rfl (by decide +kernel)) (pi_range1 (by rfl) T.range_ (pa_cons (pe_fld (pv 0) rfl) pa_nil)) (blkOk_by (own := [("k", 3)]) (N := nm_P_leave_help) (sc := (defScope (met 4))) (by decide +kernel)) (fun _ _ _ _ _ => (pg_name (i := 3) sc_P_leave_help.nd rfl (.inl rfl))) (fun _ _ _ _ _ => (pts_one (pt_cmpR op_ne (pe_ix ix_tup (pe_ix ix_list (pe_ix ix_list (pe_fld (pv 0) rfl) (pv 1) (fun _ _ => rfl)) (pv 3) (fun _ _ => rfl)) pe_int (fun _ _ => rfl)) pe_int (nomark _)))) (fun _ _ _ _ _ => (pv 3)))
    (pss_one (ps_if (pt_truth (pv 2) (by intro _; rfl)) (pss_one (ps_expr (pe_mth g_turn (pv 0) T.cl HR (by decide) (pa_cons (pv 1) (pa_cons (pe_ix ix_list (pv 2) pe_int (fun _ _ => rfl)) pa_nil)) rfl))) (pss_cons (ps_expr (pe_bm PySem.F.plainAttrs_list PySem.F.slot_list_pop PySem.F.type_list_pop mt_popAt (pe_fld (pv 0) rfl) (pa_cons (pv 1) pa_nil)))
    (pss_one (ps_expr (pe_bm PySem.F.plainAttrs_list PySem.F.slot_list_pop PySem.F.type_list_pop mt_popAt (pe_fld (pv 0) rfl) (pa_cons (pv 1) pa_nil)))))))) pss_nil)))),
  start_M h (fun _ => (show 1 ≤ 4 by decide)) (fun a st d st' e => by rw [e.2]; exact ⟨rfl, rfl, rfl⟩) fun a st F rt' hp hM hV hS hR => by
    obtain ⟨m, N, T0, B0⟩ := a
    obtain ⟨hH, hm, hN, hmany, hsm⟩ := hp
    have hH : Holds st m N T0 B0 := hH
    have hm : m ≤ 100 := hm
    have hN : N ≤ 1000 := hN
    have hmany : st.many ≤ N := hmany
    have hsm : ∀ i j k, i ≤ m → j < (leaveTo st.many m (m, T0, B0) i).1 → k ≤ N → Bit ((leaveTo st.many m (m, T0, B0) i).2.1 j k) 1000 := hsm
    have O := T.ob
    refine go_forE [1] (fun i => [.int ((m - 1 - i : Nat) : Int)]) (fun i G' => ∃ o1 o2 o3, G' = [some (.prog (withL st N (leaveTo st.many m (m, T0, B0) i))), dn o1, dn o2, dn o3])
      (src_down (n := m) (ea_cons (ev_eq (ev_I0 (ev_lenRows O rfl) ev_int) (congrArg (fun z : Nat => D.int ((z : Int) - 1)) (hold_len hH))) (ea_cons (ev_neg ev_int) (ea_cons (ev_neg ev_int) ea_nil))) (by omega)) ⟨none, none, none, ?_⟩ (fun i hi => ?_) (fun i G' hc j hj => ?_) (fun i G' A' N' hi hc hN' => ?_) (fun G' hc => ?_)
    · show ctxM _ st _ = [some (.prog (withT st m N T0 B0)), _, _, _]
      rw [← hH.eq]
      rfl
    · rw [show ((m : Int) - 1 - (i : Int)) = ((m - 1 - i : Nat) : Int) by omega]
      exact tg_name
    · obtain ⟨o1, o2, o3, rfl⟩ := hc
      rw [List.mem_singleton.mp hj]
      exact (show 1 < 4 by decide)
    · obtain ⟨o1, o2, o3, rfl⟩ := hc
      have hle := (leaveTo_le (many := st.many) (m0 := m) (s := (m, T0, B0)) rfl i (by omega)).1
      have hnx : leaveTo st.many m (m, T0, B0) (i + 1) = lstep st.many (m - 1 - i) (leaveTo st.many m (m, T0, B0) i) := rfl
      have hs := hsm i
      have hle2 := (leaveTo_le (many := st.many) (m0 := m) (s := (m, T0, B0)) rfl i (by omega)).2
      generalize hS0 : leaveTo st.many m (m, T0, B0) i = S0 at hle hle2 hnx hs
      obtain ⟨m1, T1, B1⟩ := S0
      have hle : m - i ≤ m1 := hle
      have hle2 : m1 ≤ m := hle2
      have hs : ∀ j k, i ≤ m → j < m1 → k ≤ N → Bit (T1 j k) 1000 := hs
      generalize hj0 : m - 1 - i = j0 at hnx
      have hjm : j0 < m1 := by omega
      have hW := withT_holds st m1 N T1 B1
      refine go_if (b := decide (st.many ≤ B1 j0)) (et_eq (et_test (ev_B0 (ev_basisAt O (i := 0) (st := withT st m1 N T1 B1) rfl (ev_var rfl) (hold_basis hW hjm)) (ev_many O (i := 0) (st := withT st m1 N T1 B1) rfl))) (decide_eq_decide.mpr (by show ((st.many : Int) ≤ (B1 j0 : Int)) ↔ _; omega))) (fun hb => ?_) fun hb => go_next ?_
      · have hb := of_decide_eq_true hb
        have hrow := hold_at hW hjm
        refine go_set (d := .lst ((nzs st.many T1 j0).map fun k : Nat => D.int (k : Int))) (ev_lc (js := [3]) (bd := fun k => [.int (k : Int)]) (f := fun k => !decide ((T1 j0 k).num = 0)) (out := fun k => .int (k : Int)) (src_rng (n := st.many) (ea_cons (ev_many O (i := 0) (st := withT st m1 N T1 B1) rfl) ea_nil) (by omega)) (by omega) (fun j hj => ?_) (fun j hj => hj) (fun k hk => tg_name) (fun k hk => ?_) (fun k hk _ => ev_var rfl)) (show 2 < 4 by decide) ?_
        · rw [List.mem_singleton.mp hj]
          exact (show 3 < 4 by decide)
        · exact et_test (ev_neI (ev_ixT (ev_ixL (ev_rowAt O (i := 0) (st := withT st m1 N T1 B1) rfl (ev_var rfl) hrow) (ev_var rfl) (atI_tab _ (N + 1) k (by omega))) ev_int rfl) ev_int)
        cases hu : nzs st.many T1 j0 with
        | nil =>
          refine go_if (b := false) (et_eq (et_truth (ev_var rfl) rfl) rfl) (fun e => by cases e) fun _ => ?_
          refine go_seq (go_popRow O (i := 0) (j := j0) (st := withT st m1 N T1 B1) rfl hV (ev_var rfl) (by show j0 < (rowsD m1 N T1).length; rw [rows_len]; exact hjm) (by omega) ?_)
          show Go L _ _ _ _
          refine go_popBasis O (i := 0) (j := j0) (st := { withT st m1 N T1 B1 with rows := (rowsD m1 N T1).eraseIdx j0 }) rfl hV (ev_var rfl) (by show j0 < ((List.range m1).map B1).length; simpa using hjm) (by omega) ?_
          refine hN' _ ⟨some (.int (j0 : Int)), some (.lst []), o3, ?_⟩
          have e1 : lstep st.many j0 (m1, T1, B1) = (m1 - 1, dropT T1 j0, dropT B1 j0) := by
            unfold lstep
            rw [if_pos hb]
            show (match nzs st.many T1 j0 with | [] => (m1 - 1, dropT T1 j0, dropT B1 j0) | k :: _ => (m1, piv T1 j0 k, pivB B1 j0 k)) = _
            rw [hu]
          rw [hnx, e1]
          show _ = [some (Ent.prog (withT st (m1 - 1) N (dropT T1 j0) (dropT B1 j0))), _, _, _]
          unfold withT
          rw [← rows_erase m1 N T1 j0 hjm, ← tab_erase B1 m1 j0 hjm]
          rfl
        | cons k l =>
          obtain ⟨a1, a2, a3⟩ := filter_head hu
          have hne : T1 j0 k ≠ 0 := fun e => by
            rw [e] at a2
            cases a2
          refine go_if (b := true) (et_eq (et_truth (ev_var rfl) rfl) rfl) (fun _ => ?_) fun e => by cases e
          refine go_methS (i := 0) (st := withT st m1 N T1 B1) rfl hV (fun _ _ _ _ => rfl) ⟨m1, N, T1, B1, j0, k⟩ (ea_cons (ev_var rfl) (ea_cons (ev_ixL (ev_var rfl) ev_int (show atI ((k :: l).map fun k : Nat => D.int (k : Int)) 0 = some (.int (k : Int)) from atI_nat _ 0 (by simp))) ea_nil)) ⟨hW, by show m1 ≤ 100; omega, hN, hjm, by show k ≤ N; omega, hne, fun j k hj hk => hs j k (by omega) hj hk⟩ (fun d st' e => by rw [e.2]; exact ⟨rfl, rfl, rfl⟩) fun d st' e => ?_
          have e2 : st' = withT (withT st m1 N T1 B1) m1 N (piv T1 j0 k) (pivB B1 j0 k) := e.2
          subst e2
          refine hN' _ ⟨some (.int (j0 : Int)), some (.lst ((k :: l).map fun k : Nat => D.int (k : Int))), o3, ?_⟩
          have e1 : lstep st.many j0 (m1, T1, B1) = (m1, piv T1 j0 k, pivB B1 j0 k) := by
            unfold lstep
            rw [if_pos hb]
            show (match nzs st.many T1 j0 with | [] => (m1 - 1, dropT T1 j0, dropT B1 j0) | k :: _ => (m1, piv T1 j0 k, pivB B1 j0 k)) = _
            rw [hu]
          rw [hnx, e1]
          rfl
      · have hb := of_decide_eq_false hb
        refine hN' _ ⟨some (.int (j0 : Int)), o2, o3, ?_⟩
        have e1 : lstep st.many j0 (m1, T1, B1) = (m1, T1, B1) := by
          unfold lstep
          rw [if_neg hb]
        rw [hnx, e1]
        rfl
    · obtain ⟨o1, o2, o3, rfl⟩ := hc
      exact nx_endM (i := 0) (st := withL st N (leaveTo st.many m (m, T0, B0) m)) rfl hS (hR _ _ ⟨rfl, rfl⟩)⟩
end
end Pw

/-! The walk: Program.__init__. -/
namespace Pw
open PySem L2 PyProof.Rows
structure InA where
  m : Nat
  n : Nat
  A : Nat → Nat → Rat
  g : Nat → Rat
structure InA.ok (a : InA) : Prop where
  m0 : 0 < a.m
  m : a.m ≤ 50
  n : a.n ≤ 100
  bA : ∀ j k, j < a.m → k < a.n → Bit (a.A j k) 1000
  bg : ∀ j, j < a.m → Bit (a.g j) 1000
def sgnI (q : Rat) : Int := if q.num < 0 then -1 else 1
def sgn (q : Rat) : Rat := (sgnI q : Rat)
/-- the table at first -/
def T00 (a : InA) : Nat → Nat → Rat := fun j k => if k < a.n then a.A j k * sgn (a.g j) else if k < a.n + a.m then (if k - a.n = j then 1 else 0) else a.g j * sgn (a.g j)
def B00 (a : InA) : Nat → Nat := fun j => a.n + j
def st00 (a : InA) (p R B : Addr) : PSt := ⟨p, R, B, a.n, (List.range a.m).map fun j => rt (sgn (a.g j)), rowsD a.m (a.n + a.m) (T00 a), (List.range a.m).map (B00 a)⟩
abbrev sp_P_init (L : Pm) : Sp := spI L InA.ok (fun a => [.lst ((List.range a.m).map fun j => listD a.n (a.A j)), listD a.m a.g]) st00
theorem tab_app {β : Type} (f g : Nat → β) (a b : Nat) : (List.range a).map f ++ (List.range b).map g = (List.range (a + b)).map fun k => if k < a then f k else g (k - a) := by
  refine List.ext_getElem (by simp) fun i h1 h2 => ?_
  have hi : i < a + b := by simpa using h2
  rw [List.getElem_map, List.getElem_range]
  by_cases e : i < a
  · rw [List.getElem_append_left (by simpa using e), List.getElem_map, List.getElem_range, if_pos e]
  · rw [List.getElem_append_right (by simpa using e), List.getElem_map, List.getElem_range, if_neg e]
    simp
theorem sgn_bit (q : Rat) : Bit (sgn q) 2 := by
  unfold sgn sgnI
  refine Bit.int ?_ (by decide)
  split <;> decide
theorem rt_zero : rt 0 = .tup [.int 0, .int 1] := rfl
theorem rt_one : rt 1 = .tup [.int 1, .int 1] := rfl
theorem len_I {L : Pm} {α : Type} {pre : α → Prop} {args : α → List D} {st0 : α → Addr → Addr → Addr → PSt} {E : XK} {n : Nat} (h : ∀ a, (args a).length + 1 = n) {vs : List V} {H : Hp} {Q : VK} (hs : spI L pre args st0 vs H Q E) : vs.length = n := by
  obtain ⟨S, p, dx, ws, a, rfl, _, _, _, _, ha, _⟩ := hs
  rw [List.length_cons, ha.length, h a]
structure Pri (P : Program) (w : World) (K : PySem.W.Frag) (C : Addr) (mg : Str → Option Value) (base : Heap) (k : Nat) (ps : List Str) (sp : Sp) : Prop where
  ex : ∃ f fd, FnOk P w K mg base CX0 k f fd ps sp ∧ Mk K C f ∧ Binds K fd ps []
section
variable {P : Program} {w : World} {L : Pm} {mg : Str → Option Value} {base : Heap} {q : Str} {st : Stmt} {N ps : List Str} {k : Nat} {sp : Sp}
theorem pr_ofI (F : Dfi L q st) (S : FnScope N ps (defScope st)) (hb : ∀ (kV doc pm : Value) (an : Option Addr) (cdv ct : Value) (us : List Value), us.length = ps.length → bindArgs (PySem.W.fnOf "__init__" q (defArgs st) (defBody st) (defScope st) .none kV doc pm an cdv ct) ⟨us, []⟩ = pure (ps.zip us))
    (len : ∀ vs H Q E, sp vs H Q E → vs.length = ps.length)
    (hbody : ∀ (f : Addr) (cdv : Value) (A : Around) (outer : List Env) (s : Shared) (H : Hp) (vs : List V) (Q : VK) (E : XK), Room k (A.deeper (envOfC q (defScope st) s.heap.objs.size f cdv)) → sp vs H Q E →
      ∃ t, PSs (cxOf CX0 P w L.K mg base N q (defScope st) f cdv A outer s H E).nox (defBody st) t ∧ t { nx := fun _ H' => Q .non H', rt := Q } (L2.start N vs) H) : Pri P w L.K L.C mg base (k + 1) ps sp := by
  obtain ⟨f, fd, F1, me⟩ := F.ex
  refine ⟨f, fd, F1.ok S len fun cdv A outer s H vs Q E hr h => ?_, me, F1.bindsN hb⟩
  obtain ⟨t, h1, h2⟩ := hbody f cdv A outer s H vs Q E hr h
  exact ⟨t, h1.nox, h2⟩
end
section
variable {X : Cx} {C : Addr} {k j : Nat} {ps : List Str} {sp : Sp} {p pos : Pos} {e : Expr} {es : List Expr} {t : TA}
theorem pe_mkp (G : Pri X.prog X.w X.K C X.mg X.base k ps sp) (hr : Room j X.A) (hk : k + 1 ≤ j) (hg : Gl X "Program") (hm : X.mg "Program" = some (.ref C)) (ha : PA X (e :: es) t)
    (he : starEach (e :: es) X.env = (false, eval e X.env) :: starEach es X.env := by rfl) (hpl : (backTo pos (starEach es X.env)).any (·.1) = false := by rfl) : PE X (.Call (.Name "Program" p) (e :: es) [] pos) (tMake C sp [] E0 t) := by
  obtain ⟨f, fd, F, me, b⟩ := G.ex
  exact pe_make me F (hr.mono hk) hg hm b .nil pass0 ha (he := he) (hpl := hpl)
end
section
variable {P : Program} {w : World} {L : Pm} {mg : Str → Option Value} {base : Heap}
def nm_P___init : List Str := ["self", "rows", "goals", "goal", "j", "row", "helping", "k", "one"]
theorem sc_P___init : FnScope nm_P___init ["self", "rows", "goals"] (defScope (met 0)) := ⟨rfl, rfl, rfl, by decide +kernel, rfl, by decide +kernel, by decide +kernel⟩
theorem w_init (T : Tx L mg base) : Pri P w L.K L.C mg base 3 ["self", "rows", "goals"] (sp_P_init L) :=
  have g_by := w_by (P := P) (w := w) T
  pr_ofI T.P_init sc_P___init (by intro kV doc pm an cdv ct us h; match us, h with | [_, _, _], _ => rfl) (fun vs H Q E h => len_I (n := 3) (fun _ => rfl) h) fun f cdv A outer s H vs Q E HR h => ⟨_, (pss_cons (ps_fld (pv 0) (pe_callB call_len_seq (by rfl) T.len_ PySem.boot_len (pa_cons (pe_ix ix_list (pv 1) pe_int (fun _ _ => rfl)) pa_nil)) rfl)
    (pss_cons (ps_fld (pv 0) (pe_lc (own := [("goal", 3)]) (g := (gName 3)) (tt := tYes) (te := (tIf (tTest (tOp (rI0 fun i j => .bl (decide (i < j))) (tOp (rIxT L.K) (tVar 3) (tC (.int 0))) (tC (.int 0)))) (tTup (tCons (tUn (rU fun i => .int (-i)) (tC (.int 1))) (tCons (tC (.int 1)) tNil))) (tTup (tCons (tC (.int 1)) (tCons (tC (.int 1)) tNil))))) (by rfl) sc_P___init.nd (pi_list (pv 2)) (blkOk_by (own := [("goal", 3)]) (N := nm_P___init) (sc := (defScope (met 0))) (by decide +kernel)) (fun _ _ _ _ _ => (pg_name (i := 3) sc_P___init.nd rfl (.inl rfl))) (fun _ _ _ _ _ => pts_nil) (fun _ _ _ _ _ => (pe_ifExp (pt_cmpR op_lt (pe_ix ix_tup (pv 3) pe_int (fun _ _ => rfl)) pe_int (nomark _)) (pe_tup (pa_cons (pe_un un_neg pe_int) (pa_cons pe_int pa_nil))) (pe_tup (pa_cons pe_int (pa_cons pe_int pa_nil)))))) rfl)
    (pss_cons (ps_fld (pv 0) (pe_lst pa_nil) rfl)
    (pss_cons (ps_fld (pv 0) (pe_lst pa_nil) rfl)
    (pss_one (ps_for PassesOwn.never rfl (pi_enum (by rfl) T.enumerate_ (pa_cons (pv 1) pa_nil)) (pg_tup (by rfl) (pgs_cons (pg_name (i := 4) sc_P___init.nd rfl (.inr rfl)) (pgs_cons (pg_name (i := 5) sc_P___init.nd rfl (.inl rfl)) pgs_nil))) (pss_cons (ps_setLc (i := 6) (own := [("k", 7)]) (g := (gName 7)) (tt := tYes) (te := (tIf (tTest (tOp rEq (tVar 7) (tVar 4))) (tTup (tCons (tC (.int 1)) (tCons (tC (.int 1)) tNil))) (tTup (tCons (tC (.int 0)) (tCons (tC (.int 1)) tNil))))) (by rfl) sc_P___init.nd rfl rfl (sw_true rfl rfl rfl (by decide +kernel)) (pi_range1 (by rfl) T.range_ (pa_cons (pe_callB call_len_seq (by rfl) T.len_ PySem.boot_len (pa_cons (pv 1) pa_nil)) pa_nil)) (blkOk_by (own := [("k", 7)]) (N := nm_P___init) (sc := (defScope (met 0))) (by decide +kernel)) (fun _ _ _ _ _ => (pg_name (i := 7) sc_P___init.nd rfl (.inl rfl))) (fun _ _ _ _ _ => pts_nil) (fun _ _ _ _ _ => (pe_ifExp (pt_cmpR op_eq (pv 7) (pv 4) (nomark _)) (pe_tup (pa_cons pe_int (pa_cons pe_int pa_nil))) (pe_tup (pa_cons pe_int (pa_cons pe_int pa_nil))))))
    (pss_cons (ps_expr (pe_bm PySem.F.plainAttrs_list PySem.F.slot_list_append PySem.F.type_list_append mt_append (pe_fld (pv 0) rfl) (pa_cons (pe_op op_cat (pe_op op_cat (pe_lc (own := [("one", 8)]) (g := (gName 8)) (tt := tYes) (te := (tCall (sp_by L) [] E0 (tCons (tVar 8) (tCons (tOp (rIxL L.K) (tFld L.K (tVar 0) "signs") (tVar 4)) tNil)))) (by rfl) sc_P___init.nd (pi_list (pv 5)) (blkOk_by (own := [("one", 8)]) (N := nm_P___init) (sc := (defScope (met 0))) (by decide +kernel)) (fun _ _ _ _ _ => (pg_name (i := 8) sc_P___init.nd rfl (.inl rfl))) (fun _ _ _ _ _ => pts_nil) (fun _ _ _ _ _ => (pe_own g_by HR (by decide) (by rfl) (pa_cons (pv 8) (pa_cons (pe_ix ix_list (pe_fld (pv 0) rfl) (pv 4) (fun _ _ => rfl)) pa_nil))))) (pv 6)) (pe_lst (pa_cons (pe_own g_by HR (by decide) (by rfl) (pa_cons (pe_ix ix_list (pv 2) (pv 4) (fun _ _ => rfl)) (pa_cons (pe_ix ix_list (pe_fld (pv 0) rfl) (pv 4) (fun _ _ => rfl)) pa_nil))) pa_nil))) pa_nil)))
    (pss_one (ps_expr (pe_bm PySem.F.plainAttrs_list PySem.F.slot_list_append PySem.F.type_list_append mt_append (pe_fld (pv 0) rfl) (pa_cons (pe_op op_add (pe_fld (pv 0) rfl) (pv 4)) pa_nil)))))))))))),
  start_I (N := nm_P___init) T.ob h (fun _ => (show 3 ≤ 9 by decide)) (fun a => a.n) (fun a => (List.range a.m).map fun j => rt (sgn (a.g j))) (fun a hp => by
      have h0 : atI ((List.range a.m).map fun j => listD a.n (a.A j)) 0 = some (listD a.n (a.A 0)) := atI_tab _ a.m 0 hp.m0
      exact ev_cb (ea_cons (ev_ixL (ev_var rfl) ev_int h0) ea_nil) (rn_len (by show some _ = some _; simp))) (fun a hp => by
      refine ev_eq (ev_lc (js := [3]) (bd := fun j => [rt (a.g j)]) (f := fun _ => true) (out := fun j => rt (sgn (a.g j))) (src_list (ev_var rfl)) ?_ (fun j hj => ?_) (fun j hj => hj) (fun j hj => ?_) (fun j hj => et_yes) (fun j hj _ => ?_)) ?_
      · have := hp.m
        simp
        omega
      · rw [List.mem_singleton.mp hj]
        exact (show 3 < 9 by decide)
      · have hj : j < a.m := by simpa using hj
        rw [getD_tab _ _ _ _ hj]
        exact tg_name
      · refine ev_eq (ev_if (et_test (ev_B0 (ev_ixT (ev_var rfl) ev_int rfl) ev_int)) (fun _ => ev_tup (ea_cons (ev_neg ev_int) (ea_cons ev_int ea_nil)) (show 2 ≤ 100000 by decide)) fun _ => ev_tup (ea_cons ev_int (ea_cons ev_int ea_nil)) (show 2 ≤ 100000 by decide)) ?_
        unfold sgn
        rw [rt_int]
        unfold sgnI
        by_cases e : (a.g j).num < 0
        · rw [if_pos (decide_eq_true e), if_pos e]
        · rw [if_neg (by rw [decide_eq_true_iff]; exact e), if_neg e]
      · rw [given_all]
        simp) (fun a p R B F rt' hp hM hV hS hR => by
      obtain ⟨m, n, A0, g⟩ := a
      obtain ⟨m0, hm1, hn1, bA, bg⟩ := hp
      have m0 : 0 < m := m0
      have hm1 : m ≤ 50 := hm1
      have hn1 : n ≤ 100 := hn1
      have bA : ∀ j k, j < m → k < n → Bit (A0 j k) 1000 := bA
      have bg : ∀ j, j < m → Bit (g j) 1000 := bg
      have O := T.ob
      refine go_forE [4, 5] (fun j => [.int (j : Int), listD n (A0 j)]) (fun j G' => ∃ o3 o4 o5 o6 o7 o8, G' = [some (.prog ⟨p, R, B, n, (List.range m).map fun j => rt (sgn (g j)), (List.range j).map fun j => rowD (n + m) (T00 ⟨m, n, A0, g⟩ j), (List.range j).map fun j => n + j⟩), some (.d (.lst ((List.range m).map fun j => listD n (A0 j)))), some (.d (listD m g)), dn o3, dn o4, dn o5, dn o6, dn o7, dn o8])
        (src_enum (ea_cons (ev_var rfl) ea_nil)) ⟨none, none, none, none, none, none, rfl⟩ (fun j hj => ?_) (fun j G' hc l hl => ?_) (fun j G' A' N' hj hc hN' => ?_) (fun G' hc => ?_)
      · have hj : j < m := by simpa using hj
        rw [getD_tab _ _ _ _ hj]
        exact tg_2 rfl
      · obtain ⟨o3, o4, o5, o6, o7, o8, rfl⟩ := hc
        have : l = 4 ∨ l = 5 := by simpa using hl
        show l < 9
        omega
      · obtain ⟨o3, o4, o5, o6, o7, o8, rfl⟩ := hc
        have hj : j < m := by simpa using hj
        have hsj : atI ((List.range m).map fun j => rt (sgn (g j))) (j : Int) = some (rt (sgn (g j))) := atI_tab _ m j hj
        refine go_set (d := .lst ((List.range m).map fun k => rt (if k = j then 1 else 0))) (ev_eq (ev_lc (js := [7]) (bd := fun k => [.int (k : Int)]) (f := fun _ => true) (out := fun k => rt (if k = j then 1 else 0)) (src_rng (n := m) (ea_cons (ev_eq (ev_cb (ea_cons (ev_var rfl) ea_nil) (rn_len rfl)) (congrArg (fun z : Nat => D.int (z : Int)) (by simp))) ea_nil) (by omega)) (by omega) (fun l hl => ?_) (fun l hl => hl) (fun k hk => tg_name) (fun k hk => et_yes) (fun k hk _ => ?_)) ?_) (show 6 < 9 by decide) ?_
        · rw [List.mem_singleton.mp hl]
          exact (show 7 < 9 by decide)
        · refine ev_eq (ev_if (et_test (ev_eqI (ev_var rfl) (ev_var rfl))) (fun _ => ev_tup (ea_cons ev_int (ea_cons ev_int ea_nil)) (show 2 ≤ 100000 by decide)) fun _ => ev_tup (ea_cons ev_int (ea_cons ev_int ea_nil)) (show 2 ≤ 100000 by decide)) ?_
          by_cases e : k = j
          · rw [if_pos (decide_eq_true (by omega)), if_pos e]
            rfl
          · rw [if_neg (by rw [decide_eq_true_iff]; omega), if_neg e]
            rfl
        · rw [given_all]
        refine go_seq (go_appRow O (i := 0) rfl hV (Φ := fun d => d = rowD (n + m) (T00 ⟨m, n, A0, g⟩ j)) (ev_eq (ev_op (ev_op (x := .lst ((List.range n).map fun k => rt (A0 j k * sgn (g j)))) (y := .lst ((List.range m).map fun k => rt (if k = j then 1 else 0))) (ev_eq (ev_lc (js := [8]) (bd := fun k => [rt (A0 j k)]) (f := fun _ => true) (out := fun k => rt (A0 j k * sgn (g j))) (src_list (ev_var rfl)) ?_ (fun l hl => ?_) (fun l hl => hl) (fun k hk => ?_) (fun k hk => et_yes) (fun k hk _ => ?_)) ?_) (ev_var rfl) (r2_cat ?_)) (ev_lst (ea_cons (ev_own (g j, sgn (g j)) (ea_cons (ev_ixL (ev_var rfl) (ev_var rfl) (atI_tab _ m j hj)) (ea_cons (ev_ixL (ev_signs O (i := 0) rfl) (ev_var rfl) hsj) ea_nil)) ⟨1000, 2, bg j hj, sgn_bit _, by decide⟩ fun x e => e) ea_nil) (show 1 ≤ 100000 by decide)) (r2_cat ?_)) ?_) (by simp; omega) (fun d e => ?_))
        · simp
          omega
        · rw [List.mem_singleton.mp hl]
          exact (show 8 < 9 by decide)
        · have hk : k < n := by simpa using hk
          rw [getD_tab _ _ _ _ hk]
          exact tg_name
        · have hk : k < n := by simpa using hk
          exact ev_own (A0 j k, sgn (g j)) (ea_cons (ev_var rfl) (ea_cons (ev_ixL (ev_signs O (i := 0) rfl) (ev_var rfl) hsj) ea_nil)) ⟨1000, 2, bA j k hj hk, sgn_bit _, by decide⟩ fun x e => e
        · rw [given_all]
          simp
        · simp
          omega
        · simp
          omega
        · rw [tab_app]
          show D.lst _ = D.lst _
          congr 1
          rw [show n + m + 1 = (n + m) + 1 from rfl, range_snoc]
          have e1 : T00 ⟨m, n, A0, g⟩ j (n + m) = g j * sgn (g j) := by
            unfold T00
            rw [if_neg (by show ¬ n + m < n; omega), if_neg (by show ¬ n + m < n + m; omega)]
          rw [e1]
          congr 1
          refine List.map_congr_left fun k hk => ?_
          have hk := List.mem_range.mp hk
          unfold T00
          by_cases e : k < n
          · rw [if_pos e, if_pos e]
          · rw [if_neg e, if_neg e, if_pos hk]
        · subst e
          show Go L _ _ _ _
          refine go_appBasis O (i := 0) (b := n + j) rfl hV (ev_eq (ev_I0 (ev_many O (i := 0) rfl) (ev_var rfl)) (congrArg D.int (show (n : Int) + (j : Int) = ((n + j : Nat) : Int) by omega))) (by simp; omega) ?_
          refine hN' _ ⟨o3, some (.int (j : Int)), some (listD n (A0 j)), some (.lst ((List.range m).map fun k => rt (if k = j then 1 else 0))), o7, o8, ?_⟩
          rw [range_snoc (fun j => rowD (n + m) (T00 ⟨m, n, A0, g⟩ j)) j, range_snoc (fun j => n + j) j]
          rfl
      · obtain ⟨o3, o4, o5, o6, o7, o8, rfl⟩ := hc
        refine nx_endM (i := 0) (st := st00 ⟨m, n, A0, g⟩ p R B) ?_ hS hR
        simp
        rfl) (fun a p R B => ⟨rfl, rfl, rfl⟩)⟩
end
end Pw

/-! The walk: solved. -/
namespace Pw
open PySem L2 PyProof.Rows
def c1F (n : Nat) : Nat → Rat := fun k => if k < n then 0 else -1
def c2F (n : Nat) (c : Nat → Rat) : Nat → Rat := fun k => if k < n then c k else 0
noncomputable def sol1 (a : InA) : Tab × (Nat → Nat) := climbed a.n a.m (a.n + a.m) (c1F a.n) (T00 a, B00 a)
noncomputable def sol2 (a : InA) : Lv := left a.n (a.m, (sol1 a).1, (sol1 a).2)
noncomputable def sol3 (a : InA) (c : Nat → Rat) : Tab × (Nat → Nat) := climbed a.n (sol2 a).1 (a.n + a.m) (c2F a.n c) ((sol2 a).2.1, (sol2 a).2.2)
noncomputable def isNo (a : InA) : Bool := decide (mult a.m (c1F a.n) (sol1 a).1 (sol1 a).2 (a.n + a.m) < 0)
noncomputable def priceNo (a : InA) (j : Nat) : Rat := sgn (a.g j) * mult a.m (c1F a.n) (sol1 a).1 (sol1 a).2 (a.n + j)
noncomputable def priceF (a : InA) (c : Nat → Rat) (j : Nat) : Rat := sgn (a.g j) * mult (sol2 a).1 (c2F a.n c) (sol3 a c).1 (sol3 a c).2 (a.n + j)
noncomputable def amtF (a : InA) (c : Nat → Rat) (k : Nat) : Rat := amt (a.n + a.m) (sol3 a c).1 (sol3 a c).2 (sol2 a).1 k
noncomputable def solvedD (a : InA) (c : Nat → Rat) : D := if isNo a = true then .tup [.str "none", listD a.m (priceNo a)] else .tup [.str "best", listD a.n (amtF a c), listD a.m (priceF a c)]
/-- all that the run wants of sizes, and that the second climb is never free -/
structure SolOk (a : InA) (c : Nat → Rat) : Prop where
  inok : InA.ok a
  bc : ∀ k, k < a.n → Bit (c k) 2
  c1 : ∀ st, Holds st a.m (a.n + a.m) (T00 a) (B00 a) → CliA.ok ⟨a.m, a.n + a.m, a.n + a.m, T00 a, B00 a, c1F a.n, a.n⟩ st
  m1 : ∀ st k, k ≤ a.n + a.m → Holds st a.m (a.n + a.m) (sol1 a).1 (sol1 a).2 → MulA.ok ⟨a.m, a.n + a.m, a.n + a.m, (sol1 a).1, (sol1 a).2, c1F a.n, k⟩ st
  p1 : ∀ j, j < a.m → Bit (mult a.m (c1F a.n) (sol1 a).1 (sol1 a).2 (a.n + j)) 2000
  l1 : isNo a = false → ∀ st, st.many = a.n → Holds st a.m (a.n + a.m) (sol1 a).1 (sol1 a).2 → LeaA.ok ⟨a.m, a.n + a.m, (sol1 a).1, (sol1 a).2⟩ st
  c2 : isNo a = false → ∀ st, Holds st (sol2 a).1 (a.n + a.m) (sol2 a).2.1 (sol2 a).2.2 → CliA.ok ⟨(sol2 a).1, a.n + a.m, a.n + a.m, (sol2 a).2.1, (sol2 a).2.2, c2F a.n c, a.n⟩ st
  yes : isNo a = false → climbAns a.n (sol2 a).1 (a.n + a.m) (c2F a.n c) ((sol2 a).2.1, (sol2 a).2.2) = true
  m2 : isNo a = false → ∀ st k, k ≤ a.n + a.m → Holds st (sol2 a).1 (a.n + a.m) (sol3 a c).1 (sol3 a c).2 → MulA.ok ⟨(sol2 a).1, a.n + a.m, a.n + a.m, (sol3 a c).1, (sol3 a c).2, c2F a.n c, k⟩ st
  p2 : isNo a = false → ∀ j, j < a.m → Bit (mult (sol2 a).1 (c2F a.n c) (sol3 a c).1 (sol3 a c).2 (a.n + j)) 2000
abbrev sp_solved (L : Pm) : Sp := spP L (fun a : InA × (Nat → Rat) => SolOk a.1 a.2) (fun a => [.lst ((List.range a.1.m).map fun j => listD a.1.n (a.1.A j)), listD a.1.m a.1.g, listD a.1.n a.2]) (fun a d => d = solvedD a.1 a.2)
theorem hold_noD (ds : List D) (n : Nat) : ∀ (j : Nat) x, (ctx0 n ds)[j]? = some (some x) → ∃ d, x = .d d := fun j x q => by
  unfold ctx0 at q
  by_cases z : j < ds.length
  · rw [List.getElem?_append_left (by simpa using z), List.getElem?_map, List.getElem?_eq_getElem z] at q
    cases q
    exact ⟨_, rfl⟩
  · rw [List.getElem?_append_right (by simpa using z), List.getElem?_replicate] at q
    split at q <;> cases q
theorem start_PV {L : Pm} {α : Type} {pre : α → Prop} {args : α → List D} {R : α → D → Prop} {E : XK} {N : List Str} {vs : List V} {H : Hp} {Q : VK} {t : TS} (h : spP L pre args R vs H Q E)
    (k : ∀ a F rt, pre a → F.M = [] → F.V = [] → (∀ d, R a d → RtOk L F rt d) → Go L F { nx := fun _ H' => rt .non H', rt := rt } t (ctx0 N.length (args a))) : t { nx := fun _ H' => Q .non H', rt := Q } (L2.start N vs) H := by
  obtain ⟨S, a, hS, hT, ha, hP, hQ⟩ := h
  exact k a { S := S, M := [], W := [], H0 := H } Q hP rfl rfl (fun d r v H2 g same _ _ a => hQ d v H2 r g (fun b hb => same b hb List.not_mem_nil List.not_mem_nil) a) S _ H (sh_start hS hT ha)
theorem num_neg (q : Rat) : q.num < 0 ↔ q < 0 := by
  rw [Rat.lt_iff]
  have h1 : (0 : Rat).num = 0 := rfl
  have h2 : (0 : Rat).den = 1 := rfl
  rw [h1, h2]
  omega
theorem neg_one_rt : D.tup [.int (-1), .int 1] = rt (-1) := rfl
section
variable {P : Program} {w : World} {L : Pm} {mg : Str → Option Value} {base : Heap}
def nm_solved : List Str := ["rows", "goals", "costs", "program", "helping", "k", "row", "all_costs"]
theorem sc_solved : FnScope nm_solved ["rows", "goals", "costs"] (defScope (top 32)) := ⟨rfl, rfl, rfl, by decide +kernel, rfl, by decide +kernel, by decide +kernel⟩
theorem w_solved (T : Tx L mg base) : Pr P w L.K mg base "solved" 6 ["rows", "goals", "costs"] (sp_solved L) :=
  have g_init := w_init (P := P) (w := w) T
  have g_climb := w_climb (P := P) (w := w) T
  have g_multiplier := w_multiplier (P := P) (w := w) T
  have g_prices := w_prices (P := P) (w := w) T
  have g_leave_help := w_leave_help (P := P) (w := w) T
  have g_amounts := w_amounts (P := P) (w := w) T
  pr_of T.solved sc_solved (by intro kV doc pm an cdv ct us h; match us, h with | [_, _, _], _ => rfl) (fun vs H Q E h => len_P (n := 3) (fun _ => rfl) h) fun f cdv A outer s H vs Q E HR h => ⟨_, (pss_cons (ps_set (i := 3) sc_solved.nd rfl (Or.inl rfl) (pe_mkp g_init HR (by decide) (by rfl) T.mgC (pa_cons (pv 0) (pa_cons (pv 1) pa_nil))))
    (pss_cons (ps_set (i := 4) sc_solved.nd rfl (Or.inl rfl) (pe_op op_cat (pe_lc (own := [("k", 5)]) (g := (gName 5)) (tt := tYes) (te := (tTup (tCons (tC (.int 0)) (tCons (tC (.int 1)) tNil)))) (by rfl) sc_solved.nd (pi_list (pv 2)) (blkOk_by (own := [("k", 5)]) (N := nm_solved) (sc := (defScope (top 32))) (by decide +kernel)) (fun _ _ _ _ _ => (pg_name (i := 5) sc_solved.nd rfl (.inl rfl))) (fun _ _ _ _ _ => pts_nil) (fun _ _ _ _ _ => (pe_tup (pa_cons pe_int (pa_cons pe_int pa_nil))))) (pe_lc (own := [("row", 6)]) (g := (gName 6)) (tt := tYes) (te := (tTup (tCons (tUn (rU fun i => .int (-i)) (tC (.int 1))) (tCons (tC (.int 1)) tNil)))) (by rfl) sc_solved.nd (pi_list (pv 0)) (blkOk_by (own := [("row", 6)]) (N := nm_solved) (sc := (defScope (top 32))) (by decide +kernel)) (fun _ _ _ _ _ => (pg_name (i := 6) sc_solved.nd rfl (.inl rfl))) (fun _ _ _ _ _ => pts_nil) (fun _ _ _ _ _ => (pe_tup (pa_cons (pe_un un_neg pe_int) (pa_cons pe_int pa_nil)))))))
    (pss_cons (ps_expr (pe_mth g_climb (pv 3) T.cl HR (by decide) (pa_cons (pv 4) (pa_cons (pe_fld (pv 3) rfl) pa_nil)) rfl))
    (pss_cons (ps_if (pt_cmpR op_lt (pe_ix ix_tup (pe_mth g_multiplier (pv 3) T.cl HR (by decide) (pa_cons (pv 4) (pa_cons (pe_op op_add (pe_fld (pv 3) rfl) (pe_callB call_len_seq (by rfl) T.len_ PySem.boot_len (pa_cons (pv 0) pa_nil))) pa_nil)) rfl) pe_int (fun _ _ => rfl)) pe_int (nomark _)) (pss_one (ps_ret (pe_tup (pa_cons pe_str (pa_cons (pe_mth g_prices (pv 3) T.cl HR (by decide) (pa_cons (pv 4) pa_nil) rfl) pa_nil))))) pss_nil)
    (pss_cons (ps_expr (pe_mth0 g_leave_help (pv 3) T.cl HR (by decide) rfl))
    (pss_cons (ps_set (i := 7) sc_solved.nd rfl (Or.inl rfl) (pe_op op_cat (pe_callTy call_list_of (by rfl) T.list_ (by decide +kernel) (pa_cons (pv 2) pa_nil)) (pe_lc (own := [("row", 6)]) (g := (gName 6)) (tt := tYes) (te := (tTup (tCons (tC (.int 0)) (tCons (tC (.int 1)) tNil)))) (by rfl) sc_solved.nd (pi_list (pv 0)) (blkOk_by (own := [("row", 6)]) (N := nm_solved) (sc := (defScope (top 32))) (by decide +kernel)) (fun _ _ _ _ _ => (pg_name (i := 6) sc_solved.nd rfl (.inl rfl))) (fun _ _ _ _ _ => pts_nil) (fun _ _ _ _ _ => (pe_tup (pa_cons pe_int (pa_cons pe_int pa_nil)))))))
    (pss_cons (ps_if (pt_not (pt_val (pe_mth g_climb (pv 3) T.cl HR (by decide) (pa_cons (pv 7) (pa_cons (pe_fld (pv 3) rfl) pa_nil)) rfl))) (pss_one (ps_ret (pe_tup (pa_cons pe_str pa_nil)))) pss_nil)
    (pss_one (ps_ret (pe_tup (pa_cons pe_str (pa_cons (pe_mth0 g_amounts (pv 3) T.cl HR (by decide) rfl) (pa_cons (pe_mth g_prices (pv 3) T.cl HR (by decide) (pa_cons (pv 7) pa_nil) rfl) pa_nil))))))))))))),
  start_PV h fun a F rt' hp hM hV hR => by
    obtain ⟨⟨m, n, A0, g⟩, c⟩ := a
    obtain ⟨hin, hbc, hc1, hm1, hp1, hl1, hc2, hyes, hm2, hp2⟩ := hp
    have hmm : m ≤ 50 := hin.m
    have hnn : n ≤ 100 := hin.n
    have hbc : ∀ k, k < n → Bit (c k) 2 := hbc
    have O := T.ob
    refine go_make (i := 3) (show 3 < 8 by decide) hM hV (fun j x q => hold_noD _ _ j x q) (⟨m, n, A0, g⟩ : InA) (ea_cons (ev_var rfl) (ea_cons (ev_var rfl) ea_nil)) hin (fun _ _ _ _ => ⟨rfl, rfl, rfl⟩) fun p R B F' hM' hV' hR' => ?_
    have hR := hR' _ _ (hR _ rfl)
    show Go L F' _ _ [some (.d (.lst ((List.range m).map fun j => listD n (A0 j)))), some (.d (listD m g)), some (.d (listD n c)), some (.prog (st00 ⟨m, n, A0, g⟩ p R B)), none, none, none, none]
    have hH0 : Holds (st00 ⟨m, n, A0, g⟩ p R B) m (n + m) (T00 ⟨m, n, A0, g⟩) (B00 ⟨m, n, A0, g⟩) := ⟨rfl, rfl⟩
    have hpad : ∀ (x : Rat) (f : Nat → Rat), D.lst (((List.range n).map fun k => rt (f k)) ++ ((List.range m).map fun _ => rt x)) = listD (n + m) fun k => if k < n then f k else x := fun x f => by
      rw [tab_app]
      show D.lst _ = D.lst _
      congr 1
      refine List.map_congr_left fun k _ => ?_
      show (if k < n then rt (f k) else rt x) = rt (if k < n then f k else x)
      split <;> rfl
    refine go_set (d := listD (n + m) (c1F n)) (ev_eq (ev_op (x := .lst ((List.range n).map fun k => rt 0)) (y := .lst ((List.range m).map fun k => rt (-1))) (ev_eq (ev_lc (js := [5]) (bd := fun k => [rt (c k)]) (f := fun _ => true) (out := fun k => rt 0) (src_list (ev_var rfl)) ?_ (fun l hl => ?_) (fun l hl => hl) (fun k hk => ?_) (fun k hk => et_yes) (fun k hk _ => ?_)) ?_) (ev_eq (ev_lc (js := [6]) (bd := fun j => [listD n (A0 j)]) (f := fun _ => true) (out := fun j => rt (-1)) (src_list (ev_var rfl)) ?_ (fun l hl => ?_) (fun l hl => hl) (fun k hk => ?_) (fun k hk => et_yes) (fun k hk _ => ?_)) ?_) (r2_cat ?_)) (hpad (-1) fun _ => 0)) (show 4 < 8 by decide) ?_
    · simp; omega
    · rw [List.mem_singleton.mp hl]; exact (show 5 < 8 by decide)
    · have hk : k < n := by simpa using hk
      rw [getD_tab _ _ _ _ hk]; exact tg_name
    · exact ev_tup (ea_cons ev_int (ea_cons ev_int ea_nil)) (show 2 ≤ 100000 by decide)
    · rw [given_all]; simp
    · simp; omega
    · rw [List.mem_singleton.mp hl]; exact (show 6 < 8 by decide)
    · have hk : k < m := by simpa using hk
      rw [getD_tab _ _ _ _ hk]; exact tg_name
    · exact ev_tup (ea_cons (ev_neg ev_int) (ea_cons ev_int ea_nil)) (show 2 ≤ 100000 by decide)
    · rw [given_all]; simp
    · simp; omega
    show Go L F' _ _ [some (.d (.lst ((List.range m).map fun j => listD n (A0 j)))), some (.d (listD m g)), some (.d (listD n c)), some (.prog (st00 ⟨m, n, A0, g⟩ p R B)), some (.d (listD (n + m) (c1F n))), none, none, none]
    refine go_seq (go_methS (i := 3) rfl hV' (fun _ _ _ _ => rfl) (⟨m, n + m, n + m, T00 ⟨m, n, A0, g⟩, B00 ⟨m, n, A0, g⟩, c1F n, n⟩ : CliA) (ea_cons (ev_var rfl) (ea_cons (ev_many O (i := 3) (st := st00 ⟨m, n, A0, g⟩ p R B) rfl) ea_nil)) (hc1 _ hH0) (fun d st' e => by rw [e.2]; exact ⟨rfl, rfl, rfl⟩) fun d st' e => ?_)
    obtain ⟨rfl, rfl⟩ := e
    show Go L F' _ _ [some (.d (.lst ((List.range m).map fun j => listD n (A0 j)))), some (.d (listD m g)), some (.d (listD n c)), some (.prog (withT (st00 ⟨m, n, A0, g⟩ p R B) m (n + m) (sol1 ⟨m, n, A0, g⟩).1 (sol1 ⟨m, n, A0, g⟩).2)), some (.d (listD (n + m) (c1F n))), none, none, none]
    have hH1 := withT_holds (st00 ⟨m, n, A0, g⟩ p R B) m (n + m) (sol1 ⟨m, n, A0, g⟩).1 (sol1 ⟨m, n, A0, g⟩).2
    have hmul1 := hm1 (withT (st00 ⟨m, n, A0, g⟩ p R B) m (n + m) (sol1 ⟨m, n, A0, g⟩).1 (sol1 ⟨m, n, A0, g⟩).2)
    refine go_seq (go_if (b := isNo ⟨m, n, A0, g⟩) (et_eq (et_test (ev_B0 (ev_ixT (ev_methR (i := 3) (d := rt (mult m (c1F n) (sol1 ⟨m, n, A0, g⟩).1 (sol1 ⟨m, n, A0, g⟩).2 (n + m))) rfl (fun _ _ _ _ => rfl) (⟨m, n + m, n + m, (sol1 ⟨m, n, A0, g⟩).1, (sol1 ⟨m, n, A0, g⟩).2, c1F n, n + m⟩ : MulA) (ea_cons (ev_var rfl) (ea_cons (ev_eq (ev_I0 (ev_many O (i := 3) (st := withT (st00 ⟨m, n, A0, g⟩ p R B) m (n + m) (sol1 ⟨m, n, A0, g⟩).1 (sol1 ⟨m, n, A0, g⟩).2) rfl) (ev_cb (ea_cons (ev_var rfl) ea_nil) (rn_len (by show some _ = some _; rfl)))) (congrArg D.int (show (n : Int) + (((List.range m).map fun j => listD n (A0 j)).length : Int) = ((n + m : Nat) : Int) by simp))) ea_nil)) (hmul1 (n + m) (Nat.le_refl _) hH1) fun x e => e) ev_int rfl) ev_int)) ?_) (fun hno => ?_) fun hno => go_next ?_)
    · unfold isNo
      refine decide_eq_decide.mpr ?_
      exact num_neg _
    · refine go_retE (ev_tup (ea_cons ev_str (ea_cons (ev_methR (i := 3) (d := listD m (priceNo ⟨m, n, A0, g⟩)) rfl (fun _ _ _ _ => rfl) (⟨m, n + m, n + m, (sol1 ⟨m, n, A0, g⟩).1, (sol1 ⟨m, n, A0, g⟩).2, c1F n, m, fun j => sgn (g j)⟩ : PriA) (ea_cons (ev_var rfl) ea_nil) ⟨rfl, (show m ≤ 100 by omega), fun j hj => ⟨hmul1 (n + j) (by have : j < m := hj; show n + j ≤ n + m; omega) hH1, 2, 2000, sgn_bit _, hp1 j hj, by decide⟩⟩ fun x e => e) ea_nil)) (show 2 ≤ 100000 by decide)) ?_
      have : solvedD ⟨m, n, A0, g⟩ c = .tup [.str "none", listD m (priceNo ⟨m, n, A0, g⟩)] := if_pos hno
      rw [this] at hR
      exact hR
    have hsd : solvedD ⟨m, n, A0, g⟩ c = _ := if_neg (by rw [hno]; decide)
    rw [hsd] at hR
    refine go_seq (go_methS (i := 3) rfl hV' (fun _ _ _ _ => rfl) (⟨m, n + m, (sol1 ⟨m, n, A0, g⟩).1, (sol1 ⟨m, n, A0, g⟩).2⟩ : LeaA) ea_nil (hl1 hno _ rfl hH1) (fun d st' e => by rw [e.2]; exact ⟨rfl, rfl, rfl⟩) fun d st' e => ?_)
    obtain ⟨rfl, rfl⟩ := e
    have hsg : ∃ s0, s0 = withT (st00 ⟨m, n, A0, g⟩ p R B) (sol2 ⟨m, n, A0, g⟩).1 (n + m) (sol2 ⟨m, n, A0, g⟩).2.1 (sol2 ⟨m, n, A0, g⟩).2.2 := ⟨_, rfl⟩
    show Go L F' _ _ [some (.d (.lst ((List.range m).map fun j => listD n (A0 j)))), some (.d (listD m g)), some (.d (listD n c)), some (.prog (withT (st00 ⟨m, n, A0, g⟩ p R B) (sol2 ⟨m, n, A0, g⟩).1 (n + m) (sol2 ⟨m, n, A0, g⟩).2.1 (sol2 ⟨m, n, A0, g⟩).2.2)), some (.d (listD (n + m) (c1F n))), none, none, none]
    have hH2 := withT_holds (st00 ⟨m, n, A0, g⟩ p R B) (sol2 ⟨m, n, A0, g⟩).1 (n + m) (sol2 ⟨m, n, A0, g⟩).2.1 (sol2 ⟨m, n, A0, g⟩).2.2
    refine go_set (d := listD (n + m) (c2F n c)) (ev_eq (ev_op (x := .lst ((List.range n).map fun k => rt (c k))) (y := .lst ((List.range m).map fun k => rt 0)) (ev_cb (ea_cons (ev_var rfl) ea_nil) (rn_list (.inl rfl))) (ev_eq (ev_lc (js := [6]) (bd := fun j => [listD n (A0 j)]) (f := fun _ => true) (out := fun j => rt 0) (src_list (ev_var rfl)) ?_ (fun l hl => ?_) (fun l hl => hl) (fun k hk => ?_) (fun k hk => et_yes) (fun k hk _ => ?_)) ?_) (r2_cat ?_)) (hpad 0 c)) (show 7 < 8 by decide) ?_
    · simp; omega
    · rw [List.mem_singleton.mp hl]; exact (show 6 < 8 by decide)
    · have hk : k < m := by simpa using hk
      rw [getD_tab _ _ _ _ hk]; exact tg_name
    · exact ev_tup (ea_cons ev_int (ea_cons ev_int ea_nil)) (show 2 ≤ 100000 by decide)
    · rw [given_all]; simp
    · simp; omega
    show Go L F' _ _ [some (.d (.lst ((List.range m).map fun j => listD n (A0 j)))), some (.d (listD m g)), some (.d (listD n c)), some (.prog (withT (st00 ⟨m, n, A0, g⟩ p R B) (sol2 ⟨m, n, A0, g⟩).1 (n + m) (sol2 ⟨m, n, A0, g⟩).2.1 (sol2 ⟨m, n, A0, g⟩).2.2)), some (.d (listD (n + m) (c1F n))), none, none, some (.d (listD (n + m) (c2F n c)))]
    refine go_seq (go_ifNotM (i := 3) (b := true) rfl hV' (fun _ _ _ _ => rfl) (⟨(sol2 ⟨m, n, A0, g⟩).1, n + m, n + m, (sol2 ⟨m, n, A0, g⟩).2.1, (sol2 ⟨m, n, A0, g⟩).2.2, c2F n c, n⟩ : CliA) (ea_cons (ev_var rfl) (ea_cons (ev_many O (i := 3) (st := withT (st00 ⟨m, n, A0, g⟩ p R B) (sol2 ⟨m, n, A0, g⟩).1 (n + m) (sol2 ⟨m, n, A0, g⟩).2.1 (sol2 ⟨m, n, A0, g⟩).2.2) rfl) ea_nil)) (hc2 hno _ hH2) (fun d st' e => by rw [e.2]; exact ⟨rfl, rfl, rfl⟩) (fun d st' e => by rw [e.1]; exact congrArg D.bl (hyes hno)) (fun d st' e h => by cases h) fun d st' e _ => go_next ?_)
    obtain ⟨rfl, rfl⟩ := e
    show Go L F' _ _ [some (.d (.lst ((List.range m).map fun j => listD n (A0 j)))), some (.d (listD m g)), some (.d (listD n c)), some (.prog (withT (st00 ⟨m, n, A0, g⟩ p R B) (sol2 ⟨m, n, A0, g⟩).1 (n + m) (sol3 ⟨m, n, A0, g⟩ c).1 (sol3 ⟨m, n, A0, g⟩ c).2)), some (.d (listD (n + m) (c1F n))), none, none, some (.d (listD (n + m) (c2F n c)))]
    have hH3 := withT_holds (st00 ⟨m, n, A0, g⟩ p R B) (sol2 ⟨m, n, A0, g⟩).1 (n + m) (sol3 ⟨m, n, A0, g⟩ c).1 (sol3 ⟨m, n, A0, g⟩ c).2
    have hmul2 := hm2 hno (withT (st00 ⟨m, n, A0, g⟩ p R B) (sol2 ⟨m, n, A0, g⟩).1 (n + m) (sol3 ⟨m, n, A0, g⟩ c).1 (sol3 ⟨m, n, A0, g⟩ c).2)
    have hm100 : (sol2 ⟨m, n, A0, g⟩).1 ≤ 100 := (hc2 hno _ hH2).m
    exact go_retE (ev_tup (ea_cons ev_str (ea_cons (ev_methR (i := 3) (d := listD n (amtF ⟨m, n, A0, g⟩ c)) rfl (fun _ _ _ _ => rfl) (⟨(sol2 ⟨m, n, A0, g⟩).1, n + m, (sol3 ⟨m, n, A0, g⟩ c).1, (sol3 ⟨m, n, A0, g⟩ c).2⟩ : AmtA) ea_nil ⟨hH3, hm100, (show n ≤ 1000 by omega)⟩ fun x e => e) (ea_cons (ev_methR (i := 3) (d := listD m (priceF ⟨m, n, A0, g⟩ c)) rfl (fun _ _ _ _ => rfl) (⟨(sol2 ⟨m, n, A0, g⟩).1, n + m, n + m, (sol3 ⟨m, n, A0, g⟩ c).1, (sol3 ⟨m, n, A0, g⟩ c).2, c2F n c, m, fun j => sgn (g j)⟩ : PriA) (ea_cons (ev_var rfl) ea_nil) ⟨rfl, (show m ≤ 100 by omega), fun j hj => ⟨hmul2 (n + j) (by have : j < m := hj; show n + j ≤ n + m; omega) hH3, 2, 2000, sgn_bit _, hp2 hno j hj, by decide⟩⟩ fun x e => e) ea_nil))) (show 3 ≤ 100000 by decide)) hR⟩
end
end Pw

/-! The walk: program_of. -/
namespace Pw
open PySem L2 PyProof.Rows
def noC : Cond := ⟨0, [], 0⟩
/-- the table's entries, whole -/
def aI (p : Prob) (t : List Pair) (j k : Nat) : Int :=
  if j < p.ss.length then (if k < t.length then (if (t.getD k (0, 0)).1 = (j : Int) ∨ (t.getD k (0, 0)).2 = (j : Int) then 1 else 0) else 0)
  else if k < t.length then ((conds p t).getD (j - p.ss.length) noC).fs.getD k 0 else if k - t.length = j - p.ss.length then 1 else 0
def gI (p : Prob) (t : List Pair) (j : Nat) : Int := if j < p.ss.length then heat (p.at j) else ((conds p t).getD (j - p.ss.length) noC).side
def cI (t : List Pair) (k : Nat) : Int := if k < t.length then (if (t.getD k (0, 0)).1 = -1 then -1 else 0) else 0
def inOf (p : Prob) (t : List Pair) : InA := ⟨p.ss.length + (conds p t).length, t.length + (conds p t).length, fun j k => (aI p t j k : Rat), fun j => (gI p t j : Rat)⟩
def cF (t : List Pair) (k : Nat) : Rat := (cI t k : Rat)
noncomputable def progD (p : Prob) (t : List Pair) : D := solvedD (inOf p t) (cF t)
structure Fit (p : Prob) (t : List Pair) : Prop where
  hp : ProbOk p
  ht : StrOk p t
  hs : SolOk (inOf p t) (cF t)
theorem Sh.two {L : Pm} {G : Ctx} {F : Frm} {T : List Addr} {σ : L2.St} {H : Hp} {i j : Nat} {p q : Addr} (s : Sh L G F T σ H) (hi : i < G.length) (hj : j < G.length) (hp : H p = none) (hq : upd H p (.lst []) q = none) :
    Sh L ((G.set i (some (.own []))).set j (some (.own []))) F (q :: p :: T) ((σ.set i (some (.ref p))).set j (some (.ref q))) (upd (upd H p (.lst [])) q (.lst [])) := by
  have s1 := (s.make (u := .lst []) hp nt_lst).adopt hi List.mem_cons_self (fun y => s.newT hp (s.xs p y).1) (fun y => s.newT hp (s.sub p y)) upd_same (ats_nil.mpr rfl)
  exact (s1.make (u := .lst []) hq nt_lst).adopt (by rw [List.length_set]; exact hj) List.mem_cons_self (fun y => s1.newT hq (s1.xs q y).1) (fun y => s1.newT hq (s1.sub q y)) upd_same (ats_nil.mpr rfl)
theorem go_new2 {L : Pm} {G : Ctx} {F : Frm} {E : Ends} {i j : Nat} (hi : i < G.length) (hj : j < G.length) (k : Nx L F E.nx ((G.set i (some (.own []))).set j (some (.own [])))) : Go L F E (tPar i j (tCons (tLst tNil) (tCons (tLst tNil) tNil))) G := fun T σ H s =>
  ⟨Nat.zero_le _, fun p hp => ⟨Nat.zero_le _, fun q hq => ⟨.ref p, .ref q, rfl, k _ _ _ (s.two hi hj hp hq)⟩⟩⟩
theorem go_new2S {L : Pm} {G : Ctx} {F : Frm} {E : Ends} {u : TS} {i j : Nat} (hi : i < G.length) (hj : j < G.length) (k : Go L F E u ((G.set i (some (.own []))).set j (some (.own [])))) : Go L F E (tSeq (tPar i j (tCons (tLst tNil) (tCons (tLst tNil) tNil))) u) G := go_seq (go_new2 hi hj k)
theorem go_parS {L : Pm} {G : Ctx} {F : Frm} {E : Ends} {u : TS} {i j : Nat} {ta : TA} {x y : D} (h : EvA L ta G [x, y]) (hi : i < G.length) (hj : j < G.length) (k : Go L F E u ((G.set i (some (.d x))).set j (some (.d y)))) : Go L F E (tSeq (tPar i j ta) u) G := go_seq (go_par h hi hj k)
theorem condsTo_fs (p : Prob) (t : List Pair) : ∀ n, ∀ c ∈ condsTo p t n, c.fs.length = t.length ∧ c.at_ < n := fun n => by
  induction n with
  | zero => intro c h; cases h
  | succ n ih =>
    intro c h
    rcases List.mem_append.mp h with h | h
    · obtain ⟨h1, h2⟩ := ih c h
      exact ⟨h1, by omega⟩
    · unfold condsOf at h
      split at h
      · rcases List.mem_cons.mp h with h | h
        · rw [h]
          exact ⟨by simp [condAt], Nat.lt_succ_self n⟩
        · rw [List.mem_singleton.mp h]
          exact ⟨by simp [condAt], Nat.lt_succ_self n⟩
      · cases h
theorem tg_13 {K : PySem.W.Frag} {a b c d : Nat} {x y z u : D} {n m : Nat} (h : n = 2) (h2 : m = 3) : Tg (gTup K n (gCons (gName a) (gCons (gTup K m (gCons (gName b) (gCons (gName c) (gCons (gName d) gNil)))) gNil))) (.tup [x, .tup [y, z, u]]) [a, b, c, d] [x, y, z, u] :=
  tg_tup (tgs_cons tg_name (tgs_cons (tg_tup (tgs_cons tg_name (tgs_cons tg_name (tgs_cons tg_name tgs_nil rfl) rfl) rfl) h2.symm) tgs_nil rfl) rfl) h.symm
theorem rt_ofInt (i : Int) : rt (i : Rat) = .tup [.int i, .int 1] := rt_int i
section
variable {P : Program} {w : World} {L : Pm} {mg : Str → Option Value} {base : Heap}
def nm_program_of : List Str := ["problem", "structure", "conditions", "many", "rows", "goals", "number", "heat", "pair", "one", "k", "at", "factors", "side", "j", "costs"]
theorem sc_program_of : FnScope nm_program_of ["problem", "structure"] (defScope (top 39)) := ⟨rfl, rfl, rfl, by decide +kernel, rfl, by decide +kernel, by decide +kernel⟩
theorem w_program_of (T : Tx L mg base) : Pr P w L.K mg base "program_of" 7 ["problem", "structure"] (spP L (fun a : Prob × List Pair => Fit a.1 a.2) (fun a => [dProb a.1, dStr a.2]) (fun a d => d = progD a.1 a.2)) :=
  have g_conditions_of := w_conditions_of (P := P) (w := w) T
  have g_heats_of := w_heats_of (P := P) (w := w) T
  have g_solved := w_solved (P := P) (w := w) T
  pr_of T.program_of sc_program_of (by intro kV doc pm an cdv ct us h; match us, h with | [_, _], _ => rfl) (fun vs H Q E h => len_P (n := 2) (fun _ => rfl) h) fun f cdv A outer s H vs Q E HR h => ⟨_, (pss_cons (ps_par (i := 2) (j := 3) (by rfl) sc_program_of.nd rfl rfl (by decide) rfl rfl (pa_cons (pe_own g_conditions_of HR (by decide) (by rfl) (pa_cons (pv 0) (pa_cons (pv 1) pa_nil))) (pa_cons (pe_callB call_len_seq (by rfl) T.len_ PySem.boot_len (pa_cons (pv 1) pa_nil)) pa_nil)) (by rfl))
    (pss_cons (ps_par (i := 4) (j := 5) (by rfl) sc_program_of.nd rfl rfl (by decide) rfl rfl (pa_cons (pe_lst pa_nil) (pa_cons (pe_lst pa_nil) pa_nil)) (by rfl))
    (pss_cons (ps_for PassesOwn.never rfl (pi_enum (by rfl) T.enumerate_ (pa_cons (pe_own g_heats_of HR (by decide) (by rfl) (pa_cons (pv 0) pa_nil)) pa_nil)) (pg_tup (by rfl) (pgs_cons (pg_name (i := 6) sc_program_of.nd rfl (.inr rfl)) (pgs_cons (pg_name (i := 7) sc_program_of.nd rfl (.inl rfl)) pgs_nil))) (pss_cons (ps_expr (pe_bm PySem.F.plainAttrs_list PySem.F.slot_list_append PySem.F.type_list_append mt_append (pv 4) (pa_cons (pe_op op_cat (pe_lc (own := [("pair", 8)]) (g := (gName 8)) (tt := tYes) (te := (tTup (tCons (tIf (tTest (tOp (rIn L.K false) (tVar 6) (tVar 8))) (tC (.int 1)) (tC (.int 0))) (tCons (tC (.int 1)) tNil)))) (by rfl) sc_program_of.nd (pi_tup (pv 1)) (blkOk_by (own := [("pair", 8)]) (N := nm_program_of) (sc := (defScope (top 39))) (by decide +kernel)) (fun _ _ _ _ _ => (pg_name (i := 8) sc_program_of.nd rfl (.inl rfl))) (fun _ _ _ _ _ => pts_nil) (fun _ _ _ _ _ => (pe_tup (pa_cons (pe_ifExp (pt_cmpR op_in_seq (pv 6) (pv 8) (by with_unfolding_all rfl)) pe_int pe_int) (pa_cons pe_int pa_nil))))) (pe_lc (own := [("one", 9)]) (g := (gName 9)) (tt := tYes) (te := (tTup (tCons (tC (.int 0)) (tCons (tC (.int 1)) tNil)))) (by rfl) sc_program_of.nd (pi_list (pv 2)) (blkOk_by (own := [("one", 9)]) (N := nm_program_of) (sc := (defScope (top 39))) (by decide +kernel)) (fun _ _ _ _ _ => (pg_name (i := 9) sc_program_of.nd rfl (.inl rfl))) (fun _ _ _ _ _ => pts_nil) (fun _ _ _ _ _ => (pe_tup (pa_cons pe_int (pa_cons pe_int pa_nil)))))) pa_nil)))
    (pss_one (ps_expr (pe_bm PySem.F.plainAttrs_list PySem.F.slot_list_append PySem.F.type_list_append mt_append (pv 5) (pa_cons (pe_tup (pa_cons (pv 7) (pa_cons pe_int pa_nil))) pa_nil))))))
    (pss_cons (ps_for PassesOwn.never rfl (pi_enum (by rfl) T.enumerate_ (pa_cons (pv 2) pa_nil)) (pg_tup (by rfl) (pgs_cons (pg_name (i := 10) sc_program_of.nd rfl (.inr rfl)) (pgs_cons (pg_tup (by rfl) (pgs_cons (pg_name (i := 11) sc_program_of.nd rfl (.inl rfl)) (pgs_cons (pg_name (i := 12) sc_program_of.nd rfl (.inl rfl)) (pgs_cons (pg_name (i := 13) sc_program_of.nd rfl (.inl rfl)) pgs_nil)))) pgs_nil))) (pss_cons (ps_expr (pe_bm PySem.F.plainAttrs_list PySem.F.slot_list_append PySem.F.type_list_append mt_append (pv 4) (pa_cons (pe_op op_cat (pe_lc (own := [("one", 9)]) (g := (gName 9)) (tt := tYes) (te := (tTup (tCons (tVar 9) (tCons (tC (.int 1)) tNil)))) (by rfl) sc_program_of.nd (pi_list (pv 12)) (blkOk_by (own := [("one", 9)]) (N := nm_program_of) (sc := (defScope (top 39))) (by decide +kernel)) (fun _ _ _ _ _ => (pg_name (i := 9) sc_program_of.nd rfl (.inl rfl))) (fun _ _ _ _ _ => pts_nil) (fun _ _ _ _ _ => (pe_tup (pa_cons (pv 9) (pa_cons pe_int pa_nil))))) (pe_lc (own := [("j", 14)]) (g := (gName 14)) (tt := tYes) (te := (tTup (tCons (tIf (tTest (tOp rEq (tVar 14) (tVar 10))) (tC (.int 1)) (tC (.int 0))) (tCons (tC (.int 1)) tNil)))) (by rfl) sc_program_of.nd (pi_range1 (by rfl) T.range_ (pa_cons (pe_callB call_len_seq (by rfl) T.len_ PySem.boot_len (pa_cons (pv 2) pa_nil)) pa_nil)) (blkOk_by (own := [("j", 14)]) (N := nm_program_of) (sc := (defScope (top 39))) (by decide +kernel)) (fun _ _ _ _ _ => (pg_name (i := 14) sc_program_of.nd rfl (.inl rfl))) (fun _ _ _ _ _ => pts_nil) (fun _ _ _ _ _ => (pe_tup (pa_cons (pe_ifExp (pt_cmpR op_eq (pv 14) (pv 10) (nomark _)) pe_int pe_int) (pa_cons pe_int pa_nil)))))) pa_nil)))
    (pss_one (ps_expr (pe_bm PySem.F.plainAttrs_list PySem.F.slot_list_append PySem.F.type_list_append mt_append (pv 5) (pa_cons (pe_tup (pa_cons (pv 13) (pa_cons pe_int pa_nil))) pa_nil))))))
    (pss_cons (ps_set (i := 15) sc_program_of.nd rfl (Or.inl rfl) (pe_op op_cat (pe_lc (own := [("pair", 8)]) (g := (gName 8)) (tt := tYes) (te := (tTup (tCons (tIf (tTest (tOp rEq (tOp (rIxT L.K) (tVar 8) (tC (.int 0))) (tUn (rU fun i => .int (-i)) (tC (.int 1))))) (tUn (rU fun i => .int (-i)) (tC (.int 1))) (tC (.int 0))) (tCons (tC (.int 1)) tNil)))) (by rfl) sc_program_of.nd (pi_tup (pv 1)) (blkOk_by (own := [("pair", 8)]) (N := nm_program_of) (sc := (defScope (top 39))) (by decide +kernel)) (fun _ _ _ _ _ => (pg_name (i := 8) sc_program_of.nd rfl (.inl rfl))) (fun _ _ _ _ _ => pts_nil) (fun _ _ _ _ _ => (pe_tup (pa_cons (pe_ifExp (pt_cmpR op_eq (pe_ix ix_tup (pv 8) pe_int (fun _ _ => rfl)) (pe_un un_neg pe_int) (nomark _)) (pe_un un_neg pe_int) pe_int) (pa_cons pe_int pa_nil))))) (pe_lc (own := [("one", 9)]) (g := (gName 9)) (tt := tYes) (te := (tTup (tCons (tC (.int 0)) (tCons (tC (.int 1)) tNil)))) (by rfl) sc_program_of.nd (pi_list (pv 2)) (blkOk_by (own := [("one", 9)]) (N := nm_program_of) (sc := (defScope (top 39))) (by decide +kernel)) (fun _ _ _ _ _ => (pg_name (i := 9) sc_program_of.nd rfl (.inl rfl))) (fun _ _ _ _ _ => pts_nil) (fun _ _ _ _ _ => (pe_tup (pa_cons pe_int (pa_cons pe_int pa_nil)))))))
    (pss_one (ps_ret (pe_own g_solved HR (by decide) (by rfl) (pa_cons (pv 4) (pa_cons (pv 5) (pa_cons (pv 15) pa_nil))))))))))),
  start_P h fun a F rt' hp hM hW hR => by
    obtain ⟨p, t⟩ := a
    obtain ⟨hp, ht, hs⟩ := hp
    have hp : ProbOk p := hp
    have ht : StrOk p t := ht
    have hnc : (conds p t).length ≤ 20 := by
      have : ∀ n, (condsTo p t n).length ≤ 2 * n := fun n => by
        induction n with
        | zero => exact Nat.le_refl _
        | succ n ih =>
          show (condsTo p t n ++ condsOf p t n).length ≤ _
          rw [List.length_append]
          have : (condsOf p t n).length ≤ 2 := by
            unfold condsOf
            split
            · exact Nat.le_refl _
            · exact Nat.zero_le _
          omega
      have := this t.length
      have := ht.le
      show (condsTo p t t.length).length ≤ 20
      omega
    have hle := ht.le
    have hse := hp.le
    generalize hcs : conds p t = cs at hnc
    have hfs : ∀ c ∈ cs, c.fs.length = t.length := fun c hc => (condsTo_fs p t t.length c (by rw [← hcs] at hc; exact hc)).1
    have hlt : (t.map dP).length = t.length := List.length_map ..
    have hlc : (cs.map dC).length = cs.length := List.length_map ..
    refine go_parS (x := .lst (cs.map dC)) (y := .int (t.length : Int)) (ea_cons (ev_eq (ev_own (p, t) (ea_cons (ev_var rfl) (ea_cons (ev_var rfl) ea_nil)) ⟨hp, ht⟩ fun x e => e) (by rw [← hcs])) (ea_cons (ev_eq (ev_cb (ea_cons (ev_var rfl) ea_nil) (rn_len (by show some _ = some _; rfl))) (congrArg (fun z : Nat => D.int (z : Int)) hlt)) ea_nil)) (show 2 < 16 by decide) (show 3 < 16 by decide) ?_
    refine go_new2S (show 4 < 16 by decide) (show 5 < 16 by decide) ?_
    have hzero : ∀ (f : Nat → Rat) (g : Nat → Rat) (h : Nat → Rat), (∀ k, k < t.length → h k = f k) → (∀ k, k < cs.length → h (t.length + k) = g k) → D.lst (((List.range t.length).map fun k => rt (f k)) ++ ((List.range cs.length).map fun k => rt (g k))) = listD (t.length + cs.length) h := fun f g h h1 h2 => by
      rw [tab_app]
      show D.lst _ = D.lst _
      congr 1
      refine List.map_congr_left fun k hk => ?_
      have hk := List.mem_range.mp hk
      show (if k < t.length then rt (f k) else rt (g (k - t.length))) = rt (h k)
      by_cases e : k < t.length
      · rw [if_pos e, h1 k e]
      · rw [if_neg e, ← h2 (k - t.length) (by omega), show t.length + (k - t.length) = k by omega]
    refine go_forS (n := (p.ss.map fun s => D.int (heat s)).length) (item := fun i => .tup [.int (i : Int), (p.ss.map fun s => D.int (heat s)).getD i .non]) [6, 7] (fun i => [.int (i : Int), .int (heat (p.at i))]) (fun n G' => ∃ o6 o7 o8 o9 o10 o11 o12 o13 o14 o15, G' = [some (.d (dProb p)), some (.d (dStr t)), some (.d (.lst (cs.map dC))), some (.d (.int (t.length : Int))), some (.own ((List.range n).map fun j => listD (t.length + cs.length) fun k => (aI p t j k : Rat))), some (.own ((List.range n).map fun j => rt (gI p t j : Rat))), dn o6, dn o7, dn o8, dn o9, dn o10, dn o11, dn o12, dn o13, dn o14, dn o15])
      ?_ ⟨none, none, none, none, none, none, none, none, none, none, rfl⟩ (fun i hi => ?_) (fun i G' hc j hj => ?_) (fun i G' A' N E' hi hc hN e1 e2 e3 => ?_) (fun G' hc => ?_)
    · exact src_enum (ds := p.ss.map fun s => .int (heat s)) (ea_cons (ev_own p (ea_cons (ev_var rfl) ea_nil) hp fun x e => e) ea_nil)
    · have hi : i < p.ss.length := by simpa using hi
      rw [getD_map (fun s => D.int (heat s)) p.ss i (0, 0, 0) .non hi]
      exact tg_2 rfl
    · obtain ⟨o6, o7, o8, o9, o10, o11, o12, o13, o14, o15, rfl⟩ := hc
      have : j = 6 ∨ j = 7 := by simpa using hj
      show j < 16
      omega
    · obtain ⟨o6, o7, o8, o9, o10, o11, o12, o13, o14, o15, rfl⟩ := hc
      have hi : i < p.ss.length := by simpa using hi
      refine go_seq (go_app (i := 4) rfl (Φ := fun d => d = listD (t.length + cs.length) fun k => (aI p t i k : Rat)) (ev_eq (ev_op (x := .lst ((List.range t.length).map fun k => rt ((if (t.getD k (0, 0)).1 = (i : Int) ∨ (t.getD k (0, 0)).2 = (i : Int) then 1 else 0 : Int) : Rat))) (y := .lst ((List.range cs.length).map fun k => rt ((0 : Int) : Rat))) (ev_eq (ev_lc (js := [8]) (bd := fun k => [dP (t.getD k (0, 0))]) (f := fun _ => true) (out := fun k => rt ((if (t.getD k (0, 0)).1 = (i : Int) ∨ (t.getD k (0, 0)).2 = (i : Int) then 1 else 0 : Int) : Rat)) (src_tup (ev_var rfl)) ?_ (fun l hl => ?_) (fun l hl => hl) (fun k hk => ?_) (fun k hk => et_yes) (fun k hk _ => ?_)) ?_) (ev_eq (ev_lc (js := [9]) (bd := fun k => [dC (cs.getD k noC)]) (f := fun _ => true) (out := fun k => rt ((0 : Int) : Rat)) (src_list (ev_var rfl)) ?_ (fun l hl => ?_) (fun l hl => hl) (fun k hk => ?_) (fun k hk => et_yes) (fun k hk _ => ?_)) ?_) (r2_cat ?_)) (hzero _ _ _ (fun k hk => ?_) fun k hk => ?_)) (by simp; omega) (fun d e => ?_))
      · simp; omega
      · rw [List.mem_singleton.mp hl]; exact (show 8 < 16 by decide)
      · have hk : k < t.length := by simpa using hk
        rw [getD_map dP t k (0, 0) .non hk]
        exact tg_name
      · refine ev_eq (ev_tup (ea_cons (ev_ifI (b := decide (((i : Int)) ∈ [(t.getD k (0, 0)).1, (t.getD k (0, 0)).2])) (p := ((t.getD k (0, 0)).1 = (i : Int) ∨ (t.getD k (0, 0)).2 = (i : Int))) (et_test (ev_op (ev_var rfl) (ev_var rfl) (r2_inT (ns := [(t.getD k (0, 0)).1, (t.getD k (0, 0)).2])))) ?_ (fun _ => ev_int) fun _ => ev_int) (ea_cons ev_int ea_nil)) (show 2 ≤ 100000 by decide)) ?_
        · refine decide_eq_decide.mpr ?_
          simp [eq_comm]
        · rw [rt_ofInt]
      · rw [given_all, hlt]
      · rw [hlc]; omega
      · rw [List.mem_singleton.mp hl]; exact (show 9 < 16 by decide)
      · have hk : k < cs.length := by simpa using hk
        rw [getD_map dC cs k noC .non hk]
        exact tg_name
      · exact ev_tup (ea_cons ev_int (ea_cons ev_int ea_nil)) (show 2 ≤ 100000 by decide)
      · rw [given_all, hlc]
      · simp; omega
      · unfold aI
        rw [if_pos hi, if_pos hk]
      · unfold aI
        rw [if_pos hi, if_neg (by omega)]
      subst e
      show Go L _ _ _ _
      refine go_app (i := 5) rfl (Φ := fun d => d = rt (gI p t i : Rat)) (ev_eq (ev_tup (ea_cons (ev_var rfl) (ea_cons ev_int ea_nil)) (show 2 ≤ 100000 by decide)) ?_) (by simp; omega) (fun d e => ?_)
      · rw [rt_ofInt]
        unfold gI
        rw [if_pos hi]
      subst e
      rw [e1]
      refine hN _ ⟨some (.int (i : Int)), some (.int (heat (p.at i))), o8, o9, o10, o11, o12, o13, o14, o15, ?_⟩
      rw [range_snoc (fun j => listD (t.length + cs.length) fun k => (aI p t j k : Rat)) i, range_snoc (fun j => rt (gI p t j : Rat)) i]
      rfl
    obtain ⟨o6, o7, o8, o9, o10, o11, o12, o13, o14, o15, rfl⟩ := hc
    have hls : (p.ss.map fun s => D.int (heat s)).length = p.ss.length := List.length_map ..
    rw [hls]
    refine go_forS [10, 11, 12, 13] (fun i => [.int (i : Int), .int ((cs.getD i noC).at_ : Int), .lst ((cs.getD i noC).fs.map D.int), .int (cs.getD i noC).side]) (fun n G' => ∃ o6 o7 o8 o9 o10 o11 o12 o13 o14 o15, G' = [some (.d (dProb p)), some (.d (dStr t)), some (.d (.lst (cs.map dC))), some (.d (.int (t.length : Int))), some (.own ((List.range (p.ss.length + n)).map fun j => listD (t.length + cs.length) fun k => (aI p t j k : Rat))), some (.own ((List.range (p.ss.length + n)).map fun j => rt (gI p t j : Rat))), dn o6, dn o7, dn o8, dn o9, dn o10, dn o11, dn o12, dn o13, dn o14, dn o15])
      (src_enum (ea_cons (ev_var rfl) ea_nil)) ⟨o6, o7, o8, o9, o10, o11, o12, o13, o14, o15, rfl⟩ (fun i hi => ?_) (fun i G' hc j hj => ?_) (fun i G' A' N E' hi hc hN e1 e2 e3 => ?_) (fun G' hc => ?_)
    · have hi : i < cs.length := by simpa using hi
      rw [getD_map dC cs i noC .non hi]
      exact tg_13 rfl rfl
    · obtain ⟨o6, o7, o8, o9, o10, o11, o12, o13, o14, o15, rfl⟩ := hc
      have : j = 10 ∨ j = 11 ∨ j = 12 ∨ j = 13 := by simpa using hj
      show j < 16
      omega
    · obtain ⟨o6, o7, o8, o9, o10, o11, o12, o13, o14, o15, rfl⟩ := hc
      have hi : i < cs.length := by simpa using hi
      have hfi : (cs.getD i noC).fs.length = t.length := hfs _ (getD_mem cs i noC hi)
      have hlf : ((cs.getD i noC).fs.map D.int).length = t.length := by rw [List.length_map, hfi]
      refine go_seq (go_app (i := 4) rfl (Φ := fun d => d = listD (t.length + cs.length) fun k => (aI p t (p.ss.length + i) k : Rat)) (ev_eq (ev_op (x := .lst ((List.range t.length).map fun k => rt (((cs.getD i noC).fs.getD k 0 : Int) : Rat))) (y := .lst ((List.range cs.length).map fun k => rt ((if k = i then 1 else 0 : Int) : Rat))) (ev_eq (ev_lc (js := [9]) (bd := fun k => [.int ((cs.getD i noC).fs.getD k 0)]) (f := fun _ => true) (out := fun k => rt (((cs.getD i noC).fs.getD k 0 : Int) : Rat)) (src_list (ev_var rfl)) ?_ (fun l hl => ?_) (fun l hl => hl) (fun k hk => ?_) (fun k hk => et_yes) (fun k hk _ => ?_)) ?_) (ev_eq (ev_lc (js := [14]) (bd := fun k => [.int (k : Int)]) (f := fun _ => true) (out := fun k => rt ((if k = i then 1 else 0 : Int) : Rat)) (src_rng (n := cs.length) (ea_cons (ev_eq (ev_cb (ea_cons (ev_var rfl) ea_nil) (rn_len (by show some _ = some _; rfl))) (congrArg (fun z : Nat => D.int (z : Int)) hlc)) ea_nil) (by omega)) (by omega) (fun l hl => ?_) (fun l hl => hl) (fun k hk => tg_name) (fun k hk => et_yes) (fun k hk _ => ?_)) ?_) (r2_cat ?_)) (hzero _ _ _ (fun k hk => ?_) fun k hk => ?_)) (by simp; omega) (fun d e => ?_))
      · rw [hlf]; omega
      · rw [List.mem_singleton.mp hl]; exact (show 9 < 16 by decide)
      · have hk : k < (cs.getD i noC).fs.length := by simpa using hk
        rw [getD_map D.int (cs.getD i noC).fs k 0 .non hk]
        exact tg_name
      · rw [rt_ofInt]
        exact ev_tup (ea_cons (ev_var rfl) (ea_cons ev_int ea_nil)) (show 2 ≤ 100000 by decide)
      · rw [given_all, hlf]
      · rw [List.mem_singleton.mp hl]; exact (show 14 < 16 by decide)
      · rw [rt_ofInt]
        exact ev_tup (ea_cons (ev_ifI (et_test (ev_eqI (ev_var rfl) (ev_var rfl))) (decide_eq_decide.mpr (by omega)) (fun _ => ev_int) fun _ => ev_int) (ea_cons ev_int ea_nil)) (show 2 ≤ 100000 by decide)
      · rw [given_all]
      · simp; omega
      · unfold aI
        rw [if_neg (by omega), if_pos hk, hcs, show p.ss.length + i - p.ss.length = i by omega]
      · unfold aI
        rw [if_neg (by omega), if_neg (by omega), show p.ss.length + i - p.ss.length = i by omega, show t.length + k - t.length = k by omega]
      subst e
      show Go L _ _ _ _
      refine go_app (i := 5) rfl (Φ := fun d => d = rt (gI p t (p.ss.length + i) : Rat)) (ev_eq (ev_tup (ea_cons (ev_var rfl) (ea_cons ev_int ea_nil)) (show 2 ≤ 100000 by decide)) ?_) (by simp; omega) (fun d e => ?_)
      · rw [rt_ofInt]
        unfold gI
        rw [if_neg (by omega), hcs, show p.ss.length + i - p.ss.length = i by omega]
      subst e
      rw [e1]
      refine hN _ ⟨o6, o7, o8, o9, some (.int (i : Int)), some (.int ((cs.getD i noC).at_ : Int)), some (.lst ((cs.getD i noC).fs.map D.int)), some (.int (cs.getD i noC).side), o14, o15, ?_⟩
      rw [← Nat.add_assoc, range_snoc (fun j => listD (t.length + cs.length) fun k => (aI p t j k : Rat)) (p.ss.length + i), range_snoc (fun j => rt (gI p t j : Rat)) (p.ss.length + i)]
      rfl
    obtain ⟨o6, o7, o8, o9, o10, o11, o12, o13, o14, o15, rfl⟩ := hc
    rw [hlc]
    refine go_set (d := listD (t.length + cs.length) (cF t)) (ev_eq (ev_op (x := .lst ((List.range t.length).map fun k => rt ((if (t.getD k (0, 0)).1 = -1 then -1 else 0 : Int) : Rat))) (y := .lst ((List.range cs.length).map fun k => rt ((0 : Int) : Rat))) (ev_eq (ev_lc (js := [8]) (bd := fun k => [dP (t.getD k (0, 0))]) (f := fun _ => true) (out := fun k => rt ((if (t.getD k (0, 0)).1 = -1 then -1 else 0 : Int) : Rat)) (src_tup (ev_var rfl)) ?_ (fun l hl => ?_) (fun l hl => hl) (fun k hk => ?_) (fun k hk => et_yes) (fun k hk _ => ?_)) ?_) (ev_eq (ev_lc (js := [9]) (bd := fun k => [dC (cs.getD k noC)]) (f := fun _ => true) (out := fun k => rt ((0 : Int) : Rat)) (src_list (ev_var rfl)) ?_ (fun l hl => ?_) (fun l hl => hl) (fun k hk => ?_) (fun k hk => et_yes) (fun k hk _ => ?_)) ?_) (r2_cat ?_)) (hzero _ _ _ (fun k hk => ?_) fun k hk => ?_)) (show 15 < 16 by decide) ?_
    · simp; omega
    · rw [List.mem_singleton.mp hl]; exact (show 8 < 16 by decide)
    · have hk : k < t.length := by simpa using hk
      rw [getD_map dP t k (0, 0) .non hk]
      exact tg_name
    · rw [rt_ofInt]
      exact ev_tup (ea_cons (ev_ifI (et_test (ev_eqI (ev_ixT (ev_var rfl) ev_int rfl) (ev_neg ev_int))) rfl (fun _ => ev_neg ev_int) fun _ => ev_int) (ea_cons ev_int ea_nil)) (show 2 ≤ 100000 by decide)
    · rw [given_all, hlt]
    · rw [hlc]; omega
    · rw [List.mem_singleton.mp hl]; exact (show 9 < 16 by decide)
    · have hk : k < cs.length := by simpa using hk
      rw [getD_map dC cs k noC .non hk]
      exact tg_name
    · exact ev_tup (ea_cons ev_int (ea_cons ev_int ea_nil)) (show 2 ≤ 100000 by decide)
    · rw [given_all, hlc]
    · simp; omega
    · unfold cF cI
      rw [if_pos hk]
    · unfold cF cI
      rw [if_neg (by omega)]
    show Go L F _ _ _
    refine go_freeze (i := 4) rfl (go_freeze (i := 5) rfl (go_retE (ev_own (inOf p t, cF t) (ea_cons (ev_eq (ev_var rfl) ?_) (ea_cons (ev_eq (ev_var rfl) ?_) (ea_cons (ev_eq (ev_var rfl) ?_) ea_nil))) hs fun x e => e) (hR _ rfl)))
    · unfold inOf
      rw [hcs]
    · unfold inOf
      rw [hcs]
    · unfold inOf
      rw [hcs]⟩
end
end Pw

/-! The walk: outside_of, best_of, best_loads. -/
namespace Pw
open PySem L2 PyProof.Rows
/-- the sum of a list -/
def lsum (l : List Rat) : Rat := psum (fun i => l.getD i 0) l.length
theorem psum_congr {f g : Nat → Rat} : ∀ {n : Nat}, (∀ i, i < n → f i = g i) → psum f n = psum g n
  | 0, _ => rfl
  | n + 1, h => by
    show psum f n + f n = psum g n + g n
    rw [psum_congr fun i hi => h i (by omega), h n (by omega)]
theorem lsum_nil : lsum [] = 0 := rfl
theorem lsum_snoc (l : List Rat) (q : Rat) : lsum (l ++ [q]) = lsum l + q := by
  unfold lsum
  rw [List.length_append, List.length_singleton]
  show psum _ l.length + (l ++ [q]).getD l.length 0 = _
  have e1 : (l ++ [q]).getD l.length 0 = q := by
    rw [List.getD_eq_getElem?_getD, List.getElem?_append_right (Nat.le_refl _), Nat.sub_self]
    rfl
  rw [e1]
  congr 1
  refine psum_congr fun i hi => ?_
  show (l ++ [q]).getD i 0 = l.getD i 0
  rw [List.getD_eq_getElem?_getD, List.getElem?_append_left hi, List.getD_eq_getElem?_getD]
theorem lsum_given (f : Nat → Bool) (x : Nat → Rat) : ∀ n, lsum (((List.range n).filter f).map x) = S n fun k => if f k = true then x k else 0
  | 0 => rfl
  | n + 1 => by
    rw [List.range_succ, List.filter_append, List.map_append]
    show _ = S n (fun k => if f k = true then x k else 0) + (if f n = true then x n else 0)
    rw [← lsum_given f x n]
    cases h : f n with
    | true =>
      rw [List.filter_cons_of_pos h, if_pos rfl]
      exact lsum_snoc _ _
    | false =>
      rw [List.filter_cons_of_neg (by rw [h]; exact Bool.false_ne_true), if_neg Bool.false_ne_true]
      show lsum (_ ++ []) = _
      rw [List.append_nil, Rat.add_zero]
theorem zero_bit {n : Nat} (h : 0 < n) : Bit 0 n := by
  have := Bit.int (i := 0) (n := n) (by show 0 < 2 ^ n; exact Nat.pow_pos (by decide)) h
  exact this
theorem psum_bit {f : Nat → Rat} {b : Nat} : ∀ {n : Nat}, (∀ i, i < n → Bit (f i) b) → Bit (psum f n) (n * (b + 1) + 1)
  | 0, _ => zero_bit (by omega)
  | n + 1, h => by
    have h1 := psum_bit (n := n) fun i hi => h i (by omega)
    have h2 := h1.add (h n (by omega))
    refine h2.mono ?_
    have : (n + 1) * (b + 1) = n * (b + 1) + (b + 1) := Nat.succ_mul ..
    omega
abbrev sp_total (L : Pm) : Sp := spP L (fun a : Nat × (Nat → Rat) => a.1 ≤ 1000 ∧ ∀ i, i < a.1 → ∃ m n, Bit (psum a.2 i) m ∧ Bit (a.2 i) n ∧ m + n ≤ 9000) (fun a => [.lst ((List.range a.1).map fun i => rt (a.2 i))]) (fun a d => d = rt (psum a.2 a.1))
theorem getD_bit {l : List Rat} {b i : Nat} (h : ∀ q ∈ l, Bit q b) (hi : i < l.length) : Bit (l.getD i 0) b := h _ (getD_mem l i 0 hi)
/-- total(..) of a list of rationals, each small -/
theorem ev_tot {L : Pm} {G : Ctx} {E : XK} {ta : TE} {l : List Rat} {b : Nat} (h : Ev L ta G (.lst (l.map rt))) (hl : l.length ≤ 1000) (hb : ∀ q ∈ l, Bit q b) (hs : l.length * (b + 1) + 1 + b ≤ 9000) : Ev L (tCall (sp_total L) [] E (tCons ta tNil)) G (rt (lsum l)) :=
  ev_own (l.length, fun i => l.getD i 0) (ea_cons (ev_eq h (congrArg D.lst (map_tab rt l 0))) ea_nil) ⟨hl, fun i hi => ⟨_, b, psum_bit fun j hj => getD_bit hb (by have : i < l.length := hi; omega), getD_bit hb hi, by
    have : i < l.length := hi
    have : i * (b + 1) ≤ l.length * (b + 1) := Nat.mul_le_mul_right _ (by omega)
    omega⟩⟩ fun x e => e
theorem given_rt (n : Nat) (f : Nat → Bool) (x : Nat → Rat) : given n f (fun k => rt (x k)) = (((List.range n).filter f).map x).map rt := by
  unfold given
  rw [List.map_map]
  rfl
theorem filt_len (n : Nat) (f : Nat → Bool) (x : Nat → Rat) : (((List.range n).filter f).map x).length ≤ n := by
  rw [List.length_map]
  exact Nat.le_trans (List.length_filter_le ..) (by simp)
theorem filt_bit {n : Nat} {f : Nat → Bool} {x : Nat → Rat} {b : Nat} (h : ∀ k, k < n → f k = true → Bit (x k) b) : ∀ q ∈ ((List.range n).filter f).map x, Bit q b := fun q hq => by
  obtain ⟨k, hk, e⟩ := List.mem_map.mp hq
  obtain ⟨h1, h2⟩ := List.mem_filter.mp hk
  rw [← e]
  exact h k (List.mem_range.mp h1) h2
/-- total of a filtered, mapped run -/
theorem ev_totG {L : Pm} {G : Ctx} {E : XK} {ta : TE} {n b : Nat} {f : Nat → Bool} {x : Nat → Rat} (h : Ev L ta G (.lst (given n f fun k => rt (x k)))) (hl : n ≤ 1000) (hb : ∀ k, k < n → f k = true → Bit (x k) b) (hs : n * (b + 1) + 1 + b ≤ 9000) : Ev L (tCall (sp_total L) [] E (tCons ta tNil)) G (rt (S n fun k => if f k = true then x k else 0)) := by
  rw [← lsum_given]
  have hn := filt_len n f x
  refine ev_tot (b := b) (ev_eq h (congrArg D.lst (given_rt n f x))) (by omega) (filt_bit hb) ?_
  have := Nat.mul_le_mul_right (b + 1) hn
  omega
theorem ev_neS {L : Pm} {G : Ctx} {ta tb : TE} {i j : Str} (ha : Ev L ta G (.str i)) (hb : Ev L tb G (.str j)) : Ev L (tOp rNe ta tb) G (.bl (!decide (V.str i = V.str j))) :=
  ev_op ha hb (r2_ne rfl rfl rfl)
theorem ev_eqS' {L : Pm} {G : Ctx} {ta tb : TE} {i j : Str} (ha : Ev L ta G (.str i)) (hb : Ev L tb G (.str j)) : Ev L (tOp rEq ta tb) G (.bl (decide (V.str i = V.str j))) :=
  ev_op ha hb (r2_eq rfl rfl rfl)
theorem go_dropS {L : Pm} {G : Ctx} {F : Frm} {E : Ends} {u : TS} {te : TE} {d : D} (h : Ev L te G d) (k : Go L F E u G) : Go L F E (tSeq (tDrop te) u) G := go_seq (go_drop h k)
theorem cut_tab (f : Nat → D) {n m : Nat} (h : m ≤ n) : cutD ((List.range n).map f) none (some (m : Int)) = (List.range m).map f := by
  unfold cutD
  rw [HT.sIx_none, HT.sIx_nat, List.length_map, List.length_range, List.drop_zero, Nat.sub_zero, Nat.min_eq_left h, ← List.map_take, List.take_range, Nat.min_eq_left h]
/-- the load from outside -/
def outF (t : List Pair) (x : Nat → Rat) : Rat := S t.length fun k => if (t.getD k (0, 0)).1 = -1 then x k else 0
noncomputable def outP (p : Prob) (t : List Pair) : Rat := outF t (amtF (inOf p t) (cF t))
noncomputable def bestOf (p : Prob) (t : List Pair) : D := if isNo (inOf p t) = true then .non else .tup [rt (outP p t), .tup ((List.range t.length).map fun k => rt (amtF (inOf p t) (cF t) k))]
structure Fits (p : Prob) (t : List Pair) : Prop extends Fit p t where
  am : isNo (inOf p t) = false → ∀ k, k < t.length + (conds p t).length → Bit (amtF (inOf p t) (cF t) k) 400
  pn : isNo (inOf p t) = true → ∀ j, j < p.ss.length + (conds p t).length → Bit (priceNo (inOf p t) j) 400
  py : isNo (inOf p t) = false → ∀ j, j < p.ss.length + (conds p t).length → Bit (priceF (inOf p t) (cF t) j) 400
section
variable {P : Program} {w : World} {L : Pm} {mg : Str → Option Value} {base : Heap}
def nm_outside_of : List Str := ["structure", "loads", "pair", "load"]
theorem sc_outside_of : FnScope nm_outside_of ["structure", "loads"] (defScope (top 40)) := ⟨rfl, rfl, rfl, by decide +kernel, rfl, by decide +kernel, by decide +kernel⟩
theorem w_outside_of (T : Tx L mg base) : Pr P w L.K mg base "outside_of" 4 ["structure", "loads"] (spP L (fun a : List Pair × (Nat → Rat) => a.1.length ≤ 10 ∧ ∀ k, k < a.1.length → Bit (a.2 k) 400) (fun a => [dStr a.1, .tup ((List.range a.1.length).map fun k => rt (a.2 k))]) (fun a d => d = rt (outF a.1 a.2))) :=
  have g_total := w_total (P := P) (w := w) T
  pr_of T.outside_of sc_outside_of (by intro kV doc pm an cdv ct us h; match us, h with | [_, _], _ => rfl) (fun vs H Q E h => len_P (n := 2) (fun _ => rfl) h) fun f cdv A outer s H vs Q E HR h => ⟨_, (pss_one (ps_ret (pe_own g_total HR (by decide) (by rfl) (pa_cons (pe_lc (own := [("pair", 2), ("load", 3)]) (g := (gTup L.K 2 (gCons (gName 2) (gCons (gName 3) gNil)))) (tt := (tTest (tOp rEq (tOp (rIxT L.K) (tVar 2) (tC (.int 0))) (tUn (rU fun i => .int (-i)) (tC (.int 1)))))) (te := (tVar 3)) (by rfl) sc_outside_of.nd (RZ.pi_zipA (by rfl) T.zip_ (pa_cons (pv 0) (pa_cons (pv 1) pa_nil))) (blkOk_by (own := [("pair", 2), ("load", 3)]) (N := nm_outside_of) (sc := (defScope (top 40))) (by decide +kernel)) (fun _ _ _ _ _ => (pg_tup (by rfl) (pgs_cons (pg_name (i := 2) sc_outside_of.nd rfl (.inl rfl)) (pgs_cons (pg_name (i := 3) sc_outside_of.nd rfl (.inl rfl)) pgs_nil)))) (fun _ _ _ _ _ => (pts_one (pt_cmpR op_eq (pe_ix ix_tup (pv 2) pe_int (fun _ _ => rfl)) (pe_un un_neg pe_int) (nomark _)))) (fun _ _ _ _ _ => (pv 3))) pa_nil)))),
  start_P h fun a F rt' hp hM hW hR => by
    obtain ⟨t, x⟩ := a
    obtain ⟨hle, hx⟩ := hp
    have hle : t.length ≤ 10 := hle
    have hx : ∀ k, k < t.length → Bit (x k) 400 := hx
    have hlt : (t.map dP).length = t.length := List.length_map ..
    have hmin : min (t.map dP).length ((List.range t.length).map fun k => rt (x k)).length = t.length := by simp
    refine go_retE (ev_eq (ev_totG (n := t.length) (b := 400) (f := fun k => decide ((t.getD k (0, 0)).1 = -1)) (x := x) (ev_eq (ev_lc (js := [2, 3]) (bd := fun k => [dP (t.getD k (0, 0)), rt (x k)]) (f := fun k => decide ((t.getD k (0, 0)).1 = -1)) (out := fun k => rt (x k)) (src_zipT (ea_cons (ev_var rfl) (ea_cons (ev_var rfl) ea_nil))) ?_ (fun l hl => ?_) (fun l hl => hl) (fun k hk => ?_) (fun k hk => ?_) (fun k hk _ => ?_)) ?_) (by omega) (fun k hk _ => hx k hk) ?_) ?_) (hR _ rfl)
    · rw [hmin]; omega
    · have : l = 2 ∨ l = 3 := by simpa using hl
      show l < 4
      omega
    · have hk : k < t.length := by rw [← hmin]; exact hk
      rw [getD_map dP t k (0, 0) .non hk, getD_tab _ _ _ _ hk]
      exact tg_2 rfl
    · exact et_test (ev_eqI (ev_ixT (ev_var rfl) ev_int rfl) (ev_neg ev_int))
    · exact ev_var rfl
    · rw [hmin]
    · have : t.length * (400 + 1) ≤ 10 * 401 := Nat.mul_le_mul hle (by decide)
      omega
    · unfold outF
      congr 1
      exact S_congr fun k _ => by simp⟩
def nm_best_of : List Str := ["problem", "structure", "found", "loads"]
theorem sc_best_of : FnScope nm_best_of ["problem", "structure"] (defScope (top 41)) := ⟨rfl, rfl, rfl, by decide +kernel, rfl, by decide +kernel, by decide +kernel⟩
theorem w_best_of (T : Tx L mg base) : Pr P w L.K mg base "best_of" 8 ["problem", "structure"] (spP L (fun a : Prob × List Pair => Fits a.1 a.2) (fun a => [dProb a.1, dStr a.2]) (fun a d => d = bestOf a.1 a.2)) :=
  have g_program_of := w_program_of (P := P) (w := w) T
  have g_outside_of := w_outside_of (P := P) (w := w) T
  pr_of T.best_of sc_best_of (by intro kV doc pm an cdv ct us h; match us, h with | [_, _], _ => rfl) (fun vs H Q E h => len_P (n := 2) (fun _ => rfl) h) fun f cdv A outer s H vs Q E HR h => ⟨_, (pss_cons (ps_set (i := 2) sc_best_of.nd rfl (Or.inl rfl) (pe_own g_program_of HR (by decide) (by rfl) (pa_cons (pv 0) (pa_cons (pv 1) pa_nil))))
    (pss_cons (ps_if (pt_cmpR op_ne (pe_ix ix_tup (pv 2) pe_int (fun _ _ => rfl)) pe_str (nomark _)) (pss_one (ps_ret pe_non)) pss_nil)
    (pss_cons (ps_set (i := 3) sc_best_of.nd rfl (Or.inl rfl) (pe_callTy call_tuple_of (by rfl) T.tuple_ (by decide +kernel) (pa_cons (pe_slice sl_list (pe_ix ix_tup (pv 2) pe_int (fun _ _ => rfl)) po_none (po_some (pe_callB call_len_seq (by rfl) T.len_ PySem.boot_len (pa_cons (pv 1) pa_nil)))) pa_nil)))
    (pss_one (ps_ret (pe_tup (pa_cons (pe_own g_outside_of HR (by decide) (by rfl) (pa_cons (pv 1) (pa_cons (pv 3) pa_nil))) (pa_cons (pv 3) pa_nil)))))))),
  start_P h fun a F rt' hp hM hW hR => by
    obtain ⟨p, t⟩ := a
    obtain ⟨hfit, ham, _, _⟩ := hp
    have hfit : Fit p t := hfit
    have ham : isNo (inOf p t) = false → ∀ k, k < t.length + (conds p t).length → Bit (amtF (inOf p t) (cF t) k) 400 := ham
    have hle := hfit.ht.le
    refine go_set (d := progD p t) (ev_own (p, t) (ea_cons (ev_var rfl) (ea_cons (ev_var rfl) ea_nil)) hfit fun x e => e) (show 2 < 4 by decide) ?_
    have hR := hR _ rfl
    cases hno : isNo (inOf p t) with
    | true =>
      have e1 : progD p t = .tup [.str "none", listD (inOf p t).m (priceNo (inOf p t))] := if_pos hno
      have e2 : bestOf p t = .non := if_pos hno
      have hR : RtOk L F rt' (bestOf p t) := hR
      rw [e2] at hR
      rw [e1]
      exact go_seq (go_if (b := true) (et_eq (et_test (ev_neS (ev_ixT (ev_var rfl) ev_int rfl) ev_str)) (by decide)) (fun _ => go_retE ev_non hR) fun e => by cases e)
    | false =>
      have e1 : progD p t = .tup [.str "best", listD (t.length + (conds p t).length) (amtF (inOf p t) (cF t)), listD (inOf p t).m (priceF (inOf p t) (cF t))] := if_neg (by rw [hno]; decide)
      have e2 : bestOf p t = .tup [rt (outP p t), .tup ((List.range t.length).map fun k => rt (amtF (inOf p t) (cF t) k))] := if_neg (by rw [hno]; decide)
      have hR : RtOk L F rt' (bestOf p t) := hR
      rw [e2] at hR
      rw [e1]
      refine go_guard (et_test (ev_neS (ev_ixT (ev_var rfl) ev_int rfl) ev_str)) (by decide) ?_
      refine go_set (d := .tup ((List.range t.length).map fun k => rt (amtF (inOf p t) (cF t) k))) (ev_cb (ea_cons (ev_eq (ev_slL (ev_ixT (ev_var rfl) ev_int rfl) eo_none (eo_some (i := (t.length : Int)) (ev_eq (ev_cb (ea_cons (ev_var rfl) ea_nil) (rn_len (by show some _ = some _; rfl))) (congrArg (fun z : Nat => D.int (z : Int)) (by simp))))) (congrArg D.lst (cut_tab _ (by omega)))) ea_nil) rn_tuple) (show 3 < 4 by decide) ?_
      exact go_retE (ev_tup (ea_cons (ev_own (t, amtF (inOf p t) (cF t)) (ea_cons (ev_var rfl) (ea_cons (ev_var rfl) ea_nil)) ⟨hle, fun k hk => ham hno k (by have : k < t.length := hk; omega)⟩ fun x e => e) (ea_cons (ev_var rfl) ea_nil)) (show 2 ≤ 100000 by decide)) hR⟩
def nm_best_loads : List Str := ["problem", "structure"]
theorem sc_best_loads : FnScope nm_best_loads ["problem", "structure"] (defScope (top 42)) := ⟨rfl, rfl, rfl, by decide +kernel, rfl, by decide +kernel, by decide +kernel⟩
theorem w_best_loads (T : Tx L mg base) : Pr P w L.K mg base "best_loads" 9 ["problem", "structure"] (spP L (fun a : Prob × List Pair => Fits a.1 a.2) (fun a => [dProb a.1, dStr a.2]) (fun a d => d = bestOf a.1 a.2)) :=
  have g_need_structure := w_need_structure (P := P) (w := w) T
  have g_best_of := w_best_of (P := P) (w := w) T
  pr_of T.best_loads sc_best_loads (by intro kV doc pm an cdv ct us h; match us, h with | [_, _], _ => rfl) (fun vs H Q E h => len_P (n := 2) (fun _ => rfl) h) fun f cdv A outer s H vs Q E HR h => ⟨_, (pss_cons (ps_expr (pe_own g_need_structure HR (by decide) (by rfl) (pa_cons (pv 0) (pa_cons (pv 1) pa_nil))))
    (pss_one (ps_ret (pe_own g_best_of HR (by decide) (by rfl) (pa_cons (pv 0) (pa_cons (pv 1) pa_nil)))))),
  start_P h fun a F rt' hp hM hW hR => by
    obtain ⟨p, t⟩ := a
    have hp : Fits p t := hp
    refine go_dropS (ev_own (p, t) (ea_cons (ev_var rfl) (ea_cons (ev_var rfl) ea_nil)) ⟨hp.hp, hp.ht⟩ fun x e => e) ?_
    exact go_retE (ev_own (p, t) (ea_cons (ev_var rfl) (ea_cons (ev_var rfl) ea_nil)) hp fun x e => e) (hR _ rfl)⟩
end
end Pw

/-! A list of own lists. -/
namespace Pw
open PySem L2
/-- slot i holds a list of lists that nothing else speaks of -/
def Mat (X : List Addr) (i : Nat) (ms : List (List D)) (T : List Addr) (σ : L2.St) (H : Hp) : Prop :=
  ∃ (P : Addr) (qs : List Addr), σ[i]? = some (some (.ref P)) ∧ H P = some (.lst (qs.map V.ref)) ∧ P ∉ qs ∧ qs.Nodup ∧ P ∈ X ∧ (∀ q ∈ qs, q ∈ X) ∧ qs.length = ms.length ∧ ∀ (j : Nat) q ds, qs[j]? = some q → ms[j]? = some ds → ∃ xs, H q = some (.lst xs) ∧ Ats (hide H T) ds xs
def GoM (L : Pm) (F : Frm) (E : Ends) (t : TS) (G : Ctx) (i : Nat) (ms : List (List D)) : Prop := ∀ X T σ H, Sh L G { F with X := X } T σ H → Mat X i ms T σ H → t E σ H
def NxM (L : Pm) (F : Frm) (N : L2.St → Hp → Prop) (G : Ctx) (i : Nat) (ms : List (List D)) : Prop := ∀ X T σ H, Sh L G { F with X := X } T σ H → Mat X i ms T σ H → N σ H
section
variable {L : Pm} {G : Ctx} {F : Frm} {E : Ends} {X T : List Addr} {σ σ' : L2.St} {H H2 : Hp} {i : Nat} {ms : List (List D)} {t u : TS}
theorem Mat.step (m : Mat X i ms T σ H) (s : Sh L G { F with X := X } T σ' H) (q : Step L { F with X := X } T H H2) : Mat X i ms T σ H2 := by
  obtain ⟨P, qs, h1, h2, h3, h4, h5, h6, h7, h8⟩ := m
  have keep : ∀ a, a ∈ X → H2 a = H a := fun a ha => q.same a (s.xs a ha).1 fun y => (s.xs a ha).2 (s.subM a y)
  refine ⟨P, qs, h1, by rw [keep P h5]; exact h2, h3, h4, h5, h6, h7, fun j q' ds e1 e2 => ?_⟩
  obtain ⟨xs, k1, k2⟩ := h8 j q' ds e1 e2
  exact ⟨xs, by rw [keep q' (h6 q' (List.mem_of_getElem? e1))]; exact k1, Ats.gr q.gr _ _ k2⟩
theorem Mat.sig (m : Mat X i ms T σ H) (h : σ'[i]? = σ[i]?) : Mat X i ms T σ' H := by
  obtain ⟨P, qs, h1, h2⟩ := m
  exact ⟨P, qs, by rw [h]; exact h1, h2⟩
theorem nodup_inj {α : Type} {l : List α} (h : l.Nodup) {i j : Nat} {a : α} (h1 : l[i]? = some a) (h2 : l[j]? = some a) : i = j := by
  obtain ⟨a1, a2⟩ := List.getElem?_eq_some_iff.mp h1
  obtain ⟨b1, b2⟩ := List.getElem?_eq_some_iff.mp h2
  have k := List.pairwise_iff_getElem.mp h
  rcases Nat.lt_trichotomy i j with z | z | z
  · exact absurd (a2.trans b2.symm) (k i j a1 b1 z)
  · exact z
  · exact absurd (b2.trans a2.symm) (k j i b1 a1 z)
theorem ats_refs {H : Hp} : ∀ (ms : List (List D)) (qs : List Addr), qs.length = ms.length → (∀ (j : Nat) (q : Addr) (ds : List D), qs[j]? = some q → ms[j]? = some ds → At H (.lst ds) (.ref q)) → Ats H (ms.map D.lst) (qs.map V.ref)
  | [], [], _, _ => ats_nil.mpr rfl
  | ds :: ms, q :: qs, e, ok => ats_cons' (ok 0 q ds rfl rfl) (ats_refs ms qs (Nat.succ.inj e) fun j q' ds' e1 e2 => ok (j + 1) q' ds' e1 e2)
/-- xs[a][b] = e -/
theorem gm_setII {te ta tb : TE} {a b : Nat} {d : D} {ds : List D} (he : Ev L te G d) (ha : Ev L ta G (.int (a : Int))) (hb : Ev L tb G (.int (b : Int))) (hm : ms[a]? = some ds) (hbl : b < ds.length) (k : NxM L F E.nx G i (ms.set a (ds.set b d))) :
    GoM L F E (tAsg te (gSub (tOp (rIxL L.K) (tVar i) ta) tb rSetL)) G i ms := fun X T σ H s m => by
  refine he { F with X := X } T σ H s _ fun d' v H2 pd s2 a2 => ?_
  subst pd
  have S2 := s.step s2
  have M2 := m.step s s2
  obtain ⟨P, qs0, g1, _⟩ := id M2
  refine ⟨.ref P, g1, ha { F with X := X } T σ H2 S2 _ fun z w H3 pz s3 a3 => ?_⟩
  subst pz
  have S3 := S2.step s3
  obtain ⟨P2, qs, h1, h2, h3, h4, h5, h6, h7, h8⟩ := M2.step S2 s3
  have eP : P = P2 := by rw [g1] at h1; cases h1; rfl
  subst eP
  have hal : a < ms.length := (List.getElem?_eq_some_iff.mp hm).1
  have hq : qs[a]? = some (qs[a]'(by omega)) := List.getElem?_eq_getElem _
  generalize qs[a]'(by omega) = q at hq
  refine ⟨P, qs.map V.ref, (a : Int), .ref q, rfl, at_int.mp a3, SqL.of h2, ?_, ?_⟩
  · unfold atI
    rw [ixN_nat (by rw [List.length_map]; omega), Option.bind_some, List.getElem?_map, hq]
    rfl
  refine hb { F with X := X } T σ H3 S3 _ fun z w H4 pz s4 a4 => ?_
  subst pz
  have S4 := S3.step s4
  obtain ⟨P', qs', h1', h2', h3', h4', h5', h6', h7', h8'⟩ := Mat.step ⟨P, qs, g1, h2, h3, h4, h5, h6, h7, h8⟩ S3 s4
  have eP : P = P' := by rw [g1] at h1'; cases h1'; rfl
  subst eP
  have eqs : qs' = qs := by
    have keepP : H4 P = H3 P := s4.same P (S3.xs P h5).1 fun y => (S3.xs P h5).2 (S3.subM P y)
    rw [keepP, h2] at h2'
    have e2 : qs.map V.ref = qs'.map V.ref := by
      generalize qs.map V.ref = A1 at h2'
      generalize qs'.map V.ref = A2 at h2'
      cases h2'
      rfl
    exact ((List.map_inj_right fun x y e => by cases e; rfl).mp e2).symm
  subst eqs
  obtain ⟨xs, k1, k2⟩ := h8' a q ds hq hm
  have hqX : q ∈ X := h6' q (List.mem_of_getElem? hq)
  have hqT : q ∈ T := (S4.xs q hqX).1
  refine ⟨q, xs, b, b, rfl, at_int.mp a4, k1, by unfold ixN; rw [k2.length, if_pos (by omega), if_pos (by omega)]; rfl, ?_⟩
  have e := hide_upd (H := H4) (T := T) (p := q) (o := .lst (xs.set b v)) hqT
  refine k X T σ _ (S4.grow (xs := xs.set b v) hqX) ⟨P, qs', g1, ?_, h3', h4', h5', h6', by rw [List.length_set]; exact h7', fun j q2 ds2 e1 e2 => ?_⟩
  · rw [upd_ne fun y => h3' (by rw [y]; exact List.mem_of_getElem? hq)]
    exact h2'
  · rw [e]
    by_cases z : j = a
    · subst z
      rw [hq] at e1
      cases e1
      rw [List.getElem?_set_self hal] at e2
      cases e2
      exact ⟨_, upd_same, k2.set b (At.gr (s3.gr.trans s4.gr) _ _ a2)⟩
    · rw [List.getElem?_set_ne (Ne.symm z)] at e2
      obtain ⟨ys, y1, y2⟩ := h8' j q2 ds2 e1 e2
      exact ⟨ys, by rw [upd_ne fun y => z (nodup_inj h4' e1 (by rw [y]; exact hq))]; exact y1, y2⟩
theorem gm_forE {wi : TI} {g : TG} {n : Nat} {item : Nat → D} (js : List Nat) (bd : Nat → List D) (C : Nat → Ctx → List (List D) → Prop) (hs : Src L wi G n item) (hij : i ∉ js) (c0 : C 0 G ms) (hg : ∀ k, k < n → Tg g (item k) js (bd k)) (hj : ∀ k G' ms', C k G' ms' → ∀ j ∈ js, j < G'.length)
    (hb : ∀ k, k < n → (bd k).length = js.length)
    (body : ∀ k G' ms' A' N, k < n → C k G' ms' → (∀ G'' ms'', C (k + 1) G'' ms'' → NxM L { F with A := A' } N G'' i ms'') → GoM L { F with A := A' } { E with nx := N, ct := N, bk := E.nx } t (setC G' (js.zip (bd k))) i ms') (done : ∀ G' ms', C n G' ms' → NxM L F E.nx G' i ms') :
    GoM L F E (tFor wi g t) G i ms := fun X T σ H s m => hs.run { F with X := X } T σ H s _ fun J H1 Gd Y n' item' p s1 w hG hY => by
  obtain ⟨e1, e2⟩ := p
  subst e1 e2
  have S1 := (s.step s1).anch
  refine for_it w (fun k σ' H' => ∃ G' ms' T' X', C k G' ms' ∧ Sh L G' { F with X := X', A := (H1, T) :: F.A } T' σ' H' ∧ Mat X' i ms' T' σ' H') ⟨G, ms, T, X, c0, S1, m.step s s1⟩ (fun k σ' H' _ ⟨G', ms', T', X', _, s', _⟩ => hG H' T' (s'.anc (H1, T) List.mem_cons_self)) ?_ ?_
  · rintro k x σ' H2 H3 hi ⟨G', ms', T', X', cc, s', m'⟩ y
    obtain ⟨s3, a3⟩ := hY k H2 x H3 _ _ _ _ hi (s'.anc (H1, T) List.mem_cons_self) s' y
    refine hg k hi T' σ' H3 x a3 _ fun us hu au => ?_
    refine body k G' ms' ((H1, T) :: F.A) _ hi cc (fun G'' ms'' c2 X2 T2 σ2 H4 s4 m4 => ⟨G'', ms'', T2, X2, c2, s4, m4⟩) X' T' _ H3 ((s'.step s3).setAll (hj k G' ms' cc) hu au) ((m'.step (F := { F with A := (H1, T) :: F.A }) s' s3).sig (setAll_get ?_))
    intro hmem
    obtain ⟨p, hp, e⟩ := List.mem_map.mp hmem
    exact hij (e ▸ (List.of_mem_zip hp).1)
  · rintro σ' H' ⟨G', ms', T', X', cc, s', m'⟩
    exact done G' ms' cc X' T' σ' H' (s'.unanch (F := { F with X := X' }) fun q hq => List.mem_cons_of_mem _ hq) m'
theorem gm_seq (h : GoM L F { E with nx := u E } t G i ms) : GoM L F E (tSeq t u) G i ms := h
/-- the lists are let be: data from now on -/
theorem Sh.freezeM (s : Sh L G { F with X := X } T σ H) (m : Mat X i ms T σ H) (hi : i < G.length) (hGi : G[i]? = some none) : ∃ X' T', Sh L (G.set i (some (.d (.lst (ms.map D.lst))))) { F with X := X' } T' σ H := by
  obtain ⟨P, qs, g1, g2, g3, g4, g5, g6, g7, g8⟩ := m
  have memT : ∀ a, a ∈ T.filter (fun a => decide (a ∉ P :: qs)) ↔ a ∈ T ∧ a ∉ P :: qs := fun a => by rw [List.mem_filter, decide_eq_true_iff]
  have memX : ∀ a, a ∈ X.filter (fun a => decide (a ∉ P :: qs)) ↔ a ∈ X ∧ a ∉ P :: qs := fun a => by rw [List.mem_filter, decide_eq_true_iff]
  generalize T.filter (fun a => decide (a ∉ P :: qs)) = T' at memT
  generalize X.filter (fun a => decide (a ∉ P :: qs)) = X' at memX
  have inX : ∀ a, a ∈ P :: qs → a ∈ X := fun a ha => (List.mem_cons.mp ha).elim (fun e => by rw [e]; exact g5) (g6 a)
  have nS : ∀ a, a ∈ F.S → a ∉ P :: qs := fun a ha hb => (s.xs a (inX a hb)).2 ha
  have g : Gr (hide H T) (hide H T') := Gr.show fun a ha => ((memT a).mp ha).1
  have other : ∀ (j : Nat) x, (G.set i (some (Ent.d (.lst (ms.map D.lst)))))[j]? = some (some x) → (j = i ∧ x = .d (.lst (ms.map D.lst))) ∨ (i ≠ j ∧ G[j]? = some (some x)) := fun j x q => by
    by_cases z : i = j
    · subst z
      rw [List.getElem?_set_self hi] at q
      cases q
      exact .inl ⟨rfl, rfl⟩
    · rw [List.getElem?_set_ne z] at q
      exact .inr ⟨z, q⟩
  have out : ∀ a, a ∈ P :: qs → hide H T' a = H a := fun a ha => hide_out fun y => ((memT a).mp y).2 ha
  refine ⟨X', T', by rw [List.length_set]; exact s.len, fun b hb => s.inT b ((memT b).mp hb).1, fun b hb => (memT b).mpr ⟨s.sub b hb, nS b hb⟩, s.subM, s.one, fun b hb hn => s.fresh b ((memT b).mp hb).1 hn, s.keep, fun b hb => (s.rows b hb).gr g rfl, s.gr.trans g, fun q hq => (s.anc q hq).trans g, s.held,
    fun b hb => ⟨(memT b).mpr ⟨(s.xs b ((memX b).mp hb).1).1, ((memX b).mp hb).2⟩, (s.xs b ((memX b).mp hb).1).2⟩, fun P hP => g.t P (s.tab P hP), fun j d q => ?_, fun j fs q => ?_, fun j k fs gs q e1 e2 e3 e4 => ?_, fun j q => ?_, fun j st q => ?_, fun j k st q st' q2 => ?_⟩
  · rcases other j _ q with ⟨z, z2⟩ | ⟨z, z2⟩
    · cases z2
      subst z
      refine ⟨.ref P, g1, at_lst.mpr ⟨P, qs.map V.ref, rfl, by rw [out P List.mem_cons_self]; exact g2, ?_⟩⟩
      have ok : ∀ (j : Nat) (q : Addr) (ds : List D), qs[j]? = some q → ms[j]? = some ds → At (hide H T') (.lst ds) (.ref q) := fun j q ds e1 e2 => by
        obtain ⟨xs, k1, k2⟩ := g8 j q ds e1 e2
        exact at_lst.mpr ⟨q, xs, rfl, by rw [out q (List.mem_cons_of_mem _ (List.mem_of_getElem? e1))]; exact k1, Ats.gr g _ _ k2⟩
      exact ats_refs ms qs g7 ok
    · obtain ⟨v, k1, k2⟩ := s.dat j d z2
      exact ⟨v, k1, At.gr g _ _ k2⟩
  · rcases other j _ q with ⟨z, z2⟩ | ⟨z, z2⟩
    · cases z2
    · obtain ⟨q1, zs, k1, k2, k3, k4, k5⟩ := s.own j fs z2
      exact ⟨q1, zs, k1, (memT q1).mpr ⟨k2, fun y => k3.2 (inX q1 y)⟩, ⟨k3.1, fun y => k3.2 ((memX q1).mp y).1⟩, k4, Ats.gr g _ _ k5⟩
  · rcases other j _ e1 with ⟨z, z2⟩ | ⟨z, z2⟩
    · cases z2
    · rcases other k _ e2 with ⟨y, y2⟩ | ⟨y, y2⟩
      · cases y2
      · exact s.inj j k fs gs q z2 y2 e3 e4
  · rcases other j _ q with ⟨z, z2⟩ | ⟨z, z2⟩
    · cases z2
    · exact s.row j z2
  · rcases other j _ q with ⟨z, z2⟩ | ⟨z, z2⟩
    · cases z2
    · obtain ⟨q1, R, B, h1, ⟨dx, sg, rv, a1, a2, a3, a4, a5, t1, t2, t3, t⟩, h3, h4, h5, h6, h6', h6''⟩ := s.prg j st z2
      exact ⟨q1, R, B, h1, ⟨dx, sg, rv, a1, At.gr g _ _ a2, a3, Ats.gr g _ _ a4, a5, (memT q1).mpr ⟨t1, fun z => h6 (inX _ z)⟩, (memT R).mpr ⟨t2, fun z => h6' (inX _ z)⟩, (memT B).mpr ⟨t3, fun z => h6'' (inX _ z)⟩, t⟩, h3, h4, h5, fun y => h6 ((memX _).mp y).1, fun y => h6' ((memX _).mp y).1, fun y => h6'' ((memX _).mp y).1⟩
  · rcases other j _ q with ⟨z, z2⟩ | ⟨z, z2⟩
    · cases z2
    · rcases other k _ q2 with ⟨y, y2⟩ | ⟨y, y2⟩
      · cases y2
      · exact s.px j k st z2 st' y2
theorem nm_freeze {N : L2.St → Hp → Prop} (hi : i < G.length) (hGi : G[i]? = some none) (k : ∀ X', Nx L { F with X := X' } N (G.set i (some (.d (.lst (ms.map D.lst)))))) : NxM L F N G i ms := fun X T σ H s m => by
  obtain ⟨X', T', s'⟩ := s.freezeM m hi hGi
  exact k X' T' σ H s'
end
section
variable {L : Pm} {G : Ctx} {F : Frm} {E : Ends} {i : Nat}
/-- xs = [[..] for ..], and these will be changed -/
theorem go_setLcM {wi : TI} {g : TG} {ta : TA} {vs js : List Nat} {n : Nat} {item : Nat → D} {bd : Nat → List D} {ds : List D} (hs : Src L wi G n item) (hn : n ≤ 50000) (hv : ∀ j ∈ vs, j < G.length) (hjs : ∀ j ∈ js, j ∈ vs)
    (hg : ∀ i, i < n → Tg g (item i) js (bd i)) (hl : ds.length ≤ 100000) (he : ∀ i, i < n → EvA L ta (setC (wipeC G vs) (js.zip (bd i))) ds)
    (hi : i < G.length) (k : NxM L F E.nx (G.set i none) i (List.replicate n ds)) : Go L F E (tAsg (tLc wi g tYes (tLst ta) vs) (gName i)) G := fun T σ H s => hs.run F T σ H s _ fun J H1 Gd Y n' item' p s1 w hG hY Dl hD => by
  obtain ⟨rfl, rfl⟩ := p
  have S1 := s.step s1
  have nT := S1.newT hD
  have M0 := S1.make (u := .lst []) hD nt_lst
  have e0 : hide (upd H1 Dl (.lst [])) (Dl :: T) = hide H1 T := by
    funext a
    by_cases z : a = Dl
    · subst z
      rw [hide_in List.mem_cons_self, hide_out nT, hD]
    · by_cases y : a ∈ T
      · rw [hide_in (List.mem_cons_of_mem _ y), hide_in y]
      · rw [hide_out (fun x => (List.mem_cons.mp x).elim z y), hide_out y, upd_ne z]
  refine lc_it w (fun i H' => ∃ (qs : List Addr) (X' T' : List Addr), Sh L G { F with X := X' } T' σ H' ∧ Gr (hide H1 T) (hide H' T') ∧ H' Dl = some (.lst (qs.map V.ref)) ∧ Dl ∉ qs ∧ qs.Nodup ∧ Dl ∈ X' ∧ (∀ q ∈ qs, q ∈ X') ∧ qs.length = i ∧ ∀ q ∈ qs, ∃ xs, H' q = some (.lst xs) ∧ Ats (hide H' T') ds xs)
    ⟨[], _, _, M0, by rw [e0]; exact Gr.refl _, upd_same, List.not_mem_nil, List.nodup_nil, List.mem_cons_self, fun q hq => absurd hq List.not_mem_nil, rfl, fun q hq => absurd hq List.not_mem_nil⟩ (fun i H' _ ⟨qs, X', T', p1, p2, _⟩ => hG H' T' p2) ?_ ?_
  · rintro i x H2 H3 hi ⟨qs, X', T', p1, p2, p3, p4, p5, p6, p7, p8, p9⟩ y
    obtain ⟨s3, a3⟩ := hY i H2 x H3 _ _ _ _ hi p2 p1 y
    have P3 := p1.step s3
    refine hg i hi _ _ _ _ a3 _ fun us hu au => ⟨wipe_setAll hjs, ?_⟩
    have W3 : Sh L (setC (wipeC G vs) (js.zip (bd i))) _ _ _ H3 := (P3.wipe hv).setAll (fun j hj => by rw [wipeC_length]; exact hv j (hjs j hj)) hu au
    refine et_yes _ _ _ _ W3 _ fun b H0 eb s0 => ?_
    subst eb
    rw [if_pos rfl]
    refine he i hi _ _ _ _ (W3.step s0) _ fun es zs H4 ed s4' a4 => ?_
    subst ed
    have s4 := s0.trans s4'
    refine ⟨by rw [a4.length]; exact szl hl, fun q hq => ?_⟩
    have s34 := s3.trans s4
    have P4 := p1.step s34
    have keep : ∀ a, a ∈ X' → H4 a = H2 a := fun a ha => s34.same a (p1.xs a ha).1 fun y => (p1.xs a ha).2 (p1.subM a y)
    have qT := P4.newT hq
    have qX : q ∉ X' := fun y => qT (P4.xs q y).1
    have qD : Dl ≠ q := fun y => qX (by rw [← y]; exact p6)
    have P5 := P4.make (u := .lst zs) hq nt_lst
    have DT : Dl ∈ q :: T' := List.mem_cons_of_mem _ (p1.xs Dl p6).1
    have P6 := P5.grow (p := Dl) (xs := (qs ++ [q]).map V.ref) (List.mem_cons_of_mem _ p6)
    have e5 : hide (upd H4 q (.lst zs)) (q :: T') = hide H4 T' := by
      funext a
      by_cases z : a = q
      · subst z
        rw [hide_in List.mem_cons_self, hide_out qT, hq]
      · by_cases y : a ∈ T'
        · rw [hide_in (List.mem_cons_of_mem _ y), hide_in y]
        · rw [hide_out (fun x => (List.mem_cons.mp x).elim z y), hide_out y, upd_ne z]
    have e6 : hide (upd (upd H4 q (.lst zs)) Dl (.lst ((qs ++ [q]).map V.ref))) (q :: T') = hide H4 T' := by
      rw [hide_upd DT, e5]
    refine ⟨qs.map V.ref, by rw [upd_ne qD, keep Dl p6]; exact p3, by rw [List.length_map, p8]; exact szlt (Nat.lt_of_lt_of_le hi (by omega)), ?_⟩
    rw [show qs.map V.ref ++ [V.ref q] = (qs ++ [q]).map V.ref by rw [List.map_append]; rfl]
    refine ⟨qs ++ [q], q :: X', q :: T', P6, by rw [e6]; exact p2.trans s34.gr, upd_same, ?_, ?_, List.mem_cons_of_mem _ p6, ?_, by rw [List.length_append, p8]; rfl, ?_⟩
    · intro h
      rcases List.mem_append.mp h with h | h
      · exact p4 h
      · exact qD (List.mem_singleton.mp h)
    · refine List.nodup_append.mpr ⟨p5, List.nodup_cons.mpr ⟨List.not_mem_nil, List.nodup_nil⟩, fun a ha b hb e => ?_⟩
      rw [List.mem_singleton.mp hb] at e
      exact qX (by rw [← e]; exact p7 a ha)
    · intro a ha
      rcases List.mem_append.mp ha with ha | ha
      · exact List.mem_cons_of_mem _ (p7 a ha)
      · rw [List.mem_singleton.mp ha]
        exact List.mem_cons_self
    · intro a ha
      rw [e6]
      rcases List.mem_append.mp ha with ha | ha
      · obtain ⟨xs, k1, k2⟩ := p9 a ha
        refine ⟨xs, ?_, Ats.gr s34.gr _ _ k2⟩
        rw [upd_ne (fun y => p4 (by rw [← y]; exact ha)), upd_ne (fun y => qX (by rw [← y]; exact p7 a ha)), keep a (p7 a ha)]
        exact k1
      · rw [List.mem_singleton.mp ha]
        exact ⟨zs, by rw [upd_ne (Ne.symm qD), upd_same], a4⟩
  · rintro H' ⟨qs, X', T', p1, p2, p3, p4, p5, p6, p7, p8, p9⟩
    refine k X' T' _ H' (p1.drop _ hi) ⟨Dl, qs, List.getElem?_set_self (by rw [s.len]; exact hi), p3, p4, p5, p6, p7, by rw [p8, List.length_replicate], fun j q es e1 e2 => ?_⟩
    obtain ⟨xs, k1, k2⟩ := p9 q (List.mem_of_getElem? e1)
    have : es = ds := by
      have := List.mem_of_getElem? e2
      exact (List.mem_replicate.mp this).2
    rw [this]
    exact ⟨xs, k1, k2⟩
end
end Pw

/-! The walk: load_paper, weights_of. -/
namespace Pw
open PySem L2 PyProof.Rows
/-- the prices found -/
noncomputable def prF (p : Prob) (t : List Pair) (j : Nat) : Rat := if isNo (inOf p t) = true then priceNo (inOf p t) j else priceF (inOf p t) (cF t) j
/-- the weights of the first n conditions, at their places -/
noncomputable def wTo (p : Prob) (t : List Pair) : Nat → Nat → Nat → Rat
  | 0, _, _ => 0
  | n + 1, a, s => if a = ((conds p t).getD n noC).at_ ∧ s = n % 2 then prF p t (p.ss.length + n) else wTo p t n a s
noncomputable def wF (p : Prob) (t : List Pair) : Nat → Nat → Rat := wTo p t (conds p t).length
def pairD (W : Nat → Nat → Rat) (a : Nat) : List D := [rt (W a 0), rt (W a 1)]
def pairsD (n : Nat) (W : Nat → Nat → Rat) : D := .tup ((List.range n).map fun a => .tup (pairD W a))
def firstD (n : Nat) (f : Nat → Rat) : D := .tup ((List.range n).map fun j => rt (f j))
noncomputable def paperD (p : Prob) (t : List Pair) : D := .tup [.bl (!isNo (inOf p t)), firstD p.ss.length (fun j => -prF p t j), pairsD t.length (wF p t)]
theorem neg_rt (q : Rat) : D.tup [.int (0 - q.num), .int (q.den : Int)] = rt (-q) := by
  show _ = D.tup [.int (-q).num, .int ((-q).den : Int)]
  rw [Rat.neg_num, Rat.neg_den, Int.zero_sub]
theorem go_setLcMS {L : Pm} {G : Ctx} {F : Frm} {E : Ends} {i : Nat} {u : TS} {wi : TI} {g : TG} {ta : TA} {vs js : List Nat} {n : Nat} {item : Nat → D} {bd : Nat → List D} {ds : List D} (hs : Src L wi G n item) (hn : n ≤ 50000) (hv : ∀ j ∈ vs, j < G.length) (hjs : ∀ j ∈ js, j ∈ vs)
    (hg : ∀ i, i < n → Tg g (item i) js (bd i)) (hl : ds.length ≤ 100000) (he : ∀ i, i < n → EvA L ta (setC (wipeC G vs) (js.zip (bd i))) ds)
    (hi : i < G.length) (k : GoM L F E u (G.set i none) i (List.replicate n ds)) : Go L F E (tSeq (tAsg (tLc wi g tYes (tLst ta) vs) (gName i)) u) G := go_seq (go_setLcM hs hn hv hjs hg hl he hi k)
theorem gm_forS {L : Pm} {G : Ctx} {F : Frm} {E : Ends} {i : Nat} {ms : List (List D)} {t u : TS} {wi : TI} {g : TG} {n : Nat} {item : Nat → D} (js : List Nat) (bd : Nat → List D) (C : Nat → Ctx → List (List D) → Prop) (hs : Src L wi G n item) (hij : i ∉ js) (c0 : C 0 G ms) (hg : ∀ k, k < n → Tg g (item k) js (bd k)) (hj : ∀ k G' ms', C k G' ms' → ∀ j ∈ js, j < G'.length)
    (hb : ∀ k, k < n → (bd k).length = js.length)
    (body : ∀ k G' ms' A' N (E' : Ends), k < n → C k G' ms' → (∀ G'' ms'', C (k + 1) G'' ms'' → NxM L { F with A := A' } N G'' i ms'') → E'.nx = N → GoM L { F with A := A' } E' t (setC G' (js.zip (bd k))) i ms') (done : ∀ G' ms', C n G' ms' → GoM L F E u G' i ms') :
    GoM L F E (tSeq (tFor wi g t) u) G i ms := gm_seq (gm_forE js bd C hs hij c0 hg hj hb (fun k G' ms' A' N hk hc hN => body k G' ms' A' N _ hk hc hN rfl) done)
theorem gm_freeze {L : Pm} {G : Ctx} {F : Frm} {E : Ends} {i : Nat} {ms : List (List D)} {t : TS} (hi : i < G.length) (hGi : G[i]? = some none) (k : ∀ X', Go L { F with X := X' } E t (G.set i (some (.d (.lst (ms.map D.lst)))))) : GoM L F E t G i ms := fun X T σ H s m => by
  obtain ⟨X', T', s'⟩ := s.freezeM m hi hGi
  exact k X' T' σ H s'
theorem mat_step (n : Nat) (W W2 : Nat → Nat → Rat) (a s : Nat) (q : Rat) (ha : a < n) (hs : s < 2) (h : ∀ b r, W2 b r = if b = a ∧ r = s then q else W b r) : ((List.range n).map (pairD W)).set a ((pairD W a).set s (rt q)) = (List.range n).map (pairD W2) := by
  refine List.ext_getElem (by simp) fun i h1 h2 => ?_
  have hi : i < n := by simpa using h2
  rw [List.getElem_set]
  by_cases z : a = i
  · subst z
    rw [if_pos rfl, List.getElem_map, List.getElem_range]
    have : s = 0 ∨ s = 1 := by omega
    unfold pairD
    rw [h a 0, h a 1]
    rcases this with e | e
    · subst e
      rw [if_pos ⟨rfl, rfl⟩, if_neg (by omega)]
      rfl
    · subst e
      rw [if_neg (by omega), if_pos ⟨rfl, rfl⟩]
      rfl
  · rw [if_neg z, List.getElem_map, List.getElem_map, List.getElem_range]
    unfold pairD
    rw [h i 0, h i 1, if_neg (by omega), if_neg (by omega)]
theorem conds_few {p : Prob} {t : List Pair} (ht : StrOk p t) : (conds p t).length ≤ 20 := by
  have : ∀ n, (condsTo p t n).length ≤ 2 * n := fun n => by
    induction n with
    | zero => exact Nat.le_refl _
    | succ n ih =>
      show (condsTo p t n ++ condsOf p t n).length ≤ _
      rw [List.length_append]
      have : (condsOf p t n).length ≤ 2 := by
        unfold condsOf
        split
        · exact Nat.le_refl _
        · exact Nat.zero_le _
      omega
  have := this t.length
  have := ht.le
  show (condsTo p t t.length).length ≤ 20
  omega
theorem conds_at {p : Prob} {t : List Pair} {k : Nat} (h : k < (conds p t).length) : ((conds p t).getD k noC).at_ < t.length := (condsTo_fs p t t.length _ (getD_mem _ k noC h)).2
section
variable {P : Program} {w : World} {L : Pm} {mg : Str → Option Value} {base : Heap}
def nm_load_paper : List Str := ["problem", "structure", "found", "many", "is_found", "prices", "first", "one", "pairs", "pair", "k", "at", "factors", "side"]
theorem sc_load_paper : FnScope nm_load_paper ["problem", "structure"] (defScope (top 43)) := ⟨rfl, rfl, rfl, by decide +kernel, rfl, by decide +kernel, by decide +kernel⟩
theorem w_load_paper (T : Tx L mg base) : Pr P w L.K mg base "load_paper" 8 ["problem", "structure"] (spP L (fun a : Prob × List Pair => Fits a.1 a.2) (fun a => [dProb a.1, dStr a.2]) (fun a d => d = paperD a.1 a.2)) :=
  have g_program_of := w_program_of (P := P) (w := w) T
  have g_need_structure := w_need_structure (P := P) (w := w) T
  have g_conditions_of := w_conditions_of (P := P) (w := w) T
  pr_of T.load_paper sc_load_paper (by intro kV doc pm an cdv ct us h; match us, h with | [_, _], _ => rfl) (fun vs H Q E h => len_P (n := 2) (fun _ => rfl) h) fun f cdv A outer s H vs Q E HR h => ⟨_, (pss_cons (ps_expr (pe_own g_need_structure HR (by decide) (by rfl) (pa_cons (pv 0) (pa_cons (pv 1) pa_nil))))
    (pss_cons (ps_par (i := 2) (j := 3) (by rfl) sc_load_paper.nd rfl rfl (by decide) rfl rfl (pa_cons (pe_own g_program_of HR (by decide) (by rfl) (pa_cons (pv 0) (pa_cons (pv 1) pa_nil))) (pa_cons (pe_callB call_len_seq (by rfl) T.len_ PySem.boot_len (pa_cons (pe_ix ix_tup (pv 0) pe_int (fun _ _ => rfl)) pa_nil)) pa_nil)) (by rfl))
    (pss_cons (ps_set (i := 4) sc_load_paper.nd rfl (Or.inl rfl) (pe_cmpR op_eq (pe_ix ix_tup (pv 2) pe_int (fun _ _ => rfl)) pe_str (nomark _)))
    (pss_cons (ps_set (i := 5) sc_load_paper.nd rfl (Or.inl rfl) (pe_ifExp (pt_val (pv 4)) (pe_ix ix_tup (pv 2) pe_int (fun _ _ => rfl)) (pe_ix ix_tup (pv 2) pe_int (fun _ _ => rfl))))
    (pss_cons (ps_set (i := 6) sc_load_paper.nd rfl (Or.inl rfl) (pe_callTy call_tuple_of (by rfl) T.tuple_ (by decide +kernel) (pa_cons (pe_lc (own := [("one", 7)]) (g := (gName 7)) (tt := tYes) (te := (tTup (tCons (tOp (rI0 fun i j => .int (i - j)) (tC (.int 0)) (tOp (rIxT L.K) (tVar 7) (tC (.int 0)))) (tCons (tOp (rIxT L.K) (tVar 7) (tC (.int 1))) tNil)))) (by rfl) sc_load_paper.nd (pi_list (pe_slice sl_list (pv 5) po_none (po_some (pv 3)))) (blkOk_by (own := [("one", 7)]) (N := nm_load_paper) (sc := (defScope (top 43))) (by decide +kernel)) (fun _ _ _ _ _ => (pg_name (i := 7) sc_load_paper.nd rfl (.inl rfl))) (fun _ _ _ _ _ => pts_nil) (fun _ _ _ _ _ => (pe_tup (pa_cons (pe_op op_sub pe_int (pe_ix ix_tup (pv 7) pe_int (fun _ _ => rfl))) (pa_cons (pe_ix ix_tup (pv 7) pe_int (fun _ _ => rfl)) pa_nil))))) pa_nil)))
    (pss_cons (ps_setLc (i := 8) (own := [("pair", 9)]) (g := (gName 9)) (tt := tYes) (te := (tLst (tCons (tTup (tCons (tC (.int 0)) (tCons (tC (.int 1)) tNil))) (tCons (tTup (tCons (tC (.int 0)) (tCons (tC (.int 1)) tNil))) tNil)))) (by rfl) sc_load_paper.nd rfl rfl (sw_true rfl rfl rfl (by decide +kernel)) (pi_tup (pv 1)) (blkOk_by (own := [("pair", 9)]) (N := nm_load_paper) (sc := (defScope (top 43))) (by decide +kernel)) (fun _ _ _ _ _ => (pg_name (i := 9) sc_load_paper.nd rfl (.inl rfl))) (fun _ _ _ _ _ => pts_nil) (fun _ _ _ _ _ => (pe_lst (pa_cons (pe_tup (pa_cons pe_int (pa_cons pe_int pa_nil))) (pa_cons (pe_tup (pa_cons pe_int (pa_cons pe_int pa_nil))) pa_nil)))))
    (pss_cons (ps_for PassesOwn.never rfl (pi_enum (by rfl) T.enumerate_ (pa_cons (pe_own g_conditions_of HR (by decide) (by rfl) (pa_cons (pv 0) (pa_cons (pv 1) pa_nil))) pa_nil)) (pg_tup (by rfl) (pgs_cons (pg_name (i := 10) sc_load_paper.nd rfl (.inl rfl)) (pgs_cons (pg_tup (by rfl) (pgs_cons (pg_name (i := 11) sc_load_paper.nd rfl (.inl rfl)) (pgs_cons (pg_name (i := 12) sc_load_paper.nd rfl (.inl rfl)) (pgs_cons (pg_name (i := 13) sc_load_paper.nd rfl (.inl rfl)) pgs_nil)))) pgs_nil))) (pss_one (ps_asg (pe_ix ix_list (pv 5) (pe_op op_add (pv 3) (pv 10)) (fun _ _ => rfl)) (pg_sub (pe_ix ix_list (pv 8) (pv 11) (fun _ _ => rfl)) (pe_op op_mod (pv 10) pe_int) set_list (fun _ => rfl)))))
    (pss_one (ps_ret (pe_tup (pa_cons (pv 4) (pa_cons (pv 6) (pa_cons (pe_callTy call_tuple_of (by rfl) T.tuple_ (by decide +kernel) (pa_cons (pe_lc (own := [("one", 7)]) (g := (gName 7)) (tt := tYes) (te := (tCB (fun xs H Q => ∃ p ys, xs = [.ref p] ∧ ((SqL L.K H p ys ∧ ∀ l, H l = none → Q (.ref l) (upd H l (.tup ys))) ∨ (SqT L.K H p ys ∧ Q (.ref p) H))) (tCons (tVar 7) tNil))) (by rfl) sc_load_paper.nd (pi_list (pv 8)) (blkOk_by (own := [("one", 7)]) (N := nm_load_paper) (sc := (defScope (top 43))) (by decide +kernel)) (fun _ _ _ _ _ => (pg_name (i := 7) sc_load_paper.nd rfl (.inl rfl))) (fun _ _ _ _ _ => pts_nil) (fun _ _ _ _ _ => (pe_callTy call_tuple_of (by rfl) T.tuple_ (by decide +kernel) (pa_cons (pv 7) pa_nil)))) pa_nil)) pa_nil))))))))))))),
  start_P h fun a F rt' hp hM hW hR => by
    obtain ⟨p, t⟩ := a
    have hp : Fits p t := hp
    have hfit := hp.toFit
    have hle := hfit.ht.le
    have hse := hfit.hp.le
    have hnc := conds_few hfit.ht
    have hlt : (t.map dP).length = t.length := List.length_map ..
    have hls : (p.ss.map dS).length = p.ss.length := List.length_map ..
    have hlc : ((conds p t).map dC).length = (conds p t).length := List.length_map ..
    have hR := hR _ rfl
    have hR : RtOk L F rt' (paperD p t) := hR
    refine go_dropS (ev_own (p, t) (ea_cons (ev_var rfl) (ea_cons (ev_var rfl) ea_nil)) ⟨hfit.hp, hfit.ht⟩ fun x e => e) ?_
    refine go_parS (x := progD p t) (y := .int (p.ss.length : Int)) (ea_cons (ev_own (p, t) (ea_cons (ev_var rfl) (ea_cons (ev_var rfl) ea_nil)) hfit fun x e => e) (ea_cons (ev_eq (ev_cb (ea_cons (ev_ixT (ev_var rfl) ev_int rfl) ea_nil) (rn_len (by show some _ = some _; rfl))) (congrArg (fun z : Nat => D.int (z : Int)) hls)) ea_nil)) (show 2 < 14 by decide) (show 3 < 14 by decide) ?_
    have hm : (inOf p t).m = p.ss.length + (conds p t).length := rfl
    have hprD : ∃ x, progD p t = .tup (.str (if isNo (inOf p t) = true then "none" else "best") :: x) ∧ atI (D.str (if isNo (inOf p t) = true then "none" else "best") :: x) (if isNo (inOf p t) = true then 1 else 2) = some (listD (inOf p t).m (prF p t)) ∧ atI (D.str (if isNo (inOf p t) = true then "none" else "best") :: x) 0 = some (D.str (if isNo (inOf p t) = true then "none" else "best")) := by
      unfold progD solvedD prF
      cases isNo (inOf p t) with
      | true => exact ⟨_, rfl, rfl, rfl⟩
      | false => exact ⟨_, rfl, rfl, rfl⟩
    obtain ⟨xx, hx1, hx2, hx3⟩ := hprD
    rw [hx1]
    refine go_set (d := .bl (!isNo (inOf p t))) (ev_eq (ev_eqS' (ev_ixT (ev_var rfl) ev_int hx3) ev_str) ?_) (show 4 < 14 by decide) ?_
    · cases isNo (inOf p t) with
      | true => exact congrArg D.bl (by decide)
      | false => exact congrArg D.bl (by decide)
    refine go_set (d := listD (inOf p t).m (prF p t)) (ev_eq (ev_if (et_B (ev_var rfl)) (fun e => ev_ixT (d := listD (inOf p t).m (prF p t)) (ev_var rfl) ev_int ?_) fun e => ev_ixT (d := listD (inOf p t).m (prF p t)) (ev_var rfl) ev_int ?_) ?_) (show 5 < 14 by decide) ?_
    · have e : isNo (inOf p t) = false := by
        cases h : isNo (inOf p t) with
        | true => rw [h] at e; cases e
        | false => rfl
      rw [e] at hx2 ⊢
      exact hx2
    · have e : isNo (inOf p t) = true := by
        cases h : isNo (inOf p t) with
        | true => rfl
        | false => rw [h] at e; cases e
      rw [e] at hx2 ⊢
      exact hx2
    · exact ite_self _
    refine go_set (d := firstD p.ss.length (fun j => -prF p t j)) (ev_cb (ea_cons (ev_eq (ev_lc (js := [7]) (bd := fun k => [rt (prF p t k)]) (f := fun _ => true) (out := fun k => rt (-prF p t k)) (src_list (ds := (List.range p.ss.length).map fun k => rt (prF p t k)) (ev_eq (ev_slL (ev_var rfl) eo_none (eo_some (ev_var rfl))) (congrArg D.lst (cut_tab _ (by omega))))) ?_ (fun l hl => ?_) (fun l hl => hl) (fun k hk => ?_) (fun k hk => et_yes) (fun k hk _ => ?_)) ?_) ea_nil) rn_tuple) (show 6 < 14 by decide) ?_
    · simp; omega
    · rw [List.mem_singleton.mp hl]; exact (show 7 < 14 by decide)
    · have hk : k < p.ss.length := by simpa using hk
      rw [getD_tab _ _ _ _ hk]
      exact tg_name
    · exact ev_eq (ev_tup (ea_cons (ev_I0 ev_int (ev_ixT (ev_var rfl) ev_int rfl)) (ea_cons (ev_ixT (ev_var rfl) ev_int rfl) ea_nil)) (show 2 ≤ 100000 by decide)) (neg_rt _)
    · rw [given_all]; simp
    refine go_setLcMS (ds := [rt 0, rt 0]) (js := [9]) (bd := fun k => [dP (t.getD k (0, 0))]) (src_tup (ev_var rfl)) (by rw [hlt]; omega) (fun l hl => ?_) (fun l hl => hl) (fun k hk => ?_) (show 2 ≤ 100000 by decide) (fun k hk => ea_cons (ev_tup (ea_cons ev_int (ea_cons ev_int ea_nil)) (show 2 ≤ 100000 by decide)) (ea_cons (ev_tup (ea_cons ev_int (ea_cons ev_int ea_nil)) (show 2 ≤ 100000 by decide)) ea_nil)) (show 8 < 14 by decide) ?_
    · rw [List.mem_singleton.mp hl]; exact (show 9 < 14 by decide)
    · have hk : k < t.length := by simpa using hk
      rw [getD_map dP t k (0, 0) .non hk]
      exact tg_name
    rw [hlt]
    refine gm_forS (n := ((conds p t).map dC).length) (item := fun i => .tup [.int (i : Int), ((conds p t).map dC).getD i .non]) [10, 11, 12, 13] (fun i => [.int (i : Int), .int (((conds p t).getD i noC).at_ : Int), .lst (((conds p t).getD i noC).fs.map D.int), .int ((conds p t).getD i noC).side])
      (fun n G' ms' => ms' = (List.range t.length).map (pairD (wTo p t n)) ∧ ∃ o7 o9 o10 o11 o12 o13, G' = [some (.d (dProb p)), some (.d (dStr t)), some (.d (.tup (.str (if isNo (inOf p t) = true then "none" else "best") :: xx))), some (.d (.int (p.ss.length : Int))), some (.d (.bl (!isNo (inOf p t)))), some (.d (listD (inOf p t).m (prF p t))), some (.d (firstD p.ss.length (fun j => -prF p t j))), dn o7, none, dn o9, dn o10, dn o11, dn o12, dn o13])
      ?_ (by decide) ⟨?_, none, none, none, none, none, none, rfl⟩ (fun i hi => ?_) (fun i G' ms' hc j hj => ?_) (fun i hi => rfl) (fun i G' ms' A' N E' hi hc hN e1 => ?_) (fun G' ms' hc => ?_)
    · exact src_enum (ea_cons (ev_own (p, t) (ea_cons (ev_var rfl) (ea_cons (ev_var rfl) ea_nil)) ⟨hfit.hp, hfit.ht⟩ fun x e => e) ea_nil)
    · refine List.ext_getElem (by simp) fun i h1 h2 => ?_
      rw [List.getElem_replicate, List.getElem_map]
      rfl
    · have hi : i < (conds p t).length := by simpa using hi
      show Tg _ (.tup [.int (i : Int), ((conds p t).map dC).getD i .non]) _ _
      rw [getD_map dC (conds p t) i noC .non hi]
      exact tg_13 rfl rfl
    · obtain ⟨_, o7, o9, o10, o11, o12, o13, rfl⟩ := hc
      have : j = 10 ∨ j = 11 ∨ j = 12 ∨ j = 13 := by simpa using hj
      show j < 14
      omega
    · obtain ⟨rfl, o7, o9, o10, o11, o12, o13, rfl⟩ := hc
      have hi : i < (conds p t).length := by simpa using hi
      have hat := conds_at hi
      refine gm_setII (a := ((conds p t).getD i noC).at_) (b := i % 2) (ds := pairD (wTo p t i) ((conds p t).getD i noC).at_) (d := rt (prF p t (p.ss.length + i))) (ev_ixL (ev_var rfl) (ev_I0 (ev_var rfl) (ev_var rfl)) ?_) (ev_var rfl) ?_ ?_ ?_ ?_
      · rw [show (p.ss.length : Int) + (i : Int) = ((p.ss.length + i : Nat) : Int) by omega]
        exact atI_tab _ _ _ (by omega)
      · exact ev_eq (ev_I (ev_var rfl) ev_int (by show (0 : Int) < 2; decide)) (congrArg D.int (show (i : Int) % 2 = ((i % 2 : Nat) : Int) by omega))
      · rw [List.getElem?_map, List.getElem?_range hat]
        rfl
      · show i % 2 < 2
        omega
      · rw [e1]
        refine hN _ _ ⟨?_, o7, o9, some (.int (i : Int)), some (.int (((conds p t).getD i noC).at_ : Int)), some (.lst (((conds p t).getD i noC).fs.map D.int)), some (.int ((conds p t).getD i noC).side), rfl⟩
        exact mat_step _ _ _ _ _ _ hat (by omega) fun b r => rfl
    · obtain ⟨rfl, o7, o9, o10, o11, o12, o13, rfl⟩ := hc
      refine gm_freeze (show 8 < 14 by decide) rfl fun X' => ?_
      refine go_retE (d := paperD p t) (ev_tup (ea_cons (ev_var rfl) (ea_cons (ev_var rfl) (ea_cons (ev_cb (ea_cons (ev_eq (ev_lc (js := [7]) (bd := fun k => [.lst (pairD (wF p t) k)]) (f := fun _ => true) (out := fun k => .tup (pairD (wF p t) k)) (src_list (ev_var rfl)) ?_ (fun l hl => ?_) (fun l hl => hl) (fun k hk => ?_) (fun k hk => et_yes) (fun k hk _ => ev_cb (ea_cons (ev_var rfl) ea_nil) rn_tuple)) ?_) ea_nil) rn_tuple) ea_nil))) (show 3 ≤ 100000 by decide)) hR
      · simp; omega
      · rw [List.mem_singleton.mp hl]; exact (show 7 < 14 by decide)
      · have hk : k < t.length := by simpa using hk
        rw [hlc, List.map_map, getD_tab _ _ _ _ hk]
        exact tg_name
      · rw [given_all]; simp⟩
end
end Pw

/-! The walk: weights_of, are_weights. -/
namespace Pw
open PySem L2 PyProof.Rows
abbrev sp_is_ratio (L : Pm) : Sp := spP L (fun _ : D => True) (fun a => [a]) (fun a d => d = .bl (isRt a))
def nneg : D → Bool
  | .tup (.int a :: _) => decide (0 ≤ a)
  | _ => false
def zz : D := .tup [rt 0, rt 0]
/-- a pair of weights at a pair of streams -/
def okW (q : Pair) : D → Bool
  | .tup [x, y] => ((isRt x && nneg x) && (isRt y && nneg y)) && !(decide (-1 ∈ [q.1, q.2]) && !dEq (.tup [x, y]) zz)
  | _ => false
def isWts (t : List Pair) : D → Bool
  | .tup ds => decide (ds.length = t.length) && (List.range t.length).all fun k => okW (t.getD k (0, 0)) (ds.getD k .non)
  | _ => false
theorem isRt_ex {d : D} (h : isRt d = true) : ∃ q, d = rt q := by
  unfold isRt at h
  split at h
  · rename_i a b
    rw [Bool.and_eq_true, decide_eq_true_iff, decide_eq_true_iff] at h
    obtain ⟨h1, h2⟩ := h
    refine ⟨⟨a, b.toNat, by omega, ?_⟩, ?_⟩
    · show Nat.gcd a.natAbs b.toNat = 1
      rw [show b.toNat = b.natAbs by omega]
      exact h2
    · show _ = D.tup [.int a, .int ((b.toNat : Nat) : Int)]
      rw [show ((b.toNat : Nat) : Int) = b by omega]
  · cases h
theorem nneg_rt (q : Rat) : nneg (rt q) = decide (0 ≤ q.num) := rfl
theorem nneg_iff (q : Rat) : nneg (rt q) = decide (0 ≤ q) := by
  rw [nneg_rt]
  exact decide_eq_decide.mpr (by rw [Rat.num_nonneg])
theorem isTup_ex {d : D} (h : isTup d = true) : ∃ ds, d = .tup ds := by
  cases d with
  | tup ds => exact ⟨ds, rfl⟩
  | _ => cases h
theorem two_ex {ds : List D} (h : (ds.length : Int) = 2) : ∃ x y, ds = [x, y] := by
  match ds, h with
  | [x, y], _ => exact ⟨x, y, rfl⟩
  | [], e => simp at e
  | [_], e => simp at e
  | _ :: _ :: _ :: _, e => simp at e; omega
section
variable {P : Program} {w : World} {L : Pm} {mg : Str → Option Value} {base : Heap}
structure WtA where
  p : Prob
  t : List Pair
  W : Nat → Nat → Rat
abbrev sp_weights_of (L : Pm) : Sp := spP L (fun a : WtA => ProbOk a.p ∧ StrOk a.p a.t) (fun a => [dProb a.p, dStr a.t, pairsD a.t.length a.W]) (fun a d => d = listD (conds a.p a.t).length fun k => a.W ((conds a.p a.t).getD k noC).at_ (k % 2))
def nm_weights_of : List Str := ["problem", "structure", "pairs", "k", "at", "factors", "side"]
theorem sc_weights_of : FnScope nm_weights_of ["problem", "structure", "pairs"] (defScope (top 44)) := ⟨rfl, rfl, rfl, by decide +kernel, rfl, by decide +kernel, by decide +kernel⟩
theorem w_weights_of (T : Tx L mg base) : Pr P w L.K mg base "weights_of" 2 ["problem", "structure", "pairs"] (sp_weights_of L) :=
  have g_conditions_of := w_conditions_of (P := P) (w := w) T
  pr_of T.weights_of sc_weights_of (by intro kV doc pm an cdv ct us h; match us, h with | [_, _, _], _ => rfl) (fun vs H Q E h => len_P (n := 3) (fun _ => rfl) h) fun f cdv A outer s H vs Q E HR h => ⟨_, (pss_one (ps_ret (pe_lc (own := [("k", 3), ("at", 4), ("factors", 5), ("side", 6)]) (g := (gTup L.K 2 (gCons (gName 3) (gCons (gTup L.K 3 (gCons (gName 4) (gCons (gName 5) (gCons (gName 6) gNil)))) gNil)))) (tt := tYes) (te := (tOp (rIxT L.K) (tOp (rIxT L.K) (tVar 2) (tVar 4)) (tOp (rI (fun _ j => 0 < j) fun i j => .int (i % j)) (tVar 3) (tC (.int 2))))) (by rfl) sc_weights_of.nd (pi_enum (by rfl) T.enumerate_ (pa_cons (pe_own g_conditions_of HR (by decide) (by rfl) (pa_cons (pv 0) (pa_cons (pv 1) pa_nil))) pa_nil)) (blkOk_by (own := [("k", 3), ("at", 4), ("factors", 5), ("side", 6)]) (N := nm_weights_of) (sc := (defScope (top 44))) (by decide +kernel)) (fun _ _ _ _ _ => (pg_tup (by rfl) (pgs_cons (pg_name (i := 3) sc_weights_of.nd rfl (.inl rfl)) (pgs_cons (pg_tup (by rfl) (pgs_cons (pg_name (i := 4) sc_weights_of.nd rfl (.inl rfl)) (pgs_cons (pg_name (i := 5) sc_weights_of.nd rfl (.inl rfl)) (pgs_cons (pg_name (i := 6) sc_weights_of.nd rfl (.inl rfl)) pgs_nil)))) pgs_nil)))) (fun _ _ _ _ _ => pts_nil) (fun _ _ _ _ _ => (pe_ix ix_tup (pe_ix ix_tup (pv 2) (pv 4) (fun _ _ => rfl)) (pe_op op_mod (pv 3) pe_int) (fun _ _ => rfl)))))),
  start_P h fun a F rt' hp hM hW hR => by
    obtain ⟨p, t, W⟩ := a
    obtain ⟨hp, ht⟩ := hp
    have hp : ProbOk p := hp
    have ht : StrOk p t := ht
    have hnc := conds_few ht
    have hlc : ((conds p t).map dC).length = (conds p t).length := List.length_map ..
    refine go_retE (ev_eq (ev_lc (n := ((conds p t).map dC).length) (item := fun i => .tup [.int (i : Int), ((conds p t).map dC).getD i .non]) (js := [3, 4, 5, 6]) (bd := fun i => [.int (i : Int), .int (((conds p t).getD i noC).at_ : Int), .lst (((conds p t).getD i noC).fs.map D.int), .int ((conds p t).getD i noC).side]) (f := fun _ => true) (out := fun k => rt (W ((conds p t).getD k noC).at_ (k % 2))) (src_enum (ea_cons (ev_own (p, t) (ea_cons (ev_var rfl) (ea_cons (ev_var rfl) ea_nil)) ⟨hp, ht⟩ fun x e => e) ea_nil)) ?_ (fun l hl => ?_) (fun l hl => hl) (fun k hk => ?_) (fun k hk => et_yes) (fun k hk _ => ?_)) ?_) (hR _ rfl)
    · rw [hlc]; omega
    · have : l = 3 ∨ l = 4 ∨ l = 5 ∨ l = 6 := by simpa using hl
      show l < 7
      omega
    · have hk : k < (conds p t).length := by simpa using hk
      show Tg _ (.tup [.int (k : Int), ((conds p t).map dC).getD k .non]) _ _
      rw [getD_map dC (conds p t) k noC .non hk]
      exact tg_13 rfl rfl
    · have hk : k < (conds p t).length := by simpa using hk
      have hat := conds_at hk
      refine ev_ixT (ds := pairD W ((conds p t).getD k noC).at_) (ev_ixT (ev_var rfl) (ev_var rfl) (atI_tab (fun a => .tup (pairD W a)) _ _ hat)) (ev_eq (ev_I (ev_var rfl) ev_int (by show (0 : Int) < 2; decide)) (congrArg D.int (show (k : Int) % 2 = ((k % 2 : Nat) : Int) by omega))) ?_
      have : k % 2 = 0 ∨ k % 2 = 1 := by omega
      rcases this with e | e
      · rw [e]; rfl
      · rw [e]; rfl
    · rw [given_all, hlc]⟩
abbrev sp_are_weights (L : Pm) : Sp := spP L (fun a : List Pair × D => a.1.length ≤ 10) (fun a => [dStr a.1, a.2]) (fun a d => d = .bl (isWts a.1 a.2))
def nm_are_weights : List Str := ["structure", "pairs", "pair", "one"]
theorem sc_are_weights : FnScope nm_are_weights ["structure", "pairs"] (defScope (top 45)) := ⟨rfl, rfl, rfl, by decide +kernel, rfl, by decide +kernel, by decide +kernel⟩
theorem w_are_weights (T : Tx L mg base) : Pr P w L.K mg base "are_weights" 4 ["structure", "pairs"] (sp_are_weights L) :=
  have g_is_ratio := w_is_ratio (P := P) (w := w) T
  pr_ofT T.are_weights sc_are_weights (by intro kV doc pm an cdv ct us h; match us, h with | [_, _], _ => rfl) (fun vs H Q E h => len_P (n := 2) (fun _ => rfl) h) fun c Pt f A outer s H vs Q E hPt TB HR h => ⟨_, (pss_cons (ps_if (PW.pt (pw_or (pt_not (pt_val (pe_callB call_isi (by rfl) T.isinstance_ (by decide +kernel) (pa_cons (pv 1) (pa_cons (pe_bltn (v := .ty "tuple") (by rfl) T.tuple_ (by decide +kernel) rfl) pa_nil))))) (pw_or1 (pt_cmpR op_ne (pe_callB call_len_seq (by rfl) T.len_ PySem.boot_len (pa_cons (pv 1) pa_nil)) (pe_callB call_len_seq (by rfl) T.len_ PySem.boot_len (pa_cons (pv 0) pa_nil)) (nomark _))))) (pss_one (ps_ret pe_bl)) pss_nil)
    (pss_cons (ps_for PassesOwn.never rfl (RZ.pi_zipA (by rfl) T.zip_ (pa_cons (pv 0) (pa_cons (pv 1) pa_nil))) (pg_tup (by rfl) (pgs_cons (pg_name (i := 2) sc_are_weights.nd rfl (.inl rfl)) (pgs_cons (pg_name (i := 3) sc_are_weights.nd rfl (.inl rfl)) pgs_nil))) (pss_cons (ps_if (PW.pt (pw_or (pt_not (pt_val (pe_callB call_isi (by rfl) T.isinstance_ (by decide +kernel) (pa_cons (pv 3) (pa_cons (pe_bltn (v := .ty "tuple") (by rfl) T.tuple_ (by decide +kernel) rfl) pa_nil))))) (pw_or (pt_cmpR op_ne (pe_callB call_len_seq (by rfl) T.len_ PySem.boot_len (pa_cons (pv 3) pa_nil)) pe_int (nomark _)) (pw_or1 (pt_not (pt_val (pe_allG (caps := []) (te := (tAndV (tCall (sp_is_ratio L) [] E0 (tCons (tVar 0) tNil)) (tOp (rI0 fun i j => .bl (decide (j ≤ i))) (tOp (rIxT L.K) (tVar 0) (tC (.int 0))) (tC (.int 0))))) HR rfl (by rfl) T.all_ (by decide +kernel) TB rfl (gsc0 rfl rfl (by decide +kernel) rfl rfl (by decide +kernel) rfl) (pi_tup (pv 3)) (fun A' s4 H4 C code fp HR' => (pe_and (pe_own g_is_ratio HR' (by decide) (by rfl) (pa_cons (pv 0) pa_nil)) (pe_one (pe_cmpR op_ge (pe_ix ix_tup (pv 0) pe_int (fun _ _ => rfl)) pe_int (nomark _))))) (fun _ => rfl)))))))) (pss_one (ps_ret pe_bl)) pss_nil)
    (pss_one (ps_if (PW.pt (pw_and (pt_cmpR op_in_seq (pe_un un_neg pe_int) (pv 2) (by with_unfolding_all rfl)) (pw_and1 (pt_cmpR (op_neD HR.units) (pv 3) (pe_tup (pa_cons (pe_tup (pa_cons pe_int (pa_cons pe_int pa_nil))) (pa_cons (pe_tup (pa_cons pe_int (pa_cons pe_int pa_nil))) pa_nil))) (nomark _))))) (pss_one (ps_ret pe_bl)) pss_nil))))
    (pss_one (ps_ret pe_bl)))),
  start_P h fun a F rt' hp hM hW hR => by
    obtain ⟨t, v⟩ := a
    have hle : t.length ≤ 10 := hp
    have hR : RtOk L F rt' (.bl (isWts t v)) := hR _ rfl
    have hlt : (t.map dP).length = t.length := List.length_map ..
    by_cases hT : isTup v = true
    · obtain ⟨ds, rfl⟩ := isTup_ex hT
      by_cases hl : ds.length = t.length
      · refine go_guard (et_or (et_not (et_B (ev_isTup (ev_var rfl)))) fun _ => et_test (ev_neI (ev_cb (ea_cons (ev_var rfl) ea_nil) (rn_len rfl)) (ev_cb (ea_cons (ev_var rfl) ea_nil) (rn_len rfl)))) ?_ ?_
        · show (false || !decide ((ds.length : Int) = ((t.map dP).length : Int))) = false
          rw [hlt, hl, decide_eq_true rfl]
          rfl
        have hmin : min (t.map dP).length ds.length = t.length := by rw [hlt, hl, Nat.min_self]
        have hwt : isWts t (.tup ds) = (List.range t.length).all fun k => okW (t.getD k (0, 0)) (ds.getD k .non) := by
          show (decide (ds.length = t.length) && _) = _
          rw [decide_eq_true hl, Bool.true_and]
        refine go_forS [2, 3] (fun k => [dP (t.getD k (0, 0)), ds.getD k .non]) (fun n G' => (∀ k, k < n → okW (t.getD k (0, 0)) (ds.getD k .non) = true) ∧ ∃ o2 o3, G' = [some (.d (dStr t)), some (.d (.tup ds)), dn o2, dn o3]) (src_zipT (ea_cons (ev_var rfl) (ea_cons (ev_var rfl) ea_nil))) ⟨fun k hk => absurd hk (Nat.not_lt_zero k), none, none, rfl⟩ (fun k hk => ?_) (fun k G' hc j hj => ?_) (fun k G' A' N E' hk hc hN e1 e2 e3 => ?_) (fun G' hc => ?_)
        · have hk : k < t.length := by rw [← hmin]; exact hk
          rw [getD_map dP t k (0, 0) .non hk]
          exact tg_2 rfl
        · obtain ⟨_, o2, o3, rfl⟩ := hc
          have : j = 2 ∨ j = 3 := by simpa using hj
          show j < 4
          omega
        · obtain ⟨hpre, o2, o3, rfl⟩ := hc
          have hk : k < t.length := by rw [← hmin]; exact hk
          have stop : okW (t.getD k (0, 0)) (ds.getD k .non) = false → RtOk L { F with A := A' } E'.rt (.bl false) := fun hb => by
            rw [e3]
            have : isWts t (.tup ds) = false := by
              rw [hwt]
              cases hh : (List.range t.length).all fun k => okW (t.getD k (0, 0)) (ds.getD k .non) with
              | true =>
                have := List.all_eq_true.mp hh k (List.mem_range.mpr hk)
                rw [hb] at this
                cases this
              | false => rfl
            rw [this] at hR
            exact hR
          have hgo : okW (t.getD k (0, 0)) (ds.getD k .non) = true → ∀ o2 o3, Nx L { F with A := A' } E'.nx [some (.d (dStr t)), some (.d (.tup ds)), dn o2, dn o3] := fun hb o2 o3 => by
            rw [e1]
            refine hN _ ⟨fun i hi => ?_, o2, o3, rfl⟩
            by_cases z : i = k
            · rw [z]; exact hb
            · exact hpre i (by omega)
          generalize ds.getD k .non = d at stop hgo
          generalize t.getD k (0, 0) = q at stop hgo
          show Go L _ _ _ [some (.d (dStr t)), some (.d (.tup ds)), some (.d (dP q)), some (.d d)]
          by_cases hT2 : isTup d = true
          · obtain ⟨es, rfl⟩ := isTup_ex hT2
            by_cases hl2 : (es.length : Int) = 2
            · obtain ⟨x, y, rfl⟩ := two_ex hl2
              have fR : ∀ d : D, ∀ h : isRt d = true, ∃ i r, d = .tup [.int i, r] ∧ nneg d = decide (0 ≤ i) := fun d h => by
                obtain ⟨u, rfl⟩ := isRt_ex h
                exact ⟨_, _, rfl, rfl⟩
              refine go_seq (go_if (b := !((isRt x && nneg x) && ((isRt y && nneg y) && true))) (et_eq (et_or (a := false) (et_eq (et_not (et_B (ev_isTup (ev_var rfl)))) rfl) fun _ => et_or (a := false) (et_eq (et_test (ev_neI (ev_cb (ea_cons (ev_var rfl) ea_nil) (rn_len rfl)) ev_int)) rfl) fun _ => et_not (et_B (ev_allG hPt (src_tup (ev_var rfl)) (f := fun i => isRt ([x, y].getD i .non) && nneg ([x, y].getD i .non)) fun i hi _ => ev_andV (ev_own ([x, y].getD i .non) (ea_cons (ev_var rfl) ea_nil) trivial fun x e => e) fun hr => ?_))) rfl) (fun e => ?_) fun e => go_next (nx_go ?_))
              · obtain ⟨i, r, e1, e2⟩ := fR _ hr
                rw [e1] at e2 ⊢
                rw [e2]
                exact ev_B0 (ev_ixT (ev_var rfl) ev_int rfl) ev_int
              · refine go_retE ev_bl (stop ?_)
                show (((isRt x && nneg x) && (isRt y && nneg y)) && _) = false
                rw [Bool.and_true] at e
                have e : ((isRt x && nneg x) && (isRt y && nneg y)) = false := by
                  cases hh : ((isRt x && nneg x) && (isRt y && nneg y)) with
                  | true => rw [hh] at e; cases e
                  | false => rfl
                rw [e]
                rfl
              · have e : ((isRt x && nneg x) && (isRt y && nneg y)) = true := by
                  rw [Bool.and_true] at e
                  cases hh : ((isRt x && nneg x) && (isRt y && nneg y)) with
                  | true => rfl
                  | false => rw [hh] at e; cases e
                have eok : okW q (.tup [x, y]) = !(decide (-1 ∈ [q.1, q.2]) && !dEq (.tup [x, y]) zz) := by
                  show (((isRt x && nneg x) && (isRt y && nneg y)) && _) = _
                  rw [e, Bool.true_and]
                rw [Bool.and_eq_true, Bool.and_eq_true, Bool.and_eq_true] at e
                obtain ⟨u, rfl⟩ := isRt_ex e.1.1
                obtain ⟨u2, rfl⟩ := isRt_ex e.2.1
                refine go_if (et_and (et_test (ev_op (ev_neg ev_int) (ev_var rfl) (r2_inT (ns := [q.1, q.2])))) fun _ => et_test (ev_neD (y := zz) (ev_var rfl) (ev_tup (ea_cons (ev_tup (ea_cons ev_int (ea_cons ev_int ea_nil)) (show 2 ≤ 100000 by decide)) (ea_cons (ev_tup (ea_cons ev_int (ea_cons ev_int ea_nil)) (show 2 ≤ 100000 by decide)) ea_nil)) (show 2 ≤ 100000 by decide)) rfl rfl)) (fun e2 => ?_) fun e2 => go_next ?_
                · refine go_retE ev_bl (stop ?_)
                  rw [eok, e2]
                  rfl
                · refine hgo ?_ (some (dP q)) (some (.tup [rt u, rt u2]))
                  rw [eok, e2]
                  rfl
            · refine go_seq (go_if (b := true) (et_eq (et_or (a := false) (et_eq (et_not (et_B (ev_isTup (ev_var rfl)))) rfl) fun _ => et_or (a := true) (b := false) (et_eq (et_test (ev_neI (ev_cb (ea_cons (ev_var rfl) ea_nil) (rn_len rfl)) ev_int)) ?_) fun e => by cases e) rfl) (fun _ => go_retE ev_bl (stop ?_)) fun e => by cases e)
              · rw [decide_eq_false hl2]
                rfl
              · unfold okW
                split
                · rename_i h
                  cases h
                  exact absurd rfl hl2
                · rfl
          · refine go_seq (go_if (b := true) (et_eq (et_or (a := true) (b := false) (et_eq (et_not (et_B (ev_isTup (ev_var rfl)))) ?_) fun e => by cases e) rfl) (fun _ => go_retE ev_bl (stop ?_)) fun e => by cases e)
            · rw [Bool.eq_false_iff.mpr hT2]
              rfl
            · unfold okW
              split
              · exact absurd rfl hT2
              · rfl
        · obtain ⟨hall, o2, o3, rfl⟩ := hc
          have : isWts t (.tup ds) = true := by
            rw [hwt]
            refine List.all_eq_true.mpr fun k hk => hall k ?_
            rw [hmin]
            exact List.mem_range.mp hk
          rw [this] at hR
          exact go_retE ev_bl hR
      · refine go_seq (go_if (b := true) (et_eq (et_or (a := false) (b := true) (et_eq (et_not (et_B (ev_isTup (ev_var rfl)))) rfl) fun _ => et_eq (et_test (ev_neI (ev_cb (ea_cons (ev_var rfl) ea_nil) (rn_len rfl)) (ev_cb (ea_cons (ev_var rfl) ea_nil) (rn_len rfl)))) ?_) rfl) (fun _ => go_retE ev_bl ?_) fun e => by cases e)
        · rw [decide_eq_false (by rw [hlt]; omega)]
          rfl
        · have : isWts t (.tup ds) = false := by
            show (decide (ds.length = t.length) && _) = false
            rw [decide_eq_false hl]
            rfl
          rw [this] at hR
          exact hR
    · refine go_seq (go_if (b := true) (et_eq (et_or (a := true) (b := false) (et_eq (et_not (et_B (ev_isTup (ev_var rfl)))) ?_) fun e => by cases e) rfl) (fun _ => go_retE ev_bl ?_) fun e => by cases e)
      · rw [Bool.eq_false_iff.mpr hT]
        rfl
      · have : isWts t v = false := by
          cases v with
          | tup ds => exact absurd rfl hT
          | _ => rfl
        rw [this] at hR
        exact hR⟩
end
end Pw

/-! The walk: shows_paper. -/
namespace Pw
open PySem L2 PyProof.Rows
def qOf : D → Rat
  | .tup [.int a, .int b] => Rat.divInt a b
  | _ => 0
theorem qOf_rt (q : Rat) : qOf (rt q) = q := Rat.num_divInt_den q
theorem rt_qOf {d : D} (h : isRt d = true) : rt (qOf d) = d := by
  obtain ⟨q, rfl⟩ := isRt_ex h
  rw [qOf_rt]
def items : D → List D
  | .tup ds => ds
  | _ => []
def fOf (fs : List D) (j : Nat) : Rat := qOf (fs.getD j .non)
def WOf (ws : List D) (a s : Nat) : Rat := qOf ((items (ws.getD a .non)).getD s .non)
def nth (q : Pair) (i : Nat) : Int := if i = 0 then q.1 else q.2
def numv (f : Nat → Rat) (q : Pair) : Rat := S 2 fun i => if decide (0 ≤ nth q i) = true then f (nth q i).toNat else 0
def wAt (p : Prob) (t : List Pair) (W : Nat → Nat → Rat) (i : Nat) : Rat := W ((conds p t).getD i noC).at_ (i % 2)
def colv (p : Prob) (t : List Pair) (f : Nat → Rat) (W : Nat → Nat → Rat) (k : Nat) : Rat := numv f (t.getD k (0, 0)) - S (conds p t).length fun i => wAt p t W i * (((conds p t).getD i noC).fs.getD k 0 : Int)
def objv (p : Prob) (t : List Pair) (f : Nat → Rat) (W : Nat → Nat → Rat) : Rat := (S p.ss.length fun j => ((heat (p.at j) : Int) : Rat) * f j) - S (conds p t).length fun i => wAt p t W i * (((conds p t).getD i noC).side : Int)
def colOk (p : Prob) (t : List Pair) (b : Bool) (f : Nat → Rat) (W : Nat → Nat → Rat) (k : Nat) : Bool := !decide (((if b = true ∧ (t.getD k (0, 0)).1 = -1 then 1 else 0 : Int) : Rat) < colv p t f W k)
def colsOk (p : Prob) (t : List Pair) (b : Bool) (f : Nat → Rat) (W : Nat → Nat → Rat) : Bool := (List.range t.length).all (colOk p t b f W)
def areRt (fs : List D) : Bool := (List.range fs.length).all fun i => isRt (fs.getD i .non)
noncomputable def showOk (p : Prob) (t : List Pair) (b : Bool) (f : Nat → Rat) (W : Nat → Nat → Rat) : Bool := colsOk p t b f W && (if b = true then decide (objv p t f W = outP p t) else decide (0 < objv p t f W))
noncomputable def showsB (p : Prob) (t : List Pair) : D → Bool
  | .tup [.bl b, .tup fs, w] => !(b == isNo (inOf p t)) && (decide (fs.length = p.ss.length) && (areRt fs && (isWts t w && showOk p t b (fOf fs) (WOf (items w)))))
  | _ => false
def SmallV (v : D) : Prop := ∀ b fs ws, v = .tup [.bl b, .tup fs, .tup ws] → (∀ j, Bit (fOf fs j) 700) ∧ ∀ a s, Bit (WOf ws a s) 700
theorem go_ifR {L : Pm} {G : Ctx} {F : Frm} {E : Ends} {c : TT} {t u : TS} {b : Bool} (h : EvT L c G b) (h1 : b = true → Go L F { E with nx := u E } t G) (h2 : b = false → Go L F E u G) : Go L F E (tSeq (tIfS c t tNext) u) G :=
  go_seq (go_if h h1 fun e => go_next (h2 e))
theorem three_ex {ds : List D} (h : (ds.length : Int) = 3) : ∃ x y z, ds = [x, y, z] := by
  match ds, h with
  | [x, y, z], _ => exact ⟨x, y, z, rfl⟩
  | [], e => simp at e
  | [_], e => simp at e
  | [_, _], e => simp at e
  | _ :: _ :: _ :: _ :: _, e => simp at e; omega
theorem okW_ex {q : Pair} {d : D} (h : okW q d = true) : d = .tup [rt (qOf ((items d).getD 0 .non)), rt (qOf ((items d).getD 1 .non))] := by
  unfold okW at h
  split at h
  · rename_i x y
    rw [Bool.and_eq_true, Bool.and_eq_true, Bool.and_eq_true, Bool.and_eq_true] at h
    show D.tup [x, y] = .tup [rt (qOf x), rt (qOf y)]
    rw [rt_qOf h.1.1.1, rt_qOf h.1.2.1]
  · cases h
theorem wts_ex {t : List Pair} {ws : List D} (h : isWts t (.tup ws) = true) : D.tup ws = pairsD t.length (WOf ws) := by
  have h : (decide (ws.length = t.length) && (List.range t.length).all fun k => okW (t.getD k (0, 0)) (ws.getD k .non)) = true := h
  rw [Bool.and_eq_true, decide_eq_true_iff] at h
  obtain ⟨h1, h2⟩ := h
  show D.tup ws = .tup ((List.range t.length).map fun a => .tup (pairD (WOf ws) a))
  congr 1
  refine List.ext_getElem (by simp [h1]) fun i h3 h4 => ?_
  rw [List.getElem_map, List.getElem_range]
  have := okW_ex (List.all_eq_true.mp h2 i (List.mem_range.mpr (by omega)))
  have e : ws.getD i .non = ws[i] := by rw [List.getD_eq_getElem?_getD, List.getElem?_eq_getElem h3]; rfl
  rw [e] at this
  unfold pairD WOf
  rw [e]
  exact this
theorem condsTo_few {p : Prob} {t : List Pair} : ∀ n, n ≤ t.length → (condsTo p t n).length = 2 * ((t.take n).filter both).length
  | 0, _ => by simp [condsTo]
  | n + 1, h => by
    have ih := condsTo_few (p := p) (t := t) n (by omega)
    show (condsTo p t n ++ condsOf p t n).length = _
    have hn : n < t.length := by omega
    rw [List.length_append, ih, List.take_succ_eq_append_getElem hn, List.filter_append, List.length_append]
    have e : t.getD n (0, 0) = t[n] := by rw [List.getD_eq_getElem?_getD, List.getElem?_eq_getElem hn]; rfl
    unfold condsOf
    rw [e]
    cases hb : both t[n] with
    | true =>
      rw [if_pos rfl, List.filter_cons_of_pos hb]
      simp
      omega
    | false =>
      rw [if_neg Bool.false_ne_true, List.filter_cons_of_neg (by rw [hb]; exact Bool.false_ne_true)]
      simp
theorem conds_six {p : Prob} {t : List Pair} (ht : StrOk p t) : (conds p t).length ≤ 6 := by
  unfold conds
  rw [condsTo_few t.length (Nat.le_refl _), List.take_length]
  have := ht.few
  omega
theorem at_small {p : Prob} (hp : ProbOk p) (k : Nat) : (p.at k).2.2.natAbs ≤ 100 := by
  unfold Prob.at
  by_cases h : k < p.ss.length
  · have a := hp.ok _ (getD_mem p.ss k (0, 0, 0) h)
    generalize p.ss.getD k (0, 0, 0) = s at a
    obtain ⟨a1, a2, a3, a4, a5, a6, a7⟩ := a
    omega
  · rw [List.getD_eq_getElem?_getD, List.getElem?_eq_none (by omega)]
    decide
theorem condsTo_small {p : Prob} {t : List Pair} (hp : ProbOk p) (ht : StrOk p t) : ∀ n, n ≤ t.length → ∀ c ∈ condsTo p t n, (∀ x ∈ c.fs, x.natAbs < 2 ^ 9) ∧ c.side.natAbs < 2 ^ 26
  | 0, _ => fun c h => by cases h
  | n + 1, hn => fun c h => by
    rcases List.mem_append.mp h with h | h
    · exact condsTo_small hp ht n (by omega) c h
    · have hfac : ∀ own, (∀ x ∈ (condAt p t n own).fs, x.natAbs < 2 ^ 9) := fun own x hx => by
        unfold condAt at hx
        obtain ⟨k, _, e⟩ := List.mem_map.mp hx
        rw [← e]
        unfold fac
        have h1 := at_small hp (t.getD n (0, 0)).2.toNat
        have h2 := at_small hp (t.getD n (0, 0)).1.toNat
        split <;> split <;> omega
      unfold condsOf at h
      split at h
      · rename_i hb
        have hq : PairOk p (t.getD n (0, 0)) := ht.ok _ (getD_mem _ _ _ (by omega))
        obtain ⟨b1, b2, b3⟩ := side_small hp hq hb
        have hside : (sideOf p (t.getD n (0, 0))).natAbs < 2 ^ 26 := by
          unfold sideOf
          rw [Int.natAbs_mul, Int.natAbs_mul]
          have e1 := Nat.mul_lt_mul'' b1 b2
          have e2 := Nat.mul_lt_mul'' e1 b3
          exact e2
        rcases List.mem_cons.mp h with h | h
        · rw [h]
          exact ⟨hfac 0, hside⟩
        · rw [List.mem_singleton.mp h]
          exact ⟨hfac 1, hside⟩
      · cases h
theorem cond_fs_bit {p : Prob} {t : List Pair} (hp : ProbOk p) (ht : StrOk p t) (i k : Nat) : Bit ((((conds p t).getD i noC).fs.getD k 0 : Int) : Rat) 9 := by
  refine Bit.int ?_ (by decide)
  by_cases h : i < (conds p t).length
  · have := (condsTo_small hp ht t.length (Nat.le_refl _) _ (getD_mem (conds p t) i noC h)).1
    by_cases h2 : k < ((conds p t).getD i noC).fs.length
    · exact this _ (getD_mem _ k 0 h2)
    · rw [List.getD_eq_getElem?_getD, List.getElem?_eq_none (by omega)]
      decide
  · have e : (conds p t).getD i noC = noC := by
      rw [List.getD_eq_getElem?_getD, List.getElem?_eq_none (by omega)]
      rfl
    rw [e]
    show (([] : List Int).getD k 0).natAbs < 2 ^ 9
    rw [List.getD_eq_getElem?_getD]
    simp
theorem cond_side_bit {p : Prob} {t : List Pair} (hp : ProbOk p) (ht : StrOk p t) (i : Nat) : Bit ((((conds p t).getD i noC).side : Int) : Rat) 26 := by
  refine Bit.int ?_ (by decide)
  by_cases h : i < (conds p t).length
  · exact (condsTo_small hp ht t.length (Nat.le_refl _) _ (getD_mem (conds p t) i noC h)).2
  · have e : (conds p t).getD i noC = noC := by
      rw [List.getD_eq_getElem?_getD, List.getElem?_eq_none (by omega)]
      rfl
    rw [e]
    decide
theorem heat_bit {p : Prob} (hp : ProbOk p) (j : Nat) : Bit ((heat (p.at j) : Int) : Rat) 18 := by
  refine Bit.int ?_ (by decide)
  unfold Prob.at heat
  by_cases h : j < p.ss.length
  · have a := hp.ok _ (getD_mem p.ss j (0, 0, 0) h)
    generalize p.ss.getD j (0, 0, 0) = s at a
    obtain ⟨a1, a2, a3, a4, a5, a6, a7⟩ := a
    have h1 : s.2.2.natAbs ≤ 100 := by omega
    have h2 : (if s.1 - s.2.1 < 0 then -(s.1 - s.2.1) else s.1 - s.2.1).natAbs ≤ 1000 := by split <;> omega
    rw [Int.natAbs_mul]
    exact Nat.lt_of_le_of_lt (Nat.mul_le_mul h1 h2) (by decide)
  · rw [List.getD_eq_getElem?_getD, List.getElem?_eq_none (by omega)]
    decide
theorem ev_totA {L : Pm} {G : Ctx} {E : XK} {ta : TE} {n b : Nat} {x : Nat → Rat} (h : Ev L ta G (.lst (given n (fun _ => true) fun k => rt (x k)))) (hl : n ≤ 1000) (hb : ∀ k, k < n → Bit (x k) b) (hs : n * (b + 1) + 1 + b ≤ 9000) : Ev L (tCall (sp_total L) [] E (tCons ta tNil)) G (rt (S n x)) :=
  ev_eq (ev_totG h hl (fun k hk _ => hb k hk) hs) (congrArg rt (S_congr fun k _ => if_pos rfl))
theorem S_bit {f : Nat → Rat} {b n : Nat} (h : ∀ i, i < n → Bit (f i) b) : Bit (S n f) (n * (b + 1) + 1) := by
  rw [← psum_S]
  exact psum_bit h
theorem S_bit_le {f : Nat → Rat} {b n N : Nat} (h : ∀ i, i < n → Bit (f i) b) (hn : n ≤ N) : Bit (S n f) (N * (b + 1) + 1) := (S_bit h).mono (by
  have := Nat.mul_le_mul_right (b + 1) hn
  omega)
section
variable {P : Program} {w : World} {L : Pm} {mg : Str → Option Value} {base : Heap}
structure ShA where
  p : Prob
  t : List Pair
  v : D
abbrev sp_shows_paper (L : Pm) : Sp := spP L (fun a : ShA => Fits a.p a.t ∧ SmallV a.v) (fun a => [dProb a.p, dStr a.t, a.v]) (fun a d => d = .bl (showsB a.p a.t a.v))
def nm_shows_paper : List Str := ["problem", "structure", "value", "best", "conditions", "weights", "k", "pair", "here", "number", "weight", "one", "found", "heat"]
theorem sc_shows_paper : FnScope nm_shows_paper ["problem", "structure", "value"] (defScope (top 46)) := ⟨rfl, rfl, rfl, by decide +kernel, rfl, by decide +kernel, by decide +kernel⟩
theorem w_shows_paper (T : Tx L mg base) : Pr P w L.K mg base "shows_paper" 9 ["problem", "structure", "value"] (sp_shows_paper L) :=
  have g_need_structure := w_need_structure (P := P) (w := w) T
  have g_best_of := w_best_of (P := P) (w := w) T
  have g_is_ratio := w_is_ratio (P := P) (w := w) T
  have g_are_weights := w_are_weights (P := P) (w := w) T
  have g_conditions_of := w_conditions_of (P := P) (w := w) T
  have g_weights_of := w_weights_of (P := P) (w := w) T
  have g_heats_of := w_heats_of (P := P) (w := w) T
  have g_total := w_total (P := P) (w := w) T
  have g_minus := w_minus (P := P) (w := w) T
  have g_by := w_by (P := P) (w := w) T
  have g_less := w_less (P := P) (w := w) T
  pr_ofT T.shows_paper sc_shows_paper (by intro kV doc pm an cdv ct us h; match us, h with | [_, _, _], _ => rfl) (fun vs H Q E h => len_P (n := 3) (fun _ => rfl) h) fun c Pt f A outer s H vs Q E hPt TB HR h => ⟨_, (pss_cons (ps_expr (pe_own g_need_structure HR (by decide) (by rfl) (pa_cons (pv 0) (pa_cons (pv 1) pa_nil))))
    (pss_cons (ps_set (i := 3) sc_shows_paper.nd rfl (Or.inl rfl) (pe_own g_best_of HR (by decide) (by rfl) (pa_cons (pv 0) (pa_cons (pv 1) pa_nil))))
    (pss_cons (ps_if (PW.pt (pw_or (pt_not (pt_val (pe_callB call_isi (by rfl) T.isinstance_ (by decide +kernel) (pa_cons (pv 2) (pa_cons (pe_bltn (v := .ty "tuple") (by rfl) T.tuple_ (by decide +kernel) rfl) pa_nil))))) (pw_or (pt_cmpR op_ne (pe_callB call_len_seq (by rfl) T.len_ PySem.boot_len (pa_cons (pv 2) pa_nil)) pe_int (nomark _)) (pw_or (pt_not (pt_val (pe_callB call_isi (by rfl) T.isinstance_ (by decide +kernel) (pa_cons (pe_ix ix_tup (pv 2) pe_int (fun _ _ => rfl)) (pa_cons (pe_bltn (v := .ty "bool") (by rfl) T.bool_ (by decide +kernel) rfl) pa_nil))))) (pw_or1 (pt_cmpR op_eq (pe_ix ix_tup (pv 2) pe_int (fun _ _ => rfl)) (pe_cmpR op_isN (pv 3) pe_non (nomark _)) (nomark _))))))) (pss_one (ps_ret pe_bl)) pss_nil)
    (pss_cons (ps_if (PW.pt (pw_or (pt_not (pt_val (pe_callB call_isi (by rfl) T.isinstance_ (by decide +kernel) (pa_cons (pe_ix ix_tup (pv 2) pe_int (fun _ _ => rfl)) (pa_cons (pe_bltn (v := .ty "tuple") (by rfl) T.tuple_ (by decide +kernel) rfl) pa_nil))))) (pw_or1 (pt_cmpR op_ne (pe_callB call_len_seq (by rfl) T.len_ PySem.boot_len (pa_cons (pe_ix ix_tup (pv 2) pe_int (fun _ _ => rfl)) pa_nil)) (pe_callB call_len_seq (by rfl) T.len_ PySem.boot_len (pa_cons (pe_ix ix_tup (pv 0) pe_int (fun _ _ => rfl)) pa_nil)) (nomark _))))) (pss_one (ps_ret pe_bl)) pss_nil)
    (pss_cons (ps_if (pt_not (pt_val (pe_allG (caps := []) (te := (tCall (sp_is_ratio L) [] E0 (tCons (tVar 0) tNil))) HR rfl (by rfl) T.all_ (by decide +kernel) TB rfl (gsc0 rfl rfl (by decide +kernel) rfl rfl (by decide +kernel) rfl) (pi_tup (pe_ix ix_tup (pv 2) pe_int (fun _ _ => rfl))) (fun A' s4 H4 C code fp HR' => (pe_own g_is_ratio HR' (by decide) (by rfl) (pa_cons (pv 0) pa_nil))) (fun _ => rfl)))) (pss_one (ps_ret pe_bl)) pss_nil)
    (pss_cons (ps_if (pt_not (pt_val (pe_own g_are_weights HR (by decide) (by rfl) (pa_cons (pv 1) (pa_cons (pe_ix ix_tup (pv 2) pe_int (fun _ _ => rfl)) pa_nil))))) (pss_one (ps_ret pe_bl)) pss_nil)
    (pss_cons (ps_par (i := 4) (j := 5) (by rfl) sc_shows_paper.nd rfl rfl (by decide) rfl rfl (pa_cons (pe_own g_conditions_of HR (by decide) (by rfl) (pa_cons (pv 0) (pa_cons (pv 1) pa_nil))) (pa_cons (pe_own g_weights_of HR (by decide) (by rfl) (pa_cons (pv 0) (pa_cons (pv 1) (pa_cons (pe_ix ix_tup (pv 2) pe_int (fun _ _ => rfl)) pa_nil)))) pa_nil)) (by rfl))
    (pss_cons (ps_for PassesOwn.never rfl (pi_enumT (by rfl) T.enumerate_ (pa_cons (pv 1) pa_nil)) (pg_tup (by rfl) (pgs_cons (pg_name (i := 6) sc_shows_paper.nd rfl (.inr rfl)) (pgs_cons (pg_name (i := 7) sc_shows_paper.nd rfl (.inl rfl)) pgs_nil))) (pss_cons (ps_set (i := 8) sc_shows_paper.nd rfl (Or.inl rfl) (pe_own g_total HR (by decide) (by rfl) (pa_cons (pe_lc (own := [("number", 9)]) (g := (gName 9)) (tt := (tTest (tOp (rI0 fun i j => .bl (decide (j ≤ i))) (tVar 9) (tC (.int 0))))) (te := (tOp (rIxT L.K) (tOp (rIxT L.K) (tVar 2) (tC (.int 1))) (tVar 9))) (by rfl) sc_shows_paper.nd (pi_tup (pv 7)) (blkOk_by (own := [("number", 9)]) (N := nm_shows_paper) (sc := (defScope (top 46))) (by decide +kernel)) (fun _ _ _ _ _ => (pg_name (i := 9) sc_shows_paper.nd rfl (.inl rfl))) (fun _ _ _ _ _ => (pts_one (pt_cmpR op_ge (pv 9) pe_int (nomark _)))) (fun _ _ _ _ _ => (pe_ix ix_tup (pe_ix ix_tup (pv 2) pe_int (fun _ _ => rfl)) (pv 9) (fun _ _ => rfl)))) pa_nil)))
    (pss_cons (ps_set (i := 8) sc_shows_paper.nd rfl (Or.inl rfl) (pe_own g_minus HR (by decide) (by rfl) (pa_cons (pv 8) (pa_cons (pe_own g_total HR (by decide) (by rfl) (pa_cons (pe_lc (own := [("weight", 10), ("one", 11)]) (g := (gTup L.K 2 (gCons (gName 10) (gCons (gName 11) gNil)))) (tt := tYes) (te := (tCall (sp_by L) [] E0 (tCons (tVar 10) (tCons (tTup (tCons (tOp (rIxL L.K) (tOp (rIxT L.K) (tVar 11) (tC (.int 1))) (tVar 6)) (tCons (tC (.int 1)) tNil))) tNil)))) (by rfl) sc_shows_paper.nd (RZ.pi_zipA (by rfl) T.zip_ (pa_cons (pv 5) (pa_cons (pv 4) pa_nil))) (blkOk_by (own := [("weight", 10), ("one", 11)]) (N := nm_shows_paper) (sc := (defScope (top 46))) (by decide +kernel)) (fun _ _ _ _ _ => (pg_tup (by rfl) (pgs_cons (pg_name (i := 10) sc_shows_paper.nd rfl (.inl rfl)) (pgs_cons (pg_name (i := 11) sc_shows_paper.nd rfl (.inl rfl)) pgs_nil)))) (fun _ _ _ _ _ => pts_nil) (fun _ _ _ _ _ => (pe_own g_by HR (by decide) (by rfl) (pa_cons (pv 10) (pa_cons (pe_tup (pa_cons (pe_ix ix_list (pe_ix ix_tup (pv 11) pe_int (fun _ _ => rfl)) (pv 6) (fun _ _ => rfl)) (pa_cons pe_int pa_nil))) pa_nil))))) pa_nil)) pa_nil))))
    (pss_one (ps_if (pt_val (pe_own g_less HR (by decide) (by rfl) (pa_cons (pe_tup (pa_cons (pe_ifExp (PW.pt (pw_and (pt_val (pe_ix ix_tup (pv 2) pe_int (fun _ _ => rfl))) (pw_and1 (pt_cmpR op_eq (pe_ix ix_tup (pv 7) pe_int (fun _ _ => rfl)) (pe_un un_neg pe_int) (nomark _))))) pe_int pe_int) (pa_cons pe_int pa_nil))) (pa_cons (pv 8) pa_nil)))) (pss_one (ps_ret pe_bl)) pss_nil)))))
    (pss_cons (ps_set (i := 12) sc_shows_paper.nd rfl (Or.inl rfl) (pe_own g_total HR (by decide) (by rfl) (pa_cons (pe_lc (own := [("heat", 13), ("one", 11)]) (g := (gTup L.K 2 (gCons (gName 13) (gCons (gName 11) gNil)))) (tt := tYes) (te := (tCall (sp_by L) [] E0 (tCons (tTup (tCons (tVar 13) (tCons (tC (.int 1)) tNil))) (tCons (tVar 11) tNil)))) (by rfl) sc_shows_paper.nd (pi_zipLT (by rfl) T.zip_ (pa_cons (pe_own g_heats_of HR (by decide) (by rfl) (pa_cons (pv 0) pa_nil)) (pa_cons (pe_ix ix_tup (pv 2) pe_int (fun _ _ => rfl)) pa_nil))) (blkOk_by (own := [("heat", 13), ("one", 11)]) (N := nm_shows_paper) (sc := (defScope (top 46))) (by decide +kernel)) (fun _ _ _ _ _ => (pg_tup (by rfl) (pgs_cons (pg_name (i := 13) sc_shows_paper.nd rfl (.inl rfl)) (pgs_cons (pg_name (i := 11) sc_shows_paper.nd rfl (.inl rfl)) pgs_nil)))) (fun _ _ _ _ _ => pts_nil) (fun _ _ _ _ _ => (pe_own g_by HR (by decide) (by rfl) (pa_cons (pe_tup (pa_cons (pv 13) (pa_cons pe_int pa_nil))) (pa_cons (pv 11) pa_nil))))) pa_nil)))
    (pss_cons (ps_set (i := 12) sc_shows_paper.nd rfl (Or.inl rfl) (pe_own g_minus HR (by decide) (by rfl) (pa_cons (pv 12) (pa_cons (pe_own g_total HR (by decide) (by rfl) (pa_cons (pe_lc (own := [("weight", 10), ("one", 11)]) (g := (gTup L.K 2 (gCons (gName 10) (gCons (gName 11) gNil)))) (tt := tYes) (te := (tCall (sp_by L) [] E0 (tCons (tVar 10) (tCons (tTup (tCons (tOp (rIxT L.K) (tVar 11) (tC (.int 2))) (tCons (tC (.int 1)) tNil))) tNil)))) (by rfl) sc_shows_paper.nd (RZ.pi_zipA (by rfl) T.zip_ (pa_cons (pv 5) (pa_cons (pv 4) pa_nil))) (blkOk_by (own := [("weight", 10), ("one", 11)]) (N := nm_shows_paper) (sc := (defScope (top 46))) (by decide +kernel)) (fun _ _ _ _ _ => (pg_tup (by rfl) (pgs_cons (pg_name (i := 10) sc_shows_paper.nd rfl (.inl rfl)) (pgs_cons (pg_name (i := 11) sc_shows_paper.nd rfl (.inl rfl)) pgs_nil)))) (fun _ _ _ _ _ => pts_nil) (fun _ _ _ _ _ => (pe_own g_by HR (by decide) (by rfl) (pa_cons (pv 10) (pa_cons (pe_tup (pa_cons (pe_ix ix_tup (pv 11) pe_int (fun _ _ => rfl)) (pa_cons pe_int pa_nil))) pa_nil))))) pa_nil)) pa_nil))))
    (pss_one (ps_ret (pe_ifExp (pt_val (pe_ix ix_tup (pv 2) pe_int (fun _ _ => rfl))) (pe_cmpR (op_eqD HR.units) (pv 12) (pe_ix ix_tup (pv 3) pe_int (fun _ _ => rfl)) (nomark _)) (pe_cmpR op_gt (pe_ix ix_tup (pv 12) pe_int (fun _ _ => rfl)) pe_int (nomark _))))))))))))))),
  start_P h fun a F rt' hp hM hW hR => by
    obtain ⟨p, t, v⟩ := a
    obtain ⟨hfits, hsm⟩ := hp
    have hfits : Fits p t := hfits
    have hsm : SmallV v := hsm
    have hpp := hfits.hp
    have htt := hfits.ht
    have hle := htt.le
    have hse := hpp.le
    have hnc := conds_six htt
    have hlt : (t.map dP).length = t.length := List.length_map ..
    have hls : (p.ss.map dS).length = p.ss.length := List.length_map ..
    have hlc : ((conds p t).map dC).length = (conds p t).length := List.length_map ..
    have hR : RtOk L F rt' (.bl (showsB p t v)) := hR _ rfl
    have no : showsB p t v = false → RtOk L F rt' (.bl false) := fun e => by rw [e] at hR; exact hR
    refine go_dropS (ev_own (p, t) (ea_cons (ev_var rfl) (ea_cons (ev_var rfl) ea_nil)) ⟨hpp, htt⟩ fun x e => e) ?_
    refine go_set (d := bestOf p t) (ev_own (p, t) (ea_cons (ev_var rfl) (ea_cons (ev_var rfl) ea_nil)) hfits fun x e => e) (show 3 < 14 by decide) ?_
    have hbn : isNon (bestOf p t) = isNo (inOf p t) := by
      unfold bestOf
      cases isNo (inOf p t) <;> rfl
    by_cases hT : isTup v = true
    case neg =>
      refine go_seq (go_if (b := true) (et_eq (et_or (a := true) (b := false) (et_eq (et_not (et_B (ev_isTup (ev_var rfl)))) ?_) fun e => by cases e) rfl) (fun _ => go_retE ev_bl (no ?_)) fun e => by cases e)
      · rw [Bool.eq_false_iff.mpr hT]
        rfl
      · unfold showsB
        split
        · exact absurd rfl hT
        · rfl
    obtain ⟨ds, rfl⟩ := isTup_ex hT
    by_cases hl : (ds.length : Int) = 3
    case neg =>
      refine go_seq (go_if (b := true) (et_eq (et_or (a := false) (b := true) (et_eq (et_not (et_B (ev_isTup (ev_var rfl)))) rfl) fun _ => et_or (a := true) (b := false) (et_eq (et_test (ev_neI (ev_cb (ea_cons (ev_var rfl) ea_nil) (rn_len rfl)) ev_int)) ?_) fun e => by cases e) rfl) (fun _ => go_retE ev_bl (no ?_)) fun e => by cases e)
      · rw [decide_eq_false hl]
        rfl
      · unfold showsB
        split
        · rename_i h
          cases h
          exact absurd rfl hl
        · rfl
    obtain ⟨x, y, z, rfl⟩ := three_ex hl
    by_cases hB : isBl x = true
    case neg =>
      refine go_seq (go_if (b := true) (et_eq (et_or (a := false) (b := true) (et_eq (et_not (et_B (ev_isTup (ev_var rfl)))) rfl) fun _ => et_or (a := false) (b := true) (et_eq (et_test (ev_neI (ev_cb (ea_cons (ev_var rfl) ea_nil) (rn_len rfl)) ev_int)) rfl) fun _ => et_or (a := true) (b := false) (et_eq (et_not (et_B (ev_isBl (ev_ixT (ev_var rfl) ev_int (d := x) rfl)))) ?_) fun e => by cases e) rfl) (fun _ => go_retE ev_bl (no ?_)) fun e => by cases e)
      · rw [Bool.eq_false_iff.mpr hB]
        rfl
      · unfold showsB
        split
        · rename_i h
          cases h
          exact absurd rfl hB
        · rfl
    obtain ⟨b, rfl⟩ : ∃ b, x = .bl b := by
      cases x with
      | bl b => exact ⟨b, rfl⟩
      | _ => cases hB
    refine go_ifR (b := (b == isNo (inOf p t))) (et_eq (et_or (a := false) (et_eq (et_not (et_B (ev_isTup (ev_var rfl)))) rfl) fun _ => et_or (a := false) (et_eq (et_test (ev_neI (ev_cb (ea_cons (ev_var rfl) ea_nil) (rn_len rfl)) ev_int)) rfl) fun _ => et_or (a := false) (et_eq (et_not (et_B (ev_isBl (ev_ixT (ev_var rfl) ev_int (d := .bl b) rfl)))) rfl) fun _ => et_test (ev_eqB (ev_ixT (ev_var rfl) ev_int (d := .bl b) rfl) (ev_isNone (ev_var rfl)))) (by rw [hbn]; rfl)) (fun e => go_retE ev_bl (no ?_)) fun hbb => ?_
    · cases y with
      | tup fs =>
        show (!(b == isNo (inOf p t)) && _) = false
        rw [e]
        rfl
      | _ => rfl
    by_cases hT2 : isTup y = true
    case neg =>
      refine go_seq (go_if (b := true) (et_eq (et_or (a := true) (b := false) (et_eq (et_not (et_B (ev_isTup (ev_ixT (ev_var rfl) ev_int (d := y) rfl)))) ?_) fun e => by cases e) rfl) (fun _ => go_retE ev_bl (no ?_)) fun e => by cases e)
      · rw [Bool.eq_false_iff.mpr hT2]
        rfl
      · cases y with
        | tup fs => exact absurd rfl hT2
        | _ => rfl
    obtain ⟨fs, rfl⟩ := isTup_ex hT2
    have hsh : showsB p t (.tup [.bl b, .tup fs, z]) = (decide (fs.length = p.ss.length) && (areRt fs && (isWts t z && showOk p t b (fOf fs) (WOf (items z))))) := by
      show (!(b == isNo (inOf p t)) && _) = _
      rw [hbb]
      rfl
    by_cases hl2 : fs.length = p.ss.length
    case neg =>
      refine go_seq (go_if (b := true) (et_eq (et_or (a := false) (b := true) (et_eq (et_not (et_B (ev_isTup (ev_ixT (ev_var rfl) ev_int (d := .tup fs) rfl)))) rfl) fun _ => et_eq (et_test (ev_neI (ev_cb (ea_cons (ev_ixT (ev_var rfl) ev_int (d := .tup fs) rfl) ea_nil) (rn_len rfl)) (ev_cb (ea_cons (ev_ixT (ev_var rfl) ev_int (d := .tup (p.ss.map dS)) rfl) ea_nil) (rn_len rfl)))) ?_) rfl) (fun _ => go_retE ev_bl (no ?_)) fun e => by cases e)
      · rw [decide_eq_false (by rw [hls]; omega)]
        rfl
      · rw [hsh, decide_eq_false hl2]
        rfl
    refine go_guard (et_or (et_not (et_B (ev_isTup (ev_ixT (ev_var rfl) ev_int (d := .tup fs) rfl)))) fun _ => et_test (ev_neI (ev_cb (ea_cons (ev_ixT (ev_var rfl) ev_int (d := .tup fs) rfl) ea_nil) (rn_len rfl)) (ev_cb (ea_cons (ev_ixT (ev_var rfl) ev_int (d := .tup (p.ss.map dS)) rfl) ea_nil) (rn_len rfl)))) ?_ ?_
    · show (false || !decide ((fs.length : Int) = ((p.ss.map dS).length : Int))) = false
      rw [hls, hl2, decide_eq_true rfl]
      rfl
    rw [decide_eq_true hl2, Bool.true_and] at hsh
    refine go_ifR (b := !areRt fs) (et_not (et_B (ev_allG hPt (src_tup (ev_ixT (ev_var rfl) ev_int (d := .tup fs) rfl)) (f := fun i => isRt (fs.getD i .non)) fun i hi _ => ev_own (fs.getD i .non) (ea_cons (ev_var rfl) ea_nil) trivial fun x e => e))) (fun e => go_retE ev_bl (no ?_)) fun hrt => ?_
    · rw [hsh]
      cases hh : areRt fs with
      | true => rw [hh] at e; cases e
      | false => rfl
    have hrt : areRt fs = true := by
      cases hh : areRt fs with
      | true => rfl
      | false => rw [hh] at hrt; cases hrt
    rw [hrt, Bool.true_and] at hsh
    refine go_ifR (b := !isWts t z) (et_not (et_B ?_)) (fun e => go_retE ev_bl (no ?_)) fun hwt => ?_
    · exact ev_own (t, z) (ea_cons (ev_var rfl) (ea_cons (ev_ixT (ev_var rfl) ev_int (d := z) rfl) ea_nil)) hle fun x e => e
    · rw [hsh]
      cases hh : isWts t z with
      | true => rw [hh] at e; cases e
      | false => rfl
    have hwt : isWts t z = true := by
      cases hh : isWts t z with
      | true => rfl
      | false => rw [hh] at hwt; cases hwt
    rw [hwt, Bool.true_and] at hsh
    obtain ⟨ws, rfl⟩ : ∃ ws, z = .tup ws := by
      cases z with
      | tup ws => exact ⟨ws, rfl⟩
      | _ => cases hwt
    obtain ⟨hfb, hWb⟩ := hsm b fs ws rfl
    have hfs : fs = (List.range p.ss.length).map fun j => rt (fOf fs j) := by
      refine List.ext_getElem (by simp [hl2]) fun i h1 h2 => ?_
      rw [List.getElem_map, List.getElem_range]
      have := List.all_eq_true.mp hrt i (List.mem_range.mpr h1)
      have e : fs.getD i .non = fs[i] := by rw [List.getD_eq_getElem?_getD, List.getElem?_eq_getElem h1]; rfl
      rw [e] at this
      unfold fOf
      rw [e, rt_qOf this]
    have hws : D.tup ws = pairsD t.length (WOf ws) := wts_ex hwt
    have hsh : showsB p t (.tup [.bl b, .tup fs, .tup ws]) = showOk p t b (fOf fs) (WOf ws) := hsh
    rw [hsh] at hR no
    clear hsh hsm hrt hwt hl hl2 hB hT hT2
    rw [hfs, hws]
    generalize fOf fs = f at hfb hR no
    generalize WOf ws = W at hWb hR no
    refine go_parS (x := .lst ((conds p t).map dC)) (y := listD (conds p t).length (wAt p t W)) (ea_cons (ev_own (p, t) (ea_cons (ev_var rfl) (ea_cons (ev_var rfl) ea_nil)) ⟨hpp, htt⟩ fun x e => e) (ea_cons (ev_own (⟨p, t, W⟩ : WtA) (ea_cons (ev_var rfl) (ea_cons (ev_var rfl) (ea_cons (ev_ixT (ev_var rfl) ev_int (d := pairsD t.length W) rfl) ea_nil))) ⟨hpp, htt⟩ fun x e => e) ea_nil)) (show 4 < 14 by decide) (show 5 < 14 by decide) ?_
    have hmin : min ((List.range (conds p t).length).map fun i => rt (wAt p t W i)).length ((conds p t).map dC).length = (conds p t).length := by simp
    have hwb : ∀ i, Bit (wAt p t W i) 700 := fun i => hWb _ _
    -- the total over the conditions
    have tot : ∀ (G : Ctx) (E : XK) (g : Nat → Int) (ta : TE), G.length = 14 → G[5]? = some (some (.d (listD (conds p t).length (wAt p t W)))) → G[4]? = some (some (.d (.lst ((conds p t).map dC)))) → (∀ i, Bit (g i : Rat) 26) →
        (∀ i, i < (conds p t).length → Ev L ta (setC (wipeC G [10, 11]) ([10, 11].zip [rt (wAt p t W i), dC ((conds p t).getD i noC)])) (.int (g i))) →
        Ev L (tCall (sp_total L) [] E (tCons (tLc (RZ.iZipA L.K (tCons (tVar 5) (tCons (tVar 4) tNil))) (gTup L.K 2 (gCons (gName 10) (gCons (gName 11) gNil))) tYes (tCall (sp_by L) [] E0 (tCons (tVar 10) (tCons (tTup (tCons ta (tCons (tC (.int 1)) tNil))) tNil))) [10, 11]) tNil)) G (rt (S (conds p t).length fun i => wAt p t W i * (g i : Rat))) := fun G E g ta h0 h5 h4 hg hta => by
      refine ev_totA (b := 726) (ev_eq (ev_lc (js := [10, 11]) (bd := fun i => [rt (wAt p t W i), dC ((conds p t).getD i noC)]) (f := fun _ => true) (out := fun i => rt (wAt p t W i * (g i : Rat))) (src_zipL (ds := (List.range (conds p t).length).map fun i => rt (wAt p t W i)) (es := (conds p t).map dC) (ea_cons (ev_var h5) (ea_cons (ev_var h4) ea_nil))) ?_ (fun l hl => ?_) (fun l hl => hl) (fun i hi => ?_) (fun i hi => et_yes) (fun i hi _ => ?_)) ?_) ?_ (fun i hi => (hwb i).mul (hg i)) ?_
      · rw [hmin]; omega
      · have : l = 10 ∨ l = 11 := by simpa using hl
        omega
      · have hi : i < (conds p t).length := by rw [← hmin]; exact hi
        rw [getD_tab _ _ _ _ hi, getD_map dC _ i noC .non hi]
        exact tg_2 rfl
      · have hi : i < (conds p t).length := by rw [← hmin]; exact hi
        refine ev_own (wAt p t W i, (g i : Rat)) (ea_cons (ev_var ?_) (ea_cons (ev_eq (ev_tup (ea_cons (hta i hi) (ea_cons ev_int ea_nil)) (show 2 ≤ 100000 by decide)) (rt_ofInt _).symm) ea_nil)) ⟨700, 26, hwb i, hg i, by decide⟩ fun x e => e
        show (setC (wipeC G [10, 11]) [(10, rt (wAt p t W i)), (11, dC ((conds p t).getD i noC))])[10]? = _
        show (((wipeC G [10, 11]).set 10 (some (.d (rt (wAt p t W i))))).set 11 _)[10]? = _
        rw [List.getElem?_set_ne (by decide), List.getElem?_set_self (by rw [wipeC_length]; omega)]
      · rw [hmin]
      · omega
      · have : (conds p t).length * (726 + 1) ≤ 6 * 727 := Nat.mul_le_mul_right _ hnc
        omega
    have hcb : ∀ k, Bit (colv p t f W k) 7300 := fun k => by
      have h1 : Bit (numv f (t.getD k (0, 0))) (2 * (700 + 1) + 1) := S_bit (b := 700) fun i hi => by
        split
        · exact hfb _
        · exact zero_bit (by decide)
      have h2 : Bit (S (conds p t).length fun i => wAt p t W i * (((conds p t).getD i noC).fs.getD k 0 : Int)) (6 * (726 + 1) + 1) := S_bit_le (fun i hi => ((hwb i).mul (cond_fs_bit hpp htt i k)).mono (by decide)) hnc
      exact (h1.sub h2).mono (by decide)
    refine go_forS [6, 7] (fun k => [.int (k : Int), dP (t.getD k (0, 0))]) (fun n G' => (∀ k, k < n → colOk p t b f W k = true) ∧ ∃ o6 o7 o8 o9 o10 o11 o12 o13, G' = [some (.d (dProb p)), some (.d (dStr t)), some (.d (.tup [.bl b, .tup ((List.range p.ss.length).map fun j => rt (f j)), pairsD t.length W])), some (.d (bestOf p t)), some (.d (.lst ((conds p t).map dC))), some (.d (listD (conds p t).length (wAt p t W))), dn o6, dn o7, dn o8, dn o9, dn o10, dn o11, dn o12, dn o13])
      (src_enumT (ea_cons (ev_var rfl) ea_nil)) ⟨fun k hk => absurd hk (Nat.not_lt_zero k), none, none, none, none, none, none, none, none, rfl⟩ (fun k hk => ?_) (fun k G' hc j hj => ?_) (fun k G' A' N E' hk hc hN e1 e2 e3 => ?_) (fun G' hc => ?_)
    · rw [getD_map dP t k (0, 0) .non (by simpa using hk)]
      exact tg_2 rfl
    · obtain ⟨_, o6, o7, o8, o9, o10, o11, o12, o13, rfl⟩ := hc
      have : j = 6 ∨ j = 7 := by simpa using hj
      show j < 14
      omega
    · obtain ⟨hpre, o6, o7, o8, o9, o10, o11, o12, o13, rfl⟩ := hc
      have hk : k < t.length := by simpa using hk
      have hq : PairOk p (t.getD k (0, 0)) := htt.ok _ (getD_mem _ _ _ hk)
      have hckk : colv p t f W k = numv f (t.getD k (0, 0)) - S (conds p t).length fun i => wAt p t W i * (((conds p t).getD i noC).fs.getD k 0 : Int) := rfl
      have hcol : colOk p t b f W k = !decide (((if b = true ∧ (t.getD k (0, 0)).1 = -1 then 1 else 0 : Int) : Rat) < colv p t f W k) := rfl
      generalize hqq : t.getD k (0, 0) = q at hq hckk hcol
      have hb1 : Bit (numv f q) 1410 := (S_bit (b := 700) fun i hi => by
        split
        · exact hfb _
        · exact zero_bit (by decide)).mono (by decide)
      have hb2 : Bit (S (conds p t).length fun i => wAt p t W i * (((conds p t).getD i noC).fs.getD k 0 : Int)) 4370 := (S_bit_le (fun i hi => ((hwb i).mul (cond_fs_bit hpp htt i k)).mono (show 709 ≤ 726 by decide)) hnc).mono (by decide)
      show Go L _ _ _ [some (.d (dProb p)), some (.d (dStr t)), some (.d (.tup [.bl b, .tup ((List.range p.ss.length).map fun j => rt (f j)), pairsD t.length W])), some (.d (bestOf p t)), some (.d (.lst ((conds p t).map dC))), some (.d (listD (conds p t).length (wAt p t W))), some (.d (.int (k : Int))), some (.d (dP q)), dn o8, dn o9, dn o10, dn o11, dn o12, dn o13]
      refine go_set (d := rt (numv f q)) (ev_totG (n := 2) (b := 700) (f := fun i => decide (0 ≤ nth q i)) (x := fun i => f (nth q i).toNat) (ev_lc (js := [9]) (bd := fun i => [.int (nth q i)]) (f := fun i => decide (0 ≤ nth q i)) (out := fun i => rt (f (nth q i).toNat)) (src_tup (ds := [.int q.1, .int q.2]) (ev_var rfl)) (by decide) (fun l hl => ?_) (fun l hl => hl) (fun i hi => ?_) (fun i hi => ?_) (fun i hi e => ?_)) (by decide) (fun i hi _ => hfb _) (by decide)) (show 8 < 14 by decide) ?_
      · rw [List.mem_singleton.mp hl]; exact (show 9 < 14 by decide)
      · have : i = 0 ∨ i = 1 := by
          have : i < 2 := hi
          omega
        rcases this with e | e
        · subst e; exact tg_name
        · subst e; exact tg_name
      · exact et_test (ev_B0 (ev_var rfl) ev_int)
      · have e : 0 ≤ nth q i := of_decide_eq_true e
        have hlt : (nth q i).toNat < p.ss.length := by
          obtain ⟨a1, a2, a3, a4, _⟩ := hq
          unfold nth at e ⊢
          split <;> omega
        refine ev_ixT (ds := (List.range p.ss.length).map fun j => rt (f j)) (ev_ixT (ev_var rfl) ev_int rfl) (ev_var rfl) ?_
        have := atI_tab (fun j => rt (f j)) _ _ hlt
        rw [Int.toNat_of_nonneg e] at this
        exact this
      show Go L _ _ _ [some (.d (dProb p)), some (.d (dStr t)), some (.d (.tup [.bl b, .tup ((List.range p.ss.length).map fun j => rt (f j)), pairsD t.length W])), some (.d (bestOf p t)), some (.d (.lst ((conds p t).map dC))), some (.d (listD (conds p t).length (wAt p t W))), some (.d (.int (k : Int))), some (.d (dP q)), some (.d (rt (numv f q))), dn o9, dn o10, dn o11, dn o12, dn o13]
      refine go_set (d := rt (colv p t f W k)) (ev_own (numv f q, S (conds p t).length fun i => wAt p t W i * (((conds p t).getD i noC).fs.getD k 0 : Int)) (ea_cons (ev_var rfl) (ea_cons (tot _ _ (fun i => ((conds p t).getD i noC).fs.getD k 0) _ rfl rfl rfl (fun i => (cond_fs_bit hpp htt i k).mono (by decide)) fun i hi => ?_) ea_nil)) ⟨1410, 4370, hb1, hb2, by decide⟩ fun x e => by rw [e, hckk]) (show 8 < 14 by decide) ?_
      · have hfl : ((conds p t).getD i noC).fs.length = t.length := (condsTo_fs p t t.length _ (getD_mem _ i noC hi)).1
        refine ev_ixL (ds := ((conds p t).getD i noC).fs.map D.int) (ev_ixT (ev_var rfl) ev_int rfl) (ev_var rfl) ?_
        have := atI_map D.int ((conds p t).getD i noC).fs (k : Int) 0 (by omega) (by omega)
        rw [this, Int.toNat_natCast]
      show Go L _ _ _ [some (.d (dProb p)), some (.d (dStr t)), some (.d (.tup [.bl b, .tup ((List.range p.ss.length).map fun j => rt (f j)), pairsD t.length W])), some (.d (bestOf p t)), some (.d (.lst ((conds p t).map dC))), some (.d (listD (conds p t).length (wAt p t W))), some (.d (.int (k : Int))), some (.d (dP q)), some (.d (rt (colv p t f W k))), dn o9, dn o10, dn o11, dn o12, dn o13]
      have hb01 : Bit (((if b = true ∧ q.1 = -1 then 1 else 0 : Int) : Rat)) 2 := Bit.int (by split <;> decide) (by decide)
      refine go_if (b := decide (((if b = true ∧ q.1 = -1 then 1 else 0 : Int) : Rat) < colv p t f W k)) (et_B ?_) (fun e => go_retE ev_bl ?_) fun e => go_next ?_
      · refine ev_own (((if b = true ∧ q.1 = -1 then 1 else 0 : Int) : Rat), colv p t f W k) (ea_cons (ev_eq (ev_tup (ea_cons (ev_ifI (p := b = true ∧ q.1 = -1) (et_and (a := b) (et_B (ev_ixT (ev_var rfl) ev_int rfl)) fun _ => et_test (ev_eqI (ev_ixT (ev_var rfl) ev_int rfl) (ev_neg ev_int))) ?_ (fun _ => ev_int) fun _ => ev_int) (ea_cons ev_int ea_nil)) (show 2 ≤ 100000 by decide)) (rt_ofInt _).symm) (ea_cons (ev_var rfl) ea_nil)) ⟨2, 7300, hb01, hcb k, by decide⟩ fun x e => e
        cases b with
        | true => simp
        | false => simp
      · rw [e3]
        refine no ?_
        have : colOk p t b f W k = false := by rw [hcol, e]; rfl
        have hall : colsOk p t b f W = false := by
          cases hh : colsOk p t b f W with
          | true =>
            have := List.all_eq_true.mp hh k (List.mem_range.mpr hk)
            rw [‹colOk p t b f W k = false›] at this
            cases this
          | false => rfl
        show (colsOk p t b f W && _) = false
        rw [hall]
        rfl
      · rw [e1]
        refine hN _ ⟨fun i hi => ?_, some (.int (k : Int)), some (dP q), some (rt (colv p t f W k)), o9, o10, o11, o12, o13, rfl⟩
        by_cases z : i = k
        · rw [z, hcol, e]
          rfl
        · exact hpre i (by omega)
    obtain ⟨hall, o6, o7, o8, o9, o10, o11, o12, o13, rfl⟩ := hc
    have hcols : colsOk p t b f W = true := List.all_eq_true.mpr fun k hk => hall k (by rw [hlt]; exact List.mem_range.mp hk)
    have hlh : (p.ss.map fun s => D.int (heat s)).length = p.ss.length := List.length_map ..
    have hminh : min (p.ss.map fun s => D.int (heat s)).length ((List.range p.ss.length).map fun j => rt (f j)).length = p.ss.length := by simp
    have ho1 : Bit (S p.ss.length fun j => ((heat (p.at j) : Int) : Rat) * f j) 3600 := (S_bit_le (fun j hj => (heat_bit hpp j).mul (hfb j)) hse).mono (by decide)
    have ho2 : Bit (S (conds p t).length fun i => wAt p t W i * (((conds p t).getD i noC).side : Int)) 4370 := (S_bit_le (fun i hi => (hwb i).mul (cond_side_bit hpp htt i)) hnc).mono (by decide)
    refine go_set (d := rt (S p.ss.length fun j => ((heat (p.at j) : Int) : Rat) * f j)) (ev_totA (b := 718) (ev_eq (ev_lc (n := min (p.ss.map fun s => D.int (heat s)).length ((List.range p.ss.length).map fun j => rt (f j)).length) (item := fun i => .tup [(p.ss.map fun s => D.int (heat s)).getD i .non, ((List.range p.ss.length).map fun j => rt (f j)).getD i .non]) (js := [13, 11]) (bd := fun j => [.int (heat (p.at j)), rt (f j)]) (f := fun _ => true) (out := fun j => rt (((heat (p.at j) : Int) : Rat) * f j)) ?_ ?_ (fun l hl => ?_) (fun l hl => hl) (fun j hj => ?_) (fun j hj => et_yes) (fun j hj _ => ?_)) ?_) ?_ (fun j hj => (heat_bit hpp j).mul (hfb j)) ?_) (show 12 < 14 by decide) ?_
    · exact src_zipLT (ds := p.ss.map fun s => D.int (heat s)) (es := (List.range p.ss.length).map fun j => rt (f j)) (ea_cons (ev_own p (ea_cons (ev_var rfl) ea_nil) hpp fun x e => e) (ea_cons (ev_ixT (ev_var rfl) ev_int rfl) ea_nil))
    · rw [hminh]; omega
    · have : l = 13 ∨ l = 11 := by simpa using hl
      show l < 14
      omega
    · have hj : j < p.ss.length := by rw [← hminh]; exact hj
      show Tg _ (.tup [(p.ss.map fun s => D.int (heat s)).getD j .non, ((List.range p.ss.length).map fun j => rt (f j)).getD j .non]) _ _
      rw [getD_map (fun s => D.int (heat s)) p.ss j (0, 0, 0) .non hj, getD_tab _ _ _ _ hj]
      exact tg_2 rfl
    · exact ev_own (((heat (p.at j) : Int) : Rat), f j) (ea_cons (ev_eq (ev_tup (ea_cons (ev_var rfl) (ea_cons ev_int ea_nil)) (show 2 ≤ 100000 by decide)) (rt_ofInt _).symm) (ea_cons (ev_var rfl) ea_nil)) ⟨18, 700, heat_bit hpp j, hfb j, by decide⟩ fun x e => e
    · rw [hminh]
    · omega
    · have : p.ss.length * (718 + 1) ≤ 5 * 719 := Nat.mul_le_mul_right _ hse
      omega
    show Go L _ _ _ [some (.d (dProb p)), some (.d (dStr t)), some (.d (.tup [.bl b, .tup ((List.range p.ss.length).map fun j => rt (f j)), pairsD t.length W])), some (.d (bestOf p t)), some (.d (.lst ((conds p t).map dC))), some (.d (listD (conds p t).length (wAt p t W))), dn o6, dn o7, dn o8, dn o9, dn o10, dn o11, some (.d (rt (S p.ss.length fun j => ((heat (p.at j) : Int) : Rat) * f j))), dn o13]
    refine go_set (d := rt (objv p t f W)) (ev_own (S p.ss.length fun j => ((heat (p.at j) : Int) : Rat) * f j, S (conds p t).length fun i => wAt p t W i * (((conds p t).getD i noC).side : Int)) (ea_cons (ev_var rfl) (ea_cons (tot _ _ (fun i => ((conds p t).getD i noC).side) _ rfl rfl rfl (fun i => cond_side_bit hpp htt i) fun i hi => ev_ixT (ev_var rfl) ev_int rfl) ea_nil)) ⟨3600, 4370, ho1, ho2, by decide⟩ fun x e => e) (show 12 < 14 by decide) ?_
    show Go L _ _ _ [some (.d (dProb p)), some (.d (dStr t)), some (.d (.tup [.bl b, .tup ((List.range p.ss.length).map fun j => rt (f j)), pairsD t.length W])), some (.d (bestOf p t)), some (.d (.lst ((conds p t).map dC))), some (.d (listD (conds p t).length (wAt p t W))), dn o6, dn o7, dn o8, dn o9, dn o10, dn o11, some (.d (rt (objv p t f W))), dn o13]
    have hfin : showOk p t b f W = if b = true then decide (objv p t f W = outP p t) else decide (0 < objv p t f W) := by
      unfold showOk
      rw [hcols, Bool.true_and]
    rw [hfin] at hR
    cases b with
    | true =>
      have hno : isNo (inOf p t) = false := by
        cases h : isNo (inOf p t) with
        | true => rw [h] at hbb; cases hbb
        | false => rfl
      have hbest : bestOf p t = .tup [rt (outP p t), .tup ((List.range t.length).map fun k => rt (amtF (inOf p t) (cF t) k))] := if_neg (by rw [hno]; decide)
      rw [hbest]
      refine go_retE (d := .bl (decide (objv p t f W = outP p t))) (ev_eq (ev_if (b := true) (x := .bl (decide (objv p t f W = outP p t))) (y := .non) (et_B (ev_ixT (ev_var rfl) ev_int rfl)) (fun _ => ev_eq (ev_eqD (ev_var rfl) (ev_ixT (d := rt (outP p t)) (ev_var rfl) ev_int rfl) (cmp_rt _) (cmp_rt _)) (congrArg D.bl (dEq_rt _ _))) fun e => by cases e) (if_pos rfl)) ?_
      rw [if_pos rfl] at hR
      exact hR
    | false =>
      refine go_retE (d := .bl (decide (0 < objv p t f W))) (ev_eq (ev_if (b := false) (x := .non) (y := .bl (decide (0 < objv p t f W))) (et_B (ev_ixT (ev_var rfl) ev_int rfl)) (fun e => by cases e) fun _ => ev_eq (ev_B0 (ev_ixT (ev_var rfl) ev_int rfl) ev_int) (congrArg D.bl (decide_eq_decide.mpr (num_pos _)))) (if_neg Bool.false_ne_true)) ?_
      rw [if_neg Bool.false_ne_true] at hR
      exact hR⟩
end
end Pw

/-! Every whole structure of a small problem fits: sizes of all that the program computes. -/
namespace Pw
open PySem L2 PyProof.Rows
structure Whole (a : InA) (AI : Nat → Nat → Int) (gI : Nat → Int) (c : Nat → Rat) : Prop where
  m0 : 0 < a.m
  m : a.m ≤ 11
  n : a.n ≤ 16
  eA : ∀ j k, j < a.m → k < a.n → a.A j k = (AI j k : Rat)
  eg : ∀ j, j < a.m → a.g j = (gI j : Rat)
  bA : ∀ j k, j < a.m → k < a.n → (AI j k).natAbs ≤ 2 ^ 26
  bg : ∀ j, j < a.m → (gI j).natAbs ≤ 2 ^ 26
  c : ∀ k, c k = 0 ∨ c k = -1
def TIn (a : InA) (AI : Nat → Nat → Int) (gI : Nat → Int) (j k : Nat) : Int := if k < a.n then AI j k * sgnI (a.g j) else if k < a.n + a.m then (if k - a.n = j then 1 else 0) else gI j * sgnI (a.g j)
theorem sgnI_abs (q : Rat) : (sgnI q).natAbs = 1 := by
  unfold sgnI
  split <;> rfl
theorem TIn_eq {a : InA} {AI : Nat → Nat → Int} {gI : Nat → Int} {c : Nat → Rat} (h : Whole a AI gI c) {j k : Nat} (hj : j < a.m) : T00 a j k = (TIn a AI gI j k : Rat) := by
  unfold T00 TIn sgn
  by_cases h1 : k < a.n
  · rw [if_pos h1, if_pos h1, h.eA j k hj h1, Rat.intCast_mul]
  · rw [if_neg h1, if_neg h1]
    by_cases h2 : k < a.n + a.m
    · rw [if_pos h2, if_pos h2]
      split <;> rfl
    · rw [if_neg h2, if_neg h2, Rat.intCast_mul]
      rw [← h.eg j hj]
theorem TIn_small {a : InA} {AI : Nat → Nat → Int} {gI : Nat → Int} {c : Nat → Rat} (h : Whole a AI gI c) {j k : Nat} (hj : j < a.m) : (TIn a AI gI j k).natAbs ≤ 2 ^ 26 := by
  unfold TIn
  by_cases h1 : k < a.n
  · rw [if_pos h1, Int.natAbs_mul, sgnI_abs, Nat.mul_one]
    exact h.bA j k hj h1
  · rw [if_neg h1]
    by_cases h2 : k < a.n + a.m
    · rw [if_pos h2]
      split <;> decide
    · rw [if_neg h2, Int.natAbs_mul, sgnI_abs, Nat.mul_one]
      exact h.bg j hj
theorem sgn_cases (q : Rat) : sgn q = 1 ∨ sgn q = -1 := by
  unfold sgn sgnI
  by_cases h : q.num < 0
  · rw [if_pos h]; exact .inr rfl
  · rw [if_neg h]; exact .inl rfl
theorem T00_basic (a : InA) : Basic a.m (a.n + a.m) (T00 a) (B00 a) := by
  refine ⟨fun j hj => ?_, fun i j hi hj => ?_⟩
  · unfold B00
    omega
  · unfold T00 B00
    rw [if_neg (by omega), if_pos (by omega), Nat.add_sub_cancel_left]
    by_cases e : i = j
    · rw [if_pos e.symm, if_pos e]
    · rw [if_neg (fun z => e z.symm), if_neg e]
theorem T00_feas (a : InA) : Feas a.m (a.n + a.m) (T00 a) := fun j hj => by
  unfold T00
  rw [if_neg (by omega), if_neg (by omega)]
  unfold sgn sgnI
  by_cases h : (a.g j).num < 0
  · rw [if_pos h]
    have := (num_neg _).mp h
    have e : (((-1 : Int)) : Rat) = -1 := rfl
    rw [e]
    grind
  · rw [if_neg h]
    have := fun z => h ((num_neg _).mpr z)
    have e : (((1 : Int)) : Rat) = 1 := rfl
    rw [e]
    grind
theorem XX_small {m : Nat} (h : m ≤ 11) : XX m (2 ^ 26) < 2 ^ 340 := by
  unfold XX
  have h1 : (2 * (m + 1) * 2 ^ 26) ^ m ≤ (2 * (11 + 1) * 2 ^ 26) ^ m := Nat.pow_le_pow_left (by omega) m
  have h2 : (2 * (11 + 1) * 2 ^ 26) ^ m ≤ (2 * (11 + 1) * 2 ^ 26) ^ 11 := Nat.pow_le_pow_right (by decide) h
  have h3 : (2 * (11 + 1) * 2 ^ 26) ^ 11 < 2 ^ 340 := by decide +kernel
  exact Nat.lt_of_le_of_lt (Nat.le_trans h1 h2) h3
theorem c1F_cases (n k : Nat) : c1F n k = 0 ∨ c1F n k = -1 := by
  unfold c1F
  split
  · exact .inl rfl
  · exact .inr rfl
theorem c2F_cases {c : Nat → Rat} (h : ∀ k, c k = 0 ∨ c k = -1) (n k : Nat) : c2F n c k = 0 ∨ c2F n c k = -1 := by
  unfold c2F
  split
  · exact h k
  · exact .inl rfl
theorem unit_bit {q : Rat} (h : q = 0 ∨ q = -1) : Bit q 2 := by
  rcases h with h | h <;> rw [h] <;> exact ⟨by decide, by decide⟩
theorem amt_bit {N b : Nat} {T : Nat → Nat → Rat} {B : Nat → Nat} (hb : 0 < b) (k : Nat) : ∀ m, (∀ j, j < m → Bit (T j N) b) → Bit (amt N T B m k) b
  | 0, _ => zero_bit hb
  | m + 1, h => by
    unfold amt
    split
    · exact h m (by omega)
    · exact amt_bit hb k m fun j hj => h j (by omega)
section
variable {a : InA} {AI : Nat → Nat → Int} {gI : Nat → Int} {c : Nat → Rat}
abbrev VV (a : InA) (m : Nat) (T : Tab) (B : Nat → Nat) : Prop := Vir a.m (a.n + a.m) a.n (T00 a) m T B
theorem VV.bit (w : Whole a AI gI c) {m : Nat} {T : Tab} {B : Nat → Nat} (v : VV a m T B) {i k : Nat} (hi : i < m) (hk : k ≤ a.n + a.m) : Bit (T i k) 340 := by
  obtain ⟨h1, h2⟩ := v.ent (AI := TIn a AI gI) (M := 2 ^ 26) (fun i k hi _ => TIn_eq w hi) (by decide) (fun i k hi _ => TIn_small w hi) hi hk
  have := XX_small w.m
  exact ⟨Nat.lt_of_le_of_lt h1 this, Nat.lt_of_le_of_lt h2 this⟩
theorem VV.le (v : VV a m T B) : m ≤ a.m := by
  obtain ⟨F, G, p, v⟩ := v
  apply Classical.byContradiction
  intro hn
  obtain ⟨i, j, h1, h2, h3⟩ := pigeon a.m m p v.lt (by omega)
  have := v.inj i j (by omega) h2 h3
  omega
theorem VV.mbit' (w : Whole a AI gI c) {m m' : Nat} {T : Tab} {B : Nat → Nat} (v : VV a m T B) (hm' : m' ≤ m) {c' : Nat → Rat} (hc : ∀ k, c' k = 0 ∨ c' k = -1) {k : Nat} (hk : k ≤ a.n + a.m) : Bit (mult m' c' T B k) 350 := by
  obtain ⟨h1, h2⟩ := v.mul (AI := TIn a AI gI) (M := 2 ^ 26) hm' (fun i k hi _ => TIn_eq w hi) (by decide) (fun i k hi _ => TIn_small w hi) hk (c := c') hc
  have h3 := XX_small w.m
  have h4 : m' ≤ 11 := Nat.le_trans hm' (Nat.le_trans v.le w.m)
  have h5 : m' * XX a.m (2 ^ 26) ≤ 11 * 2 ^ 340 := Nat.mul_le_mul h4 (Nat.le_of_lt h3)
  have h6 : 11 * 2 ^ 340 < 2 ^ 350 := by decide +kernel
  have h7 : 2 ^ 340 < 2 ^ 350 := by decide +kernel
  exact ⟨Nat.lt_of_le_of_lt h1 (Nat.lt_of_le_of_lt h5 h6), Nat.lt_of_le_of_lt h2 (Nat.lt_trans h3 h7)⟩
theorem VV.mbit (w : Whole a AI gI c) {m : Nat} {T : Tab} {B : Nat → Nat} (v : VV a m T B) {c' : Nat → Rat} (hc : ∀ k, c' k = 0 ∨ c' k = -1) {k : Nat} (hk : k ≤ a.n + a.m) : Bit (mult m c' T B k) 350 := VV.mbit' w v (Nat.le_refl _) hc hk
theorem VV.mok (w : Whole a AI gI c) {m : Nat} {T : Tab} {B : Nat → Nat} (v : VV a m T B) {c' : Nat → Rat} (hc : ∀ k, c' k = 0 ∨ c' k = -1) {k : Nat} (hk : k ≤ a.n + a.m) {st : PSt} (hh : Holds st m (a.n + a.m) T B) : MulA.ok ⟨m, a.n + a.m, a.n + a.m, T, B, c', k⟩ st := by
  have hm := Nat.le_trans v.le w.m
  have hn := w.n
  have hmm := w.m
  have b2 : ∀ j, j < m → Bit (c' (B j) * T j k) 342 := fun j hj => (unit_bit (hc (B j))).mul (v.bit w hj hk)
  refine ⟨hh, (show m ≤ 100 by omega), (show a.n + a.m ≤ 1000 by omega), (show a.n + a.m ≤ 2000 by omega), hk, v.basic.lt, fun j hj => ⟨2, 340, unit_bit (hc _), v.bit w hj hk, by decide⟩, fun j hj => ⟨_, 342, S_bit_le (b := 342) (N := 11) (fun i hi => b2 i (Nat.lt_trans hi hj)) (Nat.le_trans (Nat.le_of_lt hj) hm), b2 j hj, by decide⟩⟩
theorem VV.cok (w : Whole a AI gI c) {m : Nat} {T : Tab} {B : Nat → Nat} (v : VV a m T B) (f : Feas m (a.n + a.m) T) {c' : Nat → Rat} (hc : ∀ k, c' k = 0 ∨ c' k = -1) {st : PSt} (hh : Holds st m (a.n + a.m) T B) : CliA.ok ⟨m, a.n + a.m, a.n + a.m, T, B, c', a.n⟩ st := by
  have hm := Nat.le_trans v.le w.m
  have hn := w.n
  have hmm := w.m
  exact ⟨hh, (show m ≤ 100 by omega), (show a.n + a.m ≤ 1000 by omega), ⟨Nat.le_refl _, (show a.n + a.m ≤ 2000 by omega)⟩, Nat.le_add_right _ _, v.basic, f, fun k _ => unit_bit (hc k), fun t j k hj hk => (VV.bit w (iter_vir (c := c') (Nat.le_add_right a.n a.m) v f t).1 hj hk).mono (by decide), fun t j k hj hk => (VV.mbit' w (iter_vir (c := c') (Nat.le_add_right a.n a.m) v f t).1 (Nat.le_of_lt hj) hc hk).mono (by decide), fun t k hk => (VV.mbit w (iter_vir (c := c') (Nat.le_add_right a.n a.m) v f t).1 hc hk).mono (by decide)⟩
theorem s1_vir (w : Whole a AI gI c) : VV a a.m (sol1 a).1 (sol1 a).2 ∧ Feas a.m (a.n + a.m) (sol1 a).1 := iter_vir (Nat.le_add_right a.n a.m) (vir_start (T00_basic a)) (T00_feas a) _
theorem s1_lvs (w : Whole a AI gI c) (hno : isNo a = false) : Lvs a.m (a.n + a.m) a.n (T00 a) (a.m, (sol1 a).1, (sol1 a).2) :=
  ⟨(s1_vir w).1, (s1_vir w).2, zero_rows (c := c1F a.n) (s1_vir w).2 (fun k => rfl) (of_decide_eq_false hno)⟩
theorem s2_lvs (w : Whole a AI gI c) (hno : isNo a = false) : Lvs a.m (a.n + a.m) a.n (T00 a) (sol2 a) := leaveTo_ok (Nat.le_add_right a.n a.m) (s1_lvs w hno) rfl _ (Nat.le_refl _)
theorem s3_vir (w : Whole a AI gI c) (hno : isNo a = false) : VV a (sol2 a).1 (sol3 a c).1 (sol3 a c).2 := (iter_vir (Nat.le_add_right a.n a.m) (s2_lvs w hno).vir (s2_lvs w hno).feas _).1
theorem whole_ok (w : Whole a AI gI c) : SolOk a c := by
  have hn := w.n
  have hmm := w.m
  have two : ∀ {x : Nat}, x ≤ 2 ^ 26 → x < 2 ^ 1000 := fun h => Nat.lt_of_le_of_lt h (by decide +kernel)
  refine ⟨⟨w.m0, by omega, by omega, fun j k hj hk => ?_, fun j hj => ?_⟩, fun k _ => unit_bit (w.c k), fun st hh => VV.cok w (vir_start (T00_basic a)) (T00_feas a) (c1F_cases _) hh, fun st k hk hh => VV.mok w (s1_vir w).1 (c1F_cases _) hk hh, fun j hj => (VV.mbit w (s1_vir w).1 (c1F_cases _) (by omega)).mono (by decide), fun hno st hst hh => ?_, fun hno st hh => ?_, fun hno => ?_, fun hno st k hk hh => ?_, fun hno j hj => ?_⟩
  · rw [w.eA j k hj hk]
    exact Bit.int (two (w.bA j k hj hk)) (by decide)
  · rw [w.eg j hj]
    exact Bit.int (two (w.bg j hj)) (by decide)
  · refine ⟨hh, (show a.m ≤ 100 by omega), (show a.n + a.m ≤ 1000 by omega), (show st.many ≤ a.n + a.m by omega), fun i j k hi hj hk => ?_⟩
    rw [hst] at hj ⊢
    exact (VV.bit w (leaveTo_ok (Nat.le_add_right a.n a.m) (s1_lvs w hno) rfl i hi).vir hj hk).mono (by decide)
  · exact VV.cok w (s2_lvs w hno).vir (s2_lvs w hno).feas (c2F_cases w.c _) hh
  · have hb := (s2_lvs w hno).vir.basic
    obtain ⟨b, e⟩ := endAt_stops (ends (c := c2F a.n c) (Nat.le_add_right a.n a.m) hb (s2_lvs w hno).feas)
    unfold climbAns climbed
    rw [e]
    cases b with
    | true => rfl
    | false => exact absurd e (act_never fun k => by
        rcases c2F_cases w.c a.n k with z | z <;> rw [z] <;> decide)
  · exact VV.mok w (s3_vir w hno) (c2F_cases w.c _) hk hh
  · exact (VV.mbit w (s3_vir w hno) (c2F_cases w.c _) (by omega)).mono (by decide)
end
theorem sgnm_bit {q : Rat} {n : Nat} (x : Rat) (h : Bit q n) : Bit (sgn x * q) n := by
  rcases sgn_cases x with e | e
  · rw [e, Rat.one_mul]; exact h
  · rw [e, show (-1 : Rat) * q = -q by grind]; exact h.neg
theorem whole_in {p : Prob} {t : List Pair} (hp : ProbOk p) (ht : StrOk p t) : Whole (inOf p t) (aI p t) (gI p t) (cF t) := by
  have h6 := conds_six ht
  have hne : 0 < p.ss.length := List.length_pos_iff.mpr hp.ne
  have hle := hp.le
  have hlt := ht.le
  refine ⟨?_, ?_, ?_, fun _ _ _ _ => rfl, fun _ _ => rfl, fun j k hj hk => ?_, fun j hj => ?_, fun k => ?_⟩
  · show 0 < p.ss.length + (conds p t).length
    omega
  · show p.ss.length + (conds p t).length ≤ 11
    omega
  · show t.length + (conds p t).length ≤ 16
    omega
  · unfold aI
    split
    · split
      · split <;> decide
      · decide
    · split
      · have := (cond_fs_bit hp ht (j - p.ss.length) k).1
        rw [Rat.num_intCast] at this
        omega
      · split <;> decide
  · unfold gI
    split
    · have := (heat_bit hp j).1
      rw [Rat.num_intCast] at this
      omega
    · have := (cond_side_bit hp ht (j - p.ss.length)).1
      rw [Rat.num_intCast] at this
      omega
  · unfold cF cI
    split
    · split
      · exact .inr rfl
      · exact .inl rfl
    · exact .inl rfl
theorem fits {p : Prob} {t : List Pair} (hp : ProbOk p) (ht : StrOk p t) : Fits p t := by
  have w := whole_in hp ht
  refine ⟨⟨hp, ht, whole_ok w⟩, fun hno k hk => ?_, fun hno j hj => ?_, fun hno j hj => ?_⟩
  · exact (amt_bit (b := 340) (by decide) k _ fun j hj => VV.bit w (s3_vir w hno) hj (Nat.le_refl _)).mono (by decide)
  · exact sgnm_bit _ ((VV.mbit w (s1_vir w).1 (c1F_cases _) (Nat.add_le_add_left (Nat.le_of_lt hj) _)).mono (by decide))
  · exact sgnm_bit _ ((VV.mbit w (s3_vir w hno) (c2F_cases w.c _) (Nat.add_le_add_left (Nat.le_of_lt hj) _)).mono (by decide))
end Pw

/-! The walk: the law's rationals. -/
namespace Pw
open PySem L2 PyProof.Rows
theorem go_whileS {L : Pm} {G : Ctx} {F : Frm} {E : Ends} {c : TT} {t u : TS} (W : Nat → Ctx → Prop) (m0 : Nat) (w0 : W m0 G) (h : ∀ m G', W m G' → ∃ Φt : Bool → Prop, EvTG L c G' Φt ∧
    (Φt true → ∀ (N : L2.St → Hp → Prop) (E' : Ends), (∀ m' G'', m' < m → W m' G'' → Nx L F N G'') → E'.nx = N → E'.rt = E.rt → Go L F E' t G') ∧ (Φt false → Go L F E u G')) : Go L F E (tSeq (tWhile c t) u) G :=
  go_seq (go_while W m0 w0 fun m G' w => by
    obtain ⟨Φt, h1, h2, h3⟩ := h m G' w
    exact ⟨Φt, h1, fun e N hN => h2 e N _ hN rfl rfl, h3⟩)
theorem int_one {i : Int} : dint (.int i) = some i := rfl
section
variable {P : Program} {w : World} {L : Pm} {mg : Str → Option Value} {base : Heap}
def nm_law_ratio : List Str := ["_law_top", "_law_bottom", "_law_one", "_law_other"]
theorem sc_law_ratio : FnScope nm_law_ratio ["_law_top", "_law_bottom"] (defScope (top 59)) := ⟨rfl, rfl, rfl, by decide +kernel, rfl, by decide +kernel, by decide +kernel⟩
abbrev sp_law_ratio (L : Pm) : Sp := spP L (fun a : Int × Int => 0 < a.2 ∧ a.2.natAbs.log2 < 9000) (fun a => [.int a.1, .int a.2]) (fun a d => d = rt (Rat.divInt a.1 a.2))
theorem w_law_ratio (T : Tx L mg base) : Pr P w L.K mg base "_law_ratio" 1 ["_law_top", "_law_bottom"] (sp_law_ratio L) :=
  pr_of T.law_ratio sc_law_ratio (by intro kV doc pm an cdv ct us h; match us, h with | [_, _], _ => rfl) (fun vs H Q E h => len_P (n := 2) (fun _ => rfl) h) fun f cdv A outer s H vs Q E HR h => ⟨_, (pss_cons (ps_par (i := 2) (j := 3) (by rfl) sc_law_ratio.nd rfl rfl (by decide) rfl rfl (pa_cons (pe_callB call_abs (by rfl) T.abs_ (by decide +kernel) (pa_cons (pv 0) pa_nil)) (pa_cons (pe_callB call_abs (by rfl) T.abs_ (by decide +kernel) (pa_cons (pv 1) pa_nil)) pa_nil)) (by rfl))
    (pss_cons (ps_while PassesOwn.never (pt_cmpR op_ne (pv 3) pe_int (nomark _)) (pss_one (ps_par (i := 2) (j := 3) (by rfl) sc_law_ratio.nd rfl rfl (by decide) rfl rfl (pa_cons (pv 3) (pa_cons (pe_op op_mod (pe_callTy call_int1 (by rfl) T.int_ (by decide +kernel) (pa_cons (pv 2) pa_nil)) (pv 3)) pa_nil)) (by rfl))))
    (pss_one (ps_ret (pe_ifExp (pt_cmpR op_gt (pv 1) pe_int (nomark _)) (pe_tup (pa_cons (pe_op op_fdivZ (pv 0) (pv 2)) (pa_cons (pe_op op_fdivZ (pv 1) (pv 2)) pa_nil))) (pe_tup (pa_cons (pe_op op_sub pe_int (pe_op op_fdivZ (pv 0) (pv 2))) (pa_cons (pe_op op_sub pe_int (pe_op op_fdivZ (pv 1) (pv 2))) pa_nil)))))))),
  start_P h fun a F rt' hp hM hW hR => by
    obtain ⟨t, b⟩ := a
    have h1 : 0 < b := hp.1
    have h2 : b.natAbs.log2 < 9000 := hp.2
    refine go_parS (x := .int (t.natAbs : Int)) (y := .int (b.natAbs : Int)) (ea_cons (ev_eq (ev_cb (ea_cons (ev_var rfl) ea_nil) rn_abs) (congrArg D.int (show (if t < 0 then -t else t) = (t.natAbs : Int) by split <;> omega))) (ea_cons (ev_eq (ev_cb (ea_cons (ev_var rfl) ea_nil) rn_abs) (congrArg D.int (show (if b < 0 then -b else b) = (b.natAbs : Int) by split <;> omega))) ea_nil)) (show 2 < 4 by decide) (show 3 < 4 by decide) ?_
    refine go_whileS (fun m G' => ∃ x y : Nat, Nat.gcd x y = Nat.gcd t.natAbs b.natAbs ∧ m = y ∧ G' = [some (.d (.int t)), some (.d (.int b)), some (.d (.int (x : Int))), some (.d (.int (y : Int)))]) b.natAbs ⟨t.natAbs, b.natAbs, rfl, rfl, rfl⟩ (fun m G' hw => ?_)
    obtain ⟨x, y, hg, hm, rfl⟩ := hw
    refine ⟨fun c => c = !decide ((y : Int) = 0), et_test (ev_neI (ev_var rfl) ev_int), fun e N E' hN e1 e2 => ?_, fun e => ?_⟩
    · have hy : 0 < y := by
        have e : true = !decide ((y : Int) = 0) := e
        rcases Nat.eq_zero_or_pos y with z | z
        · rw [z] at e; cases e
        · exact z
      refine go_par (x := .int (y : Int)) (y := .int ((x % y : Nat) : Int)) (ea_cons (ev_var rfl) (ea_cons (ev_eq (ev_I (ev_cb (ea_cons (ev_var rfl) ea_nil) (rn_int rfl)) (ev_var rfl) (by show (0 : Int) < y; omega)) (congrArg D.int (show (x : Int) % (y : Int) = ((x % y : Nat) : Int) by omega))) ea_nil)) (show 2 < 4 by decide) (show 3 < 4 by decide) ?_
      rw [e1]
      exact hN (x % y) _ (by rw [hm]; exact Nat.mod_lt _ hy) ⟨y, x % y, by rw [← hg, Nat.gcd_comm x y, Nat.gcd_rec y x, Nat.gcd_comm], rfl, rfl⟩
    · have hy : y = 0 := by
        have e : false = !decide ((y : Int) = 0) := e
        rcases Nat.eq_zero_or_pos y with z | z
        · exact z
        · rw [decide_eq_false (by omega)] at e; cases e
      subst hy
      rw [Nat.gcd_zero_right] at hg
      subst hg
      have hc : ((Nat.gcd t.natAbs b.natAbs : Nat) : Int) ≠ 0 ∧ ((Nat.gcd t.natAbs b.natAbs : Nat) : Int).natAbs.log2 < 9000 := ⟨gcd_ne (by omega), gcd_log (by omega) h2⟩
      refine go_retE (d := rt (Rat.divInt t b)) (ev_eq (ev_if (b := true) (x := .tup [.int (t.fdiv ((Nat.gcd t.natAbs b.natAbs : Nat) : Int)), .int (b.fdiv ((Nat.gcd t.natAbs b.natAbs : Nat) : Int))]) (y := .non) (et_eq (et_test (ev_B0 (ev_var rfl) ev_int)) (decide_eq_true h1)) (fun _ => ev_tup (ea_cons (ev_I (ev_var rfl) (ev_var rfl) hc) (ea_cons (ev_I (ev_var rfl) (ev_var rfl) hc) ea_nil)) (show 2 ≤ 100000 by decide)) fun e => by cases e) ?_) (hR _ rfl)
      rw [if_pos rfl, (ratio_up h1).1, (ratio_up h1).2]
      rfl⟩
abbrev sp_law_plus (L : Pm) : Sp := spP L (fun a => ∃ m n, Bit a.1 m ∧ Bit a.2 n ∧ m + n ≤ 9000) (fun a : Rat × Rat => [rt a.1, rt a.2]) (fun a d => d = rt (a.1 + a.2))
def nm_law_plus : List Str := ["_law_one", "_law_other"]
theorem sc_law_plus : FnScope nm_law_plus ["_law_one", "_law_other"] (defScope (top 60)) := ⟨rfl, rfl, rfl, by decide +kernel, rfl, by decide +kernel, by decide +kernel⟩
theorem w_law_plus (T : Tx L mg base) : Pr P w L.K mg base "_law_plus" 2 ["_law_one", "_law_other"] (sp_law_plus L) :=
  have g_law_ratio := w_law_ratio (P := P) (w := w) T
  pr_of T.law_plus sc_law_plus (by intro kV doc pm an cdv ct us h; match us, h with | [_, _], _ => rfl) (fun vs H Q E h => len_P (n := 2) (fun _ => rfl) h) fun f cdv A outer s H vs Q E HR h => ⟨_, (pss_one (ps_ret (pe_own g_law_ratio HR (by decide) (by rfl) (pa_cons (pe_op op_add (pe_op op_mulW (pe_ix ix_tup (pv 0) pe_int (fun _ _ => rfl)) (pe_ix ix_tup (pv 1) pe_int (fun _ _ => rfl))) (pe_op op_mulW (pe_ix ix_tup (pv 1) pe_int (fun _ _ => rfl)) (pe_ix ix_tup (pv 0) pe_int (fun _ _ => rfl)))) (pa_cons (pe_op op_mulW (pe_ix ix_tup (pv 0) pe_int (fun _ _ => rfl)) (pe_ix ix_tup (pv 1) pe_int (fun _ _ => rfl))) pa_nil))))),
  start_P h fun a F rt' hp hM hW hR => by
    obtain ⟨p, q⟩ := a
    have hp0 : 0 < (p.den : Int) := by have := p.den_pos; omega
    have hq0 : 0 < (q.den : Int) := by have := q.den_pos; omega
    obtain ⟨m, n, bp, bq, hmn⟩ := hp
    have bp : Bit p m := bp
    have bq : Bit q n := bq
    have m0 := bp.pos
    have n0 := bq.pos
    have dp : ((p.den : Int)).natAbs < 2 ^ m := bp.2
    have dq : ((q.den : Int)).natAbs < 2 ^ n := bq.2
    have hl : ((p.den : Int) * (q.den : Int)).natAbs.log2 < 9000 := Nat.lt_of_lt_of_le (log_lt (mulB dp dq) (by omega)) hmn
    exact go_retE (d := rt (p + q)) (ev_own (p.num * (q.den : Int) + q.num * (p.den : Int), (p.den : Int) * (q.den : Int))
      (ea_cons (ev_I0 (ev_I (ev_ixT (ev_var rfl) ev_int rfl) (ev_ixT (ev_var rfl) ev_int rfl) (wide_mul bp.1 dq m0 n0 (by omega))) (ev_I (ev_ixT (ev_var rfl) ev_int rfl) (ev_ixT (ev_var rfl) ev_int rfl) (wide_mul bq.1 dp n0 m0 (by omega)))) (ea_cons (ev_I (ev_ixT (ev_var rfl) ev_int rfl) (ev_ixT (ev_var rfl) ev_int rfl) (wide_mul dp dq m0 n0 (by omega))) ea_nil))
      ⟨Int.mul_pos hp0 hq0, hl⟩ fun x e => by rw [e, add_rt]) (hR _ rfl)⟩
abbrev sp_law_by (L : Pm) : Sp := spP L (fun a => ∃ m n, Bit a.1 m ∧ Bit a.2 n ∧ m + n ≤ 9000) (fun a : Rat × Rat => [rt a.1, rt a.2]) (fun a d => d = rt (a.1 * a.2))
def nm_law_by : List Str := ["_law_one", "_law_other"]
theorem sc_law_by : FnScope nm_law_by ["_law_one", "_law_other"] (defScope (top 61)) := ⟨rfl, rfl, rfl, by decide +kernel, rfl, by decide +kernel, by decide +kernel⟩
theorem w_law_by (T : Tx L mg base) : Pr P w L.K mg base "_law_by" 2 ["_law_one", "_law_other"] (sp_law_by L) :=
  have g_law_ratio := w_law_ratio (P := P) (w := w) T
  pr_of T.law_by sc_law_by (by intro kV doc pm an cdv ct us h; match us, h with | [_, _], _ => rfl) (fun vs H Q E h => len_P (n := 2) (fun _ => rfl) h) fun f cdv A outer s H vs Q E HR h => ⟨_, (pss_one (ps_ret (pe_own g_law_ratio HR (by decide) (by rfl) (pa_cons (pe_op op_mulW (pe_ix ix_tup (pv 0) pe_int (fun _ _ => rfl)) (pe_ix ix_tup (pv 1) pe_int (fun _ _ => rfl))) (pa_cons (pe_op op_mulW (pe_ix ix_tup (pv 0) pe_int (fun _ _ => rfl)) (pe_ix ix_tup (pv 1) pe_int (fun _ _ => rfl))) pa_nil))))),
  start_P h fun a F rt' hp hM hW hR => by
    obtain ⟨p, q⟩ := a
    have hp0 : 0 < (p.den : Int) := by have := p.den_pos; omega
    have hq0 : 0 < (q.den : Int) := by have := q.den_pos; omega
    obtain ⟨m, n, bp, bq, hmn⟩ := hp
    have bp : Bit p m := bp
    have bq : Bit q n := bq
    have m0 := bp.pos
    have n0 := bq.pos
    have dp : ((p.den : Int)).natAbs < 2 ^ m := bp.2
    have dq : ((q.den : Int)).natAbs < 2 ^ n := bq.2
    have hl : ((p.den : Int) * (q.den : Int)).natAbs.log2 < 9000 := Nat.lt_of_lt_of_le (log_lt (mulB dp dq) (by omega)) hmn
    exact go_retE (d := rt (p * q)) (ev_own (p.num * q.num, (p.den : Int) * (q.den : Int))
      (ea_cons (ev_I (ev_ixT (ev_var rfl) ev_int rfl) (ev_ixT (ev_var rfl) ev_int rfl) (wide_mul bp.1 bq.1 m0 n0 (by omega))) (ea_cons (ev_I (ev_ixT (ev_var rfl) ev_int rfl) (ev_ixT (ev_var rfl) ev_int rfl) (wide_mul dp dq m0 n0 (by omega))) ea_nil))
      ⟨Int.mul_pos hp0 hq0, hl⟩ fun x e => by rw [e, mul_rt]) (hR _ rfl)⟩
abbrev sp_law_sum (L : Pm) : Sp := spP L (fun a : Nat × (Nat → Rat) => a.1 ≤ 1000 ∧ ∀ i, i < a.1 → ∃ m n, Bit (psum a.2 i) m ∧ Bit (a.2 i) n ∧ m + n ≤ 9000) (fun a => [.lst ((List.range a.1).map fun i => rt (a.2 i))]) (fun a d => d = rt (psum a.2 a.1))
def nm_law_sum : List Str := ["_law_some", "_law_found", "_law_one"]
theorem sc_law_sum : FnScope nm_law_sum ["_law_some"] (defScope (top 62)) := ⟨rfl, rfl, rfl, by decide +kernel, rfl, by decide +kernel, by decide +kernel⟩
theorem w_law_sum (T : Tx L mg base) : Pr P w L.K mg base "_law_sum" 3 ["_law_some"] (sp_law_sum L) :=
  have g_law_plus := w_law_plus (P := P) (w := w) T
  pr_of T.law_sum sc_law_sum (by intro kV doc pm an cdv ct us h; match us, h with | [_], _ => rfl) (fun vs H Q E h => len_P (n := 1) (fun _ => rfl) h) fun f cdv A outer s H vs Q E HR h => ⟨_, (pss_cons (ps_set (i := 1) sc_law_sum.nd rfl (Or.inl rfl) (pe_tup (pa_cons pe_int (pa_cons pe_int pa_nil))))
    (pss_cons (ps_for PassesOwn.never rfl (pi_list (pv 0)) (pg_name (i := 2) sc_law_sum.nd rfl (.inl rfl)) (pss_one (ps_set (i := 1) sc_law_sum.nd rfl (Or.inl rfl) (pe_own g_law_plus HR (by decide) (by rfl) (pa_cons (pv 1) (pa_cons (pv 2) pa_nil))))))
    (pss_one (ps_ret (pv 1))))),
  start_P h fun a F rt' hp hM hW hR => by
    obtain ⟨n, f⟩ := a
    obtain ⟨hn, hp⟩ := hp
    have hn : n ≤ 1000 := hn
    have hp : ∀ i, i < n → ∃ m n, Bit (psum f i) m ∧ Bit (f i) n ∧ m + n ≤ 9000 := hp
    refine go_set (d := rt (psum f 0)) (ev_tup (ea_cons ev_int (ea_cons ev_int ea_nil)) (show 2 ≤ 100000 by decide)) (show 1 < 3 by decide) ?_
    refine go_forS [2] (fun i => [rt (f i)]) (fun i G' => ∃ o, G' = [some (.d (.lst ((List.range n).map fun i => rt (f i)))), some (.d (rt (psum f i))), dn o]) (src_list (ev_var rfl)) ⟨none, rfl⟩ (fun i hi => ?_) (fun i G' hc j hj => ?_) (fun i G' A' N E' hi hc hN e1 e2 e3 => ?_) (fun G' hc => ?_)
    · have hi : i < n := by simpa using hi
      rw [getD_tab _ _ _ _ hi]
      exact tg_name
    · obtain ⟨o, rfl⟩ := hc
      rw [List.mem_singleton.mp hj]
      exact (show 2 < 3 by decide)
    · obtain ⟨o, rfl⟩ := hc
      have hi : i < n := by simpa using hi
      refine go_asg (ev_own (psum f i, f i) (ea_cons (ev_var rfl) (ea_cons (ev_var rfl) ea_nil)) (hp i hi) fun x e => e) (show 1 < 3 by decide) fun d e => ?_
      subst e
      rw [e1]
      exact hN _ ⟨some (rt (f i)), rfl⟩
    · obtain ⟨o, rfl⟩ := hc
      refine go_retE (ev_eq (ev_var rfl) ?_) (hR _ rfl)
      simp⟩
abbrev sp_law_alike (L : Pm) : Sp := spP L (fun _ : Bool × Bool => True) (fun a => [.bl a.1, .bl a.2]) (fun a d => d = .bl (a.1 == a.2))
def nm_law_alike : List Str := ["_law_found", "_law_due", "_law_k"]
theorem sc_law_alike : FnScope nm_law_alike ["_law_found", "_law_due"] (defScope (top 50)) := ⟨rfl, rfl, rfl, by decide +kernel, rfl, by decide +kernel, by decide +kernel⟩
theorem w_law_alike (T : Tx L mg base) : Pr P w L.K mg base "_law_alike" 1 ["_law_found", "_law_due"] (sp_law_alike L) :=
  pr_of T.law_alike sc_law_alike (by intro kV doc pm an cdv ct us h; match us, h with | [_, _], _ => rfl) (fun vs H Q E h => len_P (n := 2) (fun _ => rfl) h) fun f cdv A outer s H vs Q E HR h => ⟨_, (pss_cons (ps_if (pt_val (pe_callB call_isiT (by rfl) T.isinstance_ (by decide +kernel) (pa_cons (pv 1) (pa_cons (pe_tup (pa_cons (pe_bltn (v := .ty "tuple") (by rfl) T.tuple_ (by decide +kernel) rfl) (pa_cons (pe_bltn (v := .ty "list") (by rfl) T.list_ (by decide +kernel) rfl) pa_nil))) pa_nil)))) (pss_cons ps_false (pss_cons ps_false (pss_one ps_false))) pss_nil)
    (pss_cons (ps_if (PW.pt (pw_or (pt_cmpR op_isN (pv 1) pe_non (nomark _)) (pw_or1 (pt_val (pe_callB call_isi (by rfl) T.isinstance_ (by decide +kernel) (pa_cons (pv 1) (pa_cons (pe_bltn (v := .ty "str") (by rfl) T.str_ (by decide +kernel) rfl) pa_nil))))))) (pss_one ps_false) pss_nil)
    (pss_one (ps_ret (pe_and (pe_callB call_isi (by rfl) T.isinstance_ (by decide +kernel) (pa_cons (pv 0) (pa_cons (pe_bltn (v := .ty "int") (by rfl) T.int_ (by decide +kernel) rfl) pa_nil))) (pe_and (pe_cmpR op_eq (pe_callB call_isi (by rfl) T.isinstance_ (by decide +kernel) (pa_cons (pv 0) (pa_cons (pe_bltn (v := .ty "bool") (by rfl) T.bool_ (by decide +kernel) rfl) pa_nil))) (pe_callB call_isi (by rfl) T.isinstance_ (by decide +kernel) (pa_cons (pv 1) (pa_cons (pe_bltn (v := .ty "bool") (by rfl) T.bool_ (by decide +kernel) rfl) pa_nil))) (nomark _)) (pe_one (pe_cmpR op_eq (pv 0) (pv 1) (nomark _))))))))),
  start_P h fun a F rt' hp hM hW hR => by
    obtain ⟨a, b⟩ := a
    refine go_ifR (b := false) (et_B (ev_isTL (ev_var rfl))) (fun e => by cases e) fun _ => ?_
    refine go_ifR (b := false) (et_eq (et_or (a := false) (b := false) (et_eq (et_test (ev_isNone (x := .bl b) (ev_var rfl))) rfl) fun _ => et_eq (et_B (ev_isi (x := .bl b) (b := false) (ev_var rfl) (by show kitB "bool" "str" = some false; decide +kernel))) rfl) rfl) (fun e => by cases e) fun _ => ?_
    refine go_retE (d := .bl (a == b)) (ev_eq (ev_andV (a := true) (ev_eq (ev_isInt (ev_var rfl)) rfl) fun _ => ev_andV (a := true) (ev_eq (ev_eqB (ev_isBl (ev_var rfl)) (ev_isBl (ev_var rfl))) rfl) fun _ => ev_eqB (ev_var rfl) (ev_var rfl)) ?_) (hR _ rfl)
    simp⟩
end
end Pw

/-! The walk: _law_taken, by values. -/
namespace Pw
open PySem L2 PyProof.Rows
theorem sql_up {K : PySem.W.Frag} {H H2 : Hp} {S : List Addr} {sa : Addr} {xs : List V} (h : SqL K (hide H S) sa xs) (k : ∀ a u, a ∉ S → H a = some u → H2 a = some u) : SqL K (hide H2 S) sa xs ∧ SqL K H2 sa xs := by
  have kk : ∀ u, hide H S sa = some u → hide H2 S sa = some u ∧ H2 sa = some u := fun u e => by
    obtain ⟨h1, h2⟩ := hide_some e
    exact ⟨by rw [hide_out h1]; exact k sa u h1 h2, k sa u h1 h2⟩
  rcases h with (h | ⟨o, h⟩) | h
  · exact ⟨.inl (.inl (kk _ h).1), .inl (.inl (kk _ h).2)⟩
  · exact ⟨.inl (.inr ⟨o, (kk _ h).1⟩), .inl (.inr ⟨o, (kk _ h).2⟩)⟩
  · exact ⟨.inr h, .inr h⟩
def rInt : List V → Hp → VK → Prop := fun xs H Q => (∃ i, xs = [.int i] ∧ Q (.int i) H) ∨ ∃ k, xs = [.bl k] ∧ Q (.int (if k then 1 else 0)) H
theorem rc_int {H : Hp} {i : Int} : Evl.RC rInt [.int i] H (.int i) := fun H1 _ Q q => .inl ⟨i, rfl, q H1 (Evl.Ex.refl H1)⟩
theorem evl_int {te : TE} {σ : L2.St} {H : Hp} {i : Int} (h : Evl.Ev te σ H (.int i)) : Evl.Ev (tCB rInt (tCons te tNil)) σ H (.int i) := Evl.ev_cb (Evl.ea_cons h Evl.ea_nil) rc_int
theorem fdiv_small {c n : Int} {m : Nat} (h0 : 0 ≤ c) (hn : 1 ≤ n) (h : c.natAbs < 2 ^ m) : 0 ≤ c.fdiv n ∧ (c.fdiv n).natAbs < 2 ^ m := by
  rw [Int.fdiv_eq_ediv_of_nonneg c (by omega)]
  have h1 : 0 ≤ c / n := Int.ediv_nonneg h0 (by omega)
  refine ⟨h1, Nat.lt_of_le_of_lt (Int.natAbs_ediv_le_natAbs _ _) h⟩
section
variable {P : Program} {w : World} {L : Pm} {mg : Str → Option Value} {base : Heap}
abbrev sp_law_taken (L : Pm) : Sp := spR L (fun n : Nat => 1 ≤ n ∧ n ≤ 1000) (fun n => [.int (n : Int)]) (fun n d => ∃ k : Nat, k < n ∧ d = .int (k : Int))
theorem len_R {α : Type} {pre : α → Prop} {args : α → List D} {R : α → D → Prop} {E : XK} {n : Nat} (h : ∀ a, (args a).length + 1 = n) {vs : List V} {H : Hp} {Q : VK} (hs : spR L pre args R vs H Q E) : vs.length = n := by
  obtain ⟨S, p, ws, a, rfl, _, _, _, _, ha, _⟩ := hs
  rw [List.length_cons, ha.length, h a]
def nm_law_taken : List Str := ["_law_row", "_law_many", "_law_found", "_law_cell"]
theorem sc_law_taken : FnScope nm_law_taken ["_law_row", "_law_many"] (defScope (top 48)) := ⟨rfl, rfl, rfl, by decide +kernel, rfl, by decide +kernel, by decide +kernel⟩
theorem w_law_taken (T : Tx L mg base) : Pr P w L.K mg base "_law_taken" 1 ["_law_row", "_law_many"] (sp_law_taken L) :=
  pr_of T.law_taken sc_law_taken (by intro kV doc pm an cdv ct us h; match us, h with | [_, _], _ => rfl) (fun vs H Q E h => len_R (n := 2) (fun _ => rfl) h) fun f cdv A outer s H vs Q E HR h => ⟨_, (pss_cons (ps_if (pt_cmpR op_gt (pe_ix ix_list (pv 0) pe_int (fun _ _ => rfl)) pe_int (nomark _)) (pss_cons (ps_set (i := 2) sc_law_taken.nd rfl (Or.inl rfl) (pe_op op_mod (pe_callTy call_int1 (by rfl) T.int_ (by decide +kernel) (pa_cons (pe_ix ix_list (pv 0) pe_int (fun _ _ => rfl)) pa_nil)) (pv 1)))
    (pss_cons (ps_asg (pe_op op_fdivZ (pe_ix ix_list (pv 0) pe_int (fun _ _ => rfl)) (pv 1)) (pg_sub (pv 0) pe_int set_list (fun _ => rfl)))
    (pss_one (ps_ret (pv 2))))) pss_nil)
    (pss_cons (ps_asg (pe_op op_add (pe_ix ix_list (pv 0) pe_int (fun _ _ => rfl)) pe_int) (pg_sub (pv 0) pe_int set_list (fun _ => rfl)))
    (pss_cons (ps_if (pt_cmpR op_gt (pe_ix ix_list (pv 0) pe_int (fun _ _ => rfl)) (pe_callB call_len_seq (by rfl) T.len_ PySem.boot_len (pa_cons (pe_ix ix_list (pv 0) pe_int (fun _ _ => rfl)) pa_nil)) (nomark _)) (pss_cons (ps_asg (pe_op op_mod (pe_callTy call_int1 (by rfl) T.int_ (by decide +kernel) (pa_cons (pe_op op_add (pe_op op_mulW (pe_ix ix_list (pv 0) pe_int (fun _ _ => rfl)) pe_int) pe_int) pa_nil)) pe_int) (pg_sub (pv 0) pe_int set_list (fun _ => rfl)))
    (pss_one (ps_ret (pe_op op_mod (pe_callTy call_int1 (by rfl) T.int_ (by decide +kernel) (pa_cons (pe_op op_fdivZ (pe_ix ix_list (pv 0) pe_int (fun _ _ => rfl)) pe_int) pa_nil)) (pv 1))))) pss_nil)
    (pss_cons (ps_set (i := 3) sc_law_taken.nd rfl (Or.inl rfl) (pe_ix ix_list (pe_ix ix_list (pv 0) pe_int (fun _ _ => rfl)) (pe_op op_sub (pe_ix ix_list (pv 0) pe_int (fun _ _ => rfl)) pe_int) (fun _ _ => rfl)))
    (pss_cons (ps_asg (pe_op op_mod (pe_callTy call_int1 (by rfl) T.int_ (by decide +kernel) (pa_cons (pe_op op_add (pe_op op_add (pe_op op_mulW (pe_ix ix_list (pv 0) pe_int (fun _ _ => rfl)) pe_int) (pv 3)) pe_int) pa_nil)) pe_int) (pg_sub (pv 0) pe_int set_list (fun _ => rfl)))
    (pss_cons (ps_if (pt_cmpR op_ge (pv 3) (pe_op op_pow pe_int pe_int) (nomark _)) (pss_one (ps_asg (pe_op op_fdivZ (pv 3) (pv 1)) (pg_sub (pv 0) pe_int set_list (fun _ => rfl)))) pss_nil)
    (pss_one (ps_ret (pe_op op_mod (pe_callTy call_int1 (by rfl) T.int_ (by decide +kernel) (pa_cons (pv 3) pa_nil)) (pv 1)))))))))), by
    obtain ⟨S, p, ws, n, rfl, hp, ⟨sa, ns, i, x, r, e0, hsl, hlen, hz, hi0, hx0, hx1, hr0, hr1⟩, hS, hT, ha, ⟨hn1, hn2⟩, hQ⟩ := h
    obtain ⟨v, ws', e, h1, h2⟩ := ats_cons.mp ha
    rw [at_int.mp h1, ats_nil.mp h2] at e
    subst e
    clear h1 h2 ha
    -- what stands after the steps
    have keepS : ∀ H2 : Hp, (∀ a u, a ≠ p → H a = some u → H2 a = some u) → ∀ a u, a ∉ S → H a = some u → H2 a = some u := fun H2 k a u ha e => k a u (fun z => ha (by rw [z]; exact hp)) e
    have fin : ∀ (H2 : Hp) (i' x' r' k : Int), (∀ a u, a ≠ p → H a = some u → H2 a = some u) → H2 p = some (.lst [.ref sa, .int i', .int x', .int r']) → 0 ≤ i' → 0 ≤ x' → x' < 2147483648 → 0 ≤ r' → r'.natAbs < 2 ^ 1048577 → 0 ≤ k → k < n → Q (.int k) H2 := fun H2 i' x' r' k kp e q1 q2 q3 q4 q5 q6 q7 => by
      have ks := keepS H2 kp
      refine hQ (.int k) (.int k) H2 ⟨k.toNat, by omega, by rw [Int.toNat_of_nonneg q6]⟩ ⟨fun a u e1 _ => ?_, fun Pt e1 => ?_, fun a e1 => ?_⟩ (fun b hb hne => ?_) ⟨sa, ns, i', x', r', e, (sql_up hsl ks).1, hlen, hz, q1, q2, q3, q4, q5⟩ ⟨_, e, nt_lst⟩ (at_int.mpr rfl)
      · obtain ⟨h1, h2⟩ := hide_some e1
        rw [hide_out h1]
        exact ks a u h1 h2
      · obtain ⟨h1, ps, h2, h3⟩ := TabG_hide.mp e1
        exact TabG_hide.mpr ⟨h1, ps, ks Pt _ h1 h2, h3⟩
      · by_cases z : a ∈ S
        · exact hide_in z
        · rw [hide_out z] at e1 ⊢
          cases h : H a with
          | none => rfl
          | some u =>
            rw [ks a u z h] at e1
            cases e1
      · obtain ⟨u, h1, _⟩ := hS b hb
        rw [h1]
        exact kp b u hne h1
    have exk : ∀ {H1 H2 : Hp}, (∀ a u, a ≠ p → H a = some u → H1 a = some u) → Evl.Ex H1 H2 → ∀ a u, a ≠ p → H a = some u → H2 a = some u := fun k e a u ha h => e a u (k a u ha h)
    have upk : ∀ {H1 : Hp} {o : HO}, (∀ a u, a ≠ p → H a = some u → H1 a = some u) → ∀ a u, a ≠ p → H a = some u → upd H1 p o a = some u := fun k a u ha h => by rw [upd_ne ha]; exact k a u ha h
    have scr : ∀ {H1 : Hp}, (∀ a u, a ≠ p → H a = some u → H1 a = some u) → SqL L.K H1 sa (ns.map V.int) := fun k => (sql_up hsl (keepS _ k)).2
    have rk0 : ∀ {H1 : Hp} {σ : L2.St} {i x r : Int}, σ[0]? = some (some (.ref p)) → H1 p = some (.lst [.ref sa, .int i, .int x, .int r]) → Evl.Ev (tOp (rIxL L.K) (tVar 0) (tC (.int 0))) σ H1 (.ref sa) := fun s0 e => Evl.ev_op (Evl.ev_var s0) Evl.ev_c (Evl.rv_ixL (Evl.sq_of e) rfl)
    have rk1 : ∀ {H1 : Hp} {σ : L2.St} {i x r : Int}, σ[0]? = some (some (.ref p)) → H1 p = some (.lst [.ref sa, .int i, .int x, .int r]) → Evl.Ev (tOp (rIxL L.K) (tVar 0) (tC (.int 1))) σ H1 (.int i) := fun s0 e => Evl.ev_op (Evl.ev_var s0) Evl.ev_c (Evl.rv_ixL (Evl.sq_of e) rfl)
    have rk2 : ∀ {H1 : Hp} {σ : L2.St} {i x r : Int}, σ[0]? = some (some (.ref p)) → H1 p = some (.lst [.ref sa, .int i, .int x, .int r]) → Evl.Ev (tOp (rIxL L.K) (tVar 0) (tC (.int 2))) σ H1 (.int x) := fun s0 e => Evl.ev_op (Evl.ev_var s0) Evl.ev_c (Evl.rv_ixL (Evl.sq_of e) rfl)
    have rk3 : ∀ {H1 : Hp} {σ : L2.St} {i x r : Int}, σ[0]? = some (some (.ref p)) → H1 p = some (.lst [.ref sa, .int i, .int x, .int r]) → Evl.Ev (tOp (rIxL L.K) (tVar 0) (tC (.int 3))) σ H1 (.int r) := fun s0 e => Evl.ev_op (Evl.ev_var s0) Evl.ev_c (Evl.rv_ixL (Evl.sq_of e) rfl)
    have hnd : CDivZ 1 (n : Int) := ⟨by omega, by
      have : ((n : Int)).natAbs = n := by omega
      rw [this]
      exact Nat.lt_of_lt_of_le (PySem.Flt.log2_lt_of (show 0 < 10 by decide) (Nat.lt_of_le_of_lt hn2 (by decide))) (by decide)⟩
    have hdiv : ∀ c : Int, CDivZ c (n : Int) := fun c => hnd
    refine Evl.q_when (b := decide (0 < r)) (Evl.et_test (Evl.ev_op (rk3 rfl e0) Evl.ev_c Evl.rv_I0)) (fun hb H1 x1 => ?_) (fun hb H1 x1 => ?_)
    · have k1 := exk (fun a u _ h => h) x1
      have e1 := x1 p _ e0
      refine Evl.q_asg (v := .int (r % n)) (Evl.ev_op (evl_int (rk3 rfl e1)) (Evl.ev_var rfl) (Evl.rv_I (by show (0 : Int) < n; omega))) fun H2 x2 => ?_
      have k2 := exk k1 x2
      have e2 := x2 p _ e1
      refine Evl.q_setL (l := p) (j := 3) e2 (Evl.ev_op (rk3 rfl e2) (Evl.ev_var rfl) (Evl.rv_I (hdiv r))) (Evl.ev_var rfl) Evl.ev_c (Nat.lt_of_sub_pos (by exact Nat.succ_pos _)) fun H3 x3 => ?_
      have k3 := exk k2 x3
      refine Evl.s_ret (Evl.ev_var rfl) fun H4 x4 => ?_
      obtain ⟨d1, d2⟩ := fdiv_small (n := n) hr0 (by omega) hr1
      exact fin H4 i x (r.fdiv n) (r % n) (exk (upk k3) x4) (x4 p _ upd_same) hi0 hx0 hx1 d1 d2 (Int.emod_nonneg _ (by omega)) (Int.emod_lt_of_pos _ (by omega))
    · have k1 := exk (fun a u _ h => h) x1
      have e1 := x1 p _ e0
      refine Evl.q_setL (l := p) (j := 1) e1 (Evl.ev_op (rk1 rfl e1) Evl.ev_c Evl.rv_I0) (Evl.ev_var rfl) Evl.ev_c (Nat.lt_of_sub_pos (by exact Nat.succ_pos _)) fun H2 x2 => ?_
      have k2 := upk (o := .lst [.ref sa, .int (i + 1), .int x, .int r]) (exk k1 x2)
      have e2 : upd H2 p (.lst [.ref sa, .int (i + 1), .int x, .int r]) p = some (.lst [.ref sa, .int (i + 1), .int x, .int r]) := upd_same
      show tSeq _ _ _ _ (upd H2 p (.lst [.ref sa, .int (i + 1), .int x, .int r]))
      generalize upd H2 p (.lst [.ref sa, .int (i + 1), .int x, .int r]) = H2 at k2 e2
      refine Evl.q_when (b := decide (((ns.map V.int).length : Int) < i + 1)) (Evl.et_test (Evl.ev_op (rk1 rfl e2) (Evl.ev_len (rk0 rfl e2) (scr k2)) Evl.rv_I0)) (fun hb2 H3 x3 => ?_) (fun hb2 H3 x3 => ?_)
      · have k3 := exk k2 x3
        have e3 := x3 p _ e2
        have hm : CMulW x 48271 := wide_mul (a := 31) (b := 16) (by omega) (by decide) (by decide) (by decide) (by decide)
        refine Evl.q_setL (l := p) (j := 2) e3 (Evl.ev_op (evl_int (Evl.ev_op (Evl.ev_op (rk2 rfl e3) Evl.ev_c (Evl.rv_I hm)) Evl.ev_c Evl.rv_I0)) Evl.ev_c (Evl.rv_I (by decide))) (Evl.ev_var rfl) Evl.ev_c (Nat.lt_of_sub_pos (by exact Nat.succ_pos _)) fun H4 x4 => ?_
        have k4 := upk (o := .lst [.ref sa, .int (i + 1), .int ((x * 48271 + 11) % 2147483647), .int r]) (exk k3 x4)
        have e4 : upd H4 p (.lst [.ref sa, .int (i + 1), .int ((x * 48271 + 11) % 2147483647), .int r]) p = some (.lst [.ref sa, .int (i + 1), .int ((x * 48271 + 11) % 2147483647), .int r]) := upd_same
        show tRet _ _ _ (upd H4 p (.lst [.ref sa, .int (i + 1), .int ((x * 48271 + 11) % 2147483647), .int r]))
        generalize upd H4 p (.lst [.ref sa, .int (i + 1), .int ((x * 48271 + 11) % 2147483647), .int r]) = H4 at k4 e4
        refine Evl.s_ret (v := .int ((((x * 48271 + 11) % 2147483647).fdiv 7) % n)) (Evl.ev_op (evl_int (Evl.ev_op (rk2 rfl e4) Evl.ev_c (Evl.rv_I ⟨by decide, by decide⟩))) (Evl.ev_var rfl) (Evl.rv_I (by show (0 : Int) < n; omega))) fun H5 x5 => ?_
        exact fin H5 (i + 1) _ r _ (exk k4 x5) (x5 p _ e4) (by omega) (Int.emod_nonneg _ (by decide)) (by have := Int.emod_lt_of_pos (x * 48271 + 11) (show (0 : Int) < 2147483647 by decide); omega) hr0 hr1 (Int.emod_nonneg _ (by omega)) (Int.emod_lt_of_pos _ (by omega))
      · have k3 := exk k2 x3
        have e3 := x3 p _ e2
        have hlt : i.toNat < ns.length := by
          have := of_decide_eq_false hb2
          rw [List.length_map] at this
          omega
        have hat : atI (ns.map V.int) (i + 1 - 1) = some (.int (ns.getD i.toNat 0)) := by
          rw [show i + 1 - 1 = ((i.toNat : Nat) : Int) by omega]
          unfold atI
          rw [Evl.ixN_nat (by rw [List.length_map]; exact hlt), Option.bind_some, List.getElem?_map, List.getElem?_eq_getElem hlt, List.getD_eq_getElem?_getD, List.getElem?_eq_getElem hlt]
          rfl
        have hcz : (ns.getD i.toNat 0).natAbs < 2 ^ 1048576 := hz _ (getD_mem ns _ 0 hlt)
        generalize ns.getD i.toNat 0 = c at hat hcz
        refine Evl.q_asg (v := .int c) (Evl.ev_op (rk0 rfl e3) (Evl.ev_op (rk1 rfl e3) Evl.ev_c Evl.rv_I0) (Evl.rv_ixL (scr k3) hat)) fun H4 x4 => ?_
        have k4 := exk k3 x4
        have e4 := x4 p _ e3
        have hm : CMulW x 48271 := wide_mul (a := 31) (b := 16) (by omega) (by decide) (by decide) (by decide) (by decide)
        refine Evl.q_setL (l := p) (j := 2) e4 (Evl.ev_op (evl_int (Evl.ev_op (Evl.ev_op (Evl.ev_op (rk2 rfl e4) Evl.ev_c (Evl.rv_I hm)) (Evl.ev_var rfl) Evl.rv_I0) Evl.ev_c Evl.rv_I0)) Evl.ev_c (Evl.rv_I (by decide))) (Evl.ev_var rfl) Evl.ev_c (Nat.lt_of_sub_pos (by exact Nat.succ_pos _)) fun H5 x5 => ?_
        have k5 := upk (o := .lst [.ref sa, .int (i + 1), .int ((x * 48271 + c + 11) % 2147483647), .int r]) (exk k4 x5)
        have e5 : upd H5 p (.lst [.ref sa, .int (i + 1), .int ((x * 48271 + c + 11) % 2147483647), .int r]) p = some (.lst [.ref sa, .int (i + 1), .int ((x * 48271 + c + 11) % 2147483647), .int r]) := upd_same
        show tSeq _ _ _ _ (upd H5 p (.lst [.ref sa, .int (i + 1), .int ((x * 48271 + c + 11) % 2147483647), .int r]))
        generalize upd H5 p (.lst [.ref sa, .int (i + 1), .int ((x * 48271 + c + 11) % 2147483647), .int r]) = H5 at k5 e5
        have q2 := Int.emod_nonneg (x * 48271 + c + 11) (show (2147483647 : Int) ≠ 0 by decide)
        have q3 := Int.emod_lt_of_pos (x * 48271 + c + 11) (show (0 : Int) < 2147483647 by decide)
        generalize (x * 48271 + c + 11) % 2147483647 = x' at k5 e5 q2 q3
        have last : ∀ (H6 : Hp) (r' : Int), (∀ a u, a ≠ p → H a = some u → H6 a = some u) → H6 p = some (.lst [.ref sa, .int (i + 1), .int x', .int r']) → 0 ≤ r' → r'.natAbs < 2 ^ 1048577 → tRet (tOp (rI (fun _ j => 0 < j) fun i j => .int (i % j)) (tCB rInt (tCons (tVar 3) tNil)) (tVar 1)) { nx := fun _ H' => Q .non H', rt := Q } ((L2.start nm_law_taken [.ref p, .int (n : Int)]).set 3 (some (.int c))) H6 := fun H6 r' k6 e6 r0 r1 => by
          refine Evl.s_ret (v := .int (c % n)) (Evl.ev_op (evl_int (Evl.ev_var rfl)) (Evl.ev_var rfl) (Evl.rv_I (by show (0 : Int) < n; omega))) fun H7 x7 => ?_
          exact fin H7 (i + 1) x' r' _ (exk k6 x7) (x7 p _ e6) (by omega) q2 (by omega) r0 r1 (Int.emod_nonneg _ (by omega)) (Int.emod_lt_of_pos _ (by omega))
        refine Evl.q_when (b := decide ((10 : Int) ^ (18 : Int).toNat ≤ c)) (Evl.et_test (Evl.ev_op (Evl.ev_var rfl) (Evl.ev_op Evl.ev_c Evl.ev_c (Evl.rv_I ⟨by decide, by decide, by decide⟩)) Evl.rv_I0)) (fun hb3 H6 x6 => ?_) (fun hb3 H6 x6 => last H6 r (exk k5 x6) (x6 p _ e5) hr0 hr1)
        have k6 := exk k5 x6
        have e6 := x6 p _ e5
        have hc0 : 0 ≤ c := by
          have := of_decide_eq_true hb3
          have h10 : (0 : Int) ≤ (10 : Int) ^ (18 : Int).toNat := by decide
          omega
        refine Evl.s_setL (l := p) (j := 3) e6 (Evl.ev_op (Evl.ev_var rfl) (Evl.ev_var rfl) (Evl.rv_I (hdiv c))) (Evl.ev_var rfl) Evl.ev_c (Nat.lt_of_sub_pos (by exact Nat.succ_pos _)) fun H7 x7 => ?_
        obtain ⟨d1, d2⟩ := fdiv_small (n := n) hc0 (by omega) hcz
        exact last _ (c.fdiv n) (upk (exk k6 x7)) upd_same d1 (Nat.lt_of_lt_of_le d2 (Nat.pow_le_pow_right (by decide) (Nat.le_succ _)))⟩
end
end Pw

/-! Defs that turn the script's row: their start, and the calls of _law_taken and _law_pick. -/
namespace Pw
open PySem L2 PyProof.Rows
theorem Sh.consRow {L : Pm} {G : Ctx} {S : List Addr} {σ : L2.St} {H : Hp} {p : Addr} (s : Sh L G { S := S, M := [], W := [], H0 := H } S σ H) (no : ∀ (i : Nat) x, G[i]? = some (some x) → ∃ d, x = .d d) (hp : p ∈ S) (hr : RowOk L.K H S p) :
    Sh L (some .row :: G) { S := S, M := [p], W := [], H0 := H } S (some (.ref p) :: σ) H := by
  have other : ∀ (i : Nat) x, (some Ent.row :: G)[i]? = some (some x) → (i = 0 ∧ x = .row) ∨ ∃ j, i = j + 1 ∧ G[j]? = some (some x) := fun i x q => by
    cases i with
    | zero =>
      cases q
      exact .inl ⟨rfl, rfl⟩
    | succ j => exact .inr ⟨j, rfl, q⟩
  have bad : ∀ (i : Nat) x, (some Ent.row :: G)[i]? = some (some x) → x = .row ∨ ∃ d, x = .d d := fun i x q => by
    rcases other i x q with ⟨_, e⟩ | ⟨j, _, e⟩
    · exact .inl e
    · exact .inr (no j x e)
  refine ⟨?_, s.inT, s.sub, fun a ha => by rw [List.mem_singleton.mp ha]; exact hp, fun a b ha hb => (List.mem_singleton.mp ha).trans (List.mem_singleton.mp hb).symm, fun a h hn => absurd h hn, fun a _ _ _ => rfl, fun a ha => by rw [List.mem_singleton.mp ha]; exact hr, Gr.refl _, fun q h => absurd h List.not_mem_nil, fun q h => absurd h List.not_mem_nil, fun a h => absurd h List.not_mem_nil, s.tab, fun i d q => ?_, fun i es q => ?_, fun i j es fs p q => ?_, fun i q => ?_, fun i st q => ?_, fun i j st q => ?_⟩
  · rw [List.length_cons, List.length_cons, s.len]
  · rcases other i _ q with ⟨_, e⟩ | ⟨j, rfl, e⟩
    · cases e
    · exact s.dat j d e
  · rcases bad i _ q with e | ⟨d, e⟩ <;> cases e
  · rcases bad i _ q with e | ⟨d, e⟩ <;> cases e
  · rcases other i _ q with ⟨rfl, e⟩ | ⟨j, rfl, e⟩
    · exact ⟨p, rfl, List.mem_singleton.mpr rfl⟩
    · obtain ⟨d, e⟩ := no j _ e
      cases e
  · rcases bad i _ q with e | ⟨d, e⟩ <;> cases e
  · rcases bad i _ q with e | ⟨d, e⟩ <;> cases e
section
variable {L : Pm} {α : Type} {pre : α → Prop} {args : α → List D} {R : α → D → Prop} {E : XK} {G : Ctx} {i : Nat} {te : TE}
/-- a def's body that turns the row: from its arguments on -/
theorem start_R {n : Str} {N : List Str} {vs : List V} {H : Hp} {Q : VK} {t : TS} (h : spR L pre args R vs H Q E)
    (k : ∀ a F rt, pre a → F.V = [] → F.W = [] → (∀ d, R a d → RtOk L F rt d) → Go L F { nx := fun _ H' => rt .non H', rt := rt } t (some .row :: ctx0 N.length (args a))) : t { nx := fun _ H' => Q .non H', rt := Q } (L2.start (n :: N) vs) H := by
  obtain ⟨S, p, ws, a, rfl, hp, hr, hS, hT, ha, hP, hQ⟩ := h
  have s0 := (sh_start (N := N) hS hT ha).consRow (fun i x q => hold_noD _ _ i x q) hp hr
  have e : L2.start (n :: N) (.ref p :: ws) = some (.ref p) :: L2.start N ws := by
    unfold L2.start
    rw [List.length_cons, List.length_cons, Nat.add_sub_add_right]
    rfl
  rw [e]
  exact k a { S := S, M := [p], W := [], H0 := H } Q hP rfl rfl (fun d r v H2 g same ro _ a => hQ d v H2 r g (fun b hb hn => same b hb (fun z => hn (List.mem_singleton.mp z)) List.not_mem_nil) (ro p (List.mem_singleton.mpr rfl)).1 (ro p (List.mem_singleton.mpr rfl)).2 a) S _ H s0
/-- a draw -/
theorem evg_taken (hi : G[i]? = some (some .row)) {n : Nat} (hn : 1 ≤ n ∧ n ≤ 1000) (he : Ev L te G (.int (n : Int))) : EvG L (tCall (sp_law_taken L) [] E (tCons (tVar i) (tCons te tNil))) G (fun d => ∃ k : Nat, k < n ∧ d = .int (k : Int)) :=
  evg_rowcall hi (ea_cons he ea_nil) fun ds e => ⟨n, e, hn, fun d q => q⟩
theorem evg_takenG (hi : G[i]? = some (some .row)) {M : Nat} (hM : M ≤ 1000) (he : EvG L te G (fun d => ∃ n : Nat, 1 ≤ n ∧ n ≤ M ∧ d = .int (n : Int))) : EvG L (tCall (sp_law_taken L) [] E (tCons (tVar i) (tCons te tNil))) G (fun d => ∃ k : Nat, k < M ∧ d = .int (k : Int)) :=
  evg_rowcall hi (eag_cons (Φ := fun ds => ∃ n : Nat, 1 ≤ n ∧ n ≤ M ∧ ds = [.int (n : Int)]) he ea_nil fun x xs ⟨n, h1, h2, e⟩ e2 => ⟨n, h1, h2, by rw [e, e2]⟩) fun ds ⟨n, h1, h2, e⟩ => ⟨n, e, ⟨h1, by omega⟩, fun d ⟨k, q, e⟩ => ⟨k, by omega, e⟩⟩
abbrev sp_law_pick (L : Pm) : Sp := spR L (fun ds : List D => 1 ≤ ds.length ∧ ds.length ≤ 1000) (fun ds => [.lst ds]) (fun ds d => d ∈ ds)
theorem evg_pick (hi : G[i]? = some (some .row)) {ds : List D} (hl : 1 ≤ ds.length ∧ ds.length ≤ 1000) (he : Ev L te G (.lst ds)) : EvG L (tCall (sp_law_pick L) [] E (tCons (tVar i) (tCons te tNil))) G (fun d => d ∈ ds) :=
  evg_rowcall hi (ea_cons he ea_nil) fun es e => ⟨ds, e, hl, fun d q => q⟩
theorem evg_pickG (hi : G[i]? = some (some .row)) {P : D → Prop} (he : EvG L te G (fun d => ∃ ds, d = .lst ds ∧ (1 ≤ ds.length ∧ ds.length ≤ 1000) ∧ ∀ x ∈ ds, P x)) : EvG L (tCall (sp_law_pick L) [] E (tCons (tVar i) (tCons te tNil))) G P :=
  evg_rowcall hi (eag_cons (Φ := fun es => ∃ ds, es = [.lst ds] ∧ (1 ≤ ds.length ∧ ds.length ≤ 1000) ∧ ∀ x ∈ ds, P x) he ea_nil fun x xs ⟨ds, e, h1, h2⟩ e2 => ⟨ds, by rw [e, e2], h1, h2⟩) fun es ⟨ds, e, h1, h2⟩ => ⟨ds, e, h1, fun d q => h2 d q⟩
/-- the lists of things each in P -/
theorem eag_all_nil {P : D → Prop} : EvAG L tNil G (fun ds => ds.length = 0 ∧ ∀ x ∈ ds, P x) := eag_nil ⟨rfl, fun x h => absurd h List.not_mem_nil⟩
theorem eag_all {P : D → Prop} {n : Nat} {tr : TA} (h : EvG L te G P) (hr : EvAG L tr G (fun ds => ds.length = n ∧ ∀ x ∈ ds, P x)) : EvAG L (tCons te tr) G (fun ds => ds.length = n + 1 ∧ ∀ x ∈ ds, P x) :=
  eag_cons h hr fun x xs h1 ⟨h2, h3⟩ => ⟨by rw [List.length_cons, h2], fun y hy => (List.mem_cons.mp hy).elim (fun e => by rw [e]; exact h1) (h3 y)⟩
theorem evg_all {P : D → Prop} {n : Nat} {tr : TA} (hr : EvAG L tr G (fun ds => ds.length = n ∧ ∀ x ∈ ds, P x)) (hn : 1 ≤ n ∧ n ≤ 1000) : EvG L (tLst tr) G (fun d => ∃ ds, d = .lst ds ∧ (1 ≤ ds.length ∧ ds.length ≤ 1000) ∧ ∀ x ∈ ds, P x) :=
  evg_mono (evg_lst hr fun ds h => by rw [h.1]; omega) fun d ⟨ds, e, h1, h2⟩ => ⟨ds, e, by rw [h1]; exact hn, h2⟩
theorem evg_of {P : D → Prop} {d : D} (h : Ev L te G d) (hP : P d) : EvG L te G P := evg_mono h fun x e => by rw [e]; exact hP
end
/-- both ends of an if go on alike -/
theorem go_ifC {L : Pm} {G : Ctx} {F : Frm} {E : Ends} {c : TT} {t v u : TS} {b : Bool} (C : Ctx → Prop) (h : EvT L c G b) (h1 : b = true → ∀ N, (∀ G', C G' → Nx L F N G') → Go L F { E with nx := N } t G) (h2 : b = false → ∀ N, (∀ G', C G' → Nx L F N G') → Go L F { E with nx := N } v G) (k : ∀ G', C G' → Go L F E u G') : Go L F E (tSeq (tIfS c t v) u) G :=
  go_seq (go_if h (fun e => h1 e _ fun G' q => k G' q) fun e => h2 e _ fun G' q => k G' q)
/-- an int in a range -/
def inR (a b : Int) (d : D) : Prop := ∃ i, a ≤ i ∧ i ≤ b ∧ d = .int i
/-- for j in range(e), e drawn -/
theorem go_forR {L : Pm} {G : Ctx} {F : Frm} {E : Ends} {te : TE} {t u : TS} {M : Nat} (j : Nat) (C : Nat → Ctx → Prop) (hs : EvG L te G (inR 0 (M : Int))) (c0 : C 0 G) (hj : ∀ i G', C i G' → j < G'.length)
    (body : ∀ i G' A' N (E' : Ends), i < M → C i G' → (∀ G'', C (i + 1) G'' → Nx L { F with A := A' } N G'') → E'.nx = N → E'.ct = N → E'.rt = E.rt → Go L { F with A := A' } E' t (G'.set j (some (.d (.int (i : Int)))))) (done : ∀ n G', n ≤ M → C n G' → Go L F E u G') (hM : M ≤ 1000 := by decide) :
    Go L F E (tSeq (tFor (iRng1 (tCons te tNil)) (gName j) t) u) G :=
  go_seq (go_for (srcg_rng (Φ := fun ds => ∃ n : Int, ds = [.int n] ∧ 0 ≤ n ∧ n ≤ M) (eag_cons hs ea_nil fun x xs ⟨n, h1, h2, e⟩ e2 => ⟨n, by rw [e, e2], h1, h2⟩) fun ds ⟨n, e, h1, h2⟩ => ⟨n, e, by omega, by omega⟩) fun m it ⟨n, ⟨n', e, h1, h2⟩, em, ei⟩ => by
    cases e
    subst em ei
    exact ⟨[j], fun i => [.int (i : Int)], C, c0, fun i _ => tg_name, fun i G' c k hk => by rw [List.mem_singleton.mp hk]; exact hj i G' c, fun i G' A' N hi c hN => body i G' A' N _ (by omega) c hN rfl rfl rfl, fun G' c => done _ G' (by omega) c⟩)
theorem etg_eqR {L : Pm} {G : Ctx} {ta tb : TE} {a b i : Int} (h : EvG L ta G (inR a b)) (h2 : Ev L tb G (.int i)) : EvTG L (tTest (tOp rEq ta tb)) G (fun _ => True) :=
  etg_test (evg_op h h2 fun x y ⟨k, _, _, e1⟩ e2 F T G σ H s v u a1 a2 Q q => by
    subst e1 e2
    rw [at_int.mp a1, at_int.mp a2]
    exact r2_eq (x := .int k) (y := .int i) rfl rfl rfl F T G σ H s _ _ (at_int.mpr rfl) (at_int.mpr rfl) Q fun d w H2 e => q d w H2 ⟨_, e, trivial⟩)
theorem dOks_of : ∀ {ds : List D}, (∀ d ∈ ds, dOk d = true) → dOks ds = true
  | [], _ => rfl
  | d :: ds, h => by
    rw [dOks, h d List.mem_cons_self, dOks_of fun x hx => h x (List.mem_cons_of_mem _ hx)]
    rfl
theorem dLows_of {n : Nat} : ∀ {ds : List D}, (∀ d ∈ ds, dLow n d = true) → dLows n ds = true
  | [], _ => rfl
  | d :: ds, h => by
    rw [dLows, h d List.mem_cons_self, dLows_of fun x hx => h x (List.mem_cons_of_mem _ hx)]
    rfl
theorem cmp_lst {ds : List D} (h : ∀ d ∈ ds, dOk d = true ∧ dLow 59 d = true) : dCmp (.lst ds) = true := by
  unfold dCmp
  rw [dOk, dLow, dOks_of fun d hd => (h d hd).1, dLows_of fun d hd => (h d hd).2]
  rfl
theorem cmp_tup {ds : List D} (h : ∀ d ∈ ds, dOk d = true ∧ dLow 59 d = true) : dCmp (.tup ds) = true := by
  unfold dCmp
  rw [dOk, dLow, dOks_of fun d hd => (h d hd).1, dLows_of fun d hd => (h d hd).2]
  rfl
end Pw

/-! The walk: _law_pick, _law_problem, _law_plain. -/
namespace Pw
open PySem L2 PyProof.Rows
theorem inR_mono {a b a' b' : Int} {d : D} (h : inR a b d) (h1 : a' ≤ a) (h2 : b ≤ b') : inR a' b' d := by
  obtain ⟨i, p, q, e⟩ := h
  exact ⟨i, by omega, by omega, e⟩
theorem inR_int {a b i : Int} (h1 : a ≤ i) (h2 : i ≤ b) : inR a b (.int i) := ⟨i, h1, h2, rfl⟩
section
variable {P : Program} {w : World} {L : Pm} {mg : Str → Option Value} {base : Heap}
theorem ev_mulR {G : Ctx} {ta tb : TE} {a b c d : Int} (h1 : EvG L ta G (inR a b)) (h2 : EvG L tb G (inR c d)) (ha : 0 ≤ a) (hc : 0 ≤ c) (hb : b ≤ 100000) (hd : d ≤ 100000) : EvG L (tOp (rI CMulW fun i j => .int (i * j)) ta tb) G (inR 0 (b * d)) :=
  evg_op h1 h2 fun x y ⟨i, p1, p2, e1⟩ ⟨j, q1, q2, e2⟩ F T G σ H s v u a1 a2 Q q => by
    subst e1 e2
    exact r2_I (g := fun i j => i * j) (wide_mul (a := 20) (b := 20) (by omega) (by omega) (by decide) (by decide) (by decide)) F T G σ H s v u a1 a2 Q fun d w H2 e => q d w H2 (by rw [e]; exact ⟨i * j, Int.mul_nonneg (by omega) (by omega), Int.mul_le_mul p2 q2 (by omega) (by omega), rfl⟩)
theorem ev_addR {G : Ctx} {ta tb : TE} {a b c d : Int} (h1 : EvG L ta G (inR a b)) (h2 : EvG L tb G (inR c d)) : EvG L (tOp (rI0 fun i j => .int (i + j)) ta tb) G (inR (a + c) (b + d)) :=
  evg_op h1 h2 fun x y ⟨i, p1, p2, e1⟩ ⟨j, q1, q2, e2⟩ F T G σ H s v u a1 a2 Q q => by
    subst e1 e2
    exact r2_I0 (g := fun i j => i + j) F T G σ H s v u a1 a2 Q fun d w H2 e => q d w H2 (by rw [e]; exact ⟨i + j, by omega, by omega, rfl⟩)
theorem ev_subR {G : Ctx} {ta tb : TE} {a b c d : Int} (h1 : EvG L ta G (inR a b)) (h2 : EvG L tb G (inR c d)) : EvG L (tOp (rI0 fun i j => .int (i - j)) ta tb) G (inR (a - d) (b - c)) :=
  evg_op h1 h2 fun x y ⟨i, p1, p2, e1⟩ ⟨j, q1, q2, e2⟩ F T G σ H s v u a1 a2 Q q => by
    subst e1 e2
    exact r2_I0 (g := fun i j => i - j) F T G σ H s v u a1 a2 Q fun d w H2 e => q d w H2 (by rw [e]; exact ⟨i - j, by omega, by omega, rfl⟩)
theorem evg_tk {G : Ctx} {E : XK} {i n : Nat} {te : TE} (hi : G[i]? = some (some .row)) (hn : 1 ≤ n ∧ n ≤ 1000) (he : Ev L te G (.int (n : Int))) : EvG L (tCall (sp_law_taken L) [] E (tCons (tVar i) (tCons te tNil))) G (inR 0 ((n : Int) - 1)) :=
  evg_mono (evg_taken hi hn he) fun d ⟨k, h, e⟩ => ⟨k, by omega, by omega, e⟩
def nm_law_pick : List Str := ["_law_row", "_law_things"]
theorem sc_law_pick : FnScope nm_law_pick ["_law_row", "_law_things"] (defScope (top 49)) := ⟨rfl, rfl, rfl, by decide +kernel, rfl, by decide +kernel, by decide +kernel⟩
theorem w_law_pick (T : Tx L mg base) : Pr P w L.K mg base "_law_pick" 2 ["_law_row", "_law_things"] (sp_law_pick L) :=
  have g_law_taken := w_law_taken (P := P) (w := w) T
  pr_of T.law_pick sc_law_pick (by intro kV doc pm an cdv ct us h; match us, h with | [_, _], _ => rfl) (fun vs H Q E h => len_R (n := 2) (fun _ => rfl) h) fun f cdv A outer s H vs Q E HR h => ⟨_, (pss_one (ps_ret (pe_ix ix_list (pv 1) (pe_own g_law_taken HR (by decide) (by rfl) (pa_cons (pv 0) (pa_cons (pe_callB call_len_seq (by rfl) T.len_ PySem.boot_len (pa_cons (pv 1) pa_nil)) pa_nil))) (fun _ _ => rfl)))),
  start_R h fun ds F rt' hp hV hW hR => by
    have hp : 1 ≤ ds.length ∧ ds.length ≤ 1000 := hp
    refine go_ret (evg_op (ev_var rfl) (evg_taken (n := ds.length) rfl hp (ev_cb (ea_cons (ev_var rfl) ea_nil) (rn_len rfl))) fun x y e1 ⟨k, hk, e2⟩ => ?_) hR
    subst e1 e2
    have hg := atI_tab (fun i => ds.getD i .non) ds.length k hk
    have e : ((List.range ds.length).map fun i => ds.getD i .non) = ds := by
      refine List.ext_getElem (by simp) fun i h1 h2 => ?_
      rw [List.getElem_map, List.getElem_range, List.getD_eq_getElem?_getD, List.getElem?_eq_getElem h2]
      rfl
    rw [e] at hg
    intro F T G σ H s v u a1 a2 Q q
    exact r2_ixL hg F T G σ H s v u a1 a2 Q fun d w H2 e => q d w H2 (by rw [e]; exact getD_mem ds k .non hk)⟩
/-- a problem in the making -/
def ProbR (d : D) : Prop := ∃ (ss : List Stm) (bx : List D) (gap : Int), d = .tup [.tup (ss.map dS), .tup bx, .int gap] ∧ ss.length ≤ 4 ∧ (∀ s ∈ ss, StmOk s) ∧ 0 ≤ gap ∧ gap ≤ 100
abbrev sp_law_problem (L : Pm) : Sp := spR L (fun _ : Unit => True) (fun _ => []) (fun _ d => ProbR d)
theorem dEq_nilT (ds : List D) : dEq (.tup ds) (.tup []) = ds.isEmpty := by
  cases ds with
  | nil => rfl
  | cons a b => rfl
theorem dEq_nil (ds : List D) : dEq (.lst ds) (.lst []) = ds.isEmpty := by
  cases ds with
  | nil => rfl
  | cons a b => rfl
def nm_law_problem : List Str := ["_law_row", "_law_streams", "_law_boxes", "_law_scale", "_law_k", "_law_start", "_law_goal", "_law_heat_here"]
theorem sc_law_problem : FnScope nm_law_problem ["_law_row"] (defScope (top 51)) := ⟨rfl, rfl, rfl, by decide +kernel, rfl, by decide +kernel, by decide +kernel⟩
theorem w_law_problem (T : Tx L mg base) : Pr P w L.K mg base "_law_problem" 3 ["_law_row"] (sp_law_problem L) :=
  have g_law_taken := w_law_taken (P := P) (w := w) T
  have g_law_pick := w_law_pick (P := P) (w := w) T
  pr_of T.law_problem sc_law_problem (by intro kV doc pm an cdv ct us h; match us, h with | [_], _ => rfl) (fun vs H Q E h => len_R (n := 1) (fun _ => rfl) h) fun f cdv A outer s H vs Q E HR h => ⟨_, (pss_cons (ps_par (i := 1) (j := 2) (by rfl) sc_law_problem.nd rfl rfl (by decide) rfl rfl (pa_cons (pe_lst pa_nil) (pa_cons (pe_lst pa_nil) pa_nil)) (by rfl))
    (pss_cons (ps_set (i := 3) sc_law_problem.nd rfl (Or.inl rfl) (pe_own g_law_pick HR (by decide) (by rfl) (pa_cons (pv 0) (pa_cons (pe_lst (pa_cons pe_int (pa_cons pe_int (pa_cons pe_int (pa_cons pe_int pa_nil))))) pa_nil))))
    (pss_cons (ps_for PassesOwn.never rfl (pi_range1 (by rfl) T.range_ (pa_cons (pe_own g_law_taken HR (by decide) (by rfl) (pa_cons (pv 0) (pa_cons pe_int pa_nil))) pa_nil)) (pg_name (i := 4) sc_law_problem.nd rfl (.inl rfl)) (pss_cons (ps_set (i := 5) sc_law_problem.nd rfl (Or.inl rfl) (pe_op op_mulW (pv 3) (pe_own g_law_taken HR (by decide) (by rfl) (pa_cons (pv 0) (pa_cons pe_int pa_nil)))))
    (pss_cons (ps_set (i := 6) sc_law_problem.nd rfl (Or.inl rfl) (pe_op op_mulW (pv 3) (pe_own g_law_taken HR (by decide) (by rfl) (pa_cons (pv 0) (pa_cons pe_int pa_nil)))))
    (pss_one (ps_expr (pe_bm PySem.F.plainAttrs_list PySem.F.slot_list_append PySem.F.type_list_append mt_append (pv 1) (pa_cons (pe_tup (pa_cons (pv 5) (pa_cons (pe_ifExp (pt_cmpR op_ne (pv 6) (pv 5) (nomark _)) (pv 6) (pe_op op_add (pv 5) (pv 3))) (pa_cons (pe_op op_add pe_int (pe_own g_law_taken HR (by decide) (by rfl) (pa_cons (pv 0) (pa_cons (pe_own g_law_pick HR (by decide) (by rfl) (pa_cons (pv 0) (pa_cons (pe_lst (pa_cons pe_int (pa_cons pe_int (pa_cons pe_int pa_nil)))) pa_nil))) pa_nil)))) pa_nil)))) pa_nil)))))))
    (pss_cons (ps_for PassesOwn.never rfl (pi_range1 (by rfl) T.range_ (pa_cons (pe_own g_law_pick HR (by decide) (by rfl) (pa_cons (pv 0) (pa_cons (pe_lst (pa_cons pe_int (pa_cons pe_int (pa_cons pe_int (pa_cons pe_int pa_nil))))) pa_nil))) pa_nil)) (pg_name (i := 4) sc_law_problem.nd rfl (.inl rfl)) (pss_cons (ps_set (i := 7) sc_law_problem.nd rfl (Or.inl rfl) (pe_own g_law_pick HR (by decide) (by rfl) (pa_cons (pv 0) (pa_cons (pe_lst (pa_cons pe_int (pa_cons pe_int (pa_cons pe_int (pa_cons pe_int (pa_cons (pe_op op_add pe_int (pe_own g_law_taken HR (by decide) (by rfl) (pa_cons (pv 0) (pa_cons pe_int pa_nil)))) pa_nil)))))) pa_nil))))
    (pss_one (ps_expr (pe_bm PySem.F.plainAttrs_list PySem.F.slot_list_append PySem.F.type_list_append mt_append (pv 2) (pa_cons (pe_tup (pa_cons (pe_op op_mulW (pv 3) (pe_own g_law_taken HR (by decide) (by rfl) (pa_cons (pv 0) (pa_cons pe_int pa_nil)))) (pa_cons (pe_ifExp (pt_cmpR op_eq (pe_own g_law_taken HR (by decide) (by rfl) (pa_cons (pv 0) (pa_cons pe_int pa_nil))) pe_int (nomark _)) (pv 7) (pe_op op_sub pe_int (pv 7))) pa_nil))) pa_nil))))))
    (pss_cons (ps_if (PW.pt (pw_and (pt_cmpR (op_eqD HR.units) (pv 1) (pe_lst pa_nil) (nomark _)) (pw_and1 (pt_cmpR (op_eqD HR.units) (pv 2) (pe_lst pa_nil) (nomark _))))) (pss_one (ps_set (i := 1) sc_law_problem.nd rfl (Or.inl rfl) (pe_lst (pa_cons (pe_tup (pa_cons pe_int (pa_cons (pv 3) (pa_cons pe_int pa_nil)))) pa_nil)))) pss_nil)
    (pss_one (ps_ret (pe_tup (pa_cons (pe_callTy call_tuple_of (by rfl) T.tuple_ (by decide +kernel) (pa_cons (pv 1) pa_nil)) (pa_cons (pe_callTy call_tuple_of (by rfl) T.tuple_ (by decide +kernel) (pa_cons (pv 2) pa_nil)) (pa_cons (pe_own g_law_pick HR (by decide) (by rfl) (pa_cons (pv 0) (pa_cons (pe_lst (pa_cons pe_int (pa_cons (pv 3) (pa_cons (pv 3) (pa_cons (pe_op op_mulW pe_int (pv 3)) (pa_cons (pe_own g_law_taken HR (by decide) (by rfl) (pa_cons (pv 0) (pa_cons pe_int pa_nil))) pa_nil)))))) pa_nil))) pa_nil))))))))))),
  start_R h fun _ F rt' hp hV hW hR => by
    refine go_new2S (show 1 < 8 by decide) (show 2 < 8 by decide) ?_
    refine go_setG (evg_pickG rfl (evg_all (P := inR 1 50) (eag_all (evg_of ev_int (inR_int (by decide) (by decide))) (eag_all (evg_of ev_int (inR_int (by decide) (by decide))) (eag_all (evg_of ev_int (inR_int (by decide) (by decide))) (eag_all (evg_of ev_int (inR_int (by decide) (by decide))) eag_all_nil)))) ⟨by decide, by decide⟩)) (show 3 < 8 by decide) fun d ⟨sc, h1, h2, e⟩ => ?_
    subst e
    -- the streams
    refine go_forR (M := 4) 4 (fun i G' => ∃ (ss : List Stm) (o4 o5 o6 : Option D), (∀ s ∈ ss, StmOk s) ∧ ss.length = i ∧ G' = [some .row, some (.own (ss.map dS)), some (.own []), some (.d (.int sc)), dn o4, dn o5, dn o6, none]) (evg_mono (evg_tk (n := 5) rfl ⟨by decide, by decide⟩ ev_int) fun d h => h) ⟨[], none, none, none, fun s h => absurd h List.not_mem_nil, rfl, rfl⟩ (fun i G' hc => ?_) (fun i G' A' N E' hi hc hN e1 e2 e3 => ?_) fun n G' hn hc => ?_
    · obtain ⟨ss, o4, o5, o6, _, _, rfl⟩ := hc
      exact (show 4 < 8 by decide)
    · obtain ⟨ss, o4, o5, o6, hss, hl, rfl⟩ := hc
      refine go_setG (ev_mulR (evg_of (ev_var rfl) (inR_int h1 h2)) (evg_tk (n := 20) rfl ⟨by decide, by decide⟩ ev_int) (by decide) (by decide) (by decide) (by decide)) (show 5 < 8 by decide) fun d ⟨st, p1, p2, e⟩ => ?_
      subst e
      refine go_setG (ev_mulR (evg_of (ev_var rfl) (inR_int h1 h2)) (evg_tk (n := 20) rfl ⟨by decide, by decide⟩ ev_int) (by decide) (by decide) (by decide) (by decide)) (show 6 < 8 by decide) fun d ⟨gl, q1, q2, e⟩ => ?_
      subst e
      show Go L _ _ _ [some .row, some (.own (ss.map dS)), some (.own []), some (.d (.int sc)), some (.d (.int (i : Int))), some (.d (.int st)), some (.d (.int gl)), none]
      refine go_app (Φ := fun d => ∃ s, StmOk s ∧ d = dS s) (i := 1) (ds := ss.map dS) rfl (evg_mono (evg_tup (eag_cons (Φa := fun d => d = .int st) (Φr := fun ds => ∃ g r, (0 ≤ g ∧ g ≤ 1000 ∧ st ≠ g) ∧ (1 ≤ r ∧ r ≤ 100) ∧ ds = [.int g, .int r]) (Φ := fun ds => ∃ g r, (0 ≤ g ∧ g ≤ 1000 ∧ st ≠ g) ∧ (1 ≤ r ∧ r ≤ 100) ∧ ds = [.int st, .int g, .int r]) (ev_var rfl) (eag_cons (Φa := fun d => ∃ g, (0 ≤ g ∧ g ≤ 1000 ∧ st ≠ g) ∧ d = .int g) (Φr := fun ds => ∃ r, (1 ≤ r ∧ r ≤ 100) ∧ ds = [.int r]) (evg_of (ev_if (b := !decide (gl = st)) (et_test (ev_neI (ev_var rfl) (ev_var rfl))) (fun _ => ev_var rfl) (fun _ => ev_I0 (ev_var rfl) (ev_var rfl))) ?_) (eag_cons (ev_addR (evg_of ev_int (inR_int (a := 1) (b := 1) (by decide) (by decide))) (evg_mono (evg_takenG (M := 100) rfl (by decide) (evg_mono (evg_pickG (P := inR 1 100) rfl (evg_all (eag_all (evg_of ev_int (inR_int (by decide) (by decide))) (eag_all (evg_of ev_int (inR_int (by decide) (by decide))) (eag_all (evg_of ev_int (inR_int (by decide) (by decide))) eag_all_nil))) ⟨by decide, by decide⟩)) fun d ⟨z, z1, z2, e⟩ => ⟨z.toNat, by omega, by omega, by rw [e, Int.toNat_of_nonneg (by omega)]⟩)) fun d ⟨k, h, e⟩ => (⟨k, by omega, by omega, e⟩ : inR 0 99 d))) ea_nil ?_) ?_) ?_) ?_) ?_) ?_ ?_
      · by_cases e : gl = st
        · refine ⟨st + sc, ⟨by omega, by omega, by omega⟩, ?_⟩
          rw [decide_eq_true e]
          rfl
        · refine ⟨gl, ⟨by omega, by omega, fun z => e z.symm⟩, ?_⟩
          rw [decide_eq_false e]
          rfl
      · rintro x xs ⟨r, z1, z2, e⟩ e2
        exact ⟨r, ⟨by omega, by omega⟩, by rw [e, e2]⟩
      · rintro x xs ⟨g, hg, e⟩ ⟨r, hr, e2⟩
        exact ⟨g, r, hg, hr, by rw [e, e2]⟩
      · rintro x xs e ⟨g, r, hg, hr, e2⟩
        exact ⟨g, r, hg, hr, by rw [e, e2]⟩
      · rintro ds ⟨g, r, _, _, e⟩
        rw [e]
        exact (show 3 ≤ 100000 by decide)
      · rintro d ⟨ds, e, g, r, hg, hr, e2⟩
        exact ⟨(st, g, r), ⟨by show 0 ≤ st; omega, by show st ≤ 1000; omega, hg.1, hg.2.1, hg.2.2, hr.1, hr.2⟩, by rw [e, e2]; rfl⟩
      · rw [List.length_map]; omega
      · rintro d ⟨s, hs, rfl⟩
        rw [e1]
        refine hN _ ⟨ss ++ [s], some (.int (i : Int)), some (.int st), some (.int gl), fun s' h => ?_, by rw [List.length_append, hl]; rfl, by rw [List.map_append]; rfl⟩
        rcases List.mem_append.mp h with h | h
        · exact hss s' h
        · rw [List.mem_singleton.mp h]; exact hs
    obtain ⟨ss, o4, o5, o6, hss, hl, rfl⟩ := hc
    -- the boxes
    refine go_forR (M := 2) 4 (fun i G' => ∃ (bs : List D) (o4 o7 : Option D), (∀ d ∈ bs, ∃ x y : Int, d = .tup [.int x, .int y]) ∧ bs.length = i ∧ G' = [some .row, some (.own (ss.map dS)), some (.own bs), some (.d (.int sc)), dn o4, dn o5, dn o6, dn o7]) (evg_pickG (P := inR 0 2) rfl (evg_all (eag_all (evg_of ev_int (inR_int (by decide) (by decide))) (eag_all (evg_of ev_int (inR_int (by decide) (by decide))) (eag_all (evg_of ev_int (inR_int (by decide) (by decide))) (eag_all (evg_of ev_int (inR_int (by decide) (by decide))) eag_all_nil)))) ⟨by decide, by decide⟩)) ⟨[], o4, none, fun s h => absurd h List.not_mem_nil, rfl, rfl⟩ (fun i G' hc => ?_) (fun i G' A' N E' hi hc hN e1 e2 e3 => ?_) fun n2 G' hn2 hc => ?_
    · obtain ⟨bs, o4, o7, _, _, rfl⟩ := hc
      exact (show 4 < 8 by decide)
    · obtain ⟨bs, o4, o7, hbs, hbl, rfl⟩ := hc
      have one : ∀ (x : Int) (G : Ctx), 1 ≤ x → x ≤ 10000 → EvG L (tC (.int x)) G (inR 1 10000) := fun x G z1 z2 => evg_of ev_int (inR_int z1 z2)
      refine go_setG (evg_pickG (P := inR 1 10000) rfl (evg_all (eag_all (one _ _ (by decide) (by decide)) (eag_all (one _ _ (by decide) (by decide)) (eag_all (one _ _ (by decide) (by decide)) (eag_all (one _ _ (by decide) (by decide)) (eag_all (evg_mono (ev_addR (evg_of ev_int (inR_int (a := 1) (b := 1) (by decide) (by decide))) (evg_tk (n := 500) rfl ⟨by decide, by decide⟩ ev_int)) fun d h => inR_mono h (by decide) (by decide)) eag_all_nil))))) ⟨by decide, by decide⟩)) (show 7 < 8 by decide) fun d ⟨ht, p1, p2, e⟩ => ?_
      subst e
      show Go L _ _ _ [some .row, some (.own (ss.map dS)), some (.own bs), some (.d (.int sc)), some (.d (.int (i : Int))), dn o5, dn o6, some (.d (.int ht))]
      refine go_app (Φ := fun d => ∃ x y : Int, d = .tup [.int x, .int y]) (i := 2) (ds := bs) rfl (evg_mono (evg_tup (eag_cons (Φr := fun ds => ∃ y : Int, ds = [.int y]) (Φ := fun ds => ∃ x y : Int, ds = [.int x, .int y]) (ev_mulR (evg_of (ev_var rfl) (inR_int h1 h2)) (evg_tk (n := 20) rfl ⟨by decide, by decide⟩ ev_int) (by decide) (by decide) (by decide) (by decide)) (eag_cons (Φa := fun d => ∃ y : Int, d = .int y) (evg_if (etg_eqR (evg_tk (n := 2) rfl ⟨by decide, by decide⟩ ev_int) ev_int) (fun _ => evg_of (ev_var rfl) ⟨_, rfl⟩) (fun _ => evg_of (ev_I0 ev_int (ev_var rfl)) ⟨_, rfl⟩)) ea_nil fun x xs ⟨y, e⟩ e2 => ⟨y, by rw [e, e2]⟩) fun x xs ⟨z, _, _, e⟩ ⟨y, e2⟩ => ⟨z, y, by rw [e, e2]⟩) ?_) ?_) ?_ ?_
      · rintro ds ⟨x, y, e⟩
        rw [e]
        exact (show 2 ≤ 100000 by decide)
      · rintro d ⟨ds, e, x, y, e2⟩
        exact ⟨x, y, by rw [e, e2]⟩
      · omega
      · rintro d hd
        rw [e1]
        refine hN _ ⟨bs ++ [d], some (.int (i : Int)), some (.int ht), fun d' h => ?_, by rw [List.length_append, hbl]; rfl, rfl⟩
        rcases List.mem_append.mp h with h | h
        · exact hbs d' h
        · rw [List.mem_singleton.mp h]; exact hd
    obtain ⟨bs, o4', o7, hbs, hbl, rfl⟩ := hc
    refine go_freeze (i := 1) (ds := ss.map dS) rfl (go_freeze (i := 2) (ds := bs) rfl ?_)
    show Go L _ _ _ [some .row, some (.d (.lst (ss.map dS))), some (.d (.lst bs)), some (.d (.int sc)), dn o4', dn o5, dn o6, dn o7]
    refine go_ifC (fun G' => ∃ ss : List Stm, ss.length ≤ 4 ∧ (∀ s ∈ ss, StmOk s) ∧ G' = [some .row, some (.d (.lst (ss.map dS))), some (.d (.lst bs)), some (.d (.int sc)), dn o4', dn o5, dn o6, dn o7]) (et_and (et_test (ev_eqD (ev_var rfl) (ev_lst ea_nil (Nat.zero_le _)) (cmp_lst fun d hd => ?_) rfl)) fun _ => et_test (ev_eqD (ev_var rfl) (ev_lst ea_nil (Nat.zero_le _)) (cmp_lst fun d hd => ?_) rfl)) (fun _ N hN => ?_) (fun _ N hN => go_next (hN _ ⟨ss, by omega, hss, rfl⟩)) fun G' hc => ?_
    · obtain ⟨s, _, e⟩ := List.mem_map.mp hd
      rw [← e]
      exact ⟨rfl, rfl⟩
    · obtain ⟨x, y, e⟩ := hbs d hd
      rw [e]
      exact ⟨rfl, rfl⟩
    · refine go_asg (ev_lst (ea_cons (ev_tup (ea_cons ev_int (ea_cons (ev_var rfl) (ea_cons ev_int ea_nil))) (show 3 ≤ 100000 by decide)) ea_nil) (show 1 ≤ 100000 by decide)) (show 1 < 8 by decide) fun d e => ?_
      subst e
      refine hN _ ⟨[(0, sc, 1)], (show 1 ≤ 4 by decide), fun s hs => ?_, rfl⟩
      rw [List.mem_singleton.mp hs]
      exact ⟨Int.le_refl 0, (show (0 : Int) ≤ 1000 by decide), (show 0 ≤ sc by omega), (show sc ≤ 1000 by omega), (show (0 : Int) ≠ sc by omega), (show (1 : Int) ≤ 1 by decide), (show (1 : Int) ≤ 100 by decide)⟩
    obtain ⟨ss2, hl2, hss2, rfl⟩ := hc
    have one : ∀ (x : Int) (G : Ctx), 0 ≤ x → x ≤ 100 → EvG L (tC (.int x)) G (inR 0 100) := fun x G z1 z2 => evg_of ev_int (inR_int z1 z2)
    have hsc : EvG L (tVar 3) [some .row, some (.d (.lst (ss2.map dS))), some (.d (.lst bs)), some (.d (.int sc)), dn o4', dn o5, dn o6, dn o7] (inR 0 100) := evg_of (ev_var rfl) (inR_int (by omega) (by omega))
    refine go_ret (evg_tup (eag_cons (Φa := fun d => d = .tup (ss2.map dS)) (Φr := fun ds => ∃ gp, 0 ≤ gp ∧ gp ≤ 100 ∧ ds = [.tup bs, .int gp]) (Φ := fun ds => ∃ gp, 0 ≤ gp ∧ gp ≤ 100 ∧ ds = [.tup (ss2.map dS), .tup bs, .int gp]) (ev_cb (ea_cons (ev_var rfl) ea_nil) rn_tuple) (eag_cons (Φa := fun d => d = .tup bs) (Φr := fun ds => ∃ gp, 0 ≤ gp ∧ gp ≤ 100 ∧ ds = [.int gp]) (ev_cb (ea_cons (ev_var rfl) ea_nil) rn_tuple) (eag_cons (evg_pickG (P := inR 0 100) rfl (evg_all (eag_all (one _ _ (by decide) (by decide)) (eag_all hsc (eag_all hsc (eag_all (evg_mono (ev_mulR (evg_of ev_int (inR_int (a := 2) (b := 2) (by decide) (by decide))) (evg_of (ev_var rfl) (inR_int h1 h2)) (by decide) (by decide) (by decide) (by decide)) fun d h => inR_mono h (by decide) (by decide)) (eag_all (evg_mono (evg_tk (n := 30) rfl ⟨by decide, by decide⟩ ev_int) fun d h => inR_mono h (by decide) (by decide)) eag_all_nil))))) ⟨by decide, by decide⟩)) ea_nil ?_) ?_) ?_) ?_) ?_
    · rintro x xs ⟨gp, z1, z2, e⟩ e2
      exact ⟨gp, z1, z2, by rw [e, e2]⟩
    · rintro x xs e ⟨gp, z1, z2, e2⟩
      exact ⟨gp, z1, z2, by rw [e, e2]⟩
    · rintro x xs e ⟨gp, z1, z2, e2⟩
      exact ⟨gp, z1, z2, by rw [e, e2]⟩
    · rintro ds ⟨gp, _, _, e⟩
      rw [e]
      exact (show 3 ≤ 100000 by decide)
    · rintro d ⟨ds, e, gp, z1, z2, e2⟩
      exact hR _ ⟨ss2, bs, gp, by rw [e, e2], hl2, hss2, z1, z2⟩⟩
abbrev sp_law_plain (L : Pm) : Sp := spR L (fun _ : Unit => True) (fun _ => []) (fun _ d => ∃ p : Prob, ProbOk p ∧ p.ss.length ≤ 4 ∧ d = dProb p)
def nm_law_plain : List Str := ["_law_row", "_law_problem_here", "_law_streams"]
theorem sc_law_plain : FnScope nm_law_plain ["_law_row"] (defScope (top 58)) := ⟨rfl, rfl, rfl, by decide +kernel, rfl, by decide +kernel, by decide +kernel⟩
theorem w_law_plain (T : Tx L mg base) : Pr P w L.K mg base "_law_plain" 4 ["_law_row"] (sp_law_plain L) :=
  have g_law_problem := w_law_problem (P := P) (w := w) T
  pr_of T.law_plain sc_law_plain (by intro kV doc pm an cdv ct us h; match us, h with | [_], _ => rfl) (fun vs H Q E h => len_R (n := 1) (fun _ => rfl) h) fun f cdv A outer s H vs Q E HR h => ⟨_, (pss_cons (ps_set (i := 1) sc_law_plain.nd rfl (Or.inl rfl) (pe_own g_law_problem HR (by decide) (by rfl) (pa_cons (pv 0) pa_nil)))
    (pss_cons (ps_set (i := 2) sc_law_plain.nd rfl (Or.inl rfl) (pe_ifExp (pt_cmpR (op_neD HR.units) (pe_ix ix_tup (pv 1) pe_int (fun _ _ => rfl)) (pe_tup pa_nil) (nomark _)) (pe_ix ix_tup (pv 1) pe_int (fun _ _ => rfl)) (pe_tup (pa_cons (pe_tup (pa_cons pe_int (pa_cons pe_int (pa_cons pe_int pa_nil)))) (pa_cons (pe_tup (pa_cons pe_int (pa_cons pe_int (pa_cons pe_int pa_nil)))) pa_nil)))))
    (pss_one (ps_ret (pe_tup (pa_cons (pv 2) (pa_cons (pe_tup pa_nil) (pa_cons (pe_ix ix_tup (pv 1) pe_int (fun _ _ => rfl)) pa_nil)))))))),
  start_R h fun _ F rt' hp hV hW hR => by
    refine go_setG (Φ := ProbR) (evg_rowcall (i := 0) rfl ea_nil fun ds e => ⟨(), e, trivial, fun d q => q⟩) (show 1 < 3 by decide) fun d ⟨ss, bx, gap, e, hl, hss, g0, g1⟩ => ?_
    subst e
    have hne : ∃ ss2 : List Stm, ss2 ≠ [] ∧ ss2.length ≤ 4 ∧ (∀ s ∈ ss2, StmOk s) ∧ (if (!ss.isEmpty) = true then D.tup (ss.map dS) else D.tup ([(100, 40, 2), (10, 70, 1)].map dS)) = .tup (ss2.map dS) := by
      cases ss with
      | nil =>
        refine ⟨[(100, 40, 2), (10, 70, 1)], List.cons_ne_nil _ _, by decide, fun s hs => ?_, rfl⟩
        rcases List.mem_cons.mp hs with e | e
        · rw [e]; exact ⟨by decide, by decide, by decide, by decide, by decide, by decide, by decide⟩
        · rw [List.mem_singleton.mp e]; exact ⟨by decide, by decide, by decide, by decide, by decide, by decide, by decide⟩
      | cons a b => exact ⟨a :: b, List.cons_ne_nil _ _, hl, hss, rfl⟩
    obtain ⟨ss2, n2, hl2, hss2, e2⟩ := hne
    refine go_set (d := .tup (ss2.map dS)) (ev_eq (ev_if (b := !ss.isEmpty) (x := .tup (ss.map dS)) (y := .tup ([(100, 40, 2), (10, 70, 1)].map dS)) (et_eq (et_test (ev_neD (x := .tup (ss.map dS)) (ev_ixT (ev_var rfl) ev_int rfl) (ev_tup ea_nil (Nat.zero_le _)) (cmp_tup fun d hd => ?_) rfl)) ?_) (fun _ => ev_ixT (ev_var rfl) ev_int rfl) fun _ => ev_tup (ea_cons (ev_tup (ea_cons ev_int (ea_cons ev_int (ea_cons ev_int ea_nil))) (show 3 ≤ 100000 by decide)) (ea_cons (ev_tup (ea_cons ev_int (ea_cons ev_int (ea_cons ev_int ea_nil))) (show 3 ≤ 100000 by decide)) ea_nil)) (show 2 ≤ 100000 by decide)) e2) (show 2 < 3 by decide) ?_
    · obtain ⟨s, _, e⟩ := List.mem_map.mp hd
      rw [← e]
      exact ⟨rfl, rfl⟩
    · rw [dEq_nilT, List.isEmpty_map]
    refine go_retE (d := dProb ⟨ss2, gap⟩) (ev_tup (ea_cons (ev_var rfl) (ea_cons (ev_tup ea_nil (Nat.zero_le _)) (ea_cons (ev_ixT (ev_var rfl) ev_int rfl) ea_nil))) (show 3 ≤ 100000 by decide)) (hR _ ⟨⟨ss2, gap⟩, ⟨n2, Nat.le_trans hl2 (by decide), hss2, g0, g1⟩, hl2, rfl⟩)⟩
end
end Pw

/-! The walk: _law_structure. -/
namespace Pw
open PySem L2 PyProof.Rows
theorem dEq_pair (q r : Pair) : dEq (dP q) (dP r) = (decide (q.1 = r.1) && decide (q.2 = r.2)) := by
  unfold dEq dP
  simp only [toPy, toPys, PyData.eqv, PyData.eqvAll, Bool.and_true]
  rfl
/-- a structure in the making: at most a pairs, at most b of both kinds -/
structure StI (p : Prob) (a b : Nat) (t : List Pair) : Prop where
  le : t.length ≤ a
  ok : ∀ q ∈ t, PairOk p q
  few : (t.filter both).length ≤ b
theorem StI.add1 {p : Prob} {a b : Nat} {t : List Pair} {q : Pair} (s : StI p a b t) (h : PairOk p q) (hb : both q = false) : StI p (a + 1) b (t ++ [q]) := by
  refine ⟨by rw [List.length_append]; exact Nat.succ_le_succ s.le, fun r hr => ?_, ?_⟩
  · rcases List.mem_append.mp hr with hr | hr
    · exact s.ok r hr
    · rw [List.mem_singleton.mp hr]; exact h
  · rw [List.filter_append, List.filter_cons_of_neg (by rw [hb]; decide)]
    show (t.filter both ++ []).length ≤ b
    rw [List.append_nil]
    exact s.few
theorem StI.add2 {p : Prob} {a b : Nat} {t : List Pair} {q : Pair} (s : StI p a b t) (h : PairOk p q) : StI p (a + 1) (b + 1) (t ++ [q]) := by
  refine ⟨by rw [List.length_append]; exact Nat.succ_le_succ s.le, fun r hr => ?_, ?_⟩
  · rcases List.mem_append.mp hr with hr | hr
    · exact s.ok r hr
    · rw [List.mem_singleton.mp hr]; exact h
  · rw [List.filter_append, List.length_append]
    have h1 := s.few
    have h2 := List.length_filter_le both [q]
    have h3 : [q].length = 1 := rfl
    omega
theorem StI.mono {p : Prob} {a b a' b' : Nat} {t : List Pair} (s : StI p a b t) (h : a ≤ a') (h2 : b ≤ b') : StI p a' b' t := ⟨Nat.le_trans s.le h, s.ok, Nat.le_trans s.few h2⟩
section
variable {P : Program} {w : World} {L : Pm} {mg : Str → Option Value} {base : Heap}
/-- int(e > 0) -/
theorem evg_intGt {G : Ctx} {te : TE} {a b : Int} (h : EvG L te G (inR a b)) : EvG L (tCB (fun xs H Q => (∃ i, xs = [.int i] ∧ Q (.int i) H) ∨ ∃ k, xs = [.bl k] ∧ Q (.int (if k then 1 else 0)) H) (tCons (tOp (rI0 fun i j => .bl (decide (j < i))) te (tC (.int 0))) tNil)) G (fun d => ∃ k : Bool, d = .int (if k then 1 else 0)) :=
  evg_call (Φs := fun ds => ∃ k : Bool, ds = [.bl k]) (eag_cons (Φa := fun d => ∃ k : Bool, d = .bl k) (evg_op h ev_int fun x y ⟨i, _, _, e1⟩ e2 F T G σ H s v u a1 a2 Q q => by
    subst e1 e2
    exact r2_B0 (g := fun i j => decide (j < i)) F T G σ H s v u a1 a2 Q fun d w H2 e => q d w H2 ⟨_, e⟩) ea_nil fun x xs ⟨k, e⟩ e2 => ⟨k, by rw [e, e2]⟩) fun xs ⟨k, e⟩ F T G σ H s vs a Q q => by
    subst e
    exact rn_int (x := .bl k) rfl F T G σ H s vs a Q fun d w H2 e => q d w H2 ⟨k, e⟩
/-- ds + [x] * k -/
theorem evg_grow {G : Ctx} {tl tx tk : TE} {ds : List D} {x : D} {Ψ : Bool → Prop} (h1 : Ev L tl G (.lst ds)) (h2 : Ev L tx G (.lst [x])) (h3 : EvG L tk G (fun d => ∃ k : Bool, d = .int (if k then 1 else 0) ∧ Ψ k)) (hl : ds.length ≤ 1000) : EvG L (tOp rCat tl (tOp rRep tx tk)) G (fun d => d = .lst ds ∨ (d = .lst (ds ++ [x]) ∧ Ψ true)) :=
  evg_op (Φb := fun d => ∃ k : Bool, d = .lst (if k then [x] else []) ∧ Ψ k) h1 (evg_op h2 h3 fun y z e1 ⟨k, e2, hk⟩ F T G σ H s v u a1 a2 Q q => by
    subst e1 e2
    exact r2_rep (ds := [x]) (k := if k then 1 else 0) (by cases k <;> decide) (show 1 ≤ 100 by decide) F T G σ H s v u a1 a2 Q fun d w H2 e => q d w H2 ⟨k, by rw [e]; cases k <;> rfl, hk⟩) fun y z e1 ⟨k, e2, hk⟩ F T G σ H s v u a1 a2 Q q => by
    subst e1 e2
    refine r2_cat (ds := ds) (es := if k then [x] else []) (by cases k <;> simp <;> omega) F T G σ H s v u a1 a2 Q fun d w H2 e => q d w H2 ?_
    cases k with
    | true => exact .inr ⟨e, hk⟩
    | false =>
      refine .inl ?_
      rw [e]
      show D.lst (ds ++ []) = _
      rw [List.append_nil]
abbrev sp_law_structure (L : Pm) : Sp := spR L (fun p : Prob => ProbOk p ∧ p.ss.length ≤ 4) (fun p => [dProb p]) (fun p d => ∃ t : List Pair, StrOk p t ∧ d = dStr t)
def nm_law_structure : List Str := ["_law_row", "_law_problem_here", "_law_hots", "_law_k", "_law_colds", "_law_found", "_law_turn", "_law_pair"]
theorem sc_law_structure : FnScope nm_law_structure ["_law_row", "_law_problem_here"] (defScope (top 64)) := ⟨rfl, rfl, rfl, by decide +kernel, rfl, by decide +kernel, by decide +kernel⟩
theorem w_law_structure (T : Tx L mg base) : Pr P w L.K mg base "_law_structure" 3 ["_law_row", "_law_problem_here"] (sp_law_structure L) :=
  have g_law_taken := w_law_taken (P := P) (w := w) T
  have g_law_pick := w_law_pick (P := P) (w := w) T
  pr_of T.law_structure sc_law_structure (by intro kV doc pm an cdv ct us h; match us, h with | [_, _], _ => rfl) (fun vs H Q E h => len_R (n := 2) (fun _ => rfl) h) fun f cdv A outer s H vs Q E HR h => ⟨_, (pss_cons (ps_setLc (i := 2) (own := [("_law_k", 3)]) (g := (gName 3)) (tt := (tTest (tOp (rI0 fun i j => .bl (decide (j < i))) (tOp (rIxT L.K) (tOp (rIxT L.K) (tOp (rIxT L.K) (tVar 1) (tC (.int 0))) (tVar 3)) (tC (.int 0))) (tOp (rIxT L.K) (tOp (rIxT L.K) (tOp (rIxT L.K) (tVar 1) (tC (.int 0))) (tVar 3)) (tC (.int 1)))))) (te := (tVar 3)) (by rfl) sc_law_structure.nd rfl rfl (sw_true rfl rfl rfl (by decide +kernel)) (pi_range1 (by rfl) T.range_ (pa_cons (pe_callB call_len_seq (by rfl) T.len_ PySem.boot_len (pa_cons (pe_ix ix_tup (pv 1) pe_int (fun _ _ => rfl)) pa_nil)) pa_nil)) (blkOk_by (own := [("_law_k", 3)]) (N := nm_law_structure) (sc := (defScope (top 64))) (by decide +kernel)) (fun _ _ _ _ _ => (pg_name (i := 3) sc_law_structure.nd rfl (.inl rfl))) (fun _ _ _ _ _ => (pts_one (pt_cmpR op_gt (pe_ix ix_tup (pe_ix ix_tup (pe_ix ix_tup (pv 1) pe_int (fun _ _ => rfl)) (pv 3) (fun _ _ => rfl)) pe_int (fun _ _ => rfl)) (pe_ix ix_tup (pe_ix ix_tup (pe_ix ix_tup (pv 1) pe_int (fun _ _ => rfl)) (pv 3) (fun _ _ => rfl)) pe_int (fun _ _ => rfl)) (nomark _)))) (fun _ _ _ _ _ => (pv 3)))
    (pss_cons (ps_par (i := 4) (j := 5) (by rfl) sc_law_structure.nd rfl rfl (by decide) rfl rfl (pa_cons (pe_lc (own := [("_law_k", 3)]) (g := (gName 3)) (tt := (tTest (tOp (rI0 fun i j => .bl (decide (i < j))) (tOp (rIxT L.K) (tOp (rIxT L.K) (tOp (rIxT L.K) (tVar 1) (tC (.int 0))) (tVar 3)) (tC (.int 0))) (tOp (rIxT L.K) (tOp (rIxT L.K) (tOp (rIxT L.K) (tVar 1) (tC (.int 0))) (tVar 3)) (tC (.int 1)))))) (te := (tVar 3)) (by rfl) sc_law_structure.nd (pi_range1 (by rfl) T.range_ (pa_cons (pe_callB call_len_seq (by rfl) T.len_ PySem.boot_len (pa_cons (pe_ix ix_tup (pv 1) pe_int (fun _ _ => rfl)) pa_nil)) pa_nil)) (blkOk_by (own := [("_law_k", 3)]) (N := nm_law_structure) (sc := (defScope (top 64))) (by decide +kernel)) (fun _ _ _ _ _ => (pg_name (i := 3) sc_law_structure.nd rfl (.inl rfl))) (fun _ _ _ _ _ => (pts_one (pt_cmpR op_lt (pe_ix ix_tup (pe_ix ix_tup (pe_ix ix_tup (pv 1) pe_int (fun _ _ => rfl)) (pv 3) (fun _ _ => rfl)) pe_int (fun _ _ => rfl)) (pe_ix ix_tup (pe_ix ix_tup (pe_ix ix_tup (pv 1) pe_int (fun _ _ => rfl)) (pv 3) (fun _ _ => rfl)) pe_int (fun _ _ => rfl)) (nomark _)))) (fun _ _ _ _ _ => (pv 3))) (pa_cons (pe_lst pa_nil) pa_nil)) (by rfl))
    (pss_cons (ps_for PassesOwn.never rfl (pi_list (pv 4)) (pg_name (i := 3) sc_law_structure.nd rfl (.inl rfl)) (pss_one (ps_set (i := 5) sc_law_structure.nd rfl (Or.inl rfl) (pe_op op_cat (pv 5) (pe_op op_rep (pe_lst (pa_cons (pe_tup (pa_cons (pe_un un_neg pe_int) (pa_cons (pv 3) pa_nil))) pa_nil)) (pe_callTy call_int1 (by rfl) T.int_ (by decide +kernel) (pa_cons (pe_cmpR op_gt (pe_own g_law_taken HR (by decide) (by rfl) (pa_cons (pv 0) (pa_cons pe_int pa_nil))) pe_int (nomark _)) pa_nil)))))))
    (pss_cons (ps_for PassesOwn.never rfl (pi_range1 (by rfl) T.range_ (pa_cons (pe_own g_law_taken HR (by decide) (by rfl) (pa_cons (pv 0) (pa_cons pe_int pa_nil))) pa_nil)) (pg_name (i := 6) sc_law_structure.nd rfl (.inl rfl)) (pss_cons (ps_set (i := 7) sc_law_structure.nd rfl (Or.inl rfl) (pe_tup (pa_cons (pe_own g_law_pick HR (by decide) (by rfl) (pa_cons (pv 0) (pa_cons (pe_op op_cat (pv 2) (pe_lst (pa_cons (pe_un un_neg pe_int) pa_nil))) pa_nil))) (pa_cons (pe_own g_law_pick HR (by decide) (by rfl) (pa_cons (pv 0) (pa_cons (pe_op op_cat (pv 4) (pe_lst (pa_cons (pe_un un_neg pe_int) pa_nil))) pa_nil))) pa_nil))))
    (pss_one (ps_set (i := 5) sc_law_structure.nd rfl (Or.inl rfl) (pe_op op_cat (pv 5) (pe_op op_rep (pe_lst (pa_cons (pv 7) pa_nil)) (pe_callTy call_int1 (by rfl) T.int_ (by decide +kernel) (pa_cons (pe_cmpR (op_neD HR.units) (pv 7) (pe_tup (pa_cons (pe_un un_neg pe_int) (pa_cons (pe_un un_neg pe_int) pa_nil))) (nomark _)) pa_nil))))))))
    (pss_cons (ps_for PassesOwn.never rfl (pi_list (pv 2)) (pg_name (i := 3) sc_law_structure.nd rfl (.inl rfl)) (pss_one (ps_set (i := 5) sc_law_structure.nd rfl (Or.inl rfl) (pe_op op_cat (pv 5) (pe_op op_rep (pe_lst (pa_cons (pe_tup (pa_cons (pv 3) (pa_cons (pe_un un_neg pe_int) pa_nil))) pa_nil)) (pe_callTy call_int1 (by rfl) T.int_ (by decide +kernel) (pa_cons (pe_cmpR op_gt (pe_own g_law_taken HR (by decide) (by rfl) (pa_cons (pv 0) (pa_cons pe_int pa_nil))) pe_int (nomark _)) pa_nil)))))))
    (pss_one (ps_ret (pe_callTy call_tuple_of (by rfl) T.tuple_ (by decide +kernel) (pa_cons (pe_slice sl_list (pv 5) po_none (po_some pe_int)) pa_nil))))))))),
  start_R h fun p F rt' hp hV hW hR => by
    obtain ⟨hpp, h4⟩ := hp
    have hpp : ProbOk p := hpp
    have h4 : p.ss.length ≤ 4 := h4
    have hls : (p.ss.map dS).length = p.ss.length := List.length_map ..
    have hst : ∀ k, k < p.ss.length → StmOk (p.at k) := fun k hk => hpp.ok _ (getD_mem _ _ _ hk)
    have lc : ∀ (G : Ctx) (op : Int → Int → Bool), G.length = 8 → G[1]? = some (some (.d (dProb p))) → Ev L (tLc (iRng1 (tCons (tCB (fun xs H Q => ∃ p ys, xs = [.ref p] ∧ (SqL L.K H p ys ∨ SqT L.K H p ys) ∧ Q (.int ys.length) H) (tCons (tOp (rIxT L.K) (tVar 1) (tC (.int 0))) tNil)) tNil)) (gName 3) (tTest (tOp (rI0 fun i j => .bl (op i j)) (tOp (rIxT L.K) (tOp (rIxT L.K) (tOp (rIxT L.K) (tVar 1) (tC (.int 0))) (tVar 3)) (tC (.int 0))) (tOp (rIxT L.K) (tOp (rIxT L.K) (tOp (rIxT L.K) (tVar 1) (tC (.int 0))) (tVar 3)) (tC (.int 1))))) (tVar 3) [3]) G (.lst (given p.ss.length (fun k => op (p.at k).1 (p.at k).2.1) fun k => .int (k : Int))) := fun G op hl h1 => by
      have hG : ∀ k : Nat, (setC (wipeC G [3]) ([3].zip [D.int (k : Int)]))[3]? = some (some (.d (.int (k : Int)))) ∧ (setC (wipeC G [3]) ([3].zip [D.int (k : Int)]))[1]? = some (some (.d (dProb p))) := fun k => by
        show ((G.set 3 none).set 3 (some (.d (.int (k : Int)))))[3]? = _ ∧ ((G.set 3 none).set 3 (some (.d (.int (k : Int)))))[1]? = _
        refine ⟨List.getElem?_set_self (by rw [List.length_set]; omega), ?_⟩
        rw [List.getElem?_set_ne (by decide), List.getElem?_set_ne (by decide)]
        exact h1
      refine ev_lc (js := [3]) (bd := fun k => [.int (k : Int)]) (src_rng (n := p.ss.length) (ea_cons (ev_eq (ev_cb (ea_cons (ev_ixT (d := .tup (p.ss.map dS)) (ev_var h1) ev_int rfl) ea_nil) (rn_len rfl)) (congrArg (fun n : Nat => D.int (n : Int)) hls)) ea_nil) (by omega)) (by omega) (fun j hj => by rw [List.mem_singleton.mp hj]; omega) (fun j hj => hj) (fun k hk => tg_name) (fun k hk => ?_) (fun k hk _ => ev_var (hG k).1)
      have hat : atI (p.ss.map dS) (k : Int) = some (dS (p.at k)) := atI_map dS p.ss (k : Int) (0, 0, 0) (by omega) (by rw [Int.toNat_natCast]; exact hk)
      have hs : Ev L (tOp (rIxT L.K) (tOp (rIxT L.K) (tVar 1) (tC (.int 0))) (tVar 3)) (setC (wipeC G [3]) ([3].zip [D.int (k : Int)])) (dS (p.at k)) := ev_ixT (ev_ixT (ev_var (hG k).2) ev_int rfl) (ev_var (hG k).1) hat
      exact et_test (ev_B0 (ev_ixT hs ev_int rfl) (ev_ixT hs ev_int rfl))
    refine go_set (lc _ (fun i j => decide (j < i)) rfl rfl) (show 2 < 8 by decide) ?_
    refine go_parS (ea_cons (lc _ (fun i j => decide (i < j)) rfl rfl) (ea_cons (ev_lst ea_nil (Nat.zero_le _)) ea_nil)) (show 4 < 8 by decide) (show 5 < 8 by decide) ?_
    -- the two lists of numbers
    obtain ⟨hots, ehots, hhots⟩ : ∃ hots : List Nat, given p.ss.length (fun k => decide ((p.at k).2.1 < (p.at k).1)) (fun k => D.int (k : Int)) = hots.map (fun k : Nat => D.int (k : Int)) ∧ hots.length ≤ 4 ∧ ∀ k ∈ hots, k < p.ss.length ∧ p.giver (k : Int) = true :=
      ⟨_, rfl, Nat.le_trans (List.length_filter_le _ _) (by rw [List.length_range]; exact h4), fun k hk => by
        obtain ⟨h1, h2⟩ := List.mem_filter.mp hk
        exact ⟨List.mem_range.mp h1, by unfold Prob.giver; rw [Int.toNat_natCast]; exact h2⟩⟩
    obtain ⟨colds, ecolds, hcolds⟩ : ∃ colds : List Nat, given p.ss.length (fun k => decide ((p.at k).1 < (p.at k).2.1)) (fun k => D.int (k : Int)) = colds.map (fun k : Nat => D.int (k : Int)) ∧ colds.length ≤ 4 ∧ ∀ k ∈ colds, k < p.ss.length ∧ p.giver (k : Int) = false :=
      ⟨_, rfl, Nat.le_trans (List.length_filter_le _ _) (by rw [List.length_range]; exact h4), fun k hk => by
        obtain ⟨h1, h2⟩ := List.mem_filter.mp hk
        refine ⟨List.mem_range.mp h1, ?_⟩
        unfold Prob.giver
        rw [Int.toNat_natCast]
        have := of_decide_eq_true h2
        exact decide_eq_false (by omega)⟩
    rw [ehots, ecolds]
    have pc : ∀ k ∈ colds, PairOk p (-1, (k : Int)) := fun k hk => by
      obtain ⟨h1, h2⟩ := hcolds.2 k hk
      exact ⟨Int.le_refl (-1), by show (-1 : Int) < _; omega, by show (-1 : Int) ≤ (k : Int); omega, by show (k : Int) < _; omega, .inl rfl, .inr h2, fun z => by have z2 : (k : Int) = -1 := z.2; omega⟩
    have ph : ∀ k ∈ hots, PairOk p ((k : Int), -1) := fun k hk => by
      obtain ⟨h1, h2⟩ := hhots.2 k hk
      exact ⟨by show (-1 : Int) ≤ (k : Int); omega, by show (k : Int) < _; omega, Int.le_refl (-1), by show (-1 : Int) < _; omega, .inr h2, .inl rfl, fun z => by have z2 : (k : Int) = -1 := z.1; omega⟩
    have hlm : ∀ ks : List Nat, (ks.map fun k : Nat => D.int (k : Int)).length = ks.length := fun ks => List.length_map ..
    show Go L F _ _ [some .row, some (.d (dProb p)), some (.d (.lst (hots.map fun k : Nat => D.int (k : Int)))), none, some (.d (.lst (colds.map fun k : Nat => D.int (k : Int)))), some (.d (.lst [])), none, none]
    refine go_forS [3] (fun i => [.int ((colds.getD i 0 : Nat) : Int)]) (fun i G' => ∃ (t : List Pair) (o3 : Option D), StI p i 0 t ∧ G' = [some .row, some (.d (dProb p)), some (.d (.lst (hots.map fun k : Nat => D.int (k : Int)))), dn o3, some (.d (.lst (colds.map fun k : Nat => D.int (k : Int)))), some (.d (.lst (t.map dP))), none, none]) (src_list (ev_var rfl)) ⟨[], none, ⟨Nat.le_refl _, fun q h => absurd h List.not_mem_nil, Nat.le_refl _⟩, rfl⟩ (fun i hi => ?_) (fun i G' hc j hj => ?_) (fun i G' A' N E' hi hc hN e1 e2 e3 => ?_) (fun G' hc => ?_)
    · rw [getD_map (fun k : Nat => D.int (k : Int)) colds i 0 .non (by rw [← hlm colds]; exact hi)]
      exact tg_name
    · obtain ⟨t, o3, _, rfl⟩ := hc
      rw [List.mem_singleton.mp hj]
      exact (show 3 < 8 by decide)
    · obtain ⟨t, o3, ht, rfl⟩ := hc
      have hi : i < colds.length := by rw [← hlm colds]; exact hi
      have hq := pc _ (getD_mem colds i 0 hi)
      refine go_asg (evg_grow (x := dP (-1, ((colds.getD i 0 : Nat) : Int))) (Ψ := fun _ => True) (ev_var rfl) (ev_lst (ea_cons (ev_tup (ea_cons (ev_neg ev_int) (ea_cons (ev_var rfl) ea_nil)) (show 2 ≤ 100000 by decide)) ea_nil) (show 1 ≤ 100000 by decide)) (evg_mono (evg_intGt (evg_tk (n := 5) rfl ⟨by decide, by decide⟩ ev_int)) fun d ⟨k, e⟩ => ⟨k, e, trivial⟩) ?_) (show 5 < 8 by decide) fun d hd => ?_
      · rw [List.length_map]
        have := ht.le
        have := hcolds.1
        omega
      · rw [e1]
        rcases hd with hd | ⟨hd, _⟩
        · subst hd
          exact hN _ ⟨t, some (.int ((colds.getD i 0 : Nat) : Int)), ht.mono (Nat.le_succ i) (Nat.le_refl _), rfl⟩
        · subst hd
          exact hN _ ⟨t ++ [(-1, ((colds.getD i 0 : Nat) : Int))], some (.int ((colds.getD i 0 : Nat) : Int)), ht.add1 hq rfl, by rw [List.map_append]; rfl⟩
    obtain ⟨t0, o3, ht0, rfl⟩ := hc
    have ht0 : StI p 4 0 t0 := ht0.mono (by rw [hlm]; exact hcolds.1) (Nat.le_refl _)
    -- the turns
    refine go_forR (M := 3) 6 (fun i G' => ∃ (t : List Pair) (o6 o7 : Option D), StI p (4 + i) i t ∧ G' = [some .row, some (.d (dProb p)), some (.d (.lst (hots.map fun k : Nat => D.int (k : Int)))), dn o3, some (.d (.lst (colds.map fun k : Nat => D.int (k : Int)))), some (.d (.lst (t.map dP))), dn o6, dn o7]) (evg_tk (n := 4) rfl ⟨by decide, by decide⟩ ev_int) ⟨t0, none, none, ht0, rfl⟩ (fun i G' hc => ?_) (fun i G' A' N E' hi hc hN e1 e2 e3 => ?_) fun n G' hn hc => ?_
    · obtain ⟨t, o6, o7, _, rfl⟩ := hc
      exact (show 6 < 8 by decide)
    · obtain ⟨t, o6, o7, ht, rfl⟩ := hc
      have pk : ∀ (ks : List Nat) (G : Ctx) (tl : TE), ks.length ≤ 4 → G[0]? = some (some .row) → Ev L tl G (.lst (ks.map fun k : Nat => D.int (k : Int))) → EvG L (tCall (sp_law_pick L) [] E0 (tCons (tVar 0) (tCons (tOp rCat tl (tLst (tCons (tUn (rU fun i => .int (-i)) (tC (.int 1))) tNil))) tNil))) G (fun d => ∃ x : Int, (x = -1 ∨ ∃ k ∈ ks, x = (k : Int)) ∧ d = .int x) := fun ks G tl hk h0 hl => by
        refine evg_mono (evg_pick (ds := (ks.map fun k : Nat => D.int (k : Int)) ++ [.int (-1)]) h0 ?_ (ev_op hl (ev_lst (ea_cons (ev_neg ev_int) ea_nil) (show 1 ≤ 100000 by decide)) (r2_cat ?_))) fun d hd => ?_
        · rw [List.length_append, List.length_map]
          exact ⟨Nat.le_add_left 1 _, by show ks.length + 1 ≤ 1000; omega⟩
        · rw [List.length_map]
          show ks.length + 1 ≤ 100000
          omega
        · rcases List.mem_append.mp hd with hd | hd
          · obtain ⟨k, h1, h2⟩ := List.mem_map.mp hd
            exact ⟨k, .inr ⟨k, h1, rfl⟩, h2.symm⟩
          · exact ⟨-1, .inl rfl, List.mem_singleton.mp hd⟩
      refine go_setG (evg_tup (eag_cons (Φr := fun ds => ∃ y : Int, (y = -1 ∨ ∃ k ∈ colds, y = (k : Int)) ∧ ds = [.int y]) (Φ := fun ds => ∃ x y : Int, (x = -1 ∨ ∃ k ∈ hots, x = (k : Int)) ∧ (y = -1 ∨ ∃ k ∈ colds, y = (k : Int)) ∧ ds = [.int x, .int y]) (pk hots _ _ hhots.1 rfl (ev_var rfl)) (eag_cons (pk colds _ _ hcolds.1 rfl (ev_var rfl)) ea_nil fun x xs ⟨y, h1, e⟩ e2 => ⟨y, h1, by rw [e, e2]⟩) fun x xs ⟨z, h1, e⟩ ⟨y, h2, e2⟩ => ⟨z, y, h1, h2, by rw [e, e2]⟩) fun ds ⟨x, y, _, _, e⟩ => ?_) (show 7 < 8 by decide) fun d ⟨ds, e, x, y, hx, hy, e'⟩ => ?_
      · rw [e]
        exact (show 2 ≤ 100000 by decide)
      subst e e'
      have hqok : ¬ (x = -1 ∧ y = -1) → PairOk p (x, y) := fun hne => by
        refine ⟨?_, ?_, ?_, ?_, ?_, ?_, hne⟩
        · show -1 ≤ x
          rcases hx with h | ⟨k, _, h⟩ <;> omega
        · show x < _
          rcases hx with h | ⟨k, hk, h⟩
          · omega
          · have := (hhots.2 k hk).1; omega
        · show -1 ≤ y
          rcases hy with h | ⟨k, _, h⟩ <;> omega
        · show y < _
          rcases hy with h | ⟨k, hk, h⟩
          · omega
          · have := (hcolds.2 k hk).1; omega
        · rcases hx with h | ⟨k, hk, h⟩
          · exact .inl h
          · exact .inr (by show p.giver x = true; rw [h]; exact (hhots.2 k hk).2)
        · rcases hy with h | ⟨k, hk, h⟩
          · exact .inl h
          · exact .inr (by show p.giver y = false; rw [h]; exact (hcolds.2 k hk).2)
      have hde : dEq (D.tup [.int x, .int y]) (.tup [.int (-1), .int (-1)]) = (decide (x = -1) && decide (y = -1)) := dEq_pair (x, y) (-1, -1)
      show Go L _ _ _ [some .row, some (.d (dProb p)), some (.d (.lst (hots.map fun k : Nat => D.int (k : Int)))), dn o3, some (.d (.lst (colds.map fun k : Nat => D.int (k : Int)))), some (.d (.lst (t.map dP))), some (.d (.int (i : Int))), some (.d (.tup [.int x, .int y]))]
      refine go_asg (evg_grow (x := dP (x, y)) (Ψ := fun b => b = true → ¬ (x = -1 ∧ y = -1)) (ev_var rfl) (ev_lst (ea_cons (ev_var rfl) ea_nil) (show 1 ≤ 100000 by decide)) (evg_of (ev_cb (ea_cons (ev_neD (ev_var rfl) (ev_tup (ea_cons (ev_neg ev_int) (ea_cons (ev_neg ev_int) ea_nil)) (show 2 ≤ 100000 by decide)) rfl rfl) ea_nil) (rn_int rfl)) ⟨_, rfl, fun e z => ?_⟩) ?_) (show 5 < 8 by decide) fun d hd => ?_
      · rw [hde, decide_eq_true z.1, decide_eq_true z.2] at e
        cases e
      · rw [List.length_map]
        have := ht.le
        omega
      · rw [e1]
        rcases hd with hd | ⟨hd, hne⟩
        · subst hd
          exact hN _ ⟨t, some (.int (i : Int)), some (.tup [.int x, .int y]), ht.mono (by omega) (by omega), rfl⟩
        · subst hd
          exact hN _ ⟨t ++ [(x, y)], some (.int (i : Int)), some (.tup [.int x, .int y]), ht.add2 (hqok (hne rfl)), by rw [List.map_append]; rfl⟩
    obtain ⟨t1, o6, o7, ht1, rfl⟩ := hc
    have ht1 : StI p 7 3 t1 := ht1.mono (by omega) hn
    refine go_forS [3] (fun i => [.int ((hots.getD i 0 : Nat) : Int)]) (fun i G' => ∃ (t : List Pair) (o3 : Option D), StI p (7 + i) 3 t ∧ G' = [some .row, some (.d (dProb p)), some (.d (.lst (hots.map fun k : Nat => D.int (k : Int)))), dn o3, some (.d (.lst (colds.map fun k : Nat => D.int (k : Int)))), some (.d (.lst (t.map dP))), dn o6, dn o7]) (src_list (ev_var rfl)) ⟨t1, o3, ht1, rfl⟩ (fun i hi => ?_) (fun i G' hc j hj => ?_) (fun i G' A' N E' hi hc hN e1 e2 e3 => ?_) (fun G' hc => ?_)
    · rw [getD_map (fun k : Nat => D.int (k : Int)) hots i 0 .non (by rw [← hlm hots]; exact hi)]
      exact tg_name
    · obtain ⟨t, o3, _, rfl⟩ := hc
      rw [List.mem_singleton.mp hj]
      exact (show 3 < 8 by decide)
    · obtain ⟨t, o3, ht, rfl⟩ := hc
      have hi : i < hots.length := by rw [← hlm hots]; exact hi
      have hq := ph _ (getD_mem hots i 0 hi)
      refine go_asg (evg_grow (x := dP (((hots.getD i 0 : Nat) : Int), -1)) (Ψ := fun _ => True) (ev_var rfl) (ev_lst (ea_cons (ev_tup (ea_cons (ev_var rfl) (ea_cons (ev_neg ev_int) ea_nil)) (show 2 ≤ 100000 by decide)) ea_nil) (show 1 ≤ 100000 by decide)) (evg_mono (evg_intGt (evg_tk (n := 5) rfl ⟨by decide, by decide⟩ ev_int)) fun d ⟨k, e⟩ => ⟨k, e, trivial⟩) ?_) (show 5 < 8 by decide) fun d hd => ?_
      · rw [List.length_map]
        have := ht.le
        have := hhots.1
        omega
      · rw [e1]
        have hb : both (((hots.getD i 0 : Nat) : Int), -1) = false := by
          unfold both
          rw [decide_eq_false (show ¬ (0 : Int) ≤ -1 by decide), Bool.and_false]
        rcases hd with hd | ⟨hd, _⟩
        · subst hd
          exact hN _ ⟨t, some (.int ((hots.getD i 0 : Nat) : Int)), ht.mono (by omega) (Nat.le_refl _), rfl⟩
        · subst hd
          exact hN _ ⟨t ++ [(((hots.getD i 0 : Nat) : Int), -1)], some (.int ((hots.getD i 0 : Nat) : Int)), ht.add1 hq hb, by rw [List.map_append]; rfl⟩
    obtain ⟨t2, o3', ht2, rfl⟩ := hc
    have hcut : cutD (t2.map dP) none (some 10) = (t2.take 10).map dP := by
      unfold cutD
      rw [HT.sIx_none, show (10 : Int) = ((10 : Nat) : Int) from rfl, HT.sIx_nat, List.length_map, List.drop_zero, Nat.sub_zero, List.map_take]
      rw [List.take_eq_take_iff, List.length_map]
      omega
    refine go_retE (d := dStr (t2.take 10)) (ev_cb (ea_cons (ev_eq (ev_slL (ev_var rfl) eo_none (eo_some ev_int)) (congrArg D.lst hcut)) ea_nil) rn_tuple) (hR _ ⟨t2.take 10, ⟨?_, fun q hq => ht2.ok q (List.mem_of_mem_take hq), ?_⟩, rfl⟩)
    · rw [List.length_take]
      exact Nat.min_le_left _ _
    · exact Nat.le_trans ((List.take_sublist 10 t2).filter both).length_le ht2.few⟩
end
end Pw

/-! The walk: _law_conditions, _law_are_ratios. -/
namespace Pw
open PySem L2 PyProof.Rows
/-- small data: no deeper than n, every int below 2^700 -/
def Sm : Nat → D → Prop
  | _, .non => True
  | _, .bl _ => True
  | _, .int i => i.natAbs < 2 ^ 700
  | _, .str _ => False
  | _, .dic => False
  | 0, .tup _ => False
  | 0, .lst _ => False
  | n + 1, .tup ds => ∀ d ∈ ds, Sm n d
  | n + 1, .lst ds => ∀ d ∈ ds, Sm n d
theorem Sm.ok : ∀ {n : Nat} {d : D}, Sm n d → dOk d = true ∧ dLow n d = true
  | n, .non, _ => ⟨rfl, by cases n <;> rfl⟩
  | n, .bl _, _ => ⟨rfl, by cases n <;> rfl⟩
  | n, .int _, _ => ⟨rfl, by cases n <;> rfl⟩
  | n, .str _, h => by cases n <;> exact h.elim
  | n, .dic, h => by cases n <;> exact h.elim
  | 0, .tup _, h => h.elim
  | 0, .lst _, h => h.elim
  | n + 1, .tup ds, h => by
    rw [dOk, dLow]
    have h : ∀ d ∈ ds, Sm n d := h
    exact ⟨dOks_of fun d hd => (Sm.ok (h d hd)).1, dLows_of fun d hd => (Sm.ok (h d hd)).2⟩
  | n + 1, .lst ds, h => by
    rw [dOk, dLow]
    have h : ∀ d ∈ ds, Sm n d := h
    exact ⟨dOks_of fun d hd => (Sm.ok (h d hd)).1, dLows_of fun d hd => (Sm.ok (h d hd)).2⟩
theorem Sm.up : ∀ {n : Nat} {d : D}, Sm n d → Sm (n + 1) d
  | n, .non, _ => by cases n <;> trivial
  | n, .bl _, _ => by cases n <;> trivial
  | n, .int _, h => by cases n <;> exact h
  | n, .str _, h => by cases n <;> exact h.elim
  | n, .dic, h => by cases n <;> exact h.elim
  | 0, .tup _, h => h.elim
  | 0, .lst _, h => h.elim
  | n + 1, .tup ds, h => fun d hd => Sm.up ((show ∀ d ∈ ds, Sm n d from h) d hd)
  | n + 1, .lst ds, h => fun d hd => Sm.up ((show ∀ d ∈ ds, Sm n d from h) d hd)
theorem Sm.mono {m n : Nat} {d : D} (h : Sm m d) (k : m ≤ n) : Sm n d := by
  induction k with
  | refl => exact h
  | step _ ih => exact ih.up
theorem Sm.cmp {n : Nat} {d : D} (h : Sm n d) (hn : n ≤ 60) : dCmp d = true := by
  obtain ⟨h1, h2⟩ := (h.mono hn).ok
  unfold dCmp
  rw [h1, h2]
  rfl
theorem Sm.tup {n : Nat} {ds : List D} (h : ∀ d ∈ ds, Sm n d) : Sm (n + 1) (.tup ds) := h
theorem Sm.lst {n : Nat} {ds : List D} (h : ∀ d ∈ ds, Sm n d) : Sm (n + 1) (.lst ds) := h
theorem Sm.rt {q : Rat} (h : Bit q 700) : Sm 1 (rt q) := fun d hd => by
  rcases List.mem_cons.mp hd with e | e
  · rw [e]; exact h.1
  · rw [List.mem_singleton.mp e]
    show ((q.den : Nat) : Int).natAbs < 2 ^ 700
    rw [Int.natAbs_natCast]
    exact h.2
/-- rationals, so many; not below 0 unless signed -/
def okR (s : Bool) (d : D) : Bool := isRt d && (s || nneg d)
def ratB (n : Nat) (s : Bool) : D → Bool
  | .tup ds => decide (ds.length = n) && (List.range n).all fun i => okR s (ds.getD i .non)
  | _ => false
theorem ratB_bad {n i : Nat} {s : Bool} {ds : List D} (hi : i < n) (h : okR s (ds.getD i .non) = false) : ratB n s (.tup ds) = false := by
  have : ((List.range n).all fun i => okR s (ds.getD i .non)) = false := by
    cases hh : (List.range n).all fun i => okR s (ds.getD i .non) with
    | false => rfl
    | true =>
      have := List.all_eq_true.mp hh i (List.mem_range.mpr hi)
      rw [h] at this
      cases this
  show (decide _ && _) = false
  rw [this, Bool.and_false]
theorem ratB_good {n : Nat} {s : Bool} {ds : List D} (hl : ds.length = n) (h : ∀ i, i < n → okR s (ds.getD i .non) = true) : ratB n s (.tup ds) = true := by
  show (decide _ && _) = true
  rw [decide_eq_true hl, Bool.true_and]
  exact List.all_eq_true.mpr fun i hi => h i (List.mem_range.mp hi)
/-- a whole number that is no bool -/
def isPI : D → Bool
  | .int _ => true
  | _ => false
theorem isPI_eq (x : D) : (!isInt x || isBl x) = !isPI x := by cases x <;> rfl
theorem given_two (f : Nat → Bool) (out : Nat → D) : (given 2 f out).isEmpty = (!f 0 && !f 1) := by
  unfold given
  rw [show List.range 2 = [0, 1] from rfl]
  cases h0 : f 0 <;> cases h1 : f 1 <;> simp [List.filter_cons, h0, h1]
theorem isRt_bad {x y : D} (h : (isPI x && isPI y) = false) : isRt (.tup [x, y]) = false := by
  cases x <;> first | rfl | (cases y <;> first | rfl | cases h)
/-- a fraction in its lowest terms -/
theorem low_iff {a b : Int} (hb : 0 < b) : dEq (rt (Rat.divInt a b)) (.tup [.int a, .int b]) = isRt (.tup [.int a, .int b]) := by
  obtain ⟨r1, r2⟩ := ratio_up (t := a) hb
  have e1 : dEq (rt (Rat.divInt a b)) (.tup [.int a, .int b]) = (decide ((Rat.divInt a b).num = a) && decide (((Rat.divInt a b).den : Int) = b)) := dEq_pair ((Rat.divInt a b).num, ((Rat.divInt a b).den : Int)) (a, b)
  have e2 : isRt (.tup [.int a, .int b]) = (decide (0 < b) && decide (Nat.gcd a.natAbs b.natAbs = 1)) := rfl
  rw [e1, e2, decide_eq_true hb, Bool.true_and, Bool.eq_iff_iff, Bool.and_eq_true, decide_eq_true_iff, decide_eq_true_iff, decide_eq_true_iff]
  constructor
  · rintro ⟨h1, h2⟩
    have := (Rat.divInt a b).reduced
    rw [h1] at this
    have h3 : (Rat.divInt a b).den = b.natAbs := by omega
    rw [h3] at this
    exact this
  · intro h
    rw [h] at r1 r2
    exact ⟨by rw [← r1]; exact Int.fdiv_one a, by rw [← r2]; exact Int.fdiv_one b⟩
section
variable {P : Program} {w : World} {L : Pm} {mg : Str → Option Value} {base : Heap}
def nm_law_conditions : List Str := ["_law_problem_here", "_law_structure_here", "_law_found", "_law_at", "_law_hot", "_law_cold", "_law_one", "_law_other", "_law_own", "_law_factors", "_law_k", "_law_size"]
theorem sc_law_conditions : FnScope nm_law_conditions ["_law_problem_here", "_law_structure_here"] (defScope (top 65)) := ⟨rfl, rfl, rfl, by decide +kernel, rfl, by decide +kernel, by decide +kernel⟩
theorem w_law_conditions (T : Tx L mg base) : Pr P w L.K mg base "_law_conditions" 1 ["_law_problem_here", "_law_structure_here"] (spP L (fun a : Prob × List Pair => ProbOk a.1 ∧ StrOk a.1 a.2) (fun a => [dProb a.1, dStr a.2]) (fun a d => d = .lst ((conds a.1 a.2).map dC))) :=
  pr_of T.law_conditions sc_law_conditions (by intro kV doc pm an cdv ct us h; match us, h with | [_, _], _ => rfl) (fun vs H Q E h => len_P (n := 2) (fun _ => rfl) h) fun f cdv A outer s H vs Q E HR h => ⟨_, (pss_cons (ps_set (i := 2) sc_law_conditions.nd rfl (Or.inl rfl) (pe_lst pa_nil))
    (pss_cons (ps_for PassesOwn.never rfl (pi_range1 (by rfl) T.range_ (pa_cons (pe_callB call_len_seq (by rfl) T.len_ PySem.boot_len (pa_cons (pv 1) pa_nil)) pa_nil)) (pg_name (i := 3) sc_law_conditions.nd rfl (.inl rfl)) (pss_cons (ps_asg (pe_ix ix_tup (pv 1) (pv 3) (fun _ _ => rfl)) (pg_tup (by rfl) (pgs_cons (pg_name (i := 4) sc_law_conditions.nd rfl (.inl rfl)) (pgs_cons (pg_name (i := 5) sc_law_conditions.nd rfl (.inl rfl)) pgs_nil))))
    (pss_one (ps_if (PW.pt (pw_and (pt_cmpR op_ge (pv 4) pe_int (nomark _)) (pw_and1 (pt_cmpR op_ge (pv 5) pe_int (nomark _))))) (pss_cons (ps_par (i := 6) (j := 7) (by rfl) sc_law_conditions.nd rfl rfl (by decide) rfl rfl (pa_cons (pe_ix ix_tup (pe_ix ix_tup (pv 0) pe_int (fun _ _ => rfl)) (pv 4) (fun _ _ => rfl)) (pa_cons (pe_ix ix_tup (pe_ix ix_tup (pv 0) pe_int (fun _ _ => rfl)) (pv 5) (fun _ _ => rfl)) pa_nil)) (by rfl))
    (pss_one (ps_for PassesOwn.never rfl (pi_range1 (by rfl) T.range_ (pa_cons pe_int pa_nil)) (pg_name (i := 8) sc_law_conditions.nd rfl (.inl rfl)) (pss_cons (ps_set (i := 9) sc_law_conditions.nd rfl (Or.inl rfl) (pe_lst pa_nil))
    (pss_cons (ps_for PassesOwn.never rfl (pi_range1 (by rfl) T.range_ (pa_cons (pe_callB call_len_seq (by rfl) T.len_ PySem.boot_len (pa_cons (pv 1) pa_nil)) pa_nil)) (pg_name (i := 10) sc_law_conditions.nd rfl (.inl rfl)) (pss_cons (ps_set (i := 11) sc_law_conditions.nd rfl (Or.inl rfl) (pe_ifExp (PW.pt (pw_and (pt_cmpR op_eq (pe_ix ix_tup (pe_ix ix_tup (pv 1) (pv 10) (fun _ _ => rfl)) pe_int (fun _ _ => rfl)) (pv 4) (nomark _)) (pw_and1 (PW.pt (pw_or (pt_cmpR op_lt (pv 10) (pv 3) (nomark _)) (pw_or1 (PW.pt (pw_and (pt_cmpR op_eq (pv 10) (pv 3) (nomark _)) (pw_and1 (pt_cmpR op_eq (pv 8) pe_int (nomark _))))))))))) (pe_ix ix_tup (pv 7) pe_int (fun _ _ => rfl)) pe_int))
    (pss_cons (ps_set (i := 11) sc_law_conditions.nd rfl (Or.inl rfl) (pe_op op_add (pv 11) (pe_ifExp (PW.pt (pw_and (pt_cmpR op_eq (pe_ix ix_tup (pe_ix ix_tup (pv 1) (pv 10) (fun _ _ => rfl)) pe_int (fun _ _ => rfl)) (pv 5) (nomark _)) (pw_and1 (PW.pt (pw_or (pt_cmpR op_gt (pv 10) (pv 3) (nomark _)) (pw_or1 (PW.pt (pw_and (pt_cmpR op_eq (pv 10) (pv 3) (nomark _)) (pw_and1 (pt_cmpR op_eq (pv 8) pe_int (nomark _))))))))))) (pe_ix ix_tup (pv 6) pe_int (fun _ _ => rfl)) pe_int)))
    (pss_one (ps_expr (pe_bm PySem.F.plainAttrs_list PySem.F.slot_list_append PySem.F.type_list_append mt_append (pv 9) (pa_cons (pv 11) pa_nil)))))))
    (pss_one (ps_expr (pe_bm PySem.F.plainAttrs_list PySem.F.slot_list_append PySem.F.type_list_append mt_append (pv 2) (pa_cons (pe_tup (pa_cons (pv 3) (pa_cons (pv 9) (pa_cons (pe_op op_mulW (pe_op op_mulW (pe_op op_sub (pe_op op_sub (pe_ix ix_tup (pv 6) pe_int (fun _ _ => rfl)) (pe_ix ix_tup (pv 7) pe_int (fun _ _ => rfl))) (pe_ix ix_tup (pv 0) pe_int (fun _ _ => rfl))) (pe_ix ix_tup (pv 6) pe_int (fun _ _ => rfl))) (pe_ix ix_tup (pv 7) pe_int (fun _ _ => rfl))) pa_nil)))) pa_nil))))))))) pss_nil))))
    (pss_one (ps_ret (pv 2))))),
  start_P h fun a F rt' hp hM hW hR => by
    obtain ⟨p, t⟩ := a
    obtain ⟨hp, ht⟩ := hp
    have hp : ProbOk p := hp
    have ht : StrOk p t := ht
    have hlen : (t.map dP).length = t.length := List.length_map ..
    have hle := ht.le
    have few : ∀ n, n ≤ t.length → (condsTo p t n).length ≤ 2 * n := fun n => by
      induction n with
      | zero => intro _; exact Nat.le_refl _
      | succ n ih =>
        intro h
        have := ih (by omega)
        show (condsTo p t n ++ condsOf p t n).length ≤ _
        rw [List.length_append]
        have : (condsOf p t n).length ≤ 2 := by
          unfold condsOf
          split
          · exact Nat.le_refl _
          · exact Nat.zero_le _
        omega
    have hrn : ∀ G : Ctx, G[1]? = some (some (.d (dStr t))) → Src L (iRng1 (tCons (tCB (fun xs H Q => ∃ p ys, xs = [.ref p] ∧ (SqL L.K H p ys ∨ SqT L.K H p ys) ∧ Q (.int ys.length) H) (tCons (tVar 1) tNil)) tNil)) G t.length (fun i => .int (i : Int)) := fun G h1 =>
      src_rng (ea_cons (ev_eq (ev_cb (ea_cons (ev_var h1) ea_nil) (rn_len rfl)) (congrArg (fun n : Nat => D.int (n : Int)) hlen)) ea_nil) (by omega)
    refine go_seq (go_new (show 2 < 12 by decide) ?_)
    show Go L F _ _ _
    refine go_forS [3] (fun i => [.int (i : Int)]) (fun n G' => ∃ o3 o4 o5 o6 o7 o8 o9 o10 o11, G' = [some (.d (dProb p)), some (.d (dStr t)), some (.own ((condsTo p t n).map dC)), dn o3, dn o4, dn o5, dn o6, dn o7, dn o8, dn o9, dn o10, dn o11]) (hrn _ rfl)
      ⟨none, none, none, none, none, none, none, none, none, rfl⟩ (fun i hi => tg_name) (fun i G' hc j hj => ?_) (fun i G' A' N E' hi hc hN e1 e2 e3 => ?_) (fun G' hc => ?_)
    · obtain ⟨o3, o4, o5, o6, o7, o8, o9, o10, o11, rfl⟩ := hc
      rw [List.mem_singleton.mp hj]
      exact (show 3 < 12 by decide)
    · obtain ⟨o3, o4, o5, o6, o7, o8, o9, o10, o11, rfl⟩ := hc
      have hq : PairOk p (t.getD i (0, 0)) := ht.ok _ (getD_mem _ _ _ hi)
      have hstep : condsTo p t (i + 1) = condsTo p t i ++ condsOf p t i := rfl
      have hfew := few i (by omega)
      have hat := atI_map dP t (i : Int) (0, 0) (by omega) (by rw [Int.toNat_natCast]; exact hi)
      rw [Int.toNat_natCast] at hat
      generalize hqq : t.getD i (0, 0) = q at hq hat
      obtain ⟨x, y⟩ := q
      refine go_seq (go_asgT (d := dP (x, y)) (js := [4, 5]) (ds := [.int x, .int y]) (ev_ixT (ev_var rfl) (ev_var rfl) hat) (tg_2 rfl) (fun j hj => ?_) (nx_go ?_))
      · have : j = 4 ∨ j = 5 := by simpa using hj
        show j < 12
        omega
      show Go L _ _ _ [some (.d (dProb p)), some (.d (dStr t)), some (.own ((condsTo p t i).map dC)), some (.d (.int (i : Int))), some (.d (.int x)), some (.d (.int y)), dn o6, dn o7, dn o8, dn o9, dn o10, dn o11]
      refine go_if (b := both (x, y)) (et_eq (et_and (et_test (ev_B0 (ev_var rfl) ev_int)) fun _ => et_test (ev_B0 (ev_var rfl) ev_int)) rfl) (fun hb => ?_) fun hb => go_next ?_
      · obtain ⟨l1, l2, l3, l4⟩ := giver_lt hq hb
        obtain ⟨b1, b2, b3⟩ := side_small hp hq hb
        have hA := atI_map dS p.ss x (0, 0, 0) l1 l2
        have hB := atI_map dS p.ss y (0, 0, 0) l3 l4
        refine go_parS (x := dS (p.at x.toNat)) (y := dS (p.at y.toNat)) (ea_cons (ev_ixT (ev_ixT (ev_var rfl) ev_int rfl) (ev_var rfl) hA) (ea_cons (ev_ixT (ev_ixT (ev_var rfl) ev_int rfl) (ev_var rfl) hB) ea_nil)) (show 6 < 12 by decide) (show 7 < 12 by decide) ?_
        refine go_forE [8] (fun j => [.int (j : Int)]) (fun n G' => ∃ o8 o9 o10 o11, G' = [some (.d (dProb p)), some (.d (dStr t)), some (.own ((condsTo p t i ++ (List.range n).map (condAt p t i)).map dC)), some (.d (.int (i : Int))), some (.d (.int x)), some (.d (.int y)), some (.d (dS (p.at x.toNat))), some (.d (dS (p.at y.toNat))), dn o8, dn o9, dn o10, dn o11])
          (src_rng (n := 2) (ea_cons ev_int ea_nil) (by decide)) ⟨o8, o9, o10, o11, by rw [List.range_zero, List.map_nil, List.append_nil]; rfl⟩ (fun j hj => tg_name) (fun j G' hc k hk => ?_) (fun j G' A'' N' hj2 hc hN' => ?_) (fun G' hc => ?_)
        · obtain ⟨o8, o9, o10, o11, rfl⟩ := hc
          rw [List.mem_singleton.mp hk]
          exact (show 8 < 12 by decide)
        · obtain ⟨o8, o9, o10, o11, rfl⟩ := hc
          refine go_seq (go_new (show 9 < 12 by decide) ?_)
          show Go L _ _ _ _
          refine go_forS [10] (fun k => [.int (k : Int)]) (fun n G' => ∃ o10 o11, G' = [some (.d (dProb p)), some (.d (dStr t)), some (.own ((condsTo p t i ++ (List.range j).map (condAt p t i)).map dC)), some (.d (.int (i : Int))), some (.d (.int x)), some (.d (.int y)), some (.d (dS (p.at x.toNat))), some (.d (dS (p.at y.toNat))), some (.d (.int (j : Int))), some (.own ((List.range n).map fun k => .int (fac p (x, y) i j k (t.getD k (0, 0))))), dn o10, dn o11])
            (hrn _ rfl) ⟨o10, o11, rfl⟩ (fun k hk => tg_name) (fun k G' hc l hl => ?_) (fun k G' A3 N3 E3 hk hc hN3 e1' e2' e3' => ?_) (fun G' hc => ?_)
          · obtain ⟨o10, o11, rfl⟩ := hc
            rw [List.mem_singleton.mp hl]
            exact (show 10 < 12 by decide)
          · obtain ⟨o10, o11, rfl⟩ := hc
            have hatk := atI_map dP t (k : Int) (0, 0) (by omega) (by rw [Int.toNat_natCast]; exact hk)
            rw [Int.toNat_natCast] at hatk
            have hm1 : decide ((t.getD k (0, 0)).1 = x ∧ (k : Int) < (i : Int) + (j : Int)) = (decide ((t.getD k (0, 0)).1 = x) && (decide ((k : Int) < (i : Int)) || (decide ((k : Int) = (i : Int)) && decide ((j : Int) = 1)))) := by
              rw [Bool.decide_and]
              congr 1
              rw [Bool.eq_iff_iff, Bool.or_eq_true, Bool.and_eq_true, decide_eq_true_iff, decide_eq_true_iff, decide_eq_true_iff, decide_eq_true_iff]
              omega
            have hm2 : decide ((t.getD k (0, 0)).2 = y ∧ (i : Int) - 1 + (j : Int) < (k : Int)) = (decide ((t.getD k (0, 0)).2 = y) && (decide ((i : Int) < (k : Int)) || (decide ((k : Int) = (i : Int)) && decide ((j : Int) = 0)))) := by
              rw [Bool.decide_and]
              congr 1
              rw [Bool.eq_iff_iff, Bool.or_eq_true, Bool.and_eq_true, decide_eq_true_iff, decide_eq_true_iff, decide_eq_true_iff, decide_eq_true_iff]
              omega
            refine go_set (d := .int (if (t.getD k (0, 0)).1 = x ∧ (k : Int) < (i : Int) + (j : Int) then (p.at y.toNat).2.2 else 0)) (ev_ifI (et_and (et_test (ev_eqI (ev_ixT (ev_ixT (ev_var rfl) (ev_var rfl) hatk) ev_int rfl) (ev_var rfl))) fun _ => et_or (et_test (ev_B0 (ev_var rfl) (ev_var rfl))) fun _ => et_and (et_test (ev_eqI (ev_var rfl) (ev_var rfl))) fun _ => et_test (ev_eqI (ev_var rfl) ev_int)) hm1.symm (fun _ => ev_ixT (ev_var rfl) ev_int rfl) fun _ => ev_int) (show 11 < 12 by decide) ?_
            refine go_set (d := .int (fac p (x, y) i j k (t.getD k (0, 0)))) (ev_I0 (ev_var rfl) (ev_ifI (p := (t.getD k (0, 0)).2 = y ∧ (i : Int) - 1 + (j : Int) < (k : Int)) (et_and (et_test (ev_eqI (ev_ixT (ev_ixT (ev_var rfl) (ev_var rfl) hatk) ev_int rfl) (ev_var rfl))) fun _ => et_or (et_test (ev_B0 (ev_var rfl) (ev_var rfl))) fun _ => et_and (et_test (ev_eqI (ev_var rfl) (ev_var rfl))) fun _ => et_test (ev_eqI (ev_var rfl) ev_int)) hm2.symm (fun _ => ev_ixT (ev_var rfl) ev_int rfl) fun _ => ev_int)) (show 11 < 12 by decide) ?_
            refine go_app (i := 9) rfl (ev_var rfl) (by rw [List.length_map, List.length_range]; omega) fun d e => ?_
            subst e
            rw [e1']
            refine hN3 _ ⟨some (.int (k : Int)), some (.int (fac p (x, y) i j k (t.getD k (0, 0)))), ?_⟩
            rw [range_snoc (fun k => D.int (fac p (x, y) i j k (t.getD k (0, 0)))) k]
            rfl
          · obtain ⟨o10, o11, rfl⟩ := hc
            refine go_freeze (i := 9) rfl ?_
            refine go_app (i := 2) rfl (ev_tup (ea_cons (ev_var rfl) (ea_cons (ev_var rfl) (ea_cons (x := .int (sideOf p (x, y))) ?_ ea_nil))) (show 3 ≤ 100000 by decide)) (by rw [List.length_map, List.length_append, List.length_map, List.length_range]; omega) fun d e => ?_
            · exact ev_I (ev_I (ev_I0 (ev_I0 (ev_ixT (ev_var rfl) ev_int rfl) (ev_ixT (ev_var rfl) ev_int rfl)) (ev_ixT (ev_var rfl) ev_int rfl)) (ev_ixT (ev_var rfl) ev_int rfl) (wide_mul b1 b2 (by decide) (by decide) (by decide))) (ev_ixT (ev_var rfl) ev_int rfl) (wide_mul (mulB b1 b2) b3 (by decide) (by decide) (by decide))
            subst e
            refine hN' _ ⟨some (.int (j : Int)), some (.lst ((List.range t.length).map fun k => .int (fac p (x, y) i j k (t.getD k (0, 0))))), o10, o11, ?_⟩
            have he : (condsTo p t i ++ (List.range (j + 1)).map (condAt p t i)).map dC = (condsTo p t i ++ (List.range j).map (condAt p t i)).map dC ++ [dC (condAt p t i j)] := by
              rw [range_snoc, ← List.append_assoc, List.map_append (l₁ := condsTo p t i ++ List.map (condAt p t i) (List.range j))]
              rfl
            have hc1 : (condAt p t i j).fs = (List.range t.length).map fun k => fac p (x, y) i j k (t.getD k (0, 0)) := by
              unfold condAt
              rw [hqq]
            have hc2 : (condAt p t i j).side = sideOf p (x, y) := by
              unfold condAt
              rw [hqq]
            have hd : dC (condAt p t i j) = .tup [.int (i : Int), .lst ((List.range t.length).map fun k => .int (fac p (x, y) i j k (t.getD k (0, 0)))), .int (sideOf p (x, y))] := by
              unfold dC
              rw [hc1, hc2, List.map_map]
              rfl
            rw [he, hd]
            rfl
        · obtain ⟨o8, o9, o10, o11, rfl⟩ := hc
          show Nx L _ E'.nx _
          rw [e1]
          refine hN _ ⟨some (.int (i : Int)), some (.int x), some (.int y), some (dS (p.at x.toNat)), some (dS (p.at y.toNat)), o8, o9, o10, o11, ?_⟩
          rw [hstep]
          unfold condsOf
          rw [hqq, if_pos hb]
          rfl
      · rw [e1]
        refine hN _ ⟨some (.int (i : Int)), some (.int x), some (.int y), o6, o7, o8, o9, o10, o11, ?_⟩
        rw [hstep]
        unfold condsOf
        rw [hqq, if_neg (by rw [hb]; exact Bool.false_ne_true), List.append_nil]
        rfl
    · obtain ⟨o3, o4, o5, o6, o7, o8, o9, o10, o11, rfl⟩ := hc
      exact go_freeze (i := 2) rfl (go_retE (ev_var rfl) (hR _ rfl))⟩
def nm_law_are_ratios : List Str := ["_law_value", "_law_many", "_law_is_signed", "_law_one", "_law_k"]
theorem sc_law_are_ratios : FnScope nm_law_are_ratios ["_law_value", "_law_many", "_law_is_signed"] (defScope (top 63)) := ⟨rfl, rfl, rfl, by decide +kernel, rfl, by decide +kernel, by decide +kernel⟩
structure RatA where
  v : D
  n : Nat
  s : Bool
abbrev sp_law_are_ratios (L : Pm) : Sp := spP L (fun a : RatA => Sm 4 a.v) (fun a => [a.v, .int (a.n : Int), .bl a.s]) (fun a d => d = .bl (ratB a.n a.s a.v))
theorem w_law_are_ratios (T : Tx L mg base) : Pr P w L.K mg base "_law_are_ratios" 2 ["_law_value", "_law_many", "_law_is_signed"] (sp_law_are_ratios L) :=
  have g_law_ratio := w_law_ratio (P := P) (w := w) T
  pr_of T.law_are_ratios sc_law_are_ratios (by intro kV doc pm an cdv ct us h; match us, h with | [_, _, _], _ => rfl) (fun vs H Q E h => len_P (n := 3) (fun _ => rfl) h) fun f cdv A outer s H vs Q E HR h => ⟨_, (pss_cons (ps_if (PW.pt (pw_or (pt_not (pt_val (pe_callB call_isi (by rfl) T.isinstance_ (by decide +kernel) (pa_cons (pv 0) (pa_cons (pe_bltn (v := .ty "tuple") (by rfl) T.tuple_ (by decide +kernel) rfl) pa_nil))))) (pw_or1 (pt_cmpR op_ne (pe_callB call_len_seq (by rfl) T.len_ PySem.boot_len (pa_cons (pv 0) pa_nil)) (pv 1) (nomark _))))) (pss_one (ps_ret pe_bl)) pss_nil)
    (pss_cons (ps_for PassesOwn.never rfl (pi_tup (pv 0)) (pg_name (i := 3) sc_law_are_ratios.nd rfl (.inl rfl)) (pss_cons (ps_if (PW.pt (pw_or (pt_not (pt_val (pe_callB call_isi (by rfl) T.isinstance_ (by decide +kernel) (pa_cons (pv 3) (pa_cons (pe_bltn (v := .ty "tuple") (by rfl) T.tuple_ (by decide +kernel) rfl) pa_nil))))) (pw_or (pt_cmpR op_ne (pe_callB call_len_seq (by rfl) T.len_ PySem.boot_len (pa_cons (pv 3) pa_nil)) pe_int (nomark _)) (pw_or1 (pt_cmpR (op_neD HR.units) (pe_lc (own := [("_law_k", 4)]) (g := (gName 4)) (tt := (tOr (tNot (tB (tCB (rIsi L.K) (tCons (tVar 4) (tCons (tC (.ty "int")) tNil))))) (tB (tCB (rIsi L.K) (tCons (tVar 4) (tCons (tC (.ty "bool")) tNil)))))) (te := (tVar 4)) (by rfl) sc_law_are_ratios.nd (pi_tup (pv 3)) (blkOk_by (own := [("_law_k", 4)]) (N := nm_law_are_ratios) (sc := (defScope (top 63))) (by decide +kernel)) (fun _ _ _ _ _ => (pg_name (i := 4) sc_law_are_ratios.nd rfl (.inl rfl))) (fun _ _ _ _ _ => (pts_one (PW.pt (pw_or (pt_not (pt_val (pe_callB call_isi (by rfl) T.isinstance_ (by decide +kernel) (pa_cons (pv 4) (pa_cons (pe_bltn (v := .ty "int") (by rfl) T.int_ (by decide +kernel) rfl) pa_nil))))) (pw_or1 (pt_val (pe_callB call_isi (by rfl) T.isinstance_ (by decide +kernel) (pa_cons (pv 4) (pa_cons (pe_bltn (v := .ty "bool") (by rfl) T.bool_ (by decide +kernel) rfl) pa_nil))))))))) (fun _ _ _ _ _ => (pv 4))) (pe_lst pa_nil) (nomark _)))))) (pss_one (ps_ret pe_bl)) pss_nil)
    (pss_one (ps_if (PW.pt (pw_or (pt_cmpR op_lt (pe_ix ix_tup (pv 3) pe_int (fun _ _ => rfl)) pe_int (nomark _)) (pw_or (pt_cmpR (op_neD HR.units) (pe_own g_law_ratio HR (by decide) (by rfl) (pa_cons (pe_ix ix_tup (pv 3) pe_int (fun _ _ => rfl)) (pa_cons (pe_ix ix_tup (pv 3) pe_int (fun _ _ => rfl)) pa_nil))) (pv 3) (nomark _)) (pw_or1 (PW.pt (pw_and (pt_cmpR op_lt (pe_ix ix_tup (pv 3) pe_int (fun _ _ => rfl)) pe_int (nomark _)) (pw_and1 (pt_not (pt_val (pv 2)))))))))) (pss_one (ps_ret pe_bl)) pss_nil))))
    (pss_one (ps_ret pe_bl)))),
  start_P h fun a F rt' hp hM hW hR => by
    obtain ⟨v, n, s⟩ := a
    have hp : Sm 4 v := hp
    have hR : RtOk L F rt' (.bl (ratB n s v)) := hR _ rfl
    have no : ratB n s v = false → RtOk L F rt' (.bl false) := fun e => by rw [e] at hR; exact hR
    by_cases hT : isTup v = true
    case neg =>
      refine go_seq (go_if (b := true) (et_eq (et_or (a := true) (b := false) (et_eq (et_not (et_B (ev_isTup (ev_var rfl)))) ?_) fun e => by cases e) rfl) (fun _ => go_retE ev_bl (no ?_)) fun e => by cases e)
      · rw [Bool.eq_false_iff.mpr hT]
        rfl
      · cases v with
        | tup ds => exact absurd rfl hT
        | _ => rfl
    obtain ⟨ds, rfl⟩ := isTup_ex hT
    have hsm : ∀ d ∈ ds, Sm 3 d := hp
    show Go L F _ _ [some (.d (.tup ds)), some (.d (.int (n : Int))), some (.d (.bl s)), none, none]
    refine go_ifR (b := !decide (ds.length = n)) (et_eq (et_or (a := false) (b := !decide (ds.length = n)) (et_eq (et_not (et_B (ev_isTup (ev_var rfl)))) rfl) fun _ => et_eq (et_test (ev_neI (ev_cb (ea_cons (ev_var rfl) ea_nil) (rn_len rfl)) (ev_var rfl))) (congrArg not (decide_eq_decide.mpr (by omega)))) rfl) (fun e => go_retE ev_bl (no ?_)) fun e => ?_
    · show (decide (ds.length = n) && _) = false
      cases hh : decide (ds.length = n) with
      | true => rw [hh] at e; cases e
      | false => rfl
    have hl : ds.length = n := by
      by_cases z : ds.length = n
      · exact z
      · rw [decide_eq_false z] at e; cases e
    refine go_forS [3] (fun i => [ds.getD i .non]) (fun m G' => (∀ i, i < m → okR s (ds.getD i .non) = true) ∧ ∃ o3 o4, G' = [some (.d (.tup ds)), some (.d (.int (n : Int))), some (.d (.bl s)), dn o3, dn o4]) (src_tup (ev_var rfl)) ⟨fun i hi => absurd hi (Nat.not_lt_zero i), none, none, rfl⟩ (fun i hi => tg_name) (fun i G' hc j hj => ?_) (fun i G' A' N E' hi hc hN e1 e2 e3 => ?_) (fun G' hc => ?_)
    · obtain ⟨_, o3, o4, rfl⟩ := hc
      rw [List.mem_singleton.mp hj]
      exact (show 3 < 5 by decide)
    · obtain ⟨hpre, o3, o4, rfl⟩ := hc
      have hx := hsm _ (getD_mem ds i .non hi)
      have bad : okR s (ds.getD i .non) = false → RtOk L F rt' (.bl false) := fun e => no (ratB_bad (by omega) e)
      have nxt : okR s (ds.getD i .non) = true → Nx L { F with A := A' } N [some (.d (.tup ds)), some (.d (.int (n : Int))), some (.d (.bl s)), some (.d (ds.getD i .non)), dn o4] := fun e => hN _ ⟨fun j hj => by
        by_cases z : j = i
        · rw [z]; exact e
        · exact hpre j (by omega), some (ds.getD i .non), o4, rfl⟩
      show Go L _ _ _ [some (.d (.tup ds)), some (.d (.int (n : Int))), some (.d (.bl s)), some (.d (ds.getD i .non)), dn o4]
      generalize ds.getD i .non = x at hx bad nxt
      by_cases hT1 : isTup x = true
      case neg =>
        refine go_seq (go_if (b := true) (et_eq (et_or (a := true) (b := false) (et_eq (et_not (et_B (ev_isTup (ev_var rfl)))) ?_) fun e => by cases e) rfl) (fun _ => go_retE ev_bl ?_) fun e => by cases e)
        · rw [Bool.eq_false_iff.mpr hT1]
          rfl
        · show RtOk L _ E'.rt _
          rw [e3]
          refine bad ?_
          cases x with
          | tup ds => exact absurd rfl hT1
          | _ => rfl
      obtain ⟨xs, rfl⟩ := isTup_ex hT1
      by_cases hl2 : (xs.length : Int) = 2
      case neg =>
        refine go_seq (go_if (b := true) (et_eq (et_or (a := false) (b := true) (et_eq (et_not (et_B (ev_isTup (ev_var rfl)))) rfl) fun _ => et_or (a := true) (b := false) (et_eq (et_test (ev_neI (ev_cb (ea_cons (ev_var rfl) ea_nil) (rn_len rfl)) ev_int)) ?_) fun e => by cases e) rfl) (fun _ => go_retE ev_bl ?_) fun e => by cases e)
        · rw [decide_eq_false hl2]
          rfl
        · show RtOk L _ E'.rt _
          rw [e3]
          refine bad ?_
          have : isRt (.tup xs) = false := by
            unfold isRt
            split
            · rename_i h
              cases h
              exact absurd rfl hl2
            · rfl
          unfold okR
          rw [this, Bool.false_and]
      obtain ⟨x, y, rfl⟩ := two_ex hl2
      have hxy : ∀ d ∈ [x, y], Sm 2 d := hx
      have hx2 := hxy x List.mem_cons_self
      have hy2 := hxy y (List.mem_cons_of_mem _ List.mem_cons_self)
      have hpi : EvT L (tTest (tOp (rNeD L.K) (tLc (iTup L.K (tVar 3)) (gName 4) (tOr (tNot (tB (tCB (rIsi L.K) (tCons (tVar 4) (tCons (tC (.ty "int")) tNil))))) (tB (tCB (rIsi L.K) (tCons (tVar 4) (tCons (tC (.ty "bool")) tNil))))) (tVar 4) [4]) (tLst tNil))) [some (.d (.tup ds)), some (.d (.int (n : Int))), some (.d (.bl s)), some (.d (.tup [x, y])), dn o4] (!(isPI x && isPI y)) := by
        refine et_eq (et_test (ev_neD (ev_lc (n := 2) (js := [4]) (bd := fun k => [[x, y].getD k .non]) (f := fun k => !isPI ([x, y].getD k .non)) (out := fun k => [x, y].getD k .non) (show Src L _ _ 2 (fun k => [x, y].getD k .non) from src_tup (ds := [x, y]) (ev_var rfl)) (by decide) (fun j hj => ?_) (fun j hj => hj) (fun k hk => tg_name) (fun k hk => ?_) (fun k hk _ => ev_var rfl)) (ev_lst ea_nil (Nat.zero_le _)) (cmp_lst fun d hd => ?_) rfl)) ?_
        · rw [List.mem_singleton.mp hj]
          exact (show 4 < 5 by decide)
        · rw [← isPI_eq]
          exact et_or (et_not (et_B (ev_isInt (ev_var rfl)))) fun _ => et_B (ev_isBl (ev_var rfl))
        · unfold given at hd
          obtain ⟨k, h1, h2⟩ := List.mem_map.mp hd
          have hk : k < 2 := List.mem_range.mp (List.mem_filter.mp h1).1
          rw [← h2]
          exact ((hxy _ (getD_mem [x, y] k .non hk)).mono (by decide)).ok
        · rw [dEq_nil, given_two]
          show (!(!(!isPI x) && !(!isPI y))) = _
          rw [Bool.not_not, Bool.not_not]
      cases hpi2 : (isPI x && isPI y) with
      | false =>
        rw [hpi2] at hpi
        refine go_seq (go_if (b := true) (et_eq (et_or (a := false) (b := true) (et_eq (et_not (et_B (ev_isTup (ev_var rfl)))) rfl) fun _ => et_or (a := false) (b := true) (et_eq (et_test (ev_neI (ev_cb (ea_cons (ev_var rfl) ea_nil) (rn_len rfl)) ev_int)) rfl) fun _ => hpi) rfl) (fun _ => go_retE ev_bl ?_) fun e => by cases e)
        show RtOk L _ E'.rt _
        rw [e3]
        refine bad ?_
        unfold okR
        rw [isRt_bad hpi2, Bool.false_and]
      | true =>
        rw [hpi2] at hpi
        refine go_guard (et_or (a := false) (b := false) (et_eq (et_not (et_B (ev_isTup (ev_var rfl)))) rfl) fun _ => et_or (a := false) (b := false) (et_eq (et_test (ev_neI (ev_cb (ea_cons (ev_var rfl) ea_nil) (rn_len rfl)) ev_int)) rfl) fun _ => hpi) rfl ?_
        obtain ⟨a, rfl⟩ : ∃ a, x = .int a := by
          cases x with
          | int a => exact ⟨a, rfl⟩
          | _ => cases hpi2
        obtain ⟨b, rfl⟩ : ∃ b, y = .int b := by
          cases y with
          | int b => exact ⟨b, rfl⟩
          | _ => cases hpi2
        have ha : a.natAbs < 2 ^ 700 := hx2
        have hb : b.natAbs < 2 ^ 700 := hy2
        have hk : okR s (.tup [.int a, .int b]) = (isRt (.tup [.int a, .int b]) && (s || decide (0 ≤ a))) := rfl
        refine go_if (b := !okR s (.tup [.int a, .int b])) ?_ (fun e => go_retE ev_bl ?_) fun e => go_next ?_
        · by_cases hb1 : b < 1
          · refine et_eq (et_or (a := true) (b := false) (et_eq (et_test (ev_B0 (ev_ixT (ev_var rfl) ev_int rfl) ev_int)) (decide_eq_true hb1)) fun e => by cases e) ?_
            rw [hk]
            have : isRt (.tup [.int a, .int b]) = false := by
              show (decide (0 < b) && _) = false
              rw [decide_eq_false (by omega), Bool.false_and]
            rw [this]
            rfl
          · refine et_eq (et_or (a := false) (b := !isRt (.tup [.int a, .int b]) || (decide (a < 0) && !s)) (et_eq (et_test (ev_B0 (ev_ixT (ev_var rfl) ev_int rfl) ev_int)) (decide_eq_false hb1)) fun _ => et_or (et_eq (et_test (ev_neD (ev_own (a, b) (ea_cons (ev_ixT (ev_var rfl) ev_int rfl) (ea_cons (ev_ixT (ev_var rfl) ev_int rfl) ea_nil)) ⟨by show 0 < b; omega, ?_⟩ fun x e => e) (ev_var rfl) (cmp_rt _) rfl)) (congrArg not (low_iff (by omega)))) fun _ => et_and (et_test (ev_B0 (ev_ixT (ev_var rfl) ev_int rfl) ev_int)) fun _ => et_not (et_B (ev_var rfl))) ?_
            · exact PySem.Flt.log2_lt_of (show 0 < 9000 by decide) (Nat.lt_trans hb (Nat.pow_lt_pow_right (by decide) (by decide)))
            · rw [hk, Bool.false_or]
              have : decide (a < 0) = !decide (0 ≤ a) := by
                by_cases z : a < 0
                · rw [decide_eq_true z, decide_eq_false (by omega)]; rfl
                · rw [decide_eq_false z, decide_eq_true (by omega)]; rfl
              rw [this]
              cases isRt (.tup [.int a, .int b]) <;> cases s <;> cases decide (0 ≤ a) <;> rfl
        · show RtOk L _ E'.rt _
          rw [e3]
          refine bad ?_
          cases hh : okR s (.tup [.int a, .int b]) with
          | true => rw [hh] at e; cases e
          | false => rfl
        · rw [e1]
          refine nxt ?_
          cases hh : okR s (.tup [.int a, .int b]) with
          | true => rfl
          | false => rw [hh] at e; cases e
    · obtain ⟨hall, o3, o4, rfl⟩ := hc
      rw [ratB_good hl fun i hi => hall i (by omega)] at hR
      exact go_retE ev_bl hR⟩
end
end Pw

/-! A dict of ints that nothing else speaks of. -/
namespace Pw
open PySem L2
theorem u1 {n c : Nat} (h : n + 64 < c) : n + 1 < c := by omega
/-- slot i holds a dict: the keys in m, each with 1 -/
def Dct (X : List Addr) (i : Nat) (m : Int → Bool) (n : Nat) (σ : L2.St) (H : Hp) : Prop :=
  ∃ (p : Addr) (kvs : List (Key × V)), σ[i]? = some (some (.ref p)) ∧ H p = some (.dK kvs) ∧ p ∈ X ∧ kvs.length ≤ n ∧ ∀ k : Int, valV kvs (.inl k : Key) = if m k = true then some (.int 1) else none
def GoD (L : Pm) (F : Frm) (E : Ends) (t : TS) (G : Ctx) (i : Nat) (m : Int → Bool) (n : Nat) : Prop := ∀ X T σ H, Sh L G { F with X := X } T σ H → Dct X i m n σ H → t E σ H
def NxD (L : Pm) (F : Frm) (N : L2.St → Hp → Prop) (G : Ctx) (i : Nat) (m : Int → Bool) (n : Nat) : Prop := ∀ X T σ H, Sh L G { F with X := X } T σ H → Dct X i m n σ H → N σ H
def EvD (L : Pm) (te : TE) (G : Ctx) (i : Nat) (m : Int → Bool) (n : Nat) (d : D) : Prop := ∀ (F : Frm) (X T : List Addr) (σ : L2.St) (H : Hp), Sh L G { F with X := X } T σ H → Dct X i m n σ H → ∀ Q : VK, (∀ v H2, Step L { F with X := X } T H H2 → At (hide H2 T) d v → Q v H2) → te σ H Q
section
variable {L : Pm} {G : Ctx} {F : Frm} {E : Ends} {X T : List Addr} {σ σ' : L2.St} {H H2 : Hp} {i n : Nat} {m : Int → Bool} {t u : TS} {ta tb te : TE} {x y z d : D} {r : R2}
theorem Dct.step (h : Dct X i m n σ H) (s : Sh L G { F with X := X } T σ' H) (q : Step L { F with X := X } T H H2) : Dct X i m n σ H2 := by
  obtain ⟨p, kvs, h1, h2, h3, h4⟩ := h
  exact ⟨p, kvs, h1, by rw [q.same p (s.xs p h3).1 fun y => (s.xs p h3).2 (s.subM p y)]; exact h2, h3, h4⟩
theorem Dct.sig (h : Dct X i m n σ H) (e : σ'[i]? = σ[i]?) : Dct X i m n σ' H := by
  obtain ⟨p, kvs, h1, h2⟩ := h
  exact ⟨p, kvs, by rw [e]; exact h1, h2⟩
theorem evd_of (h : Ev L te G d) : EvD L te G i m n d := fun F X T σ H s _ Q q => h { F with X := X } T σ H s Q fun d' v H2 e s2 a => q v H2 s2 (by rw [← e]; exact a)
theorem evd_op (h1 : EvD L ta G i m n x) (h2 : EvD L tb G i m n y) (hr : R2D L r x y (fun w => w = z)) : EvD L (tOp r ta tb) G i m n z := fun F X T σ H s dc Q q =>
  h1 F X T σ H s dc _ fun v H1 s1 a1 => h2 F X T σ H1 (s.step s1) (dc.step s s1) _ fun w H2 s2 a2 =>
    hr { F with X := X } T G σ H2 ((s.step s1).step s2) v w (At.gr s2.gr x v a1) a2 Q fun d w H3 e s3 a3 => q w H3 ((s1.trans s2).trans s3) (by rw [← e]; exact a3)
theorem evd_get {j : Nat} {k : Int} (hj : G[j]? = some (some (.d (.int k)))) : EvD L (tDGet2 (tVar i) (tVar j) (tC (.int 0))) G i m n (.int (if m k = true then 1 else 0)) := fun F X T σ H s dc Q q => by
  obtain ⟨p, kvs, h1, h2, h3, h4, h5⟩ := dc
  obtain ⟨v, g1, g2⟩ := s.dat j _ hj
  rw [at_int.mp g2] at g1
  refine ⟨.ref p, h1, p, rfl, .inl ⟨kvs, .inl h2⟩, .int k, g1, valV kvs (.inl k : Key), DGet.k (k := (.inl k : Key)) h2, ?_⟩
  refine q _ H (Step.refl s) (at_int.mpr ?_)
  rw [h5 k]
  split <;> rfl
theorem gd_seq (h : GoD L F { E with nx := u E } t G i m n) : GoD L F E (tSeq t u) G i m n := h
/-- ys.append(e) -/
theorem gd_app {j : Nat} {ds : List D} (h : G[j]? = some (some (.own ds))) (he : EvD L te G i m n d) (hl : ds.length < 100000) (k : NxD L F E.nx (G.set j (some (.own (ds ++ [d])))) i m n) : GoD L F E (tDrop (tBM L.K "list" rAppend (tVar j) (tCons te tNil))) G i m n := fun X T σ H s dc => by
  obtain ⟨p, xs, g1, g2, g3, g4, g5⟩ := s.own j ds h
  refine ⟨.ref p, g1, .inl ⟨rfl, _, SqL.of g4⟩, he F X T σ H s dc _ fun v H2 s2 a => ?_⟩
  have S2 := s.step s2
  have D2 := dc.step s s2
  obtain ⟨p', xs', g1', g2', g3', g4', g5'⟩ := S2.own j ds h
  rw [g1] at g1'
  cases g1'
  refine ⟨p, xs', v, rfl, rfl, g4', by rw [g5'.length]; exact szlt hl, k X T σ _ (S2.upOwn h g1 (g5'.append (ats_cons' a (ats_nil.mpr rfl)))) ?_⟩
  obtain ⟨pd, kvs, h1, h2, h3, h4⟩ := D2
  exact ⟨pd, kvs, h1, by rw [upd_ne fun y => g3.2 (by rw [← y]; exact h3)]; exact h2, h3, h4⟩
/-- count[k] = 1 -/
theorem gd_put {j : Nat} {k : Int} (hj : G[j]? = some (some (.d (.int k)))) (hn : n < 1000) (kk : NxD L F E.nx G i (fun a => decide (a = k) || m a) (n + 1)) : GoD L F E (tAsg (tC (.int 1)) (gSub (tVar i) (tVar j) rSetD)) G i m n := fun X T σ H s dc => by
  obtain ⟨p, kvs, h1, h2, h3, h4, h5⟩ := dc
  obtain ⟨v, g1, g2⟩ := s.dat j _ hj
  rw [at_int.mp g2] at g1
  have hX : p ∈ { F with X := X }.X := h3
  have nS := (s.xs p hX).2
  have sp : Sh L G { F with X := X } T σ (upd H p (.dK (putK kvs (.inl k : Key) (.int 1)))) := s.poke (s.xs p hX).1 nt_dK (fun y => nS (s.subM p y)) (fun y => absurd y nS) (fun q hq e => nS (by rw [← e]; exact (s.held q hq).2.1)) (fun l ds e1 e2 => by
    obtain ⟨p', xs, k1, k2, k3, _⟩ := s.own l ds e1
    rw [k1] at e2
    cases e2
    exact k3.2 hX) (fun l st e => by
    obtain ⟨q1, R, B, _, ⟨_, _, _, _, _, _, _, _, _, _, _, _, _, _, e1, e2, e3⟩, _, _, _, x1, x2, x3⟩ := s.prg l st e
    exact ⟨fun y => x1 (by rw [← e1, y]; exact hX), fun y => x2 (by rw [← e2, y]; exact hX), fun y => x3 (by rw [← e3, y]; exact hX)⟩)
  refine ⟨.ref p, h1, .int k, g1, p, _, rfl, DPut.k (k := (.inl k : Key)) h2 (Nat.lt_of_le_of_lt h4 (szlt (by omega))), kk X T σ _ sp ⟨p, _, h1, upd_same, h3, ?_, fun a => ?_⟩⟩
  · unfold putK
    split
    · rw [List.length_map]; omega
    · rw [List.length_append]
      show kvs.length + 1 ≤ n + 1
      omega
  · rw [valV_put, h5 a]
    by_cases e : a = k
    · rw [if_pos (by rw [e])]
      show _ = if (decide (a = k) || m a) = true then some (V.int 1) else none
      rw [decide_eq_true e]
      rfl
    · rw [if_neg (fun z => e (by cases z; rfl))]
      show _ = if (decide (a = k) || m a) = true then some (V.int 1) else none
      rw [decide_eq_false e, Bool.false_or]
theorem gd_forE {wi : TI} {g : TG} {N0 : Nat} {item : Nat → D} (js : List Nat) (bd : Nat → List D) (C : Nat → Ctx → (Int → Bool) → Nat → Prop) (hs : Src L wi G N0 item) (hij : i ∉ js) (c0 : C 0 G m n) (hg : ∀ k, k < N0 → Tg g (item k) js (bd k)) (hj : ∀ k G' m' n', C k G' m' n' → ∀ j ∈ js, j < G'.length)
    (body : ∀ k G' m' n' A' N, k < N0 → C k G' m' n' → (∀ G'' m'' n'', C (k + 1) G'' m'' n'' → NxD L { F with A := A' } N G'' i m'' n'') → GoD L { F with A := A' } { E with nx := N, ct := N, bk := E.nx } t (setC G' (js.zip (bd k))) i m' n') (done : ∀ G' m' n', C N0 G' m' n' → NxD L F E.nx G' i m' n') :
    GoD L F E (tFor wi g t) G i m n := fun X T σ H s dc => hs.run { F with X := X } T σ H s _ fun J H1 Gd Y n' item' p s1 w hG hY => by
  obtain ⟨e1, e2⟩ := p
  subst e1 e2
  have S1 := (s.step s1).anch
  refine for_it w (fun k σ' H' => ∃ G' m' n' T' X', C k G' m' n' ∧ Sh L G' { F with X := X', A := (H1, T) :: F.A } T' σ' H' ∧ Dct X' i m' n' σ' H') ⟨G, m, n, T, X, c0, S1, dc.step s s1⟩ (fun k σ' H' _ ⟨G', m', n', T', X', _, s', _⟩ => hG H' T' (s'.anc (H1, T) List.mem_cons_self)) ?_ ?_
  · rintro k x σ' H2 H3 hi ⟨G', m', n', T', X', cc, s', d'⟩ y
    obtain ⟨s3, a3⟩ := hY k H2 x H3 _ _ _ _ hi (s'.anc (H1, T) List.mem_cons_self) s' y
    refine hg k hi T' σ' H3 x a3 _ fun us hu au => ?_
    refine body k G' m' n' ((H1, T) :: F.A) _ hi cc (fun G'' m'' n'' c2 X2 T2 σ2 H4 s4 m4 => ⟨G'', m'', n'', T2, X2, c2, s4, m4⟩) X' T' _ H3 ((s'.step s3).setAll (hj k G' m' n' cc) hu au) ((d'.step (F := { F with A := (H1, T) :: F.A }) s' s3).sig (setAll_get ?_))
    intro hmem
    obtain ⟨p, hp, e⟩ := List.mem_map.mp hmem
    exact hij (e ▸ (List.of_mem_zip hp).1)
  · rintro σ' H' ⟨G', m', n', T', X', cc, s', d'⟩
    exact done G' m' n' cc X' T' σ' H' (s'.unanch (F := { F with X := X' }) fun q hq => List.mem_cons_of_mem _ hq) d'
/-- a, b, c = e, [], {} -/
theorem go_par3D {j l : Nat} (h : Ev L te G d) (hj : j < G.length) (hl : l < G.length) (hi : i < G.length) (k : NxD L F E.nx (((G.set j (some (.d d))).set l (some (.own []))).set i none) i (fun _ => false) 0) : Go L F E (tPar3 j l i (tCons te (tCons (tLst tNil) (tCons tDNewK tNil)))) G := fun T σ H s =>
  h F T σ H s _ fun d' v H2 e s2 a => ⟨Nat.zero_le _, fun p hp q hq => ⟨v, .ref p, .ref q, rfl, by
    subst e
    have S2 := (s.step s2).set hj a
    have S3 := (S2.make (u := .lst []) hp nt_lst).adopt (i := l) (by rw [List.length_set]; exact hl) List.mem_cons_self (fun y => S2.newT hp (S2.xs p y).1) (fun y => S2.newT hp (S2.sub p y)) upd_same (ats_nil.mpr rfl)
    have S4 := (S3.make (u := .dK []) hq nt_dK).drop (i := i) (some (.ref q)) (by rw [List.length_set, List.length_set]; exact hi)
    refine k (q :: F.X) _ _ _ S4 ⟨q, [], List.getElem?_set_self (by rw [List.length_set, List.length_set, s.len]; exact hi), upd_same, List.mem_cons_self, Nat.le_refl _, fun k => ?_⟩
    rfl⟩⟩
theorem gd_appS {j : Nat} {ds : List D} (h : G[j]? = some (some (.own ds))) (he : EvD L te G i m n d) (hl : ds.length < 100000) (k : GoD L F E u (G.set j (some (.own (ds ++ [d])))) i m n) : GoD L F E (tSeq (tDrop (tBM L.K "list" rAppend (tVar j) (tCons te tNil))) u) G i m n := gd_seq (gd_app h he hl k)
theorem go_par3DS {j l : Nat} (h : Ev L te G d) (hj : j < G.length) (hl : l < G.length) (hi : i < G.length) (k : GoD L F E u (((G.set j (some (.d d))).set l (some (.own []))).set i none) i (fun _ => false) 0) : Go L F E (tSeq (tPar3 j l i (tCons te (tCons (tLst tNil) (tCons tDNewK tNil)))) u) G := go_seq (go_par3D h hj hl hi k)
/-- the dict is forgotten -/
theorem nd_end {N : L2.St → Hp → Prop} (k : ∀ X', Nx L { F with X := X' } N G) : NxD L F N G i m n := fun X T σ H s _ => k X T σ H s
theorem gd_forS {wi : TI} {g : TG} {N0 : Nat} {item : Nat → D} (js : List Nat) (bd : Nat → List D) (C : Nat → Ctx → (Int → Bool) → Nat → Prop) (hs : Src L wi G N0 item) (hij : i ∉ js) (c0 : C 0 G m n) (hg : ∀ k, k < N0 → Tg g (item k) js (bd k)) (hj : ∀ k G' m' n', C k G' m' n' → ∀ j ∈ js, j < G'.length)
    (body : ∀ k G' m' n' A' N (E' : Ends), k < N0 → C k G' m' n' → (∀ G'' m'' n'', C (k + 1) G'' m'' n'' → NxD L { F with A := A' } N G'' i m'' n'') → E'.nx = N → E'.rt = E.rt → GoD L { F with A := A' } E' t (setC G' (js.zip (bd k))) i m' n') (done : ∀ G' m' n', C N0 G' m' n' → ∀ X', Go L { F with X := X' } E u G') :
    GoD L F E (tSeq (tFor wi g t) u) G i m n := gd_seq (gd_forE js bd C hs hij c0 hg hj (fun k G' m' n' A' N hk c hN => body k G' m' n' A' N _ hk c hN rfl rfl) fun G' m' n' c => nd_end fun X' => done G' m' n' c X')
end
end Pw

/-! The walk: _law_bound. -/
namespace Pw
open PySem L2 PyProof.Rows
theorem ratB_T (n : Nat) (fs : List D) : ratB n true (.tup fs) = (decide (fs.length = n) && areRt fs) := by
  show (decide (fs.length = n) && _) = _
  by_cases h : fs.length = n
  · rw [decide_eq_true h, Bool.true_and, Bool.true_and]
    unfold areRt
    rw [h]
    congr 1
    funext i
    show (isRt _ && (true || _)) = _
    rw [Bool.true_or, Bool.and_true]
  · rw [decide_eq_false h, Bool.false_and, Bool.false_and]
theorem okW_eq (q : Pair) (d : D) : okW q d = (ratB 2 false d && !(decide (-1 ∈ [q.1, q.2]) && !dEq d zz)) := by
  cases d with
  | tup ds =>
    by_cases hl : (ds.length : Int) = 2
    · obtain ⟨x, y, rfl⟩ := two_ex hl
      show (((isRt x && nneg x) && (isRt y && nneg y)) && _) = ((true && ((isRt x && nneg x) && ((isRt y && nneg y) && true))) && _)
      rw [Bool.and_true, Bool.true_and]
    · have h1 : okW q (.tup ds) = false := by
        unfold okW
        split
        · rename_i h
          cases h
          exact absurd rfl hl
        · rfl
      have h2 : ratB 2 false (.tup ds) = false := by
        show (decide (ds.length = 2) && _) = false
        rw [decide_eq_false (by omega), Bool.false_and]
      rw [h1, h2, Bool.false_and]
  | _ => rfl
theorem qOf_bit {d : D} (h : Sm 2 d) : Bit (qOf d) 700 := by
  unfold qOf
  split
  · rename_i a b
    have h : ∀ d ∈ [D.int a, D.int b], Sm 1 d := h
    have ha : a.natAbs < 2 ^ 700 := h _ List.mem_cons_self
    have hb : b.natAbs < 2 ^ 700 := h _ (List.mem_cons_of_mem _ List.mem_cons_self)
    by_cases z : b = 0
    · rw [z, Rat.divInt_zero]
      exact zero_bit (by decide)
    · exact divInt_bit ha hb z (Nat.le_refl _)
  · exact zero_bit (by decide)
theorem sm_getD {n : Nat} {ds : List D} (h : ∀ d ∈ ds, Sm n d) (i : Nat) : Sm n (ds.getD i .non) := by
  by_cases z : i < ds.length
  · exact h _ (getD_mem ds i .non z)
  · rw [List.getD_eq_getElem?_getD, List.getElem?_eq_none (by omega)]
    cases n <;> trivial
theorem sm_items {n : Nat} {d : D} (h : Sm (n + 1) d) : ∀ x ∈ items d, Sm n x := by
  cases d with
  | tup ds => exact h
  | _ => intro x hx; cases hx
theorem fOf_bit {fs : List D} (h : ∀ d ∈ fs, Sm 2 d) (j : Nat) : Bit (fOf fs j) 700 := qOf_bit (sm_getD h j)
theorem WOf_bit {ws : List D} (h : ∀ d ∈ ws, Sm 3 d) (a s : Nat) : Bit (WOf ws a s) 700 := qOf_bit (sm_getD (sm_items (sm_getD h a)) s)
def VOk (v : D) : Prop := v = .dic ∨ Sm 4 v
theorem VOk.small {v : D} (h : VOk v) : SmallV v := fun b fs ws e => by
  subst e
  rcases h with h | h
  · cases h
  · have h : ∀ d ∈ [D.bl b, .tup fs, .tup ws], Sm 3 d := h
    have h1 : ∀ d ∈ fs, Sm 2 d := h _ (List.mem_cons_of_mem _ List.mem_cons_self)
    have h2 : ∀ d ∈ ws, Sm 2 d := h _ (List.mem_cons_of_mem _ (List.mem_cons_of_mem _ List.mem_cons_self))
    exact ⟨fOf_bit h1, WOf_bit fun d hd => (h2 d hd).up⟩
theorem atI_getD (ds : List D) (i : Nat) (h : i < ds.length) : atI ds (i : Int) = some (ds.getD i .non) := by
  have := atI_map id ds (i : Int) .non (by omega) (by rw [Int.toNat_natCast]; exact h)
  rw [List.map_id, Int.toNat_natCast] at this
  exact this
def boundB (p : Prob) (t : List Pair) (b : Bool) (fs : List D) (w : D) : Bool := decide (fs.length = p.ss.length) && (areRt fs && (isWts t w && colsOk p t b (fOf fs) (WOf (items w))))
/-- what the law's bound answers -/
def boundD (p : Prob) (t : List Pair) : D → D
  | .tup [.bl b, .tup fs, w] => if boundB p t b fs w = true then rt (objv p t (fOf fs) (WOf (items w))) else .non
  | _ => .non
theorem boundD_no {p : Prob} {t : List Pair} {b : Bool} {fs : List D} {w : D} (h : boundB p t b fs w = false) : boundD p t (.tup [.bl b, .tup fs, w]) = .non := if_neg (by rw [h]; exact Bool.false_ne_true)
/-! which pairs were met -/
def seen (cs : List Cond) (i : Nat) (a : Int) : Bool := (List.range i).any fun j => decide (a = ((cs.getD j noC).at_ : Int))
theorem seen_succ (cs : List Cond) (i : Nat) : seen cs (i + 1) = fun a => decide (a = ((cs.getD i noC).at_ : Int)) || seen cs i a := by
  funext a
  unfold seen
  rw [List.range_succ, List.any_append, Bool.or_comm]
  simp
theorem twos (p : Prob) (t : List Pair) : ∀ n, n ≤ t.length → ∀ i i', i < (condsTo p t n).length → i' < (condsTo p t n).length → (((condsTo p t n).getD i noC).at_ = ((condsTo p t n).getD i' noC).at_ ↔ i / 2 = i' / 2)
  | 0, _ => fun i i' h => absurd h (Nat.not_lt_zero i)
  | n + 1, hn => fun i i' hi hi' => by
    have ih := twos p t n (by omega)
    have hlt := condsTo_fs p t n
    have hev := condsTo_few (p := p) (t := t) n (by omega)
    have e : condsTo p t (n + 1) = condsTo p t n ++ condsOf p t n := rfl
    rw [e] at hi hi' ⊢
    generalize condsTo p t n = A at *
    have g1 : ∀ j, j < A.length → (A ++ condsOf p t n).getD j noC = A.getD j noC := fun j hj => by
      rw [List.getD_eq_getElem?_getD, List.getElem?_append_left hj, List.getD_eq_getElem?_getD]
    have g2 : ∀ j, A.length ≤ j → j < (A ++ condsOf p t n).length → ((A ++ condsOf p t n).getD j noC).at_ = n ∧ j < A.length + 2 := fun j hj hl => by
      rw [List.getD_eq_getElem?_getD, List.getElem?_append_right hj]
      rw [List.length_append] at hl
      unfold condsOf at hl ⊢
      split at hl
      · rename_i hb
        rw [if_pos hb]
        have h2 : j - A.length < 2 := by
          have h3 : j < A.length + 2 := hl
          omega
        refine ⟨?_, by omega⟩
        have : j - A.length = 0 ∨ j - A.length = 1 := by omega
        rcases this with z | z <;> rw [z] <;> rfl
      · have h3 : j < A.length + 0 := hl
        omega
    have at1 : ∀ j, j < A.length → (A.getD j noC).at_ < n := fun j hj => (hlt _ (getD_mem A j noC hj)).2
    by_cases z : i < A.length
    · by_cases z' : i' < A.length
      · rw [g1 i z, g1 i' z']
        exact ih i i' z z'
      · obtain ⟨q1, q2⟩ := g2 i' (by omega) hi'
        have := at1 i z
        rw [g1 i z, q1]
        omega
    · obtain ⟨r1, r2⟩ := g2 i (by omega) hi
      by_cases z' : i' < A.length
      · have := at1 i' z'
        rw [g1 i' z', r1]
        omega
      · obtain ⟨q1, q2⟩ := g2 i' (by omega) hi'
        rw [r1, q1]
        omega
theorem seen_at {p : Prob} {t : List Pair} {i : Nat} (hi : i < (conds p t).length) : (if seen (conds p t) i (((conds p t).getD i noC).at_ : Int) = true then (1 : Int) else 0) = ((i % 2 : Nat) : Int) := by
  have tw := twos p t t.length (Nat.le_refl _)
  by_cases z : i % 2 = 1
  · rw [if_pos ?_, z]
    · rfl
    · refine List.any_eq_true.mpr ⟨i - 1, List.mem_range.mpr (by omega), decide_eq_true ?_⟩
      exact congrArg _ ((tw i (i - 1) hi (by have : i < (condsTo p t t.length).length := hi; omega)).mpr (by omega))
  · rw [if_neg ?_]
    · omega
    · intro h
      obtain ⟨j, h1, h2⟩ := List.any_eq_true.mp h
      have h1 := List.mem_range.mp h1
      have h2 := of_decide_eq_true h2
      have := (tw i j hi (by have : i < (condsTo p t t.length).length := hi; omega)).mp (Int.ofNat_inj.mp h2)
      omega
section
variable {P : Program} {w : World} {L : Pm} {mg : Str → Option Value} {base : Heap}
def nm_law_bound : List Str := ["_law_problem_here", "_law_structure_here", "_law_value", "_law_k", "_law_conditions_here", "_law_weights", "_law_count", "_law_at", "_law_factors", "_law_side", "_law_here", "_law_number", "_law_j", "_law_found", "_law_heats", "_law_one"]
theorem sc_law_bound : FnScope nm_law_bound ["_law_problem_here", "_law_structure_here", "_law_value"] (defScope (top 67)) := ⟨rfl, rfl, rfl, by decide +kernel, rfl, by decide +kernel, by decide +kernel⟩
abbrev sp_law_bound (L : Pm) : Sp := spP L (fun a : ShA => (ProbOk a.p ∧ StrOk a.p a.t) ∧ VOk a.v) (fun a => [dProb a.p, dStr a.t, a.v]) (fun a d => d = boundD a.p a.t a.v)
theorem w_law_bound (T : Tx L mg base) : Pr P w L.K mg base "_law_bound" 4 ["_law_problem_here", "_law_structure_here", "_law_value"] (sp_law_bound L) :=
  have g_law_are_ratios := w_law_are_ratios (P := P) (w := w) T
  have g_law_conditions := w_law_conditions (P := P) (w := w) T
  have g_law_sum := w_law_sum (P := P) (w := w) T
  have g_law_plus := w_law_plus (P := P) (w := w) T
  have g_law_by := w_law_by (P := P) (w := w) T
  pr_of T.law_bound sc_law_bound (by intro kV doc pm an cdv ct us h; match us, h with | [_, _, _], _ => rfl) (fun vs H Q E h => len_P (n := 3) (fun _ => rfl) h) fun f cdv A outer s H vs Q E HR h => ⟨_, (pss_cons (ps_if (PW.pt (pw_or (pt_not (pt_val (pe_callB call_isi (by rfl) T.isinstance_ (by decide +kernel) (pa_cons (pv 2) (pa_cons (pe_bltn (v := .ty "tuple") (by rfl) T.tuple_ (by decide +kernel) rfl) pa_nil))))) (pw_or (pt_cmpR op_ne (pe_callB call_len_seq (by rfl) T.len_ PySem.boot_len (pa_cons (pv 2) pa_nil)) pe_int (nomark _)) (pw_or1 (pt_not (pt_val (pe_callB call_isi (by rfl) T.isinstance_ (by decide +kernel) (pa_cons (pe_ix ix_tup (pv 2) pe_int (fun _ _ => rfl)) (pa_cons (pe_bltn (v := .ty "bool") (by rfl) T.bool_ (by decide +kernel) rfl) pa_nil))))))))) (pss_one (ps_ret pe_non)) pss_nil)
    (pss_cons (ps_if (PW.pt (pw_or (pt_not (pt_val (pe_own g_law_are_ratios HR (by decide) (by rfl) (pa_cons (pe_ix ix_tup (pv 2) pe_int (fun _ _ => rfl)) (pa_cons (pe_callB call_len_seq (by rfl) T.len_ PySem.boot_len (pa_cons (pe_ix ix_tup (pv 0) pe_int (fun _ _ => rfl)) pa_nil)) (pa_cons pe_bl pa_nil)))))) (pw_or (pt_not (pt_val (pe_callB call_isi (by rfl) T.isinstance_ (by decide +kernel) (pa_cons (pe_ix ix_tup (pv 2) pe_int (fun _ _ => rfl)) (pa_cons (pe_bltn (v := .ty "tuple") (by rfl) T.tuple_ (by decide +kernel) rfl) pa_nil))))) (pw_or1 (pt_cmpR op_ne (pe_callB call_len_seq (by rfl) T.len_ PySem.boot_len (pa_cons (pe_ix ix_tup (pv 2) pe_int (fun _ _ => rfl)) pa_nil)) (pe_callB call_len_seq (by rfl) T.len_ PySem.boot_len (pa_cons (pv 1) pa_nil)) (nomark _)))))) (pss_one (ps_ret pe_non)) pss_nil)
    (pss_cons (ps_for PassesOwn.never rfl (pi_range1 (by rfl) T.range_ (pa_cons (pe_callB call_len_seq (by rfl) T.len_ PySem.boot_len (pa_cons (pv 1) pa_nil)) pa_nil)) (pg_name (i := 3) sc_law_bound.nd rfl (.inl rfl)) (pss_one (ps_if (PW.pt (pw_or (pt_not (pt_val (pe_own g_law_are_ratios HR (by decide) (by rfl) (pa_cons (pe_ix ix_tup (pe_ix ix_tup (pv 2) pe_int (fun _ _ => rfl)) (pv 3) (fun _ _ => rfl)) (pa_cons pe_int (pa_cons pe_bl pa_nil)))))) (pw_or1 (PW.pt (pw_and (pt_cmpR op_in_seq (pe_un un_neg pe_int) (pe_ix ix_tup (pv 1) (pv 3) (fun _ _ => rfl)) (by with_unfolding_all rfl)) (pw_and1 (pt_cmpR (op_neD HR.units) (pe_ix ix_tup (pe_ix ix_tup (pv 2) pe_int (fun _ _ => rfl)) (pv 3) (fun _ _ => rfl)) (pe_tup (pa_cons (pe_tup (pa_cons pe_int (pa_cons pe_int pa_nil))) (pa_cons (pe_tup (pa_cons pe_int (pa_cons pe_int pa_nil))) pa_nil))) (nomark _)))))))) (pss_one (ps_ret pe_non)) pss_nil)))
    (pss_cons (ps_par3 (i := 4) (j := 5) (l := 6) (by rfl) sc_law_bound.nd rfl rfl rfl (by decide) (by decide) (by decide) rfl rfl rfl (pa_cons (pe_own g_law_conditions HR (by decide) (by rfl) (pa_cons (pv 0) (pa_cons (pv 1) pa_nil))) (pa_cons (pe_lst pa_nil) (pa_cons pe_dnewK pa_nil))) (by rfl))
    (pss_cons (ps_for PassesOwn.never rfl (pi_list (pv 4)) (pg_tup (by rfl) (pgs_cons (pg_name (i := 7) sc_law_bound.nd rfl (.inl rfl)) (pgs_cons (pg_name (i := 8) sc_law_bound.nd rfl (.inl rfl)) (pgs_cons (pg_name (i := 9) sc_law_bound.nd rfl (.inl rfl)) pgs_nil)))) (pss_cons (ps_expr (pe_bm PySem.F.plainAttrs_list PySem.F.slot_list_append PySem.F.type_list_append mt_append (pv 5) (pa_cons (pe_ix ix_tup (pe_ix ix_tup (pe_ix ix_tup (pv 2) pe_int (fun _ _ => rfl)) (pv 7) (fun _ _ => rfl)) (pe_dget2 (u1 HR.units) (pv 6) (pv 7) pe_int ⟨by rfl, by rfl, by rfl, by rfl⟩) (fun _ _ => rfl)) pa_nil)))
    (pss_one (ps_asg pe_int (pg_sub (pv 6) (pv 7) (set_dict (u1 HR.units)) (fun _ => rfl))))))
    (pss_cons (ps_for PassesOwn.never rfl (pi_range1 (by rfl) T.range_ (pa_cons (pe_callB call_len_seq (by rfl) T.len_ PySem.boot_len (pa_cons (pv 1) pa_nil)) pa_nil)) (pg_name (i := 3) sc_law_bound.nd rfl (.inl rfl)) (pss_cons (ps_set (i := 10) sc_law_bound.nd rfl (Or.inl rfl) (pe_own g_law_sum HR (by decide) (by rfl) (pa_cons (pe_lc (own := [("_law_number", 11)]) (g := (gName 11)) (tt := (tTest (tOp (rI0 fun i j => .bl (decide (j ≤ i))) (tVar 11) (tC (.int 0))))) (te := (tOp (rIxT L.K) (tOp (rIxT L.K) (tVar 2) (tC (.int 1))) (tVar 11))) (by rfl) sc_law_bound.nd (pi_tup (pe_ix ix_tup (pv 1) (pv 3) (fun _ _ => rfl))) (blkOk_by (own := [("_law_number", 11)]) (N := nm_law_bound) (sc := (defScope (top 67))) (by decide +kernel)) (fun _ _ _ _ _ => (pg_name (i := 11) sc_law_bound.nd rfl (.inl rfl))) (fun _ _ _ _ _ => (pts_one (pt_cmpR op_ge (pv 11) pe_int (nomark _)))) (fun _ _ _ _ _ => (pe_ix ix_tup (pe_ix ix_tup (pv 2) pe_int (fun _ _ => rfl)) (pv 11) (fun _ _ => rfl)))) pa_nil)))
    (pss_cons (ps_for PassesOwn.never rfl (pi_range1 (by rfl) T.range_ (pa_cons (pe_callB call_len_seq (by rfl) T.len_ PySem.boot_len (pa_cons (pv 4) pa_nil)) pa_nil)) (pg_name (i := 12) sc_law_bound.nd rfl (.inl rfl)) (pss_one (ps_set (i := 10) sc_law_bound.nd rfl (Or.inl rfl) (pe_own g_law_plus HR (by decide) (by rfl) (pa_cons (pv 10) (pa_cons (pe_own g_law_by HR (by decide) (by rfl) (pa_cons (pe_tup (pa_cons (pe_op op_sub pe_int (pe_ix ix_list (pe_ix ix_tup (pe_ix ix_list (pv 4) (pv 12) (fun _ _ => rfl)) pe_int (fun _ _ => rfl)) (pv 3) (fun _ _ => rfl))) (pa_cons pe_int pa_nil))) (pa_cons (pe_ix ix_list (pv 5) (pv 12) (fun _ _ => rfl)) pa_nil))) pa_nil))))))
    (pss_one (ps_if (pt_cmpR op_gt (pe_ix ix_tup (pv 10) pe_int (fun _ _ => rfl)) (pe_ifExp (PW.pt (pw_and (pt_val (pe_ix ix_tup (pv 2) pe_int (fun _ _ => rfl))) (pw_and1 (pt_cmpR op_eq (pe_ix ix_tup (pe_ix ix_tup (pv 1) (pv 3) (fun _ _ => rfl)) pe_int (fun _ _ => rfl)) (pe_un un_neg pe_int) (nomark _))))) (pe_ix ix_tup (pv 10) pe_int (fun _ _ => rfl)) pe_int) (nomark _)) (pss_one (ps_ret pe_non)) pss_nil)))))
    (pss_cons (ps_par (i := 13) (j := 14) (by rfl) sc_law_bound.nd rfl rfl (by decide) rfl rfl (pa_cons (pe_tup (pa_cons pe_int (pa_cons pe_int pa_nil))) (pa_cons (pe_lc (own := [("_law_one", 15)]) (g := (gName 15)) (tt := tYes) (te := (tOp (rI CMulW fun i j => .int (i * j)) (tOp (rIxT L.K) (tVar 15) (tC (.int 2))) (tCB (fun xs H Q => ∃ i, xs = [.int i] ∧ Q (.int (if i < 0 then -i else i)) H) (tCons (tOp (rI0 fun i j => .int (i - j)) (tOp (rIxT L.K) (tVar 15) (tC (.int 0))) (tOp (rIxT L.K) (tVar 15) (tC (.int 1)))) tNil)))) (by rfl) sc_law_bound.nd (pi_tup (pe_ix ix_tup (pv 0) pe_int (fun _ _ => rfl))) (blkOk_by (own := [("_law_one", 15)]) (N := nm_law_bound) (sc := (defScope (top 67))) (by decide +kernel)) (fun _ _ _ _ _ => (pg_name (i := 15) sc_law_bound.nd rfl (.inl rfl))) (fun _ _ _ _ _ => pts_nil) (fun _ _ _ _ _ => (pe_op op_mulW (pe_ix ix_tup (pv 15) pe_int (fun _ _ => rfl)) (pe_callB call_abs (by rfl) T.abs_ (by decide +kernel) (pa_cons (pe_op op_sub (pe_ix ix_tup (pv 15) pe_int (fun _ _ => rfl)) (pe_ix ix_tup (pv 15) pe_int (fun _ _ => rfl))) pa_nil))))) pa_nil)) (by rfl))
    (pss_cons (ps_for PassesOwn.never rfl (pi_range1 (by rfl) T.range_ (pa_cons (pe_callB call_len_seq (by rfl) T.len_ PySem.boot_len (pa_cons (pv 14) pa_nil)) pa_nil)) (pg_name (i := 3) sc_law_bound.nd rfl (.inl rfl)) (pss_one (ps_set (i := 13) sc_law_bound.nd rfl (Or.inl rfl) (pe_own g_law_plus HR (by decide) (by rfl) (pa_cons (pv 13) (pa_cons (pe_own g_law_by HR (by decide) (by rfl) (pa_cons (pe_tup (pa_cons (pe_ix ix_list (pv 14) (pv 3) (fun _ _ => rfl)) (pa_cons pe_int pa_nil))) (pa_cons (pe_ix ix_tup (pe_ix ix_tup (pv 2) pe_int (fun _ _ => rfl)) (pv 3) (fun _ _ => rfl)) pa_nil))) pa_nil))))))
    (pss_cons (ps_for PassesOwn.never rfl (pi_range1 (by rfl) T.range_ (pa_cons (pe_callB call_len_seq (by rfl) T.len_ PySem.boot_len (pa_cons (pv 4) pa_nil)) pa_nil)) (pg_name (i := 12) sc_law_bound.nd rfl (.inl rfl)) (pss_one (ps_set (i := 13) sc_law_bound.nd rfl (Or.inl rfl) (pe_own g_law_plus HR (by decide) (by rfl) (pa_cons (pv 13) (pa_cons (pe_own g_law_by HR (by decide) (by rfl) (pa_cons (pe_tup (pa_cons (pe_op op_sub pe_int (pe_ix ix_tup (pe_ix ix_list (pv 4) (pv 12) (fun _ _ => rfl)) pe_int (fun _ _ => rfl))) (pa_cons pe_int pa_nil))) (pa_cons (pe_ix ix_list (pv 5) (pv 12) (fun _ _ => rfl)) pa_nil))) pa_nil))))))
    (pss_one (ps_ret (pv 13)))))))))))),
  start_P h fun a F rt' hp hM hW hR => by
    obtain ⟨p, t, v⟩ := a
    obtain ⟨⟨hpp, htt⟩, hv⟩ := hp
    have hpp : ProbOk p := hpp
    have htt : StrOk p t := htt
    have hv : VOk v := hv
    have hle := htt.le
    have hse := hpp.le
    have hnc := conds_six htt
    have hlt : (t.map dP).length = t.length := List.length_map ..
    have hls : (p.ss.map dS).length = p.ss.length := List.length_map ..
    have hlc : ((conds p t).map dC).length = (conds p t).length := List.length_map ..
    have hR : RtOk L F rt' (boundD p t v) := hR _ rfl
    have no : boundD p t v = .non → RtOk L F rt' .non := fun e => by rw [e] at hR; exact hR
    by_cases hT : isTup v = true
    case neg =>
      refine go_seq (go_if (b := true) (et_eq (et_or (a := true) (b := false) (et_eq (et_not (et_B (ev_isTup (ev_var rfl)))) ?_) fun e => by cases e) rfl) (fun _ => go_retE ev_non (no ?_)) fun e => by cases e)
      · rw [Bool.eq_false_iff.mpr hT]
        rfl
      · unfold boundD
        split
        · exact absurd rfl hT
        · rfl
    obtain ⟨ds, rfl⟩ := isTup_ex hT
    by_cases hl : (ds.length : Int) = 3
    case neg =>
      refine go_seq (go_if (b := true) (et_eq (et_or (a := false) (b := true) (et_eq (et_not (et_B (ev_isTup (ev_var rfl)))) rfl) fun _ => et_or (a := true) (b := false) (et_eq (et_test (ev_neI (ev_cb (ea_cons (ev_var rfl) ea_nil) (rn_len rfl)) ev_int)) ?_) fun e => by cases e) rfl) (fun _ => go_retE ev_non (no ?_)) fun e => by cases e)
      · rw [decide_eq_false hl]
        rfl
      · unfold boundD
        split
        · rename_i h
          cases h
          exact absurd rfl hl
        · rfl
    obtain ⟨x, y, z, rfl⟩ := three_ex hl
    have hsm : ∀ d ∈ [x, y, z], Sm 3 d := by
      rcases hv with h | h
      · cases h
      · exact h
    by_cases hB : isBl x = true
    case neg =>
      refine go_seq (go_if (b := true) (et_eq (et_or (a := false) (b := true) (et_eq (et_not (et_B (ev_isTup (ev_var rfl)))) rfl) fun _ => et_or (a := false) (b := true) (et_eq (et_test (ev_neI (ev_cb (ea_cons (ev_var rfl) ea_nil) (rn_len rfl)) ev_int)) rfl) fun _ => et_eq (et_not (et_B (ev_isBl (ev_ixT (ev_var rfl) ev_int (d := x) rfl)))) ?_) rfl) (fun _ => go_retE ev_non (no ?_)) fun e => by cases e)
      · rw [Bool.eq_false_iff.mpr hB]
        rfl
      · unfold boundD
        split
        · rename_i h
          cases h
          exact absurd rfl hB
        · rfl
    obtain ⟨b, rfl⟩ : ∃ b, x = .bl b := by
      cases x with
      | bl b => exact ⟨b, rfl⟩
      | _ => cases hB
    have hy3 := hsm y (List.mem_cons_of_mem _ List.mem_cons_self)
    have hz3 := hsm z (List.mem_cons_of_mem _ (List.mem_cons_of_mem _ List.mem_cons_self))
    refine go_guard (et_or (a := false) (b := false) (et_eq (et_not (et_B (ev_isTup (ev_var rfl)))) rfl) fun _ => et_or (a := false) (b := false) (et_eq (et_test (ev_neI (ev_cb (ea_cons (ev_var rfl) ea_nil) (rn_len rfl)) ev_int)) rfl) fun _ => et_eq (et_not (et_B (ev_isBl (ev_ixT (ev_var rfl) ev_int (d := .bl b) rfl)))) rfl) rfl ?_
    show Go L F _ _ [some (.d (dProb p)), some (.d (dStr t)), some (.d (.tup [.bl b, y, z])), none, none, none, none, none, none, none, none, none, none, none, none, none]
    have hrat : EvT L (tNot (tB (tCall (sp_law_are_ratios L) [] E0 (tCons (tOp (rIxT L.K) (tVar 2) (tC (.int 1))) (tCons (tCB (fun xs H Q => ∃ p ys, xs = [.ref p] ∧ (SqL L.K H p ys ∨ SqT L.K H p ys) ∧ Q (.int ys.length) H) (tCons (tOp (rIxT L.K) (tVar 0) (tC (.int 0))) tNil)) (tCons (tC (.bl true)) tNil)))))) [some (.d (dProb p)), some (.d (dStr t)), some (.d (.tup [.bl b, y, z])), none, none, none, none, none, none, none, none, none, none, none, none, none] (!ratB p.ss.length true y) :=
      et_not (et_B (ev_own (⟨y, p.ss.length, true⟩ : RatA) (ea_cons (ev_ixT (ev_var rfl) ev_int rfl) (ea_cons (ev_eq (ev_cb (ea_cons (ev_ixT (d := .tup (p.ss.map dS)) (ev_var rfl) ev_int rfl) ea_nil) (rn_len rfl)) (congrArg (fun n : Nat => D.int (n : Int)) hls)) (ea_cons ev_bl ea_nil))) hy3.up fun x e => e))
    cases hrb : ratB p.ss.length true y with
    | false =>
      rw [hrb] at hrat
      refine go_seq (go_if (b := true) (et_eq (et_or (a := true) (b := false) hrat fun e => by cases e) rfl) (fun _ => go_retE ev_non (no ?_)) fun e => by cases e)
      cases y with
      | tup fs =>
        refine boundD_no ?_
        rw [ratB_T] at hrb
        unfold boundB
        rw [← Bool.and_assoc, hrb, Bool.false_and]
      | _ => rfl
    | true =>
    rw [hrb] at hrat
    obtain ⟨fs, rfl⟩ : ∃ fs, y = .tup fs := by
      cases y with
      | tup fs => exact ⟨fs, rfl⟩
      | _ => cases hrb
    rw [ratB_T, Bool.and_eq_true, decide_eq_true_iff] at hrb
    obtain ⟨hl2, hrt⟩ := hrb
    have hbb : boundB p t b fs z = (isWts t z && colsOk p t b (fOf fs) (WOf (items z))) := by
      unfold boundB
      rw [decide_eq_true hl2, hrt, Bool.true_and, Bool.true_and]
    by_cases hTz : isTup z = true
    case neg =>
      refine go_seq (go_if (b := true) (et_eq (et_or (a := false) (b := true) hrat fun _ => et_or (a := true) (b := false) (et_eq (et_not (et_B (ev_isTup (ev_ixT (ev_var rfl) ev_int (d := z) rfl)))) ?_) fun e => by cases e) rfl) (fun _ => go_retE ev_non (no ?_)) fun e => by cases e)
      · rw [Bool.eq_false_iff.mpr hTz]
        rfl
      · refine boundD_no ?_
        rw [hbb]
        cases z with
        | tup ws => exact absurd rfl hTz
        | _ => rfl
    obtain ⟨ws, rfl⟩ := isTup_ex hTz
    have hlw : EvT L (tTest (tOp rNe (tCB (fun xs H Q => ∃ p ys, xs = [.ref p] ∧ (SqL L.K H p ys ∨ SqT L.K H p ys) ∧ Q (.int ys.length) H) (tCons (tOp (rIxT L.K) (tVar 2) (tC (.int 2))) tNil)) (tCB (fun xs H Q => ∃ p ys, xs = [.ref p] ∧ (SqL L.K H p ys ∨ SqT L.K H p ys) ∧ Q (.int ys.length) H) (tCons (tVar 1) tNil)))) [some (.d (dProb p)), some (.d (dStr t)), some (.d (.tup [.bl b, .tup fs, .tup ws])), none, none, none, none, none, none, none, none, none, none, none, none, none] (!decide (ws.length = t.length)) :=
      et_eq (et_test (ev_neI (ev_cb (ea_cons (ev_ixT (ev_var rfl) ev_int (d := .tup ws) rfl) ea_nil) (rn_len rfl)) (ev_cb (ea_cons (ev_var rfl) ea_nil) (rn_len (x := dStr t) rfl)))) (congrArg not (decide_eq_decide.mpr (by rw [hlt]; omega)))
    by_cases hl3 : ws.length = t.length
    case neg =>
      rw [decide_eq_false hl3] at hlw
      refine go_seq (go_if (b := true) (et_eq (et_or (a := false) (b := true) hrat fun _ => et_or (a := false) (b := true) (et_eq (et_not (et_B (ev_isTup (ev_ixT (ev_var rfl) ev_int (d := .tup ws) rfl)))) rfl) fun _ => hlw) rfl) (fun _ => go_retE ev_non (no ?_)) fun e => by cases e)
      refine boundD_no ?_
      rw [hbb]
      show ((decide (ws.length = t.length) && _) && _) = false
      rw [decide_eq_false hl3, Bool.false_and, Bool.false_and]
    rw [decide_eq_true hl3] at hlw
    refine go_guard (et_or (a := false) (b := false) hrat fun _ => et_or (a := false) (b := false) (et_eq (et_not (et_B (ev_isTup (ev_ixT (ev_var rfl) ev_int (d := .tup ws) rfl)))) rfl) fun _ => hlw) rfl ?_
    clear hrat hlw
    have hws3 : ∀ d ∈ ws, Sm 2 d := hz3
    have hfs3 : ∀ d ∈ fs, Sm 2 d := hy3
    have hiw : isWts t (.tup ws) = (List.range t.length).all fun k => okW (t.getD k (0, 0)) (ws.getD k .non) := by
      show (decide (ws.length = t.length) && _) = _
      rw [decide_eq_true hl3, Bool.true_and]
    -- the pairs of weights
    refine go_forS [3] (fun i => [.int (i : Int)]) (fun n G' => (∀ k, k < n → okW (t.getD k (0, 0)) (ws.getD k .non) = true) ∧ ∃ o3, G' = [some (.d (dProb p)), some (.d (dStr t)), some (.d (.tup [.bl b, .tup fs, .tup ws])), dn o3, none, none, none, none, none, none, none, none, none, none, none, none]) (src_rng (n := t.length) (ea_cons (ev_eq (ev_cb (ea_cons (ev_var rfl) ea_nil) (rn_len (x := dStr t) rfl)) (congrArg (fun n : Nat => D.int (n : Int)) hlt)) ea_nil) (by omega)) ⟨fun k hk => absurd hk (Nat.not_lt_zero k), none, rfl⟩ (fun i hi => tg_name) (fun i G' hc j hj => ?_) (fun i G' A' N E' hi hc hN e1 e2 e3 => ?_) (fun G' hc => ?_)
    · obtain ⟨_, o3, rfl⟩ := hc
      rw [List.mem_singleton.mp hj]
      exact (show 3 < 16 by decide)
    · obtain ⟨hpre, o3, rfl⟩ := hc
      have hx := sm_getD hws3 i
      have hatw := atI_getD ws i (by omega)
      have hatt := atI_map dP t (i : Int) (0, 0) (by omega) (by rw [Int.toNat_natCast]; exact hi)
      rw [Int.toNat_natCast] at hatt
      have bad : okW (t.getD i (0, 0)) (ws.getD i .non) = false → RtOk L F rt' .non := fun e => no (boundD_no (by
        rw [hbb, hiw]
        have : ((List.range t.length).all fun k => okW (t.getD k (0, 0)) (ws.getD k .non)) = false := by
          cases hh : (List.range t.length).all fun k => okW (t.getD k (0, 0)) (ws.getD k .non) with
          | false => rfl
          | true =>
            have h2 := List.all_eq_true.mp hh i (List.mem_range.mpr hi)
            rw [e] at h2
            cases h2
        rw [this, Bool.false_and]))
      have nxt : okW (t.getD i (0, 0)) (ws.getD i .non) = true → Nx L { F with A := A' } N [some (.d (dProb p)), some (.d (dStr t)), some (.d (.tup [.bl b, .tup fs, .tup ws])), some (.d (.int (i : Int))), none, none, none, none, none, none, none, none, none, none, none, none] := fun e => hN _ ⟨fun j hj => by
        by_cases z : j = i
        · rw [z]; exact e
        · exact hpre j (by omega), some (.int (i : Int)), rfl⟩
      show Go L _ _ _ [some (.d (dProb p)), some (.d (dStr t)), some (.d (.tup [.bl b, .tup fs, .tup ws])), some (.d (.int (i : Int))), none, none, none, none, none, none, none, none, none, none, none, none]
      generalize ws.getD i .non = d at hx hatw bad nxt
      generalize t.getD i (0, 0) = q at hatt bad nxt
      have hd : Ev L (tOp (rIxT L.K) (tOp (rIxT L.K) (tVar 2) (tC (.int 2))) (tVar 3)) [some (.d (dProb p)), some (.d (dStr t)), some (.d (.tup [.bl b, .tup fs, .tup ws])), some (.d (.int (i : Int))), none, none, none, none, none, none, none, none, none, none, none, none] d := ev_ixT (ev_ixT (d := .tup ws) (ev_var rfl) ev_int rfl) (ev_var rfl) hatw
      refine go_if (b := !okW q d) (et_eq (et_or (a := !ratB 2 false d) (b := decide (-1 ∈ [q.1, q.2]) && !dEq d zz) (et_not (et_B (ev_own (⟨d, 2, false⟩ : RatA) (ea_cons hd (ea_cons ev_int (ea_cons ev_bl ea_nil))) (hx.mono (by decide)) fun x e => e))) fun _ => et_and (et_test (ev_op (ev_neg ev_int) (ev_ixT (d := dP q) (ev_var rfl) (ev_var rfl) hatt) (r2_inT (ns := [q.1, q.2])))) fun _ => et_test (ev_neD (y := zz) hd (ev_tup (ea_cons (ev_tup (ea_cons ev_int (ea_cons ev_int ea_nil)) (show 2 ≤ 100000 by decide)) (ea_cons (ev_tup (ea_cons ev_int (ea_cons ev_int ea_nil)) (show 2 ≤ 100000 by decide)) ea_nil)) (show 2 ≤ 100000 by decide)) (hx.cmp (by decide)) rfl)) ?_) (fun e => go_retE ev_non ?_) fun e => go_next ?_
      · rw [okW_eq, Bool.not_and, Bool.not_not]
      · show RtOk L _ E'.rt _
        rw [e3]
        refine bad ?_
        cases hh : okW q d with
        | true => rw [hh] at e; cases e
        | false => rfl
      · rw [e1]
        refine nxt ?_
        cases hh : okW q d with
        | true => rfl
        | false => rw [hh] at e; cases e
    obtain ⟨hall, o3, rfl⟩ := hc
    have hwt : isWts t (.tup ws) = true := by
      rw [hiw]
      exact List.all_eq_true.mpr fun k hk => hall k (List.mem_range.mp hk)
    rw [hwt, Bool.true_and] at hbb
    have hfb := fOf_bit hfs3
    have hWb := WOf_bit fun d hd => (hws3 d hd).up
    have hfs : fs = (List.range p.ss.length).map fun j => rt (fOf fs j) := by
      refine List.ext_getElem (by simp [hl2]) fun i h1 h2 => ?_
      rw [List.getElem_map, List.getElem_range]
      have := List.all_eq_true.mp hrt i (List.mem_range.mpr h1)
      have e : fs.getD i .non = fs[i] := by rw [List.getD_eq_getElem?_getD, List.getElem?_eq_getElem h1]; rfl
      rw [e] at this
      unfold fOf
      rw [e, rt_qOf this]
    have hws : D.tup ws = pairsD t.length (WOf ws) := wts_ex hwt
    have hbd : boundD p t (.tup [.bl b, .tup fs, .tup ws]) = if colsOk p t b (fOf fs) (WOf ws) = true then rt (objv p t (fOf fs) (WOf ws)) else .non := by
      show (if boundB p t b fs (.tup ws) = true then _ else _) = _
      rw [hbb]
      rfl
    rw [hbd] at hR no
    clear hbd hbb hwt hrt hl hl2 hl3 hB hT hTz hiw hall hv hsm hy3 hz3 hws3 hfs3
    rw [hfs, hws]
    generalize fOf fs = f at hfb hR no
    generalize WOf ws = W at hWb hR no
    -- the weights, in the order of the conditions
    generalize hval : D.tup [.bl b, .tup ((List.range p.ss.length).map fun j => rt (f j)), pairsD t.length W] = VAL
    have v0 : ∀ G : Ctx, G[2]? = some (some (.d VAL)) → Ev L (tOp (rIxT L.K) (tVar 2) (tC (.int 0))) G (.bl b) := fun G h => ev_ixT (ev_var (by rw [h, ← hval])) ev_int rfl
    have v1 : ∀ G : Ctx, G[2]? = some (some (.d VAL)) → Ev L (tOp (rIxT L.K) (tVar 2) (tC (.int 1))) G (.tup ((List.range p.ss.length).map fun j => rt (f j))) := fun G h => ev_ixT (ev_var (by rw [h, ← hval])) ev_int rfl
    have v2 : ∀ G : Ctx, G[2]? = some (some (.d VAL)) → Ev L (tOp (rIxT L.K) (tVar 2) (tC (.int 2))) G (pairsD t.length W) := fun G h => ev_ixT (ev_var (by rw [h, ← hval])) ev_int rfl
    clear hval
    have hwb : ∀ i, Bit (wAt p t W i) 700 := fun i => hWb _ _
    refine go_par3DS (d := .lst ((conds p t).map dC)) (i := 6) (ev_own (p, t) (ea_cons (ev_var rfl) (ea_cons (ev_var rfl) ea_nil)) ⟨hpp, htt⟩ fun x e => e) (show 4 < 16 by decide) (show 5 < 16 by decide) (show 6 < 16 by decide) ?_
    show GoD L F _ _ [some (.d (dProb p)), some (.d (dStr t)), some (.d VAL), dn o3, some (.d (.lst ((conds p t).map dC))), some (.own []), none, none, none, none, none, none, none, none, none, none] 6 (fun _ => false) 0
    refine gd_forS [7, 8, 9] (fun k => [.int (((conds p t).getD k noC).at_ : Int), .lst (((conds p t).getD k noC).fs.map D.int), .int ((conds p t).getD k noC).side]) (fun k G' m n => m = seen (conds p t) k ∧ n = k ∧ ∃ o7 o8 o9, G' = [some (.d (dProb p)), some (.d (dStr t)), some (.d VAL), dn o3, some (.d (.lst ((conds p t).map dC))), some (.own ((List.range k).map fun i => rt (wAt p t W i))), none, dn o7, dn o8, dn o9, none, none, none, none, none, none]) (src_list (ev_var rfl)) (by decide) ⟨rfl, rfl, none, none, none, rfl⟩ (fun k hk => ?_) (fun k G' m' n' hc j hj => ?_) (fun k G' m' n' A' N E' hk hc hN e1 e3 => ?_) (fun G' m' n' hc X' => ?_)
    · rw [getD_map dC (conds p t) k noC .non (by rw [← hlc]; exact hk)]
      exact tg_tup (tgs_cons tg_name (tgs_cons tg_name (tgs_cons tg_name tgs_nil rfl) rfl) rfl) rfl
    · obtain ⟨_, _, o7, o8, o9, rfl⟩ := hc
      have : j = 7 ∨ j = 8 ∨ j = 9 := by simpa using hj
      show j < 16
      omega
    · obtain ⟨rfl, rfl, o7, o8, o9, rfl⟩ := hc
      have hk : n' < (conds p t).length := by rw [← hlc]; exact hk
      have hix : atI (pairD W ((conds p t).getD n' noC).at_) (if seen (conds p t) n' (((conds p t).getD n' noC).at_ : Int) = true then (1 : Int) else 0) = some (rt (wAt p t W n')) := by
        rw [seen_at hk]
        unfold wAt
        have : n' % 2 = 0 ∨ n' % 2 = 1 := by omega
        rcases this with e | e <;> rw [e] <;> rfl
      refine gd_appS (j := 5) (ds := (List.range n').map fun i => rt (wAt p t W i)) (d := rt (wAt p t W n')) rfl (evd_op (x := .tup (pairD W ((conds p t).getD n' noC).at_)) (z := rt (wAt p t W n')) (evd_of (ev_ixT (v2 _ rfl) (ev_var rfl) (atI_tab (fun a => .tup (pairD W a)) _ _ (conds_at hk)))) (evd_get (j := 7) rfl) (r2_ixT hix)) (by rw [List.length_map, List.length_range]; omega) ?_
      refine gd_put (j := 7) (k := (((conds p t).getD n' noC).at_ : Int)) rfl (by omega) ?_
      rw [e1]
      refine hN _ _ _ ⟨(seen_succ _ _).symm, rfl, some (.int (((conds p t).getD n' noC).at_ : Int)), some (.lst (((conds p t).getD n' noC).fs.map D.int)), some (.int ((conds p t).getD n' noC).side), ?_⟩
      rw [range_snoc (fun i => rt (wAt p t W i)) n']
      rfl
    obtain ⟨_, _, o7, o8, o9, rfl⟩ := hc
    rw [hlc]
    refine go_freeze (i := 5) (ds := (List.range (conds p t).length).map fun i => rt (wAt p t W i)) rfl ?_
    show Go L _ _ _ [some (.d (dProb p)), some (.d (dStr t)), some (.d VAL), dn o3, some (.d (.lst ((conds p t).map dC))), some (.d (.lst ((List.range (conds p t).length).map fun i => rt (wAt p t W i)))), none, dn o7, dn o8, dn o9, none, none, none, none, none, none]
    have hfl : ∀ i, i < (conds p t).length → ((conds p t).getD i noC).fs.length = t.length := fun i hi => (condsTo_fs p t t.length _ (getD_mem _ i noC hi)).1
    have hca : ∀ i, i < (conds p t).length → atI ((conds p t).map dC) (i : Int) = some (dC ((conds p t).getD i noC)) := fun i hi => by
      have := atI_map dC (conds p t) (i : Int) noC (by omega) (by rw [Int.toNat_natCast]; exact hi)
      rw [Int.toNat_natCast] at this
      exact this
    have negb : ∀ {x : Int} {n : Nat}, Bit (x : Rat) n → Bit ((0 - x : Int) : Rat) n := fun {x n} h => by
      rw [show ((0 - x : Int) : Rat) = -(x : Rat) by rw [Int.zero_sub, Rat.intCast_neg]]
      exact h.neg
    have hb2 : ∀ k j, j ≤ (conds p t).length → Bit (S j fun i => wAt p t W i * (((conds p t).getD i noC).fs.getD k 0 : Int)) 4370 := fun k j hj => (S_bit_le (fun i hi => ((hwb i).mul (cond_fs_bit hpp htt i k)).mono (show 709 ≤ 726 by decide)) (Nat.le_trans hj hnc)).mono (by decide)
    have hrn : ∀ G : Ctx, G[1]? = some (some (.d (dStr t))) → Src L (iRng1 (tCons (tCB (fun xs H Q => ∃ p ys, xs = [.ref p] ∧ (SqL L.K H p ys ∨ SqT L.K H p ys) ∧ Q (.int ys.length) H) (tCons (tVar 1) tNil)) tNil)) G t.length (fun i => .int (i : Int)) := fun G h1 =>
      src_rng (ea_cons (ev_eq (ev_cb (ea_cons (ev_var h1) ea_nil) (rn_len (x := dStr t) rfl)) (congrArg (fun n : Nat => D.int (n : Int)) hlt)) ea_nil) (by omega)
    have hrc : ∀ G : Ctx, G[4]? = some (some (.d (.lst ((conds p t).map dC)))) → Src L (iRng1 (tCons (tCB (fun xs H Q => ∃ p ys, xs = [.ref p] ∧ (SqL L.K H p ys ∨ SqT L.K H p ys) ∧ Q (.int ys.length) H) (tCons (tVar 4) tNil)) tNil)) G (conds p t).length (fun i => .int (i : Int)) := fun G h1 =>
      src_rng (ea_cons (ev_eq (ev_cb (ea_cons (ev_var h1) ea_nil) (rn_len rfl)) (congrArg (fun n : Nat => D.int (n : Int)) hlc)) ea_nil) (by omega)
    have hR : RtOk L { F with X := X' } rt' (if colsOk p t b f W = true then rt (objv p t f W) else .non) := hR
    have no : (if colsOk p t b f W = true then rt (objv p t f W) else D.non) = .non → RtOk L { F with X := X' } rt' .non := no
    generalize { F with X := X' } = F at hR no
    -- the columns
    refine go_forS [3] (fun k => [.int (k : Int)]) (fun n G' => (∀ k, k < n → colOk p t b f W k = true) ∧ ∃ o3 o10 o12, G' = [some (.d (dProb p)), some (.d (dStr t)), some (.d VAL), dn o3, some (.d (.lst ((conds p t).map dC))), some (.d (.lst ((List.range (conds p t).length).map fun i => rt (wAt p t W i)))), none, dn o7, dn o8, dn o9, dn o10, none, dn o12, none, none, none]) (hrn _ rfl) ⟨fun k hk => absurd hk (Nat.not_lt_zero k), o3, none, none, rfl⟩ (fun k hk => tg_name) (fun k G' hc j hj => ?_) (fun k G' A' N E' hk hc hN e1 e2 e3 => ?_) (fun G' hc => ?_)
    · obtain ⟨_, o3, o10, o12, rfl⟩ := hc
      rw [List.mem_singleton.mp hj]
      exact (show 3 < 16 by decide)
    · obtain ⟨hpre, o3, o10, o12, rfl⟩ := hc
      have hq : PairOk p (t.getD k (0, 0)) := htt.ok _ (getD_mem _ _ _ hk)
      have hckk : colv p t f W k = numv f (t.getD k (0, 0)) - S (conds p t).length fun i => wAt p t W i * (((conds p t).getD i noC).fs.getD k 0 : Int) := rfl
      have hcol : colOk p t b f W k = !decide (((if b = true ∧ (t.getD k (0, 0)).1 = -1 then 1 else 0 : Int) : Rat) < colv p t f W k) := rfl
      have hatt := atI_map dP t (k : Int) (0, 0) (by omega) (by rw [Int.toNat_natCast]; exact hk)
      rw [Int.toNat_natCast] at hatt
      generalize hqq : t.getD k (0, 0) = q at hq hckk hcol hatt
      have hb1 : Bit (numv f q) 1410 := (S_bit (b := 700) fun i hi => by
        split
        · exact hfb _
        · exact zero_bit (by decide)).mono (by decide)
      show Go L _ _ _ [some (.d (dProb p)), some (.d (dStr t)), some (.d VAL), some (.d (.int (k : Int))), some (.d (.lst ((conds p t).map dC))), some (.d (.lst ((List.range (conds p t).length).map fun i => rt (wAt p t W i)))), none, dn o7, dn o8, dn o9, dn o10, none, dn o12, none, none, none]
      refine go_set (d := rt (numv f q)) (ev_totG (n := 2) (b := 700) (f := fun i => decide (0 ≤ nth q i)) (x := fun i => f (nth q i).toNat) (ev_lc (js := [11]) (bd := fun i => [.int (nth q i)]) (f := fun i => decide (0 ≤ nth q i)) (out := fun i => rt (f (nth q i).toNat)) (src_tup (ds := [.int q.1, .int q.2]) (ev_ixT (d := dP q) (ev_var rfl) (ev_var rfl) hatt)) (by decide) (fun l hl => ?_) (fun l hl => hl) (fun i hi => ?_) (fun i hi => ?_) (fun i hi e => ?_)) (by decide) (fun i hi _ => hfb _) (by decide)) (show 10 < 16 by decide) ?_
      · rw [List.mem_singleton.mp hl]; exact (show 11 < 16 by decide)
      · have : i = 0 ∨ i = 1 := by
          have : i < 2 := hi
          omega
        rcases this with e | e
        · subst e; exact tg_name
        · subst e; exact tg_name
      · exact et_test (ev_B0 (ev_var rfl) ev_int)
      · have e : 0 ≤ nth q i := of_decide_eq_true e
        have hlt : (nth q i).toNat < p.ss.length := by
          obtain ⟨a1, a2, a3, a4, _⟩ := hq
          unfold nth at e ⊢
          split <;> omega
        refine ev_ixT (ds := (List.range p.ss.length).map fun j => rt (f j)) (v1 _ rfl) (ev_var rfl) ?_
        have := atI_tab (fun j => rt (f j)) _ _ hlt
        rw [Int.toNat_of_nonneg e] at this
        exact this
      refine go_forS [12] (fun j => [.int (j : Int)]) (fun n G' => ∃ o12, G' = [some (.d (dProb p)), some (.d (dStr t)), some (.d VAL), some (.d (.int (k : Int))), some (.d (.lst ((conds p t).map dC))), some (.d (.lst ((List.range (conds p t).length).map fun i => rt (wAt p t W i)))), none, dn o7, dn o8, dn o9, some (.d (rt (numv f q - S n fun i => wAt p t W i * (((conds p t).getD i noC).fs.getD k 0 : Int)))), none, dn o12, none, none, none]) (hrc _ rfl) ⟨o12, ?_⟩ (fun j hj => tg_name) (fun j G' hc l hl => ?_) (fun j G' A2 N2 E2 hj hc hN2 e1' e2' e3' => ?_) (fun G' hc => ?_)
      · rw [show numv f q - S 0 (fun i => wAt p t W i * (((conds p t).getD i noC).fs.getD k 0 : Int)) = numv f q by show numv f q - 0 = _; grind]
        rfl
      · obtain ⟨o12, rfl⟩ := hc
        rw [List.mem_singleton.mp hl]
        exact (show 12 < 16 by decide)
      · obtain ⟨o12, rfl⟩ := hc
        have hfk : atI (((conds p t).getD j noC).fs.map D.int) (k : Int) = some (.int (((conds p t).getD j noC).fs.getD k 0)) := by
          have := atI_map D.int ((conds p t).getD j noC).fs (k : Int) 0 (by omega) (by rw [Int.toNat_natCast, hfl j hj]; exact hk)
          rw [this, Int.toNat_natCast]
        refine go_asg (ev_own (numv f q - S j fun i => wAt p t W i * (((conds p t).getD i noC).fs.getD k 0 : Int), ((0 - ((conds p t).getD j noC).fs.getD k 0 : Int) : Rat) * wAt p t W j) (ea_cons (ev_var rfl) (ea_cons (ev_own (((0 - ((conds p t).getD j noC).fs.getD k 0 : Int) : Rat), wAt p t W j) (ea_cons (ev_eq (ev_tup (ea_cons (ev_I0 ev_int (ev_ixL (ev_ixT (ev_ixL (ev_var rfl) (ev_var rfl) (hca j hj)) ev_int rfl) (ev_var rfl) hfk)) (ea_cons ev_int ea_nil)) (show 2 ≤ 100000 by decide)) (rt_ofInt _).symm) (ea_cons (ev_ixL (ev_var rfl) (ev_var rfl) (atI_tab (fun i => rt (wAt p t W i)) _ _ hj)) ea_nil)) ⟨9, 700, negb (cond_fs_bit hpp htt j k), hwb j, by decide⟩ fun x e => e) ea_nil)) ⟨5781, 709, (hb1.sub (hb2 k j (Nat.le_of_lt hj))).mono (by decide), (negb (cond_fs_bit hpp htt j k)).mul (hwb j), by decide⟩ fun x e => e) (show 10 < 16 by decide) fun d e => ?_
        subst e
        rw [e1']
        refine hN2 _ ⟨some (.int (j : Int)), ?_⟩
        rw [show numv f q - (S (j + 1) fun i => wAt p t W i * (((conds p t).getD i noC).fs.getD k 0 : Int)) = (numv f q - S j fun i => wAt p t W i * (((conds p t).getD i noC).fs.getD k 0 : Int)) + ((0 - ((conds p t).getD j noC).fs.getD k 0 : Int) : Rat) * wAt p t W j by
          show numv f q - (S j _ + _) = _
          rw [Int.zero_sub, Rat.intCast_neg]
          grind]
        rfl
      obtain ⟨o12, rfl⟩ := hc
      rw [← hckk]
      refine go_if (b := !colOk p t b f W k) ?_ (fun e => go_retE ev_non ?_) fun e => go_next ?_
      · rw [hcol, Bool.not_not]
        refine et_eq (et_test (ev_B0 (ev_ixT (ev_var rfl) ev_int rfl) (ev_ifI (p := b = true ∧ q.1 = -1) (et_and (a := b) (et_B (v0 _ rfl)) fun _ => et_test (ev_eqI (ev_ixT (ev_ixT (d := dP q) (ev_var rfl) (ev_var rfl) hatt) ev_int rfl) (ev_neg ev_int))) ?_ (fun _ => ev_ixT (ev_var rfl) ev_int rfl) fun _ => ev_int))) ?_
        · cases b with
          | true => simp
          | false => simp
        · refine decide_eq_decide.mpr ?_
          generalize colv p t f W k = c
          split
          · show ((c.den : Int)) < c.num ↔ (1 : Rat) < c
            rw [Rat.lt_iff]
            show _ ↔ (1 : Int) * (c.den : Int) < c.num * (1 : Int)
            rw [Int.one_mul, Int.mul_one]
          · exact num_pos c
      · show RtOk L _ E'.rt _
        rw [e3]
        refine no (if_neg fun hh => ?_)
        have := List.all_eq_true.mp hh k (List.mem_range.mpr hk)
        rw [this] at e
        cases e
      · rw [e1]
        refine hN _ ⟨fun j hj => ?_, some (.int (k : Int)), some (rt (colv p t f W k)), o12, rfl⟩
        by_cases z : j = k
        · rw [z]
          cases hh : colOk p t b f W k with
          | true => rfl
          | false => rw [hh] at e; cases e
        · exact hpre j (by omega)
    obtain ⟨hall, o3, o10, o12, rfl⟩ := hc
    have hcols : colsOk p t b f W = true := List.all_eq_true.mpr fun k hk => hall k (List.mem_range.mp hk)
    rw [if_pos hcols] at hR
    -- the objective
    have hheat : Ev L (tLc (iTup L.K (tOp (rIxT L.K) (tVar 0) (tC (.int 0)))) (gName 15) tYes (tOp (rI CMulW fun i j => .int (i * j)) (tOp (rIxT L.K) (tVar 15) (tC (.int 2))) (tCB (fun xs H Q => ∃ i, xs = [.int i] ∧ Q (.int (if i < 0 then -i else i)) H) (tCons (tOp (rI0 fun i j => .int (i - j)) (tOp (rIxT L.K) (tVar 15) (tC (.int 0))) (tOp (rIxT L.K) (tVar 15) (tC (.int 1)))) tNil))) [15]) [some (.d (dProb p)), some (.d (dStr t)), some (.d VAL), dn o3, some (.d (.lst ((conds p t).map dC))), some (.d (.lst ((List.range (conds p t).length).map fun i => rt (wAt p t W i)))), none, dn o7, dn o8, dn o9, dn o10, none, dn o12, none, none, none] (.lst ((List.range p.ss.length).map fun k => .int (heat (p.at k)))) := by
      refine ev_eq (ev_lc (n := (p.ss.map dS).length) (js := [15]) (bd := fun k => [dS (p.at k)]) (f := fun _ => true) (out := fun k => .int (heat (p.at k))) (src_tup (ds := p.ss.map dS) (ev_ixT (ev_var rfl) ev_int rfl)) (by omega) (fun l hl => ?_) (fun l hl => hl) (fun k hk => ?_) (fun k hk => et_yes) (fun k hk _ => ?_)) ?_
      · rw [List.mem_singleton.mp hl]; exact (show 15 < 16 by decide)
      · show Tg _ ((p.ss.map dS).getD k .non) _ _
        rw [getD_map dS p.ss k (0, 0, 0) .non (by rw [← hls]; exact hk)]
        exact tg_name
      · have hk : k < p.ss.length := by rw [← hls]; exact hk
        obtain ⟨a1, a2, a3, a4, a5, a6, a7⟩ := hpp.ok _ (getD_mem p.ss k (0, 0, 0) hk)
        have a1 : 0 ≤ (p.at k).1 := a1
        have a2 : (p.at k).1 ≤ 1000 := a2
        have a3 : 0 ≤ (p.at k).2.1 := a3
        have a4 : (p.at k).2.1 ≤ 1000 := a4
        have a6 : 1 ≤ (p.at k).2.2 := a6
        have a7 : (p.at k).2.2 ≤ 100 := a7
        have hS : Ev L (tVar 15) (setC (wipeC [some (.d (dProb p)), some (.d (dStr t)), some (.d VAL), dn o3, some (.d (.lst ((conds p t).map dC))), some (.d (.lst ((List.range (conds p t).length).map fun i => rt (wAt p t W i)))), none, dn o7, dn o8, dn o9, dn o10, none, dn o12, none, none, none] [15]) ([15].zip [dS (p.at k)])) (dS (p.at k)) := ev_var rfl
        exact ev_I (ev_ixT hS ev_int rfl) (ev_cb (ea_cons (ev_I0 (ev_ixT hS ev_int rfl) (ev_ixT hS ev_int rfl)) ea_nil) rn_abs) (wide_mul (a := 7) (b := 10) (by omega) (by split <;> omega) (by decide) (by decide) (by decide))
      · rw [given_all, hls]
    refine go_parS (x := rt 0) (y := .lst ((List.range p.ss.length).map fun k => .int (heat (p.at k)))) (ea_cons (ev_tup (ea_cons ev_int (ea_cons ev_int ea_nil)) (show 2 ≤ 100000 by decide)) (ea_cons hheat ea_nil)) (show 13 < 16 by decide) (show 14 < 16 by decide) ?_
    have ho1 : ∀ n, n ≤ p.ss.length → Bit (S n fun j => ((heat (p.at j) : Int) : Rat) * f j) 3600 := fun n hn => (S_bit_le (fun j hj => (heat_bit hpp j).mul (hfb j)) (Nat.le_trans hn hse)).mono (by decide)
    have ho2 : ∀ n, n ≤ (conds p t).length → Bit (S n fun i => wAt p t W i * (((conds p t).getD i noC).side : Int)) 4370 := fun n hn => (S_bit_le (fun i hi => (hwb i).mul (cond_side_bit hpp htt i)) (Nat.le_trans hn hnc)).mono (by decide)
    have hlh : ((List.range p.ss.length).map fun k => D.int (heat (p.at k))).length = p.ss.length := by simp
    refine go_forS [3] (fun k => [.int (k : Int)]) (fun n G' => ∃ o3, G' = [some (.d (dProb p)), some (.d (dStr t)), some (.d VAL), dn o3, some (.d (.lst ((conds p t).map dC))), some (.d (.lst ((List.range (conds p t).length).map fun i => rt (wAt p t W i)))), none, dn o7, dn o8, dn o9, dn o10, none, dn o12, some (.d (rt (S n fun j => ((heat (p.at j) : Int) : Rat) * f j))), some (.d (.lst ((List.range p.ss.length).map fun k => .int (heat (p.at k))))), none]) (src_rng (n := p.ss.length) (ea_cons (ev_eq (ev_cb (ea_cons (ev_var rfl) ea_nil) (rn_len rfl)) (congrArg (fun n : Nat => D.int (n : Int)) hlh)) ea_nil) (by omega)) ⟨o3, rfl⟩ (fun k hk => tg_name) (fun k G' hc j hj => ?_) (fun k G' A' N E' hk hc hN e1 e2 e3 => ?_) (fun G' hc => ?_)
    · obtain ⟨o3, rfl⟩ := hc
      rw [List.mem_singleton.mp hj]
      exact (show 3 < 16 by decide)
    · obtain ⟨o3, rfl⟩ := hc
      refine go_asg (ev_own (S k fun j => ((heat (p.at j) : Int) : Rat) * f j, ((heat (p.at k) : Int) : Rat) * f k) (ea_cons (ev_var rfl) (ea_cons (ev_own (((heat (p.at k) : Int) : Rat), f k) (ea_cons (ev_eq (ev_tup (ea_cons (ev_ixL (ev_var rfl) (ev_var rfl) (atI_tab (fun k => .int (heat (p.at k))) _ _ hk)) (ea_cons ev_int ea_nil)) (show 2 ≤ 100000 by decide)) (rt_ofInt _).symm) (ea_cons (ev_ixT (v1 _ rfl) (ev_var rfl) (atI_tab (fun j => rt (f j)) _ _ hk)) ea_nil)) ⟨18, 700, heat_bit hpp k, hfb k, by decide⟩ fun x e => e) ea_nil)) ⟨3600, 718, ho1 k (Nat.le_of_lt hk), (heat_bit hpp k).mul (hfb k), by decide⟩ fun x e => e) (show 13 < 16 by decide) fun d e => ?_
      subst e
      rw [e1]
      exact hN _ ⟨some (.int (k : Int)), rfl⟩
    obtain ⟨o3, rfl⟩ := hc
    refine go_forS [12] (fun j => [.int (j : Int)]) (fun n G' => ∃ o12, G' = [some (.d (dProb p)), some (.d (dStr t)), some (.d VAL), dn o3, some (.d (.lst ((conds p t).map dC))), some (.d (.lst ((List.range (conds p t).length).map fun i => rt (wAt p t W i)))), none, dn o7, dn o8, dn o9, dn o10, none, dn o12, some (.d (rt ((S p.ss.length fun j => ((heat (p.at j) : Int) : Rat) * f j) - S n fun i => wAt p t W i * (((conds p t).getD i noC).side : Int)))), some (.d (.lst ((List.range p.ss.length).map fun k => .int (heat (p.at k))))), none]) (hrc _ rfl) ⟨o12, ?_⟩ (fun j hj => tg_name) (fun j G' hc l hl => ?_) (fun j G' A2 N2 E2 hj hc hN2 e1' e2' e3' => ?_) (fun G' hc => ?_)
    · rw [show (S p.ss.length fun j => ((heat (p.at j) : Int) : Rat) * f j) - S 0 (fun i => wAt p t W i * (((conds p t).getD i noC).side : Int)) = S p.ss.length fun j => ((heat (p.at j) : Int) : Rat) * f j by show _ - 0 = _; grind]
    · obtain ⟨o12, rfl⟩ := hc
      rw [List.mem_singleton.mp hl]
      exact (show 12 < 16 by decide)
    · obtain ⟨o12, rfl⟩ := hc
      refine go_asg (ev_own ((S p.ss.length fun j => ((heat (p.at j) : Int) : Rat) * f j) - S j fun i => wAt p t W i * (((conds p t).getD i noC).side : Int), ((0 - ((conds p t).getD j noC).side : Int) : Rat) * wAt p t W j) (ea_cons (ev_var rfl) (ea_cons (ev_own (((0 - ((conds p t).getD j noC).side : Int) : Rat), wAt p t W j) (ea_cons (ev_eq (ev_tup (ea_cons (ev_I0 ev_int (ev_ixT (ev_ixL (ev_var rfl) (ev_var rfl) (hca j hj)) ev_int rfl)) (ea_cons ev_int ea_nil)) (show 2 ≤ 100000 by decide)) (rt_ofInt _).symm) (ea_cons (ev_ixL (ev_var rfl) (ev_var rfl) (atI_tab (fun i => rt (wAt p t W i)) _ _ hj)) ea_nil)) ⟨26, 700, negb (cond_side_bit hpp htt j), hwb j, by decide⟩ fun x e => e) ea_nil)) ⟨7971, 726, ((ho1 _ (Nat.le_refl _)).sub (ho2 j (Nat.le_of_lt hj))).mono (by decide), (negb (cond_side_bit hpp htt j)).mul (hwb j), by decide⟩ fun x e => e) (show 13 < 16 by decide) fun d e => ?_
      subst e
      rw [e1']
      refine hN2 _ ⟨some (.int (j : Int)), ?_⟩
      rw [show (S p.ss.length fun j => ((heat (p.at j) : Int) : Rat) * f j) - (S (j + 1) fun i => wAt p t W i * (((conds p t).getD i noC).side : Int)) = ((S p.ss.length fun j => ((heat (p.at j) : Int) : Rat) * f j) - S j fun i => wAt p t W i * (((conds p t).getD i noC).side : Int)) + ((0 - ((conds p t).getD j noC).side : Int) : Rat) * wAt p t W j by
        show _ - (S j _ + _) = _
        rw [Int.zero_sub, Rat.intCast_neg]
        grind]
      rfl
    obtain ⟨o12, rfl⟩ := hc
    exact go_retE (ev_var rfl) hR⟩
end
end Pw

/-! The walk: law. -/
namespace Pw
open PySem L2 PyProof.Rows
/-! ### the start -/
structure ScA where
  a : Addr
  ns : List Int
def spLaw (L : Pm) : Sp := fun vs H Q _ => ∃ (a : Addr) (ns : List Int), vs = [.ref a] ∧ ns.length ≤ 63 ∧ (∀ z ∈ ns, z.natAbs < 2 ^ 1048576) ∧ (∀ Pt ∈ L.Ps, GxR.TabG H Pt) ∧ SqL L.K H a (ns.map V.int) ∧ ∀ H2, Q (.bl true) H2
theorem none_get {α : Type} {n i : Nat} {x : α} (h : (List.replicate n (none : Option α))[i]? = some (some x)) : False := by
  rw [List.getElem?_replicate] at h
  split at h <;> cases h
theorem start_L {L : Pm} {n0 n1 : Str} {N : List Str} {vs : List V} {H : Hp} {Q : VK} {E : XK} {u : TS} (h : spLaw L vs H Q E)
    (k : ∀ F rt, F.V = [] → F.W = [] → RtOk L F rt (.bl true) → Go L F { nx := fun _ H' => rt .non H', rt := rt } u (none :: some .row :: List.replicate N.length none)) :
    (tSeq (tAsg (tLst (tCons (tVar 0) (tCons (tC (.int 0)) (tCons (tC (.int 4043)) (tCons (tC (.int 0)) tNil))))) (gName 1)) u) { nx := fun _ H' => Q .non H', rt := Q } (L2.start (n0 :: n1 :: N) vs) H := by
  obtain ⟨a, ns, rfl, hl, hz, hT, hs, hQ⟩ := h
  refine ⟨.ref a, rfl, by show 4 ≤ sizeLine; decide, fun p hp => ?_⟩
  generalize hu : HO.lst [V.ref a, .int 0, .int 4043, .int 0] = o
  have hpn : ∀ b x, H b = some x → b ≠ p := fun b x e z => by rw [z, hp] at e; cases e
  have es : (L2.start (n0 :: n1 :: N) [V.ref a]).set 1 (some (.ref p)) = some (.ref a) :: some (.ref p) :: List.replicate N.length none := by
    unfold L2.start
    show ((some (V.ref a) :: List.replicate (N.length + 1 + 1 - 1) none).set 1 (some (.ref p))) = _
    rw [show N.length + 1 + 1 - 1 = N.length + 1 by omega, List.replicate_succ]
    rfl
  show u { nx := fun _ H' => Q .non H', rt := Q } ((L2.start (n0 :: n1 :: N) [V.ref a]).set 1 (some (.ref p))) (upd H p o)
  rw [es]
  have hro : RowOk L.K (upd H p o) [p] p := by
    refine ⟨a, ns, 0, 4043, 0, by rw [upd_same, ← hu], ?_, hl, hz, by decide, by decide, by decide, by decide, ?_⟩
    · have keep : ∀ x, H a = some x → hide (upd H p o) [p] a = some x := fun x e => by
        have := hpn a x e
        rw [hide_out (fun z => this (List.mem_singleton.mp z)), upd_ne this]
        exact e
      rcases hs with (h | ⟨o, h⟩) | h
      · exact .inl (.inl (keep _ h))
      · exact .inl (.inr ⟨o, keep _ h⟩)
      · exact .inr h
    · show (0 : Int).natAbs < 2 ^ 1048577
      exact Nat.pow_pos (by decide)
  have only : ∀ (i : Nat) x, (none :: some Ent.row :: List.replicate N.length (none : Option Ent))[i]? = some (some x) → i = 1 ∧ x = .row := fun i x q => by
    match i, q with
    | 0, q => cases q
    | 1, q => cases q; exact ⟨rfl, rfl⟩
    | i + 2, q => exact (none_get q).elim
  refine k { S := [p], M := [p], W := [], H0 := upd H p o } Q rfl rfl (fun v H2 _ _ _ _ a => by rw [at_bl.mp a]; exact hQ H2) [p] _ _ ⟨?_, fun b hb => ?_, fun b hb => hb, fun b hb => hb, fun b c hb hc => (List.mem_singleton.mp hb).trans (List.mem_singleton.mp hc).symm, fun b h hn => absurd h hn, fun b _ _ _ => rfl, fun b hb => by rw [List.mem_singleton.mp hb]; exact hro, Gr.refl _, fun q h => absurd h List.not_mem_nil, fun q h => absurd h List.not_mem_nil, fun b h => absurd h List.not_mem_nil, fun Pt hP => ?_, fun i d q => ?_, fun i ds q => ?_, fun i j ds es q e1 => ?_, fun i q => ?_, fun i st q => ?_, fun i j st q => ?_⟩
  · simp
  · rw [List.mem_singleton.mp hb, upd_same, ← hu]
    exact ⟨_, rfl, nt_lst⟩
  · have hg := hT Pt hP
    have hne : Pt ≠ p := by
      obtain ⟨ps, e, _⟩ := hg
      exact hpn Pt _ e
    exact TabG_hide.mpr ⟨fun z => hne (List.mem_singleton.mp z), TabG_upd hg hne⟩
  · cases (only i _ q).2
  · cases (only i _ q).2
  · cases (only i _ e1).2
  · rw [(only i _ q).1]
    exact ⟨p, rfl, List.mem_singleton.mpr rfl⟩
  · cases (only i _ q).2
  · cases (only i _ q).2
/-- xs = e1 + e2, and this will be changed -/
theorem go_setCat {L : Pm} {G : Ctx} {F : Frm} {E : Ends} {ta tb : TE} {u : TS} {i : Nat} {ds : List D} {Pb : List D → Prop} (ha : Ev L ta G (.lst ds)) (hb : EvG L tb G (fun d => ∃ es, d = .lst es ∧ Pb es)) (hl : ∀ es, Pb es → ds.length + es.length ≤ 100000) (hi : i < G.length) (k : ∀ es, Pb es → Go L F E u (G.set i (some (.own (ds ++ es))))) :
    Go L F E (tSeq (tAsg (tOp rCat ta tb) (gName i)) u) G := fun T σ H s => ha F T σ H s _ fun d v H1 e1 s1 a1 => hb F T σ H1 (s.step s1) _ fun d2 v2 H2 e2 s2 a2 => by
  obtain ⟨es, e2, hP⟩ := e2
  subst e1 e2
  have S2 := (s.step s1).step s2
  obtain ⟨p, xs, e1, h1, h2, _⟩ := see_lst (At.gr s2.gr _ _ a1)
  obtain ⟨p2, ys, e2, h3, h4, _⟩ := see_lst a2
  refine ⟨p, p2, xs, ys, e1, e2, h1, h3, by rw [h2.length, h4.length]; exact szl (hl es hP), fun l hl2 => ?_⟩
  refine k es hP (l :: T) _ _ ((S2.make (u := .lst (xs ++ ys)) hl2 nt_lst).adopt hi List.mem_cons_self (fun y => S2.newT hl2 (S2.xs l y).1) (fun y => S2.newT hl2 (S2.sub l y)) upd_same ?_)
  have e0 : hide (upd H2 l (.lst (xs ++ ys))) (l :: T) = hide H2 T := by
    have nT := S2.newT hl2
    funext a
    by_cases z : a = l
    · subst z
      rw [hide_in List.mem_cons_self, hide_out nT, hl2]
    · by_cases y : a ∈ T
      · rw [hide_in (List.mem_cons_of_mem _ y), hide_in y]
      · rw [hide_out (fun x => (List.mem_cons.mp x).elim z y), hide_out y, upd_ne z]
  rw [e0]
  exact h2.append h4
theorem go_appS {L : Pm} {G : Ctx} {F : Frm} {E : Ends} {te : TE} {u : TS} {i : Nat} {ds : List D} {Φ : D → Prop} (h : G[i]? = some (some (.own ds))) (he : EvG L te G Φ) (hl : ds.length < 100000) (k : ∀ d, Φ d → Go L F E u (G.set i (some (.own (ds ++ [d]))))) : Go L F E (tSeq (tDrop (tBM L.K "list" rAppend (tVar i) (tCons te tNil))) u) G := go_seq (go_app h he hl k)
theorem go_asgTS {L : Pm} {G : Ctx} {F : Frm} {E : Ends} {te : TE} {u : TS} {g : TG} {js : List Nat} {d : D} {ds : List D} (h : Ev L te G d) (hg : Tg g d js ds) (hj : ∀ j ∈ js, j < G.length) (k : Go L F E u (setC G (js.zip ds))) : Go L F E (tSeq (tAsg te g) u) G := go_seq (go_asgT h hg hj k)
theorem sm_rep {n k : Nat} {ds : List D} (h : ∀ d ∈ ds, Sm n d) : ∀ d ∈ (List.replicate k ds).flatten, Sm n d := fun d hd => by
  obtain ⟨l, h1, h2⟩ := List.mem_flatten.mp hd
  rw [(List.mem_replicate.mp h1).2] at h2
  exact h d h2
theorem ev_dnew {L : Pm} {G : Ctx} : Ev L tDNewK G .dic := fun F T σ H s Q q => fun p hp => q _ _ _ rfl (step_new s hp) (at_dic.mpr ⟨p, rfl, by rw [hide_out (s.newT hp), upd_same]⟩)
/-! ### sizes -/
theorem prF_bit {p : Prob} {t : List Pair} (h : Fits p t) {j : Nat} (hj : j < p.ss.length + (conds p t).length) : Bit (prF p t j) 400 := by
  unfold prF
  split
  · rename_i e
    exact h.pn e j hj
  · rename_i e
    exact h.py (Bool.eq_false_iff.mpr e) j hj
theorem wTo_bit {p : Prob} {t : List Pair} (h : Fits p t) (a s : Nat) : ∀ n, n ≤ (conds p t).length → Bit (wTo p t n a s) 400
  | 0, _ => zero_bit (by decide)
  | n + 1, hn => by
    unfold wTo
    split
    · exact prF_bit h (by omega)
    · exact wTo_bit h a s n (by omega)
theorem Sm.rt' {q : Rat} {n : Nat} (h : Bit q n) (hn : n ≤ 700 := by decide) : Sm 1 (Pw.rt q) := Sm.rt (h.mono hn)
theorem sm_cut {n : Nat} {ds : List D} {lo hi : Option Int} (h : ∀ d ∈ ds, Sm n d) : ∀ d ∈ cutD ds lo hi, Sm n d := fun d hd => h d (List.mem_of_mem_drop (List.mem_of_mem_take hd))
theorem cut_len {ds : List D} {lo hi : Option Int} : (cutD ds lo hi).length ≤ ds.length := by
  unfold cutD
  rw [List.length_take, List.length_drop]
  omega
theorem sm_app {n : Nat} {ds es : List D} (h1 : ∀ d ∈ ds, Sm n d) (h2 : ∀ d ∈ es, Sm n d) : ∀ d ∈ ds ++ es, Sm n d := fun d hd => (List.mem_append.mp hd).elim (h1 d) (h2 d)
theorem sm_1 {n : Nat} {x : D} (h : Sm n x) : ∀ d ∈ [x], Sm n d := fun d hd => by rw [List.mem_singleton.mp hd]; exact h
theorem sm_2 {n : Nat} {x y : D} (h : Sm n x) (h2 : Sm n y) : ∀ d ∈ [x, y], Sm n d := fun d hd => (List.mem_cons.mp hd).elim (fun e => by rw [e]; exact h) (sm_1 h2 d)
theorem sm_3 {n : Nat} {x y z : D} (h : Sm n x) (h2 : Sm n y) (h3 : Sm n z) : ∀ d ∈ [x, y, z], Sm n d := fun d hd => (List.mem_cons.mp hd).elim (fun e => by rw [e]; exact h) (sm_2 h2 h3 d)
theorem VOk.of {v : D} (h : Sm 4 v) : VOk v := .inr h
/-- what the law wants of a value, and what the program answers -/
noncomputable def dueB (p : Prob) (t : List Pair) (v : D) : Bool := match boundD p t v, v with
  | .non, _ => false
  | d, .tup (.bl b :: _) => (b == !isNo (inOf p t)) && (if isNo (inOf p t) = true then decide (0 < qOf d) else decide (qOf d = outP p t))
  | _, _ => false
theorem rt_non (q : Rat) : rt q ≠ .non := fun e => nomatch e
/-- the two answer alike -/
theorem due_eq (p : Prob) (t : List Pair) (v : D) : (∃ b fs w, v = .tup [.bl b, .tup fs, w] ∧ boundB p t b fs w = true ∧ boundD p t v = rt (objv p t (fOf fs) (WOf (items w))) ∧
    showsB p t v = ((b == !isNo (inOf p t)) && (if isNo (inOf p t) = true then decide (0 < objv p t (fOf fs) (WOf (items w))) else decide (objv p t (fOf fs) (WOf (items w)) = outP p t)))) ∨ (boundD p t v = .non ∧ showsB p t v = false) := by
  by_cases hv : ∃ b fs w, v = .tup [.bl b, .tup fs, w]
  · obtain ⟨b, fs, w, rfl⟩ := hv
    have e2 : showsB p t (.tup [.bl b, .tup fs, w]) = (!(b == isNo (inOf p t)) && (decide (fs.length = p.ss.length) && (areRt fs && (isWts t w && showOk p t b (fOf fs) (WOf (items w)))))) := rfl
    have e3 : showOk p t b (fOf fs) (WOf (items w)) = (colsOk p t b (fOf fs) (WOf (items w)) && (if b = true then decide (objv p t (fOf fs) (WOf (items w)) = outP p t) else decide (0 < objv p t (fOf fs) (WOf (items w))))) := rfl
    cases hb : boundB p t b fs w with
    | false =>
      refine .inr ⟨boundD_no hb, ?_⟩
      unfold boundB at hb
      rw [e2, e3]
      revert hb
      cases decide (fs.length = p.ss.length) <;> cases areRt fs <;> cases isWts t w <;> cases colsOk p t b (fOf fs) (WOf (items w)) <;> cases (b == isNo (inOf p t)) <;> intro hb <;> first | rfl | cases hb
    | true =>
      refine .inl ⟨b, fs, w, rfl, hb, if_pos hb, ?_⟩
      unfold boundB at hb
      rw [Bool.and_eq_true, Bool.and_eq_true, Bool.and_eq_true] at hb
      rw [e2, e3, hb.1, hb.2.1, hb.2.2.1, hb.2.2.2, Bool.true_and, Bool.true_and, Bool.true_and, Bool.true_and]
      cases b <;> cases isNo (inOf p t) <;> rfl
  · refine .inr ⟨?_, ?_⟩
    · unfold boundD
      split
      · rename_i b fs w
        exact absurd ⟨b, fs, w, rfl⟩ hv
      · rfl
    · unfold showsB
      split
      · rename_i b fs w
        exact absurd ⟨b, fs, w, rfl⟩ hv
      · rfl
section
variable {P : Program} {w : World} {L : Pm} {mg : Str → Option Value} {base : Heap}
def nm_law : List Str := ["_law_script", "_law_row", "_law_problem_here", "_law_structure_here", "_law_best", "_law_base", "_law_kind", "_law_first", "_law_pairs", "_law_size", "_law_values", "_law_doubled", "_law_one", "_law_k", "_law_other", "_law_some", "_law_value", "_law_bound_here", "_law_due"]
theorem sc_law : FnScope nm_law ["_law_script"] (defScope (top 68)) := ⟨rfl, rfl, rfl, by decide +kernel, rfl, by decide +kernel, by decide +kernel⟩
theorem fnD_of {K : PySem.W.Frag} {x : Str} {st : Stmt} {N ps : List Str} {k : Nat} {sp : Sp} {f : Addr} {fd : FuncData} (F : FunD K x x (defArgs st) (defBody st) (defScope st) [] [] f fd) (S : FnScope N ps (defScope st)) (len : ∀ vs H Q E, sp vs H Q E → vs.length = ps.length)
    (hbody : ∀ (f : Addr) (cdv : Value) (A : Around) (outer : List Env) (s : Shared) (H : Hp) (vs : List V) (Q : VK) (E : XK), Room k (A.deeper (envOfC x (defScope st) s.heap.objs.size f cdv)) → sp vs H Q E →
      ∃ t, PSs (cxOf CX0 P w K mg base N x (defScope st) f cdv A outer s H E).nox (defBody st) t ∧ t { nx := fun _ H' => Q .non H', rt := Q } (L2.start N vs) H) : FnOk P w K mg base CX0 (k + 1) f fd ps sp := F.ok S len fun cdv A outer s H vs Q E hr h => by
  obtain ⟨t, h1, h2⟩ := hbody f cdv A outer s H vs Q E hr h
  exact ⟨t, h1.nox, h2⟩
theorem w_law (T : Tx L mg base) {fl : Addr} {fdl : FuncData} (FL : FunD L.K "law" "law" (defArgs (top 68)) (defBody (top 68)) (defScope (top 68)) [] [] fl fdl) : FnOk P w L.K mg base CX0 10 fl fdl ["_law_script"] (spLaw L) :=
  have g_law_plain := w_law_plain (P := P) (w := w) T
  have g_law_structure := w_law_structure (P := P) (w := w) T
  have g_best_loads := w_best_loads (P := P) (w := w) T
  have g_load_paper := w_load_paper (P := P) (w := w) T
  have g_law_pick := w_law_pick (P := P) (w := w) T
  have g_law_by := w_law_by (P := P) (w := w) T
  have g_law_plus := w_law_plus (P := P) (w := w) T
  have g_law_bound := w_law_bound (P := P) (w := w) T
  have g_shows_paper := w_shows_paper (P := P) (w := w) T
  have g_law_alike := w_law_alike (P := P) (w := w) T
  fnD_of FL sc_law (fun vs H Q E h => by obtain ⟨a, ns, rfl, _⟩ := h; rfl) fun f cdv A outer s H vs Q E HR h => ⟨_, (pss_cons (ps_set (i := 1) sc_law.nd rfl (Or.inl rfl) (pe_lst (pa_cons (pv 0) (pa_cons pe_int (pa_cons pe_int (pa_cons pe_int pa_nil))))))
    (pss_cons (ps_set (i := 2) sc_law.nd rfl (Or.inl rfl) (pe_own g_law_plain HR (by decide) (by rfl) (pa_cons (pv 1) pa_nil)))
    (pss_cons (ps_set (i := 3) sc_law.nd rfl (Or.inl rfl) (pe_own g_law_structure HR (by decide) (by rfl) (pa_cons (pv 1) (pa_cons (pv 2) pa_nil))))
    (pss_cons (ps_par (i := 4) (j := 5) (by rfl) sc_law.nd rfl rfl (by decide) rfl rfl (pa_cons (pe_own g_best_loads HR (by decide) (by rfl) (pa_cons (pv 2) (pa_cons (pv 3) pa_nil))) (pa_cons (pe_own g_load_paper HR (by decide) (by rfl) (pa_cons (pv 2) (pa_cons (pv 3) pa_nil))) pa_nil)) (by rfl))
    (pss_cons (ps_asg (pv 5) (pg_tup (by rfl) (pgs_cons (pg_name (i := 6) sc_law.nd rfl (.inl rfl)) (pgs_cons (pg_name (i := 7) sc_law.nd rfl (.inl rfl)) (pgs_cons (pg_name (i := 8) sc_law.nd rfl (.inl rfl)) pgs_nil)))))
    (pss_cons (ps_set (i := 9) sc_law.nd rfl (Or.inl rfl) (pe_own g_law_pick HR (by decide) (by rfl) (pa_cons (pv 1) (pa_cons (pe_lst (pa_cons (pe_tup (pa_cons pe_int (pa_cons pe_int pa_nil))) (pa_cons (pe_tup (pa_cons (pe_un un_neg pe_int) (pa_cons pe_int pa_nil))) (pa_cons (pe_tup (pa_cons pe_int (pa_cons pe_int pa_nil))) (pa_cons (pe_tup (pa_cons pe_int (pa_cons pe_int pa_nil))) pa_nil))))) pa_nil))))
    (pss_cons (ps_set (i := 10) sc_law.nd rfl (Or.inl rfl) (pe_lst (pa_cons (pv 5) (pa_cons (pe_callTy call_list_of (by rfl) T.list_ (by decide +kernel) (pa_cons (pv 5) pa_nil)) (pa_cons (pe_tup (pa_cons (pe_not (pv 6)) (pa_cons (pv 7) (pa_cons (pv 8) pa_nil)))) (pa_cons (pe_slice sl_tupA (pv 5) po_none (po_some pe_int)) (pa_cons (pe_op op_catA (pv 5) (pe_tup (pa_cons pe_int pa_nil))) (pa_cons (pe_tup (pa_cons pe_int (pa_cons (pv 7) (pa_cons (pv 8) pa_nil)))) (pa_cons pe_non (pa_cons (pe_tup pa_nil) (pa_cons pe_int (pa_cons pe_dnewK pa_nil))))))))))))
    (pss_cons (ps_set (i := 10) sc_law.nd rfl (Or.inl rfl) (pe_op op_cat (pv 10) (pe_lst (pa_cons (pe_tup (pa_cons (pv 6) (pa_cons (pe_op op_repA (pe_tup (pa_cons (pe_tup (pa_cons pe_int (pa_cons pe_int pa_nil))) pa_nil)) (pe_callB call_len_seq (by rfl) T.len_ PySem.boot_len (pa_cons (pv 7) pa_nil))) (pa_cons (pv 8) pa_nil)))) (pa_cons (pe_tup (pa_cons (pv 6) (pa_cons (pv 7) (pa_cons (pe_op op_repA (pe_tup (pa_cons (pe_tup (pa_cons (pe_tup (pa_cons pe_int (pa_cons pe_int pa_nil))) (pa_cons (pe_tup (pa_cons pe_int (pa_cons pe_int pa_nil))) pa_nil))) pa_nil)) (pe_callB call_len_seq (by rfl) T.len_ PySem.boot_len (pa_cons (pv 8) pa_nil))) pa_nil)))) (pa_cons (pe_tup (pa_cons (pv 6) (pa_cons (pv 8) (pa_cons (pv 7) pa_nil)))) pa_nil))))))
    (pss_cons (ps_set (i := 11) sc_law.nd rfl (Or.inl rfl) (pe_callTy call_tuple_of (by rfl) T.tuple_ (by decide +kernel) (pa_cons (pe_lc (own := [("_law_one", 12)]) (g := (gName 12)) (tt := tYes) (te := (tTup (tCons (tCall (sp_law_by L) [] E0 (tCons (tTup (tCons (tC (.int 2)) (tCons (tC (.int 1)) tNil))) (tCons (tOp (rIxT L.K) (tVar 12) (tC (.int 0))) tNil))) (tCons (tCall (sp_law_by L) [] E0 (tCons (tTup (tCons (tC (.int 2)) (tCons (tC (.int 1)) tNil))) (tCons (tOp (rIxT L.K) (tVar 12) (tC (.int 1))) tNil))) tNil)))) (by rfl) sc_law.nd (pi_tup (pv 8)) (blkOk_by (own := [("_law_one", 12)]) (N := nm_law) (sc := (defScope (top 68))) (by decide +kernel)) (fun _ _ _ _ _ => (pg_name (i := 12) sc_law.nd rfl (.inl rfl))) (fun _ _ _ _ _ => pts_nil) (fun _ _ _ _ _ => (pe_tup (pa_cons (pe_own g_law_by HR (by decide) (by rfl) (pa_cons (pe_tup (pa_cons pe_int (pa_cons pe_int pa_nil))) (pa_cons (pe_ix ix_tup (pv 12) pe_int (fun _ _ => rfl)) pa_nil))) (pa_cons (pe_own g_law_by HR (by decide) (by rfl) (pa_cons (pe_tup (pa_cons pe_int (pa_cons pe_int pa_nil))) (pa_cons (pe_ix ix_tup (pv 12) pe_int (fun _ _ => rfl)) pa_nil))) pa_nil))))) pa_nil)))
    (pss_cons (ps_expr (pe_bm PySem.F.plainAttrs_list PySem.F.slot_list_append PySem.F.type_list_append mt_append (pv 10) (pa_cons (pe_tup (pa_cons (pv 6) (pa_cons (pe_callTy call_tuple_of (by rfl) T.tuple_ (by decide +kernel) (pa_cons (pe_lc (own := [("_law_one", 12)]) (g := (gName 12)) (tt := tYes) (te := (tCall (sp_law_by L) [] E0 (tCons (tTup (tCons (tC (.int 2)) (tCons (tC (.int 1)) tNil))) (tCons (tVar 12) tNil)))) (by rfl) sc_law.nd (pi_tup (pv 7)) (blkOk_by (own := [("_law_one", 12)]) (N := nm_law) (sc := (defScope (top 68))) (by decide +kernel)) (fun _ _ _ _ _ => (pg_name (i := 12) sc_law.nd rfl (.inl rfl))) (fun _ _ _ _ _ => pts_nil) (fun _ _ _ _ _ => (pe_own g_law_by HR (by decide) (by rfl) (pa_cons (pe_tup (pa_cons pe_int (pa_cons pe_int pa_nil))) (pa_cons (pv 12) pa_nil))))) pa_nil)) (pa_cons (pv 11) pa_nil)))) pa_nil)))
    (pss_cons (ps_for PassesOwn.never rfl (pi_range1 (by rfl) T.range_ (pa_cons (pe_callB call_len_seq (by rfl) T.len_ PySem.boot_len (pa_cons (pv 7) pa_nil)) pa_nil)) (pg_name (i := 13) sc_law.nd rfl (.inl rfl)) (pss_one (ps_for PassesOwn.never rfl (pi_list (pe_lst (pa_cons (pe_own g_law_plus HR (by decide) (by rfl) (pa_cons (pe_ix ix_tup (pv 7) (pv 13) (fun _ _ => rfl)) (pa_cons (pv 9) pa_nil))) (pa_cons pe_int (pa_cons (pe_tup (pa_cons pe_int (pa_cons pe_int pa_nil))) (pa_cons pe_non pa_nil)))))) (pg_name (i := 12) sc_law.nd rfl (.inl rfl)) (pss_one (ps_expr (pe_bm PySem.F.plainAttrs_list PySem.F.slot_list_append PySem.F.type_list_append mt_append (pv 10) (pa_cons (pe_tup (pa_cons (pv 6) (pa_cons (pe_op op_catA (pe_op op_catA (pe_slice sl_tupA (pv 7) po_none (po_some (pv 13))) (pe_tup (pa_cons (pv 12) pa_nil))) (pe_slice sl_tupA (pv 7) (po_some (pe_op op_add (pv 13) pe_int)) po_none)) (pa_cons (pv 8) pa_nil)))) pa_nil)))))))
    (pss_cons (ps_for PassesOwn.never rfl (pi_range1 (by rfl) T.range_ (pa_cons (pe_callB call_len_seq (by rfl) T.len_ PySem.boot_len (pa_cons (pv 8) pa_nil)) pa_nil)) (pg_name (i := 13) sc_law.nd rfl (.inl rfl)) (pss_cons (ps_asg (pe_ix ix_tup (pv 8) (pv 13) (fun _ _ => rfl)) (pg_tup (by rfl) (pgs_cons (pg_name (i := 12) sc_law.nd rfl (.inl rfl)) (pgs_cons (pg_name (i := 14) sc_law.nd rfl (.inl rfl)) pgs_nil))))
    (pss_one (ps_for PassesOwn.never rfl (pi_list (pe_lst (pa_cons (pe_tup (pa_cons (pe_own g_law_plus HR (by decide) (by rfl) (pa_cons (pv 12) (pa_cons (pv 9) pa_nil))) (pa_cons (pv 14) pa_nil))) (pa_cons (pe_tup (pa_cons (pv 12) (pa_cons (pe_own g_law_plus HR (by decide) (by rfl) (pa_cons (pv 14) (pa_cons (pv 9) pa_nil))) pa_nil))) (pa_cons (pe_tup (pa_cons (pv 14) (pa_cons (pv 12) pa_nil))) (pa_cons (pe_tup (pa_cons (pv 12) pa_nil)) (pa_cons (pe_lst (pa_cons (pv 12) (pa_cons (pv 14) pa_nil))) (pa_cons pe_non pa_nil)))))))) (pg_name (i := 15) sc_law.nd rfl (.inl rfl)) (pss_one (ps_expr (pe_bm PySem.F.plainAttrs_list PySem.F.slot_list_append PySem.F.type_list_append mt_append (pv 10) (pa_cons (pe_tup (pa_cons (pv 6) (pa_cons (pv 7) (pa_cons (pe_op op_catA (pe_op op_catA (pe_slice sl_tupA (pv 8) po_none (po_some (pv 13))) (pe_tup (pa_cons (pv 15) pa_nil))) (pe_slice sl_tupA (pv 8) (po_some (pe_op op_add (pv 13) pe_int)) po_none)) pa_nil)))) pa_nil))))))))
    (pss_cons (ps_for PassesOwn.never rfl (pi_list (pv 10)) (pg_name (i := 16) sc_law.nd rfl (.inl rfl)) (pss_cons (ps_set (i := 17) sc_law.nd rfl (Or.inl rfl) (pe_own g_law_bound HR (by decide) (by rfl) (pa_cons (pv 2) (pa_cons (pv 3) (pa_cons (pv 16) pa_nil)))))
    (pss_cons (ps_set (i := 18) sc_law.nd rfl (Or.inl rfl) pe_bl)
    (pss_cons (ps_if (PW.pt (pw_and (pt_cmpR op_notN (pv 17) pe_non (nomark _)) (pw_and1 (pt_cmpR op_eq (pe_ix ix_tup (pv 16) pe_int (fun _ _ => rfl)) (pe_cmpR op_notN (pv 4) pe_non (nomark _)) (nomark _))))) (pss_one (ps_set (i := 18) sc_law.nd rfl (Or.inl rfl) (pe_ifExp (pt_cmpR op_isN (pv 4) pe_non (nomark _)) (pe_cmpR op_gt (pe_ix ix_tup (pv 17) pe_int (fun _ _ => rfl)) pe_int (nomark _)) (pe_cmpR (op_eqD HR.units) (pv 17) (pe_ix ix_tup (pv 4) pe_int (fun _ _ => rfl)) (nomark _))))) pss_nil)
    (pss_one (ps_if (pt_not (pt_val (pe_own g_law_alike HR (by decide) (by rfl) (pa_cons (pe_own g_shows_paper HR (by decide) (by rfl) (pa_cons (pv 2) (pa_cons (pv 3) (pa_cons (pv 16) pa_nil)))) (pa_cons (pv 18) pa_nil))))) (pss_one (ps_ret pe_bl)) pss_nil))))))
    (pss_one (ps_ret pe_bl))))))))))))))),
  start_L h fun F rt' hV hW hR => by
    show Go L F _ _ [none, some .row, none, none, none, none, none, none, none, none, none, none, none, none, none, none, none, none, none]
    refine go_setG (evg_rowcall (Φ := fun d => ∃ p : Prob, ProbOk p ∧ p.ss.length ≤ 4 ∧ d = dProb p) (i := 1) rfl ea_nil fun ds e => ⟨(), e, trivial, fun d q => q⟩) (show 2 < 19 by decide) fun d ⟨p, hp, h4, e⟩ => ?_
    subst e
    refine go_setG (evg_rowcall (Φ := fun d => ∃ t : List Pair, StrOk p t ∧ d = dStr t) (i := 1) rfl (ea_cons (ev_var rfl) ea_nil) fun ds e => ⟨p, e, ⟨hp, h4⟩, fun d q => q⟩) (show 3 < 19 by decide) fun d ⟨t, ht, e⟩ => ?_
    subst e
    have hF := fits hp ht
    have hle := ht.le
    refine go_parS (x := bestOf p t) (y := paperD p t) (ea_cons (ev_own (p, t) (ea_cons (ev_var rfl) (ea_cons (ev_var rfl) ea_nil)) hF fun x e => e) (ea_cons (ev_own (p, t) (ea_cons (ev_var rfl) (ea_cons (ev_var rfl) ea_nil)) hF fun x e => e) ea_nil)) (show 4 < 19 by decide) (show 5 < 19 by decide) ?_
    -- the paper's parts
    generalize hkind : (!isNo (inOf p t)) = b0
    have hpap : paperD p t = .tup [.bl b0, firstD p.ss.length (fun j => -prF p t j), pairsD t.length (wF p t)] := by rw [← hkind]; rfl
    obtain ⟨f0, hf0, ef0⟩ : ∃ f0 : Nat → Rat, (∀ j, j < p.ss.length → Bit (f0 j) 400) ∧ firstD p.ss.length (fun j => -prF p t j) = firstD p.ss.length f0 := ⟨fun j => -prF p t j, fun j hj => (prF_bit hF (by omega)).neg, rfl⟩
    have hw0 : ∀ a s, Bit (wF p t a s) 400 := fun a s => wTo_bit hF a s _ (Nat.le_refl _)
    rw [hpap, ef0]
    generalize wF p t = W0 at hw0
    have hfd : ∀ d ∈ (List.range p.ss.length).map fun j => rt (f0 j), Sm 1 d := fun d hd => by
      obtain ⟨j, h1, h2⟩ := List.mem_map.mp hd
      rw [← h2]
      exact Sm.rt' (hf0 j (List.mem_range.mp h1))
    have hpr : ∀ a, Sm 2 (.tup (pairD W0 a)) := fun a => Sm.tup (sm_2 (Sm.rt' (hw0 a 0)) (Sm.rt' (hw0 a 1)))
    have hpd : ∀ d ∈ (List.range t.length).map fun a => .tup (pairD W0 a), Sm 2 d := fun d hd => by
      obtain ⟨a, _, h2⟩ := List.mem_map.mp hd
      rw [← h2]
      exact hpr a
    have hFD : Sm 3 (firstD p.ss.length f0) := (Sm.tup hfd).mono (by decide)
    have hPD : Sm 3 (pairsD t.length W0) := Sm.tup hpd
    have hBl : ∀ b : Bool, Sm 3 (.bl b) := fun b => trivial
    have hBase : Sm 4 (.tup [.bl b0, firstD p.ss.length f0, pairsD t.length W0]) := Sm.tup (sm_3 (hBl _) hFD hPD)
    refine go_seq (go_asgT (d := .tup [.bl b0, firstD p.ss.length f0, pairsD t.length W0]) (js := [6, 7, 8]) (ds := [.bl b0, firstD p.ss.length f0, pairsD t.length W0]) (ev_var rfl) (tg_tup (tgs_cons tg_name (tgs_cons tg_name (tgs_cons tg_name tgs_nil rfl) rfl) rfl) rfl) (fun j hj => ?_) (nx_go ?_))
    · have : j = 6 ∨ j = 7 ∨ j = 8 := by simpa using hj
      show j < 19
      omega
    show Go L F _ _ [none, some .row, some (.d (dProb p)), some (.d (dStr t)), some (.d (bestOf p t)), some (.d (.tup [.bl b0, firstD p.ss.length f0, pairsD t.length W0])), some (.d (.bl b0)), some (.d (firstD p.ss.length f0)), some (.d (pairsD t.length W0)), none, none, none, none, none, none, none, none, none, none]
    have hq : ∀ (x : Int) (y : Nat) (q : Rat), Bit q 20 → rt q = .tup [.int x, .int (y : Int)] → ∀ G : Ctx, EvG L (tTup (tCons (tC (.int x)) (tCons (tC (.int (y : Int))) tNil))) G (fun d => ∃ q, Bit q 20 ∧ d = rt q) := fun x y q h1 h2 G => evg_of (ev_tup (ea_cons ev_int (ea_cons ev_int ea_nil)) (show 2 ≤ 100000 by decide)) ⟨q, h1, h2.symm⟩
    refine go_setG (evg_pickG (P := fun d => ∃ q, Bit q 20 ∧ d = rt q) (i := 1) rfl (evg_all (eag_all (hq 1 1 ⟨1, 1, by decide, by decide⟩ ⟨by decide, by decide⟩ rfl _) (eag_all (evg_of (ev_tup (ea_cons (ev_neg ev_int) (ea_cons ev_int ea_nil)) (show 2 ≤ 100000 by decide)) ⟨-1, ⟨by decide, by decide⟩, rfl⟩) (eag_all (hq 1 3 ⟨1, 3, by decide, by decide⟩ ⟨by decide, by decide⟩ rfl _) (eag_all (hq 1 1000 ⟨1, 1000, by decide, by decide⟩ ⟨by decide, by decide⟩ rfl _) eag_all_nil)))) ⟨by decide, by decide⟩)) (show 9 < 19 by decide) fun d ⟨qs, hqs, e⟩ => ?_
    subst e
    -- the first values
    have hb3 := sm_3 (n := 3) (hBl b0) hFD hPD
    refine go_setG (evg_lst (Φ := fun vs => vs.length = 10 ∧ ∀ v ∈ vs, VOk v) (eag_all (evg_of (ev_var rfl) (VOk.of hBase)) (eag_all (evg_of (ev_cb (ea_cons (ev_var rfl) ea_nil) (rn_list (.inr rfl))) (VOk.of (Sm.lst hb3))) (eag_all (evg_of (ev_tup (ea_cons (ev_notV (ev_var rfl)) (ea_cons (ev_var rfl) (ea_cons (ev_var rfl) ea_nil))) (show 3 ≤ 100000 by decide)) (VOk.of (Sm.tup (sm_3 (hBl _) hFD hPD)))) (eag_all (evg_of (ev_slT (ev_var rfl) eo_none (eo_some ev_int)) (VOk.of (Sm.tup (sm_cut hb3)))) (eag_all (evg_of (ev_op (ev_var rfl) (ev_tup (ea_cons ev_int ea_nil) (show 1 ≤ 100000 by decide)) (r2_catT (show 3 + 1 ≤ 100000 by decide))) (VOk.of (Sm.tup (sm_app hb3 (sm_1 (show Sm 3 (.int 0) by show (0 : Int).natAbs < 2 ^ 700; decide +kernel)))))) (eag_all (evg_of (ev_tup (ea_cons ev_int (ea_cons (ev_var rfl) (ea_cons (ev_var rfl) ea_nil))) (show 3 ≤ 100000 by decide)) (VOk.of (Sm.tup (sm_3 (show Sm 3 (.int 1) by show (1 : Int).natAbs < 2 ^ 700; decide +kernel) hFD hPD)))) (eag_all (evg_of ev_non (VOk.of trivial)) (eag_all (evg_of (ev_tup ea_nil (Nat.zero_le _)) (VOk.of (Sm.tup fun d hd => absurd hd List.not_mem_nil))) (eag_all (evg_of ev_int (VOk.of (show Sm 4 (.int 3) by show (3 : Int).natAbs < 2 ^ 700; decide +kernel))) (eag_all (evg_of ev_dnew (.inl rfl)) eag_all_nil)))))))))) fun ds h => by rw [h.1]; decide) (show 10 < 19 by decide) fun d ⟨vs, e, hvl, hvo⟩ => ?_
    subst e
    have hlf : ((List.range p.ss.length).map fun j => rt (f0 j)).length = p.ss.length := by simp
    have hlp : ((List.range t.length).map fun a => D.tup (pairD W0 a)).length = t.length := by simp
    have hse := hp.le
    have h01 : Sm 1 (.tup [.int 0, .int 1]) := Sm.tup (sm_2 (show Sm 0 (.int 0) by show (0 : Int).natAbs < 2 ^ 700; decide +kernel) (show Sm 0 (.int 1) by show (1 : Int).natAbs < 2 ^ 700; decide +kernel))
    have hcat : ∀ G : Ctx, G[6]? = some (some (.d (.bl b0))) → G[7]? = some (some (.d (firstD p.ss.length f0))) → G[8]? = some (some (.d (pairsD t.length W0))) → EvG L (tLst (tCons (tTup (tCons (tVar 6) (tCons (tOp (rRepA L.K) (tTup (tCons (tTup (tCons (tC (.int 0)) (tCons (tC (.int 1)) tNil))) tNil)) (tCB (fun xs H Q => ∃ p ys, xs = [.ref p] ∧ (SqL L.K H p ys ∨ SqT L.K H p ys) ∧ Q (.int ys.length) H) (tCons (tVar 7) tNil))) (tCons (tVar 8) tNil)))) (tCons (tTup (tCons (tVar 6) (tCons (tVar 7) (tCons (tOp (rRepA L.K) (tTup (tCons (tTup (tCons (tTup (tCons (tC (.int 0)) (tCons (tC (.int 1)) tNil))) (tCons (tTup (tCons (tC (.int 0)) (tCons (tC (.int 1)) tNil))) tNil))) tNil)) (tCB (fun xs H Q => ∃ p ys, xs = [.ref p] ∧ (SqL L.K H p ys ∨ SqT L.K H p ys) ∧ Q (.int ys.length) H) (tCons (tVar 8) tNil))) tNil)))) (tCons (tTup (tCons (tVar 6) (tCons (tVar 8) (tCons (tVar 7) tNil)))) tNil)))) G (fun d => ∃ es, d = .lst es ∧ (es.length = 3 ∧ ∀ v ∈ es, VOk v)) := fun G h6 h7 h8 => by
      have z01 : Ev L (tTup (tCons (tC (.int 0)) (tCons (tC (.int 1)) tNil))) G (.tup [.int 0, .int 1]) := ev_tup (ea_cons ev_int (ea_cons ev_int ea_nil)) (show 2 ≤ 100000 by decide)
      have n7 := ev_eq (ev_cb (L := L) (ea_cons (ev_var h7) ea_nil) (rn_len (x := firstD p.ss.length f0) rfl)) (congrArg (fun n : Nat => D.int (n : Int)) hlf)
      have n8 := ev_eq (ev_cb (L := L) (ea_cons (ev_var h8) ea_nil) (rn_len (x := pairsD t.length W0) rfl)) (congrArg (fun n : Nat => D.int (n : Int)) hlp)
      refine evg_lst (Φ := fun es => es.length = 3 ∧ ∀ v ∈ es, VOk v) (eag_all (evg_of (ev_tup (ea_cons (ev_var h6) (ea_cons (ev_op (ev_tup (ea_cons z01 ea_nil) (show 1 ≤ 100000 by decide)) n7 (r2_repA (by omega) (List.cons_ne_nil _ _) (show 1 ≤ 100 by decide))) (ea_cons (ev_var h8) ea_nil))) (show 3 ≤ 100000 by decide)) (VOk.of (Sm.tup (sm_3 (hBl b0) ((Sm.tup (sm_rep (sm_1 h01))).mono (by decide)) hPD)))) (eag_all (evg_of (ev_tup (ea_cons (ev_var h6) (ea_cons (ev_var h7) (ea_cons (ev_op (ev_tup (ea_cons (ev_tup (ea_cons z01 (ea_cons z01 ea_nil)) (show 2 ≤ 100000 by decide)) ea_nil) (show 1 ≤ 100000 by decide)) n8 (r2_repA (by omega) (List.cons_ne_nil _ _) (show 1 ≤ 100 by decide))) ea_nil))) (show 3 ≤ 100000 by decide)) (VOk.of (Sm.tup (sm_3 (hBl b0) hFD (Sm.tup (sm_rep (sm_1 (Sm.tup (sm_2 h01 h01)))))))))  (eag_all (evg_of (ev_tup (ea_cons (ev_var h6) (ea_cons (ev_var h8) (ea_cons (ev_var h7) ea_nil))) (show 3 ≤ 100000 by decide)) (VOk.of (Sm.tup (sm_3 (hBl b0) hPD hFD)))) eag_all_nil))) fun ds h => by rw [h.1]; decide
    refine go_setCat (Pb := fun es => es.length = 3 ∧ ∀ v ∈ es, VOk v) (ev_var rfl) (hcat _ rfl rfl rfl) (fun es h => by rw [hvl, h.1]; decide) (show 10 < 19 by decide) fun es ⟨hel, heo⟩ => ?_
    obtain ⟨vs1, evs1, hl1, ho1⟩ : ∃ vs1, vs ++ es = vs1 ∧ vs1.length = 13 ∧ ∀ v ∈ vs1, VOk v := ⟨_, rfl, by rw [List.length_append, hvl, hel], fun v hv => (List.mem_append.mp hv).elim (hvo v) (heo v)⟩
    rw [evs1]
    clear evs1 hvl hvo hel heo
    show Go L F _ _ [none, some .row, some (.d (dProb p)), some (.d (dStr t)), some (.d (bestOf p t)), some (.d (.tup [.bl b0, firstD p.ss.length f0, pairsD t.length W0])), some (.d (.bl b0)), some (.d (firstD p.ss.length f0)), some (.d (pairsD t.length W0)), some (.d (rt qs)), some (.own vs1), none, none, none, none, none, none, none, none]
    -- doubled
    have h2 : Bit (2 : Rat) 3 := ⟨by decide, by decide⟩
    have dbl : ∀ {G : Ctx} {te : TE} {x : Rat}, Bit x 400 → Ev L te G (rt x) → Ev L (tCall (sp_law_by L) [] E0 (tCons (tTup (tCons (tC (.int 2)) (tCons (tC (.int 1)) tNil))) (tCons te tNil))) G (rt (2 * x)) := fun {G te x} hx h => ev_own ((2 : Rat), x) (ea_cons (ev_tup (ea_cons ev_int (ea_cons ev_int ea_nil)) (show 2 ≤ 100000 by decide)) (ea_cons h ea_nil)) ⟨3, 400, h2, hx, by decide⟩ fun y e => e
    have dbs : ∀ x : Rat, Bit x 400 → Sm 1 (rt (2 * x)) := fun x hx => Sm.rt' (h2.mul hx)
    refine go_set (d := .tup (given t.length (fun _ => true) fun k => .tup [rt (2 * W0 k 0), rt (2 * W0 k 1)])) (ev_cb (ea_cons (ev_eq (ev_lc (n := ((List.range t.length).map fun a => D.tup (pairD W0 a)).length) (js := [12]) (bd := fun k => [.tup (pairD W0 k)]) (f := fun _ => true) (out := fun k => .tup [rt (2 * W0 k 0), rt (2 * W0 k 1)]) (src_tup (ev_var rfl)) (by omega) (fun l hl => ?_) (fun l hl => hl) (fun k hk => ?_) (fun k hk => et_yes) (fun k hk _ => ?_)) (by rw [hlp])) ea_nil) rn_tuple) (show 11 < 19 by decide) ?_
    · rw [List.mem_singleton.mp hl]
      exact (show 12 < 19 by decide)
    · show Tg _ (((List.range t.length).map fun a => D.tup (pairD W0 a)).getD k .non) _ _
      rw [getD_tab _ _ _ _ (by rw [← hlp]; exact hk)]
      exact tg_name
    · exact ev_tup (ea_cons (dbl (hw0 k 0) (ev_ixT (ev_var rfl) ev_int rfl)) (ea_cons (dbl (hw0 k 1) (ev_ixT (ev_var rfl) ev_int rfl)) ea_nil)) (show 2 ≤ 100000 by decide)
    have hdd : Sm 3 (.tup (given t.length (fun _ => true) fun k => .tup [rt (2 * W0 k 0), rt (2 * W0 k 1)])) := Sm.tup fun d hd => by
      unfold given at hd
      obtain ⟨k, _, e⟩ := List.mem_map.mp hd
      rw [← e]
      exact Sm.tup (sm_2 (dbs _ (hw0 k 0)) (dbs _ (hw0 k 1)))
    generalize D.tup (given t.length (fun _ => true) fun k => .tup [rt (2 * W0 k 0), rt (2 * W0 k 1)]) = DD at hdd
    refine go_appS (i := 10) (Φ := VOk) rfl (evg_of (ev_tup (ea_cons (ev_var rfl) (ea_cons (x := .tup (given p.ss.length (fun _ => true) fun k => rt (2 * f0 k))) (ev_cb (ea_cons (ev_eq (ev_lc (n := ((List.range p.ss.length).map fun j => rt (f0 j)).length) (js := [12]) (bd := fun k => [rt (f0 k)]) (f := fun _ => true) (out := fun k => rt (2 * f0 k)) (src_tup (ev_var rfl)) (by omega) (fun l hl => ?_) (fun l hl => hl) (fun k hk => ?_) (fun k hk => et_yes) (fun k hk _ => ?_)) (by rw [hlf])) ea_nil) rn_tuple) (ea_cons (ev_var rfl) ea_nil))) (show 3 ≤ 100000 by decide)) (VOk.of (Sm.tup (sm_3 (hBl b0) ((Sm.tup fun d hd => ?_ : Sm 2 _).mono (by decide)) hdd)))) (by omega) fun v hv => ?_
    · rw [List.mem_singleton.mp hl]
      exact (show 12 < 19 by decide)
    · show Tg _ (((List.range p.ss.length).map fun j => rt (f0 j)).getD k .non) _ _
      rw [getD_tab _ _ _ _ (by rw [← hlf]; exact hk)]
      exact tg_name
    · exact dbl (hf0 k (by rw [← hlf]; exact hk)) (ev_var rfl)
    · unfold given at hd
      obtain ⟨k, hk, e⟩ := List.mem_map.mp hd
      rw [← e]
      exact dbs _ (hf0 k (List.mem_range.mp (List.mem_filter.mp hk).1))
    have hof : ∀ {vs : List D} {v : D}, (∀ v ∈ vs, VOk v) → VOk v → ∀ x ∈ vs ++ [v], VOk x := fun {vs v} h1 h2 x hx => (List.mem_append.mp hx).elim (h1 x) fun e => by rw [List.mem_singleton.mp e]; exact h2
    -- one worth changed
    refine go_forS [13] (fun k => [.int (k : Int)]) (fun k G' => ∃ vs o12 o13, (∀ v ∈ vs, VOk v) ∧ vs.length ≤ 14 + 4 * k ∧ G' = [none, some .row, some (.d (dProb p)), some (.d (dStr t)), some (.d (bestOf p t)), some (.d (.tup [.bl b0, firstD p.ss.length f0, pairsD t.length W0])), some (.d (.bl b0)), some (.d (firstD p.ss.length f0)), some (.d (pairsD t.length W0)), some (.d (rt qs)), some (.own vs), some (.d DD), dn o12, dn o13, none, none, none, none, none]) (src_rng (n := p.ss.length) (ea_cons (ev_eq (ev_cb (ea_cons (ev_var rfl) ea_nil) (rn_len (x := firstD p.ss.length f0) rfl)) (congrArg (fun n : Nat => D.int (n : Int)) hlf)) ea_nil) (by omega)) ⟨vs1 ++ [v], none, none, hof ho1 hv, by rw [List.length_append, hl1]; exact Nat.le_refl 14, rfl⟩ (fun k hk => tg_name) (fun k G' hc j hj => ?_) (fun k G' A' N E' hk hc hN e1 e2 e3 => ?_) (fun G' hc => ?_)
    · obtain ⟨vs, o12, o13, _, _, rfl⟩ := hc
      rw [List.mem_singleton.mp hj]
      exact (show 13 < 19 by decide)
    · obtain ⟨vs, o12, o13, hvo, hvl, rfl⟩ := hc
      have hfk := atI_tab (fun j => rt (f0 j)) _ _ hk
      have hplus : Bit (f0 k + qs) 700 := ((hf0 k hk).add hqs).mono (by decide)
      have hitems : ∀ d ∈ [rt (f0 k + qs), .int 1, .tup [.int 2, .int 2], .non], Sm 2 d := fun d hd => by
        rcases List.mem_cons.mp hd with e | hd
        · rw [e]; exact (Sm.rt hplus).up
        · refine sm_3 (show Sm 2 (.int 1) by show (1 : Int).natAbs < 2 ^ 700; decide +kernel) (Sm.tup (sm_2 (show Sm 1 (.int 2) by show (2 : Int).natAbs < 2 ^ 700; decide +kernel) (show Sm 1 (.int 2) by show (2 : Int).natAbs < 2 ^ 700; decide +kernel))) (show Sm 2 .non from trivial) d hd
      refine go_forE [12] (fun j => [[rt (f0 k + qs), .int 1, .tup [.int 2, .int 2], .non].getD j .non]) (fun j G' => ∃ vs o12, (∀ v ∈ vs, VOk v) ∧ vs.length ≤ 14 + 4 * k + j ∧ G' = [none, some .row, some (.d (dProb p)), some (.d (dStr t)), some (.d (bestOf p t)), some (.d (.tup [.bl b0, firstD p.ss.length f0, pairsD t.length W0])), some (.d (.bl b0)), some (.d (firstD p.ss.length f0)), some (.d (pairsD t.length W0)), some (.d (rt qs)), some (.own vs), some (.d DD), dn o12, some (.d (.int (k : Int))), none, none, none, none, none]) (src_list (ds := [rt (f0 k + qs), .int 1, .tup [.int 2, .int 2], .non]) (ev_lst (ea_cons (ev_own (f0 k, qs) (ea_cons (ev_ixT (ds := (List.range p.ss.length).map fun j => rt (f0 j)) (ev_var rfl) (ev_var rfl) hfk) (ea_cons (ev_var rfl) ea_nil)) ⟨400, 20, hf0 k hk, hqs, by decide⟩ fun y e => e) (ea_cons ev_int (ea_cons (ev_tup (ea_cons ev_int (ea_cons ev_int ea_nil)) (show 2 ≤ 100000 by decide)) (ea_cons ev_non ea_nil)))) (show 4 ≤ 100000 by decide))) ⟨vs, o12, hvo, hvl, rfl⟩ (fun j hj => tg_name) (fun j G' hc l hl => ?_) (fun j G' A2 N2 hj hc hN2 => ?_) (fun G' hc => ?_)
      · obtain ⟨vs, o12, _, _, rfl⟩ := hc
        rw [List.mem_singleton.mp hl]
        exact (show 12 < 19 by decide)
      · obtain ⟨vs, o12, hvo, hvl, rfl⟩ := hc
        have hj : j < 4 := hj
        have hone := hitems _ (getD_mem _ j .non hj)
        generalize [rt (f0 k + qs), .int 1, .tup [.int 2, .int 2], .non].getD j .non = one at hone
        have hfd2 : ∀ d ∈ (List.range p.ss.length).map fun j => rt (f0 j), Sm 2 d := fun d hd => (hfd d hd).up
        refine go_app (i := 10) (Φ := VOk) rfl (evg_of (ev_tup (ea_cons (ev_var rfl) (ea_cons (ev_op (ev_op (ev_slT (ds := (List.range p.ss.length).map fun j => rt (f0 j)) (ev_var rfl) eo_none (eo_some (ev_var rfl))) (ev_tup (ea_cons (ev_var rfl) ea_nil) (show 1 ≤ 100000 by decide)) (r2_catT ?_)) (ev_slT (ds := (List.range p.ss.length).map fun j => rt (f0 j)) (ev_var rfl) (eo_some (ev_I0 (ev_var rfl) ev_int)) eo_none) (r2_catT ?_)) (ea_cons (ev_var rfl) ea_nil))) (show 3 ≤ 100000 by decide)) (VOk.of (Sm.tup (sm_3 (hBl b0) (Sm.tup (sm_app (sm_app (sm_cut hfd2) (sm_1 hone)) (sm_cut hfd2))) hPD)))) (by omega) fun v hv => ?_
        · have := cut_len (ds := (List.range p.ss.length).map fun j => rt (f0 j)) (lo := none) (hi := some (k : Int))
          rw [hlf] at this
          show _ + 1 ≤ _
          omega
        · have h1 := cut_len (ds := (List.range p.ss.length).map fun j => rt (f0 j)) (lo := none) (hi := some (k : Int))
          have h2 := cut_len (ds := (List.range p.ss.length).map fun j => rt (f0 j)) (lo := some ((k : Int) + 1)) (hi := none)
          rw [hlf] at h1 h2
          rw [List.length_append, List.length_singleton]
          omega
        · exact hN2 _ ⟨vs ++ [v], some one, hof hvo hv, by rw [List.length_append, List.length_singleton]; omega, rfl⟩
      · obtain ⟨vs, o12, hvo, hvl, rfl⟩ := hc
        show Nx L _ E'.nx _
        rw [e1]
        have hvl : vs.length ≤ 14 + 4 * k + 4 := hvl
        exact hN _ ⟨vs, o12, some (.int (k : Int)), hvo, by omega, rfl⟩
    obtain ⟨vs2, o12, o13, ho2, hl2, rfl⟩ := hc
    have hl2 : vs2.length ≤ 100 := by omega
    -- one pair of worths changed
    refine go_forS [13] (fun k => [.int (k : Int)]) (fun k G' => ∃ vs o12 o13 o14 o15, (∀ v ∈ vs, VOk v) ∧ vs.length ≤ 100 + 6 * k ∧ G' = [none, some .row, some (.d (dProb p)), some (.d (dStr t)), some (.d (bestOf p t)), some (.d (.tup [.bl b0, firstD p.ss.length f0, pairsD t.length W0])), some (.d (.bl b0)), some (.d (firstD p.ss.length f0)), some (.d (pairsD t.length W0)), some (.d (rt qs)), some (.own vs), some (.d DD), dn o12, dn o13, dn o14, dn o15, none, none, none]) (src_rng (n := t.length) (ea_cons (ev_eq (ev_cb (ea_cons (ev_var rfl) ea_nil) (rn_len (x := pairsD t.length W0) rfl)) (congrArg (fun n : Nat => D.int (n : Int)) hlp)) ea_nil) (by omega)) ⟨vs2, o12, o13, none, none, ho2, hl2, rfl⟩ (fun k hk => tg_name) (fun k G' hc j hj => ?_) (fun k G' A' N E' hk hc hN e1 e2 e3 => ?_) (fun G' hc => ?_)
    · obtain ⟨vs, o12, o13, o14, o15, _, _, rfl⟩ := hc
      rw [List.mem_singleton.mp hj]
      exact (show 13 < 19 by decide)
    · obtain ⟨vs, o12, o13, o14, o15, hvo, hvl, rfl⟩ := hc
      have hpk := atI_tab (fun a => D.tup (pairD W0 a)) _ _ hk
      have hp1 : Bit (W0 k 0 + qs) 700 := ((hw0 k 0).add hqs).mono (by decide)
      have hp2 : Bit (W0 k 1 + qs) 700 := ((hw0 k 1).add hqs).mono (by decide)
      have s0 := Sm.rt' (hw0 k 0)
      have s1 := Sm.rt' (hw0 k 1)
      have hitems : ∀ d ∈ [D.tup [rt (W0 k 0 + qs), rt (W0 k 1)], .tup [rt (W0 k 0), rt (W0 k 1 + qs)], .tup [rt (W0 k 1), rt (W0 k 0)], .tup [rt (W0 k 0)], .lst [rt (W0 k 0), rt (W0 k 1)], .non], Sm 2 d := fun d hd => by
        rcases List.mem_cons.mp hd with e | hd
        · rw [e]; exact Sm.tup (sm_2 (Sm.rt hp1) s1)
        · rcases List.mem_cons.mp hd with e | hd
          · rw [e]; exact Sm.tup (sm_2 s0 (Sm.rt hp2))
          · rcases List.mem_cons.mp hd with e | hd
            · rw [e]; exact Sm.tup (sm_2 s1 s0)
            · exact sm_3 (Sm.tup (sm_1 s0)) (Sm.lst (sm_2 s0 s1)) (show Sm 2 .non from trivial) d hd
      refine go_asgTS (d := .tup (pairD W0 k)) (js := [12, 14]) (ds := [rt (W0 k 0), rt (W0 k 1)]) (ev_ixT (ds := (List.range t.length).map fun a => D.tup (pairD W0 a)) (ev_var rfl) (ev_var rfl) hpk) (tg_2 rfl) (fun j hj => ?_) ?_
      · have : j = 12 ∨ j = 14 := by simpa using hj
        show j < 19
        omega
      show Go L _ _ _ [none, some .row, some (.d (dProb p)), some (.d (dStr t)), some (.d (bestOf p t)), some (.d (.tup [.bl b0, firstD p.ss.length f0, pairsD t.length W0])), some (.d (.bl b0)), some (.d (firstD p.ss.length f0)), some (.d (pairsD t.length W0)), some (.d (rt qs)), some (.own vs), some (.d DD), some (.d (rt (W0 k 0))), some (.d (.int (k : Int))), some (.d (rt (W0 k 1))), dn o15, none, none, none]
      refine go_forE [15] (fun j => [[D.tup [rt (W0 k 0 + qs), rt (W0 k 1)], .tup [rt (W0 k 0), rt (W0 k 1 + qs)], .tup [rt (W0 k 1), rt (W0 k 0)], .tup [rt (W0 k 0)], .lst [rt (W0 k 0), rt (W0 k 1)], .non].getD j .non]) (fun j G' => ∃ vs o15, (∀ v ∈ vs, VOk v) ∧ vs.length ≤ 100 + 6 * k + j ∧ G' = [none, some .row, some (.d (dProb p)), some (.d (dStr t)), some (.d (bestOf p t)), some (.d (.tup [.bl b0, firstD p.ss.length f0, pairsD t.length W0])), some (.d (.bl b0)), some (.d (firstD p.ss.length f0)), some (.d (pairsD t.length W0)), some (.d (rt qs)), some (.own vs), some (.d DD), some (.d (rt (W0 k 0))), some (.d (.int (k : Int))), some (.d (rt (W0 k 1))), dn o15, none, none, none]) (src_list (ds := [D.tup [rt (W0 k 0 + qs), rt (W0 k 1)], .tup [rt (W0 k 0), rt (W0 k 1 + qs)], .tup [rt (W0 k 1), rt (W0 k 0)], .tup [rt (W0 k 0)], .lst [rt (W0 k 0), rt (W0 k 1)], .non]) (ev_lst (ea_cons (ev_tup (ea_cons (ev_own (W0 k 0, qs) (ea_cons (ev_var rfl) (ea_cons (ev_var rfl) ea_nil)) ⟨400, 20, hw0 k 0, hqs, by decide⟩ fun y e => e) (ea_cons (ev_var rfl) ea_nil)) (show 2 ≤ 100000 by decide)) (ea_cons (ev_tup (ea_cons (ev_var rfl) (ea_cons (ev_own (W0 k 1, qs) (ea_cons (ev_var rfl) (ea_cons (ev_var rfl) ea_nil)) ⟨400, 20, hw0 k 1, hqs, by decide⟩ fun y e => e) ea_nil)) (show 2 ≤ 100000 by decide)) (ea_cons (ev_tup (ea_cons (ev_var rfl) (ea_cons (ev_var rfl) ea_nil)) (show 2 ≤ 100000 by decide)) (ea_cons (ev_tup (ea_cons (ev_var rfl) ea_nil) (show 1 ≤ 100000 by decide)) (ea_cons (ev_lst (ea_cons (ev_var rfl) (ea_cons (ev_var rfl) ea_nil)) (show 2 ≤ 100000 by decide)) (ea_cons ev_non ea_nil)))))) (show 6 ≤ 100000 by decide))) ⟨vs, o15, hvo, hvl, rfl⟩ (fun j hj => tg_name) (fun j G' hc l hl => ?_) (fun j G' A2 N2 hj hc hN2 => ?_) (fun G' hc => ?_)
      · obtain ⟨vs, o15, _, _, rfl⟩ := hc
        rw [List.mem_singleton.mp hl]
        exact (show 15 < 19 by decide)
      · obtain ⟨vs, o15, hvo, hvl, rfl⟩ := hc
        have hj : j < 6 := hj
        have hone := hitems _ (getD_mem _ j .non hj)
        generalize [D.tup [rt (W0 k 0 + qs), rt (W0 k 1)], .tup [rt (W0 k 0), rt (W0 k 1 + qs)], .tup [rt (W0 k 1), rt (W0 k 0)], .tup [rt (W0 k 0)], .lst [rt (W0 k 0), rt (W0 k 1)], .non].getD j .non = one at hone
        refine go_app (i := 10) (Φ := VOk) rfl (evg_of (ev_tup (ea_cons (ev_var rfl) (ea_cons (ev_var rfl) (ea_cons (ev_op (ev_op (ev_slT (ds := (List.range t.length).map fun a => D.tup (pairD W0 a)) (ev_var rfl) eo_none (eo_some (ev_var rfl))) (ev_tup (ea_cons (ev_var rfl) ea_nil) (show 1 ≤ 100000 by decide)) (r2_catT ?_)) (ev_slT (ds := (List.range t.length).map fun a => D.tup (pairD W0 a)) (ev_var rfl) (eo_some (ev_I0 (ev_var rfl) ev_int)) eo_none) (r2_catT ?_)) ea_nil))) (show 3 ≤ 100000 by decide)) (VOk.of (Sm.tup (sm_3 (hBl b0) hFD (Sm.tup (sm_app (sm_app (sm_cut hpd) (sm_1 hone)) (sm_cut hpd))))))) (by omega) fun v hv => ?_
        · have := cut_len (ds := (List.range t.length).map fun a => D.tup (pairD W0 a)) (lo := none) (hi := some (k : Int))
          rw [hlp] at this
          show _ + 1 ≤ _
          omega
        · have h1 := cut_len (ds := (List.range t.length).map fun a => D.tup (pairD W0 a)) (lo := none) (hi := some (k : Int))
          have h2 := cut_len (ds := (List.range t.length).map fun a => D.tup (pairD W0 a)) (lo := some ((k : Int) + 1)) (hi := none)
          rw [hlp] at h1 h2
          rw [List.length_append, List.length_singleton]
          omega
        · exact hN2 _ ⟨vs ++ [v], some one, hof hvo hv, by rw [List.length_append, List.length_singleton]; omega, rfl⟩
      · obtain ⟨vs, o15, hvo, hvl, rfl⟩ := hc
        show Nx L _ E'.nx _
        rw [e1]
        have hvl : vs.length ≤ 100 + 6 * k + 6 := hvl
        exact hN _ ⟨vs, some (rt (W0 k 0)), some (.int (k : Int)), some (rt (W0 k 1)), o15, hvo, by omega, rfl⟩
    obtain ⟨vs, o12, o13, o14, o15, hvo, hvl, rfl⟩ := hc
    -- the values are asked
    refine go_freeze (i := 10) rfl ?_
    have hbn : isNon (bestOf p t) = isNo (inOf p t) := by
      unfold bestOf
      cases isNo (inOf p t) <;> rfl
    refine go_forS [16] (fun i => [vs.getD i .non]) (fun i G' => ∃ o16 o17 o18, G' = [none, some .row, some (.d (dProb p)), some (.d (dStr t)), some (.d (bestOf p t)), some (.d (.tup [.bl b0, firstD p.ss.length f0, pairsD t.length W0])), some (.d (.bl b0)), some (.d (firstD p.ss.length f0)), some (.d (pairsD t.length W0)), some (.d (rt qs)), some (.d (.lst vs)), some (.d DD), dn o12, dn o13, dn o14, dn o15, dn o16, dn o17, dn o18]) (src_list (ev_var rfl)) ⟨none, none, none, rfl⟩ (fun i hi => tg_name) (fun i G' hc j hj => ?_) (fun i G' A' N E' hi hc hN e1 e2 e3 => ?_) (fun G' hc => ?_)
    · obtain ⟨o16, o17, o18, rfl⟩ := hc
      rw [List.mem_singleton.mp hj]
      exact (show 16 < 19 by decide)
    · obtain ⟨o16, o17, o18, rfl⟩ := hc
      have hv := hvo _ (getD_mem vs i .non hi)
      generalize vs.getD i .non = v at hv
      refine go_set (d := boundD p t v) (ev_own (⟨p, t, v⟩ : ShA) (ea_cons (ev_var rfl) (ea_cons (ev_var rfl) (ea_cons (ev_var rfl) ea_nil))) ⟨⟨hp, ht⟩, hv⟩ fun x e => e) (show 17 < 19 by decide) ?_
      refine go_set (d := .bl false) ev_bl (show 18 < 19 by decide) ?_
      show Go L _ _ _ [none, some .row, some (.d (dProb p)), some (.d (dStr t)), some (.d (bestOf p t)), some (.d (.tup [.bl b0, firstD p.ss.length f0, pairsD t.length W0])), some (.d (.bl b0)), some (.d (firstD p.ss.length f0)), some (.d (pairsD t.length W0)), some (.d (rt qs)), some (.d (.lst vs)), some (.d DD), dn o12, dn o13, dn o14, dn o15, some (.d v), some (.d (boundD p t v)), some (.d (.bl false))]
      have notN : ∀ {G : Ctx} {te : TE} {x : D}, Ev L te G x → Ev L (tOp (fun x y H Q => y = .non ∧ Q (.bl (!decide (x = .non))) H) te (tC .non)) G (.bl (!isNon x)) := fun h => ev_notN (fun _ _ _ => ⟨fun h => h.2, fun h => ⟨rfl, h⟩⟩) h
      refine go_ifC (b := !isNon (boundD p t v) && (match v with | .tup (.bl b :: _) => b == !isNo (inOf p t) | _ => false)) (fun G' => G' = [none, some .row, some (.d (dProb p)), some (.d (dStr t)), some (.d (bestOf p t)), some (.d (.tup [.bl b0, firstD p.ss.length f0, pairsD t.length W0])), some (.d (.bl b0)), some (.d (firstD p.ss.length f0)), some (.d (pairsD t.length W0)), some (.d (rt qs)), some (.d (.lst vs)), some (.d DD), dn o12, dn o13, dn o14, dn o15, some (.d v), some (.d (boundD p t v)), some (.d (.bl (showsB p t v)))]) (et_and (et_test (notN (ev_var rfl))) fun e => ?_) (fun e N hN => ?_) (fun e N hN => go_next (hN _ ?_)) fun G' hc => ?_
      · rcases due_eq p t v with ⟨b, fs, w, rfl, hb, he, hs⟩ | ⟨he, hs⟩
        · exact et_test (ev_eqB (ev_ixT (d := .bl b) (ev_var rfl) ev_int rfl) (ev_eq (notN (ev_var rfl)) (by rw [hbn])))
        · rw [he] at e
          cases e
      · rcases due_eq p t v with ⟨b, fs, w, rfl, hb, he, hs⟩ | ⟨he, hs⟩
        · rw [Bool.and_eq_true] at e
          have e : (b == !isNo (inOf p t)) = true := e.2
          rw [e, Bool.true_and] at hs
          rw [he] at hN ⊢
          rw [hs] at hN
          generalize objv p t (fOf fs) (WOf (items w)) = ob at hN
          refine go_asg (Φ := fun d => d = .bl (if isNo (inOf p t) = true then decide (0 < ob) else decide (ob = outP p t))) (evg_if (Φt := fun b => b = isNo (inOf p t)) (et_eq (et_test (ev_isNone (ev_var rfl))) hbn) (fun e2 => ?_) (fun e2 => ?_)) (show 18 < 19 by decide) fun d e => ?_
          · rw [← e2, if_pos rfl]
            exact ev_eq (ev_B0 (ev_ixT (ev_var rfl) ev_int rfl) ev_int) (congrArg D.bl (decide_eq_decide.mpr (num_pos _)))
          · rw [← e2, if_neg Bool.false_ne_true]
            have hbest : bestOf p t = .tup [rt (outP p t), .tup ((List.range t.length).map fun k => rt (amtF (inOf p t) (cF t) k))] := if_neg (by rw [← e2]; exact Bool.false_ne_true)
            rw [hbest]
            exact ev_eq (ev_eqD (ev_var rfl) (ev_ixT (d := rt (outP p t)) (ev_var rfl) ev_int rfl) (cmp_rt _) (cmp_rt _)) (congrArg D.bl (dEq_rt _ _))
          · subst e
            exact hN _ rfl
        · rw [he] at e
          cases e
      · rcases due_eq p t v with ⟨b, fs, w, rfl, hb, he, hs⟩ | ⟨he, hs⟩
        · rw [he, Bool.and_eq_false_iff] at e
          have e : (b == !isNo (inOf p t)) = false := e.elim (fun z => by cases z) id
          rw [hs, e]
          rfl
        · rw [hs]
      · subst hc
        refine go_if (b := false) (et_eq (et_not (et_B (ev_own (showsB p t v, showsB p t v) (ea_cons (ev_own (⟨p, t, v⟩ : ShA) (ea_cons (ev_var rfl) (ea_cons (ev_var rfl) (ea_cons (ev_var rfl) ea_nil))) ⟨hF, hv.small⟩ fun x e => e) (ea_cons (ev_var rfl) ea_nil)) trivial fun x e => e))) (by rw [beq_self_eq_true]; rfl)) (fun e => by cases e) fun _ => go_next ?_
        rw [e1]
        exact hN _ ⟨some v, some (boundD p t v), some (.bl (showsB p t v)), rfl⟩
    · obtain ⟨o16, o17, o18, rfl⟩ := hc
      exact go_retE ev_bl hR⟩
end
end Pw

/-! The head: what the top leaves, by one run. -/
namespace Pw
open PySem PySem.Spec PyProof.Rows L2
abbrev hps (K : PySem.W.Frag) : List (Addr × Addr) := htf.map (He.cT K)
abbrev hL (K : PySem.W.Frag) : Pm := ⟨K, (hps K).map (·.2), He.ga K "Program"⟩
section
variable {w : World} {h h0 : Heap} {K : PySem.W.Frag} {mg : Str → Option Value} {base : Heap}
theorem mk_df (X : K.In h) (G : h.Ns mainGlobals mg) (c : He.SaysX hfa hfn [] htf hex w h0 K) {x : Str} {i : Nat} (j : Nat) (e : hfn[j]? = some (dT x i)) (k : Nat) (e2 : hfa[k]? = some (.glo x)) : Df K mg x (top i) := by
  obtain ⟨fd, F⟩ := c.t.d.def_ j (d := dT x i) e
  exact ⟨He.ga K x, fd, F, He.glo_ok X G (c.t.d.fact k (f := .glo x) e2)⟩
theorem mk_dft (X : K.In h) (G : h.Ns mainGlobals mg) (c : He.SaysX hfa hfn [] htf hex w h0 K) (TB : ∀ p ∈ hps K, GxR.TabB base mg p.1 p.2) {x : Str} {i : Nat} (j : Nat) (e : hfn[j]? = some (dT x i)) (k : Nat) (e2 : hfa[k]? = some (.glo x)) (hm : (x, none) ∈ htf) : Dft (hL K) mg base x (top i) := by
  obtain ⟨fd, F⟩ := c.t.d.def_ j (d := dT x i) e
  obtain ⟨oc, od, dV, kV, doc, pm, an, cdv, ct, osl, e3, lk, hcd, _, _⟩ := id F.ex
  obtain ⟨cc, ec⟩ := He.codeIn_ref hcd
  have hcode : fd.code = .ref cc := by
    rw [e3, ← ec] <;> rfl
  have hco : He.codeOf K (x, none) = cc := He.codeOf_eq (p := (x, none)) lk hcode
  have tb := TB _ (List.mem_map.mpr ⟨(x, none), hm, rfl⟩)
  refine ⟨He.ga K x, fd, cc, (He.cT K (x, none)).2, F, He.glo_ok X G (c.t.d.fact k (f := .glo x) e2), hcode, List.mem_map.mpr ⟨_, List.mem_map.mpr ⟨(x, none), hm, rfl⟩, rfl⟩, ?_⟩
  rw [← hco]
  exact tb
theorem mk_dfm (c : He.SaysX hfa hfn [] htf hex w h0 K) {m q : Str} {i : Nat} (j : Nat) (e : hfn[j]? = some (dM m q i)) (k : Nat) (e2 : hfa[k]? = some (.meth "Program" m)) : Dfm (hL K) m q (met i) := by
  obtain ⟨fd, F⟩ := c.t.d.def_ j (d := dM m q i) e
  exact ⟨_, fd, F, He.meth_ok (c.t.d.fact k (f := .meth "Program" m) e2)⟩
theorem mk_tx (X : K.In h) (G : h.Ns mainGlobals mg) (c : He.SaysX hfa hfn [] htf hex w h0 K) (TB : ∀ p ∈ hps K, GxR.TabB base mg p.1 p.2) : Tx (hL K) mg base where
  is_in := mk_df X G c 0 rfl 0 rfl
  is_stream := mk_dft X G c TB 1 rfl 1 rfl (by decide)
  is_box := mk_df X G c 2 rfl 2 rfl
  need_problem := mk_df X G c 3 rfl 3 rfl
  is_giver := mk_df X G c 4 rfl 4 rfl
  ratio := mk_df X G c 5 rfl 5 rfl
  plus := mk_df X G c 6 rfl 6 rfl
  minus := mk_df X G c 7 rfl 7 rfl
  by_ := mk_df X G c 8 rfl 8 rfl
  over := mk_df X G c 9 rfl 9 rfl
  less := mk_df X G c 10 rfl 10 rfl
  total := mk_df X G c 11 rfl 11 rfl
  is_ratio := mk_dft X G c TB 12 rfl 12 rfl (by decide)
  solved := mk_df X G c 13 rfl 13 rfl
  is_pair := mk_dft X G c TB 14 rfl 14 rfl (by decide)
  need_structure := mk_df X G c 15 rfl 15 rfl
  heats_of := mk_df X G c 16 rfl 16 rfl
  conditions_of := mk_df X G c 17 rfl 17 rfl
  program_of := mk_df X G c 18 rfl 18 rfl
  outside_of := mk_df X G c 19 rfl 19 rfl
  best_of := mk_df X G c 20 rfl 20 rfl
  best_loads := mk_df X G c 21 rfl 21 rfl
  load_paper := mk_df X G c 22 rfl 22 rfl
  weights_of := mk_df X G c 23 rfl 23 rfl
  are_weights := mk_dft X G c TB 24 rfl 24 rfl (by decide)
  shows_paper := mk_dft X G c TB 25 rfl 25 rfl (by decide)
  law_taken := mk_df X G c 26 rfl 26 rfl
  law_pick := mk_df X G c 27 rfl 27 rfl
  law_alike := mk_df X G c 28 rfl 28 rfl
  law_problem := mk_df X G c 29 rfl 29 rfl
  law_plain := mk_df X G c 30 rfl 30 rfl
  law_ratio := mk_df X G c 31 rfl 31 rfl
  law_plus := mk_df X G c 32 rfl 32 rfl
  law_by := mk_df X G c 33 rfl 33 rfl
  law_sum := mk_df X G c 34 rfl 34 rfl
  law_are_ratios := mk_df X G c 35 rfl 35 rfl
  law_structure := mk_df X G c 36 rfl 36 rfl
  law_conditions := mk_df X G c 37 rfl 37 rfl
  law_bound := mk_df X G c 38 rfl 38 rfl
  law := mk_df X G c 39 rfl 39 rfl
  P_init := by
    obtain ⟨fd, F⟩ := c.t.d.def_ 40 (d := dM "__init__" "Program.__init__" 0) rfl
    exact ⟨_, fd, F, He.mkr_ok (c.t.d.fact 61 (f := .mkr "Program") rfl)⟩
  P_turn := mk_dfm c 41 rfl 62 rfl
  P_multiplier := mk_dfm c 42 rfl 63 rfl
  P_climb := mk_dfm c 43 rfl 64 rfl
  P_leave_help := mk_dfm c 44 rfl 65 rfl
  P_amounts := mk_dfm c 45 rfl 66 rfl
  P_prices := mk_dfm c 46 rfl 67 rfl
  mgC := He.glo_ok X G (c.t.d.fact 40 (f := .glo "Program") rfl)
  cl := He.cls_ok (c.t.d.fact 60 (f := .cls "Program") rfl)
  no_many := He.noat_ok (c.t.d.fact 68 (f := .noat "Program" "many") rfl)
  no_signs := He.noat_ok (c.t.d.fact 69 (f := .noat "Program" "signs") rfl)
  no_rows := He.noat_ok (c.t.d.fact 70 (f := .noat "Program" "rows") rfl)
  no_basis := He.noat_ok (c.t.d.fact 71 (f := .noat "Program" "basis") rfl)
  len_ := He.free_ok X G (c.t.d.fact 41 (f := .free "len") rfl)
  isinstance_ := He.free_ok X G (c.t.d.fact 42 (f := .free "isinstance") rfl)
  int_ := He.free_ok X G (c.t.d.fact 43 (f := .free "int") rfl)
  bool_ := He.free_ok X G (c.t.d.fact 44 (f := .free "bool") rfl)
  tuple_ := He.free_ok X G (c.t.d.fact 45 (f := .free "tuple") rfl)
  list_ := He.free_ok X G (c.t.d.fact 46 (f := .free "list") rfl)
  abs_ := He.free_ok X G (c.t.d.fact 47 (f := .free "abs") rfl)
  range_ := He.free_ok X G (c.t.d.fact 48 (f := .free "range") rfl)
  enumerate_ := He.free_ok X G (c.t.d.fact 49 (f := .free "enumerate") rfl)
  zip_ := He.free_ok X G (c.t.d.fact 50 (f := .free "zip") rfl)
  all_ := He.free_ok X G (c.t.d.fact 51 (f := .free "all") rfl)
  str_ := He.free_ok X G (c.t.d.fact 52 (f := .free "str") rfl)
  gcd_ := PySem.W.mg_of X G (He.eqO_ok c.more)
  MOST_TEMPERATURE := He.int_ok X G (c.t.d.fact 53 (f := .int "MOST_TEMPERATURE" 1000) rfl)
  MOST_RATE := He.int_ok X G (c.t.d.fact 54 (f := .int "MOST_RATE" 100) rfl)
  MOST_HEAT := He.int_ok X G (c.t.d.fact 55 (f := .int "MOST_HEAT" 10000) rfl)
  MOST_STREAMS := He.int_ok X G (c.t.d.fact 56 (f := .int "MOST_STREAMS" 6) rfl)
  MOST_BOXES := He.int_ok X G (c.t.d.fact 57 (f := .int "MOST_BOXES" 4) rfl)
  MOST_GAP := He.int_ok X G (c.t.d.fact 58 (f := .int "MOST_GAP" 100) rfl)
  MOST_PAIRS := He.int_ok X G (c.t.d.fact 59 (f := .int "MOST_PAIRS" 10) rfl)
end
theorem law_at (w : World) (mg : Str → Option Value) (fa : Addr) (h : Heap) (Y : hk.says w h) (G : h.Ns mainGlobals mg) (hmg : mg ("law" : Str) = some (.ref fa)) :
    ∃ K : PySem.W.Frag, K.In h ∧ LamX.LawAtS PySem.Challenge.rw_pinchworks_k43_whole_load_papers_judged w K CX0 10 63 "_law_script" mg fa h := by
  obtain ⟨K, X, c⟩ := Y
  obtain ⟨fd, F⟩ := c.t.d.def_ 39 (d := dT "law" 68) rfl
  have e := hmg.symm.trans (He.glo_ok X G (c.t.d.fact 39 (f := .glo "law") rfl))
  cases e
  have b := FunD.bindsA (ps := ["_law_script"]) F fun _ _ _ _ _ _ us hl => match us, hl with | [_], _ => rfl
  refine ⟨K, X, fd, hps K, spLaw (hL K), fun p hp => ?_, fun p hp => ?_, fun p hp => ?_, fun s v => b s [v] rfl, fun H a ns hl hz hT hS => ⟨a, ns, rfl, hl, fun z hz' => ?_, fun Pt hP => ?_, hS, fun _ => rfl⟩, fun base KB GB TB => w_law (mk_tx KB GB c fun p hp => ⟨(TB p hp).code, (TB p hp).bm, (TB p hp).gP⟩) F⟩
  · obtain ⟨q, hq, e⟩ := List.mem_map.mp hp
    rw [← e]
    exact c.empty q hq
  · obtain ⟨q, hq, e⟩ := List.mem_map.mp hp
    rw [← e]
    exact c.out q hq
  · obtain ⟨q, hq, e⟩ := List.mem_map.mp hp
    rw [← e]
    exact PySem.W.codeHd_of_K X (c.hd q hq)
  · have hb := hz z hz'
    unfold Builtin.Int.intBits at hb
    by_cases h0 : z = 0
    · rw [h0]
      exact Nat.pow_pos (by decide)
    · rw [if_neg (by simpa using h0)] at hb
      exact Nat.lt_of_lt_of_le Nat.lt_log2_self (Nat.pow_le_pow_right (by decide) hb)
  · obtain ⟨p, hp, e⟩ := List.mem_map.mp hP
    rw [← e]
    exact ⟨#[], hT p hp, by trivial⟩
end Pw

open PySem PySem.W PySem.Calls PyProof.Rows
set_option maxHeartbeats 0 in
theorem PySem.Challenge.cw_pinchworks_k43_whole_load_papers_judged_holds : PySem.Challenge.rw_pinchworks_k43_whole_load_papers_judged.Holds := by
  w_on; o_law
  refine HandSHeadRun.head_imp (r := Pw.R0) (q := view Pw.R0.prog [0, 68]) (H := Pw.hk) (ob := Pw.hob) (M := 30000) (loose := Pw.hnames1 ++ Pw.hnames2 ++ Pw.hnames3) (d := HandSHeadRun.topDef Pw.R0.prog 68) (kwd := []) Pw.hob_eq Pw.hrun (by kernel_rfl) (by kernel_rfl) (by kernel_rfl) (by rfl) (by first | assumption | decide +kernel) (by decide +kernel) ⟨rfl, rfl, rfl, rfl, rfl, by decide +kernel⟩ ?hw ?hc
  case hw => w_witness2
  case hc =>
    refine LamX.walk_ofTsE (l := PySem.Challenge.rw_pinchworks_k43_whole_load_papers_judged) (n := 63) (k := 10) (x := "_law_script") (CX := fun _ => L2.CX0) rfl (by decide) (by kernel_rfl) ⟨rfl, by decide, by decide⟩ ?F (fun _ _ _ _ _ z => z)
    intro w mg fa h Y G hmg0
    have hmg : mg ("law" : PySem.Str) = some (.ref fa) := by
      have e : (HandSHeadRun.topDef Pw.R0.prog 68).name = ("law" : PySem.Str) := by kernel_rfl
      rw [← e]
      exact hmg0
    exact Pw.law_at w mg fa h Y G hmg
